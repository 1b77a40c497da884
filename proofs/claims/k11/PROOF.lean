import PyProof.Rows.All
import Wide.All
import OpenK.AllK
import Wide.FinOn
import HandS.ForMost
import HandS.Deep
import HandS.Flow
import HandS.IsInst
import HandS.EndBits
import KE.KDictKeyed
import HandS.DictTup
import HandS.Style
import HandS.Wide
import HandS.Zip
import HandS.Walk
import HandS.Ends
import HandS.Set
import HandS.SetFor
import HandS.Strs
import KE.SortData
import HandS.SortKw
import KE.GoesMore
import KE.DataFind
import KE.DataCmp
import KE.GoesZip
import KE.GoesEnum
import HandS.TupMul
import KE.DataMinMax
import HandS.TupSets
import KE.KDictDisplayH
import HandS.WordsExc
import HandS.TryOnly
import HandS.ExcOwn
import HandS.Conv
import HandS.NoneIn
import KE.KDictCopyH
import KE.KDictSum
import HandS.Records
import PySem.Challenge.RW_boardcalls_k11_whole_rows_by_their_ends
set_option Elab.async false
set_option linter.all false
set_option maxRecDepth 100000
/-! DL1: deep data over the hand layer: relations, judgements, names, constants, statements. -/
namespace DL
open PySem PySem.Spec PyProof.Rows L2

abbrev D := PyData
abbrev St := L2.St

/-- a list that nobody writes: frozen, or one of the module's own -/
def LsF (K : PySem.W.Frag) (H : Hp) (a : Addr) (vs : List V) : Prop :=
  (∃ o, H a = some (.frz o (.lst vs))) ∨ ∃ (its : Array Value) (n : Nat), K.lookup a = some { cls := .type "list", data := .seq its n } ∧ its.size ≤ sizeLine ∧ Vals vs its.toList
theorem LsF.sq {K : PySem.W.Frag} {H : Hp} {a : Addr} {vs : List V} (h : LsF K H a vs) : SqL K H a vs := by
  rcases h with h | ⟨its, n, e, z, r⟩
  · exact .inl (.inr h)
  · exact .inr ⟨_, its, n, e, rfl, rfl, rfl, z, r⟩
theorem LsF.of {K : PySem.W.Frag} {H : Hp} {a : Addr} {vs : List V} {o : Obj} (h : H a = some (.frz o (.lst vs))) : LsF K H a vs := .inl ⟨o, h⟩
/-- the object at a has no dict of its own -/
def DNo (K : PySem.W.Frag) (H : Hp) (a : Addr) : Prop := (∃ (o : Obj) (u : HO), H a = some (.frz o u) ∧ o.dict = none) ∨ ∃ o, K.lookup a = some o ∧ o.dict = none
def SqD (K : PySem.W.Frag) (H : Hp) (a : Addr) (vs : List V) : Prop := SqT K H a vs ∧ DNo K H a
/-! ### dicts whose keys are tuples (of ints, nested): the object by its entries -/
mutual
/-- the key of a dict that a tuple of ints (nested) is -/
def nkOf : D → Option NestedKey
  | .int i => some (.num i)
  | .tuple xs => (nksOf xs).map .tup
  | _ => none
def nksOf : List D → Option (List NestedKey)
  | [] => some []
  | x :: xs => match nkOf x, nksOf xs with
    | some k, some ks => some (k :: ks)
    | _, _ => none
end
/-- a key: a tuple of ints (nested) -/
def keyOk (d : D) : Prop := (∃ xs, d = .tuple xs) ∧ ∃ k, nkOf d = some k ∧ k.depth ≤ 8
/-- at a stands a dict with these entries -/
def dO (a : Addr) (es : List DictEntry) : HO := .ext fun h => ∃ (o : Obj) (ep : Nat), h.get? a = some o ∧ o.ExactDict ∧ o.data = .dict es.toArray ep
/-- a key (an int, a text) as data -/
def keyDt : Key → D
  | .inl i => .int i
  | .inr x => .str x
/-- an object's name as data -/
def hdl (a : Addr) : D := .dict [(.none, .int a)]
mutual
/-- the value v stands for the data d; lists within data are frozen -/
inductive Rp (K : PySem.W.Frag) (H : Hp) : D → V → Prop
  | non : Rp K H .none .non
  | bl (b : Bool) : Rp K H (.bool b) (.bl b)
  | int (i : Int) : Rp K H (.int i) (.int i)
  | str (x : Str) : Rp K H (.str x) (.str x)
  | tup {a : Addr} {vs : List V} {ds : List D} : SqD K H a vs → RpL K H ds vs → Rp K H (.tuple ds) (.ref a)
  | lst {a : Addr} {vs : List V} {ds : List D} : LsF K H a vs → RpL K H ds vs → Rp K H (.list ds) (.ref a)
  | dct {a : Addr} {o : Obj} {es : List DictEntry} {kvs : List (D × D)} : H a = some (.frz o (dO a es)) → RpD K H kvs es → (kvs.map fun p => nkOf p.1).Nodup → (a == sysModules) = false → Rp K H (.dict kvs) (.ref a)
  | hdl (a : Addr) : Rp K H (hdl a) (.ref a)
  | dck {a : Addr} {o : Obj} {us : List (Key × V)} {kvs : List (D × D)} : H a = some (.frz o (.dK us)) → kvs.map (·.1) = us.map (fun u => keyDt u.1) → RpL K H (kvs.map (·.2)) (us.map (·.2)) → kvs ≠ [] → Rp K H (.dict kvs) (.ref a)
inductive RpL (K : PySem.W.Frag) (H : Hp) : List D → List V → Prop
  | nil : RpL K H [] []
  | cons {d : D} {v : V} {ds : List D} {vs : List V} : Rp K H d v → RpL K H ds vs → RpL K H (d :: ds) (v :: vs)
/-- the entries of a dict -/
inductive RpD (K : PySem.W.Frag) (H : Hp) : List (D × D) → List DictEntry → Prop
  | nil : RpD K H [] []
  | cons {k d : D} {nk : NestedKey} {b : Addr} {v : V} {e : DictEntry} {kvs : List (D × D)} {es : List DictEntry} : (∃ xs, k = .tuple xs) → nkOf k = some nk → nk.depth ≤ 8 → (∀ w, e.hash = nk.hash w) → e.key = .ref b → Rp K H k (.ref b) → Rp K H d v → RelV v e.val → RpD K H kvs es → RpD K H ((k, d) :: kvs) (e :: es)
end

/-- what never changes stays -/
structure Ext (H H' : Hp) : Prop where
  tup : ∀ a xs, H a = some (.tup xs) → H' a = some (.tup xs)
  frz : ∀ a o u, H a = some (.frz o u) → H' a = some (.frz o u)
/-- all stays -/
def PExt (H H' : Hp) : Prop := ∀ a o, H a = some o → H' a = some o
theorem PExt.ext {H H' : Hp} (p : PExt H H') : Ext H H' := ⟨fun a xs h => p a _ h, fun a o u h => p a _ h⟩
theorem PExt.refl (H : Hp) : PExt H H := fun _ _ h => h
theorem PExt.trans {H H1 H2 : Hp} (a : PExt H H1) (b : PExt H1 H2) : PExt H H2 := fun p o h => b p o (a p o h)
theorem Ext.refl (H : Hp) : Ext H H := ⟨fun _ _ h => h, fun _ _ _ h => h⟩
theorem Ext.trans {H H1 H2 : Hp} (a : Ext H H1) (b : Ext H1 H2) : Ext H H2 := ⟨fun p xs h => b.tup p xs (a.tup p xs h), fun p o u h => b.frz p o u (a.frz p o u h)⟩
theorem PExt.new {H : Hp} {p : Addr} {o : HO} (h : H p = none) : PExt H (upd H p o) := fun a u e => by
  rw [upd_ne (ne_of_none e h)]; exact e
/-- something soft is changed -/
theorem Ext.putS {H : Hp} {p : Addr} {u o : HO} (h : H p = some u) (h1 : ∀ xs, u ≠ .tup xs) (h2 : ∀ q v, u ≠ .frz q v) : Ext H (upd H p o) :=
  ⟨fun a ys e => by rw [upd_ne (ne_of e h (Ne.symm (h1 ys)))]; exact e, fun a q v e => by rw [upd_ne (ne_of e h (Ne.symm (h2 q v)))]; exact e⟩
/-- a list is changed -/
theorem Ext.put {H : Hp} {p : Addr} {xs : List V} {o : HO} (h : H p = some (.lst xs)) : Ext H (upd H p o) :=
  ⟨fun a ys e => by rw [upd_ne (ne_of e h (by intro z; cases z))]; exact e, fun a q u e => by rw [upd_ne (ne_of e h (by intro z; cases z))]; exact e⟩

section
variable {K : PySem.W.Frag} {H H' : Hp}
theorem SqT.ext {a : Addr} {xs : List V} (x : Ext H H') (h : SqT K H a xs) : SqT K H' a xs := by
  rcases h with (h | ⟨o, h⟩) | h
  · exact .inl (.inl (x.tup _ _ h))
  · exact .inl (.inr ⟨o, x.frz _ _ _ h⟩)
  · exact .inr h
theorem SqD.ext {a : Addr} {xs : List V} (x : Ext H H') (h : SqD K H a xs) : SqD K H' a xs := by
  refine ⟨SqT.ext x h.1, ?_⟩
  rcases h.2 with ⟨o, u, e, d⟩ | h
  · exact .inl ⟨o, u, x.frz _ _ _ e, d⟩
  · exact .inr h
theorem SqD.new {p : Addr} {o : Obj} {vs : List V} (d : o.dict = none) : SqD K (upd H p (.frz o (.tup vs))) p vs := ⟨.inl (.inr ⟨o, upd_same⟩), .inl ⟨o, _, upd_same, d⟩⟩
theorem LsF.ext {a : Addr} {xs : List V} (x : Ext H H') (h : LsF K H a xs) : LsF K H' a xs := by
  rcases h with ⟨o, h⟩ | h
  · exact .inl ⟨o, x.frz _ _ _ h⟩
  · exact .inr h
mutual
theorem Rp.ext (x : Ext H H') : ∀ {d : D} {v : V}, Rp K H d v → Rp K H' d v
  | _, _, .non => .non
  | _, _, .bl b => .bl b
  | _, _, .int i => .int i
  | _, _, .str s => .str s
  | _, _, .tup h l => .tup (SqD.ext x h) (RpL.ext x l)
  | _, _, .lst h l => .lst (LsF.ext x h) (RpL.ext x l)
  | _, _, .dct h l n m => .dct (x.frz _ _ _ h) (RpD.ext x l) n m
  | _, _, .hdl a => .hdl a
  | _, _, .dck h e l n => .dck (x.frz _ _ _ h) e (RpL.ext x l) n
theorem RpL.ext (x : Ext H H') : ∀ {ds : List D} {vs : List V}, RpL K H ds vs → RpL K H' ds vs
  | _, _, .nil => .nil
  | _, _, .cons h l => .cons (Rp.ext x h) (RpL.ext x l)
theorem RpD.ext (x : Ext H H') : ∀ {kvs : List (D × D)} {es : List DictEntry}, RpD K H kvs es → RpD K H' kvs es
  | _, _, .nil => .nil
  | _, _, .cons t n1 n2 n3 e h g r l => .cons t n1 n2 n3 e (Rp.ext x h) (Rp.ext x g) r (RpD.ext x l)
end
theorem RpD.length : ∀ {kvs : List (D × D)} {es : List DictEntry}, RpD K H kvs es → kvs.length = es.length
  | _, _, .nil => rfl
  | _, _, .cons _ _ _ _ _ _ _ _ l => by rw [List.length_cons, List.length_cons, RpD.length l]
theorem RpL.length : ∀ {ds : List D} {vs : List V}, RpL K H ds vs → ds.length = vs.length
  | _, _, .nil => rfl
  | _, _, .cons _ l => by rw [List.length_cons, List.length_cons, RpL.length l]
theorem RpL.get : ∀ {ds : List D} {vs : List V} {i : Nat} {d : D}, RpL K H ds vs → ds[i]? = some d → ∃ v, vs[i]? = some v ∧ Rp K H d v
  | _, _, _, _, .nil, e => by simp at e
  | _, _, 0, _, .cons r _, e => by simp at e; subst e; exact ⟨_, rfl, r⟩
  | _, _, i + 1, d, .cons _ t, e => by
    obtain ⟨u, h1, h2⟩ := RpL.get (i := i) (d := d) t (by simpa using e)
    exact ⟨u, by simpa using h1, h2⟩
theorem RpL.getV : ∀ {ds : List D} {vs : List V} {i : Nat} {v : V}, RpL K H ds vs → vs[i]? = some v → ∃ d, ds[i]? = some d ∧ Rp K H d v
  | _, _, _, _, .nil, e => by simp at e
  | _, _, 0, _, .cons r _, e => by simp at e; subst e; exact ⟨_, rfl, r⟩
  | _, _, i + 1, d, .cons _ t, e => by
    obtain ⟨u, h1, h2⟩ := RpL.getV (i := i) (v := d) t (by simpa using e)
    exact ⟨u, by simpa using h1, h2⟩
theorem RpL.append : ∀ {ds es : List D} {vs us : List V}, RpL K H ds vs → RpL K H es us → RpL K H (ds ++ es) (vs ++ us)
  | _, _, _, _, .nil, s => s
  | _, _, _, _, .cons r t, s => .cons r (RpL.append t s)
theorem RpL.take : ∀ {ds : List D} {vs : List V} (n : Nat), RpL K H ds vs → RpL K H (ds.take n) (vs.take n)
  | _, _, 0, _ => .nil
  | _, _, _ + 1, .nil => .nil
  | _, _, n + 1, .cons r t => .cons r (RpL.take n t)
theorem RpL.drop : ∀ {ds : List D} {vs : List V} (n : Nat), RpL K H ds vs → RpL K H (ds.drop n) (vs.drop n)
  | _, _, 0, r => r
  | _, _, _ + 1, .nil => .nil
  | _, _, n + 1, .cons _ t => RpL.drop n t
theorem RpL.set {d : D} {v : V} (r : Rp K H d v) : ∀ {ds : List D} {vs : List V} (i : Nat), RpL K H ds vs → RpL K H (ds.set i d) (vs.set i v)
  | _, _, _, .nil => .nil
  | _, _, 0, .cons _ t => .cons r t
  | _, _, i + 1, .cons q t => .cons q (RpL.set r i t)
theorem RpL.eraseIdx : ∀ {ds : List D} {vs : List V} (i : Nat), RpL K H ds vs → RpL K H (ds.eraseIdx i) (vs.eraseIdx i)
  | _, _, _, .nil => .nil
  | _, _, 0, .cons _ t => t
  | _, _, i + 1, .cons q t => .cons q (RpL.eraseIdx i t)
theorem RpL.reverse : ∀ {ds : List D} {vs : List V}, RpL K H ds vs → RpL K H ds.reverse vs.reverse
  | _, _, .nil => .nil
  | _, _, .cons q t => by rw [List.reverse_cons, List.reverse_cons]; exact RpL.append (RpL.reverse t) (.cons q .nil)
theorem RpL.ints : ∀ {ns : List Int} {vs : List V}, RpL K H (ns.map PyData.int) vs → vs = ns.map V.int
  | [], _, .nil => rfl
  | _ :: _, _, .cons (.int _) t => by rw [RpL.ints t]; rfl
theorem RpL.ofInts : ∀ (ns : List Int), RpL K H (ns.map PyData.int) (ns.map V.int)
  | [] => .nil
  | n :: ns => .cons (.int n) (RpL.ofInts ns)
mutual
theorem Rp.dp : ∀ {d : D} {v : V}, Rp K H d v → d.canLay0 = true → Dp K H v d
  | _, _, .non, _ => .non
  | _, _, .bl b, _ => .bl b
  | _, _, .int i, _ => .int i
  | _, _, .str s, _ => .str s
  | _, _, .tup h l, z => .tup h.1 (RpL.dp l (by simpa [PyData.canLay0] using z))
  | _, _, .lst h l, z => .lst h.sq (RpL.dp l (by simpa [PyData.canLay0] using z))
  | _, _, .dct _ _ _ _, z => by simp [PyData.canLay0] at z
  | _, _, .hdl a, z => by simp [DL.hdl, PyData.canLay0] at z
  | _, _, .dck _ _ _ _, z => by simp [PyData.canLay0] at z
theorem RpL.dp : ∀ {ds : List D} {vs : List V}, RpL K H ds vs → PyData.canLayAll0 ds = true → DpAll K H vs ds
  | _, _, .nil, _ => .nil
  | _, _, .cons h l, z => by
    simp only [PyData.canLayAll0, Bool.and_eq_true] at z
    exact .cons (Rp.dp h z.1) (RpL.dp l z.2)
end
end

/-- readable now: as Rp, the outermost list may be one that can change -/
def RpR (K : PySem.W.Frag) (H : Hp) (d : D) (v : V) : Prop :=
  Rp K H d v ∨ ∃ (ds : List D) (a : Addr) (vs : List V), d = .list ds ∧ v = .ref a ∧ H a = some (.lst vs) ∧ RpL K H ds vs
theorem RpR.dp {K : PySem.W.Frag} {H : Hp} {d : D} {v : V} (h : RpR K H d v) (z : d.canLay0 = true) : Dp K H v d := by
  rcases h with h | ⟨ds, a, vs, rfl, rfl, h, l⟩
  · exact h.dp z
  · exact .lst (.inl (.inl h)) (l.dp (by simpa [PyData.canLay0] using z))
/-- what an iterator hands out: a pair of its own may be there, of which less is known -/
def RpB (W : Bool) (K : PySem.W.Frag) (H : Hp) (d : D) (v : V) : Prop :=
  if W = true then Rp K H d v ∨ ∃ (ds : List D) (a : Addr) (vs : List V), d = .tuple ds ∧ v = .ref a ∧ SqT K H a vs ∧ RpL K H ds vs else Rp K H d v
theorem RpB.of {W : Bool} {K : PySem.W.Frag} {H : Hp} {d : D} {v : V} (h : Rp K H d v) : RpB W K H d v := by unfold RpB; split; exact .inl h; exact h
theorem RpB.pair {K : PySem.W.Frag} {H : Hp} {ds : List D} {a : Addr} {vs : List V} (h : SqT K H a vs) (l : RpL K H ds vs) : RpB true K H (.tuple ds) (.ref a) := .inr ⟨_, _, _, rfl, rfl, h, l⟩
/-- a list or a tuple that is read: its items -/
theorem RpR.list {K : PySem.W.Frag} {H : Hp} {ds : List D} {v : V} (h : RpR K H (.list ds) v) : ∃ a vs, v = .ref a ∧ SqL K H a vs ∧ RpL K H ds vs := by
  rcases h with h | ⟨ds, a, vs, e, rfl, h, l⟩
  · cases h with
    | lst h l => exact ⟨_, _, rfl, h.sq, l⟩
  · cases e
    exact ⟨_, _, rfl, .inl (.inl h), l⟩
theorem RpR.tupD {K : PySem.W.Frag} {H : Hp} {ds : List D} {v : V} (h : RpR K H (.tuple ds) v) : ∃ a vs, v = .ref a ∧ SqD K H a vs ∧ RpL K H ds vs := by
  rcases h with h | ⟨ds, a, vs, e, _⟩
  · cases h with
    | tup h l => exact ⟨_, _, rfl, h, l⟩
  · cases e
theorem RpR.tuple {K : PySem.W.Frag} {H : Hp} {ds : List D} {v : V} (h : RpR K H (.tuple ds) v) : ∃ a vs, v = .ref a ∧ SqT K H a vs ∧ RpL K H ds vs := by
  rcases h with h | ⟨ds, a, vs, e, rfl, h, l⟩
  · cases h with
    | tup h l => exact ⟨_, _, rfl, h.1, l⟩
  · cases e
theorem RpR.int {K : PySem.W.Frag} {H : Hp} {i : Int} {v : V} (h : RpR K H (.int i) v) : v = .int i := by
  rcases h with h | ⟨_, _, _, e, _⟩
  · cases h; rfl
  · cases e
theorem RpR.str {K : PySem.W.Frag} {H : Hp} {i : Str} {v : V} (h : RpR K H (.str i) v) : v = .str i := by
  rcases h with h | ⟨_, _, _, e, _⟩
  · cases h; rfl
  · cases e
theorem RpR.bool {K : PySem.W.Frag} {H : Hp} {i : Bool} {v : V} (h : RpR K H (.bool i) v) : v = .bl i := by
  rcases h with h | ⟨_, _, _, e, _⟩
  · cases h; rfl
  · cases e
theorem RpR.none {K : PySem.W.Frag} {H : Hp} {v : V} (h : RpR K H .none v) : v = .non := by
  rcases h with h | ⟨_, _, _, e, _⟩
  · cases h; rfl
  · cases e
theorem RpR.pext {K : PySem.W.Frag} {H H' : Hp} {d : D} {v : V} (p : PExt H H') (h : RpR K H d v) : RpR K H' d v := by
  rcases h with h | ⟨ds, a, vs, rfl, rfl, h, l⟩
  · exact .inl (h.ext p.ext)
  · exact .inr ⟨ds, a, vs, rfl, rfl, p _ _ h, l.ext p.ext⟩

/-! ### the environment -/
inductive FS where
  | d (x : D)
  | l (xs : List D)
inductive S where
  /-- not known -/
  | un
  /-- data -/
  | d (x : D)
  /-- a list of one's own that may change -/
  | ol (xs : List D)
  /-- a dict of one's own, keys tuples of ints -/
  | dt (kvs : List (D × D))
  /-- a dict of one's own, keys ints and texts -/
  | dk (kvs : List (Key × D))
  /-- no name's: the object at a, of the class at C -/
  | ob (a C : Addr) (fs : List (Str × FS))
abbrev Env := List S
def S.isMut : S → Bool
  | .ol _ => true
  | .dt _ => true
  | .dk _ => true
  | _ => false
structure Gh where
  H0 : Hp
  own : List (Nat × Addr)
  X0 : Hp := fun _ => none
  more : List Addr := []
def Gh.slots (G : Gh) : List Nat := G.own.map (·.1)
def Gh.addrs (G : Gh) : List Addr := G.own.map (·.2) ++ G.more

/-- a mutable thing at an address -/
def RelM (K : PySem.W.Frag) (H : Hp) : S → Addr → Prop
  | .ol xs, a => ∃ vs, H a = some (.lst vs) ∧ RpL K H xs vs
  | .dt kvs, a => ∃ es, H a = some (dO a es) ∧ RpD K H kvs es ∧ (kvs.map fun p => nkOf p.1).Nodup ∧ (a == sysModules) = false
  | .dk kvs, a => ∃ us, H a = some (.dK us) ∧ us.map (·.1) = kvs.map (·.1) ∧ RpL K H (kvs.map (·.2)) (us.map (·.2))
  | _, _ => False
/-- the fields of an object: data, lists of its own -/
inductive FsR (K : PySem.W.Frag) (H : Hp) : List (Str × FS) → List (Str × V) → List Addr → Prop
  | nil : FsR K H [] [] []
  | d {f : Str} {x : D} {v : V} {fs : List (Str × FS)} {vs : List (Str × V)} {ls : List Addr} : Rp K H x v → FsR K H fs vs ls → FsR K H ((f, .d x) :: fs) ((f, v) :: vs) ls
  | l {f : Str} {xs : List D} {a : Addr} {us : List V} {fs : List (Str × FS)} {vs : List (Str × V)} {ls : List Addr} : H a = some (.lst us) → RpL K H xs us → FsR K H fs vs ls → FsR K H ((f, .l xs) :: fs) ((f, .ref a) :: vs) (a :: ls)
def RelOb (K : PySem.W.Frag) (H : Hp) (a C : Addr) (fs : List (Str × FS)) (fp : List Addr) : Prop :=
  ∃ dx vs ls, fp = a :: dx :: ls ∧ fp.Nodup ∧ H a = some (.ins C dx vs) ∧ H dx = some (.own a) ∧ FsR K H fs vs ls
def RelS (K : PySem.W.Frag) (H : Hp) (s : S) (o : Option (Option V)) (fp : List Addr) : Prop :=
  match s with
  | .un => fp = []
  | .d x => fp = [] ∧ ∃ v, o = some (some v) ∧ Rp K H x v
  | .ob a C fs => RelOb K H a C fs fp
  | .ol xs => ∃ a, fp = [a] ∧ o = some (some (.ref a)) ∧ RelM K H (.ol xs) a
  | .dt xs => ∃ a, fp = [a] ∧ o = some (some (.ref a)) ∧ RelM K H (.dt xs) a
  | .dk xs => ∃ a, fp = [a] ∧ o = some (some (.ref a)) ∧ RelM K H (.dk xs) a
theorem RelS.mut {K : PySem.W.Frag} {H : Hp} {s : S} {o : Option (Option V)} {fp : List Addr} (h : RelS K H s o fp) (m : s.isMut = true) : ∃ a, fp = [a] ∧ o = some (some (.ref a)) ∧ RelM K H s a := by
  cases s with
  | ol _ => exact h
  | dt _ => exact h
  | dk _ => exact h
  | _ => cases m
theorem RelS.ofMut {K : PySem.W.Frag} {H : Hp} {s : S} {o : Option (Option V)} {a : Addr} (m : s.isMut = true) (e : o = some (some (.ref a))) (h : RelM K H s a) : RelS K H s o [a] := by
  cases s with
  | ol _ => exact ⟨a, rfl, e, h⟩
  | dt _ => exact ⟨a, rfl, e, h⟩
  | dk _ => exact ⟨a, rfl, e, h⟩
  | _ => cases m
/-- what can change: no tuple, nothing frozen -/
def Soft (H : Hp) (a : Addr) : Prop := ∃ u, H a = some u ∧ (∀ xs, u ≠ .tup xs) ∧ ∀ o v, u ≠ .frz o v
theorem RelM.soft {K : PySem.W.Frag} {H : Hp} {s : S} {a : Addr} (h : RelM K H s a) : Soft H a := by
  cases s with
  | ol xs => obtain ⟨vs, e, _⟩ := h; exact ⟨_, e, (fun _ z => by cases z), fun _ _ z => by cases z⟩
  | dt xs => obtain ⟨vs, e, _⟩ := h; exact ⟨_, e, (fun _ z => by cases z), fun _ _ z => by cases z⟩
  | dk xs => obtain ⟨vs, e, _⟩ := h; exact ⟨_, e, (fun _ z => by cases z), fun _ _ z => by cases z⟩
  | _ => exact h.elim
theorem RelM.isMut {K : PySem.W.Frag} {H : Hp} {s : S} {a : Addr} (h : RelM K H s a) : s.isMut = true := by
  cases s with
  | ol xs => rfl
  | dt xs => rfl
  | dk xs => rfl
  | _ => exact h.elim
theorem RelM.move {K : PySem.W.Frag} {H H' : Hp} {s : S} {a : Addr} (h : RelM K H s a) (x : Ext H H') (k : H' a = H a) : RelM K H' s a := by
  cases s with
  | ol xs => obtain ⟨vs, e, l⟩ := h; exact ⟨vs, by rw [k]; exact e, l.ext x⟩
  | dt xs => obtain ⟨es, e, l, n, m⟩ := h; exact ⟨es, by rw [k]; exact e, l.ext x, n, m⟩
  | dk xs => obtain ⟨us, e, n, l⟩ := h; exact ⟨us, by rw [k]; exact e, n, l.ext x⟩
  | _ => exact h.elim
theorem FsR.move {K : PySem.W.Frag} {H H' : Hp} (x : Ext H H') : ∀ {fs : List (Str × FS)} {vs : List (Str × V)} {ls : List Addr}, FsR K H fs vs ls → (∀ p ∈ ls, H' p = H p) → FsR K H' fs vs ls
  | _, _, _, .nil, _ => .nil
  | _, _, _, FsR.d h r, k => FsR.d (h.ext x) (FsR.move x r k)
  | _, _, _, FsR.l h q r, k => FsR.l (by rw [k _ (List.mem_cons_self ..)]; exact h) (q.ext x) (FsR.move x r fun p hp => k p (List.mem_cons_of_mem _ hp))
theorem FsR.soft {K : PySem.W.Frag} {H : Hp} : ∀ {fs : List (Str × FS)} {vs : List (Str × V)} {ls : List Addr}, FsR K H fs vs ls → ∀ p ∈ ls, Soft H p
  | _, _, _, .nil, p, hp => by cases hp
  | _, _, _, FsR.d h r, p, hp => FsR.soft r p hp
  | _, _, _, FsR.l h q r, p, hp => by
    rcases List.mem_cons.mp hp with z | z
    · subst z; exact ⟨_, h, (fun _ z => by cases z), fun _ _ z => by cases z⟩
    · exact FsR.soft r p z
/-- what a slot holds stays, if its footprint does -/
theorem RelS.move {K : PySem.W.Frag} {H H' : Hp} {s : S} {o : Option (Option V)} {fp : List Addr} (h : RelS K H s o fp) (x : Ext H H') (k : ∀ p ∈ fp, H' p = H p) : RelS K H' s o fp := by
  cases s with
  | un => exact h
  | d y => obtain ⟨h1, v, h2, h3⟩ := h; exact ⟨h1, v, h2, h3.ext x⟩
  | ob a C fs =>
    obtain ⟨dx, vs, ls, e, nd, h1, h2, h3⟩ := h
    subst e
    exact ⟨dx, vs, ls, rfl, nd, by rw [k a (by simp)]; exact h1, by rw [k dx (by simp)]; exact h2, h3.move x fun p hp => k p (by simp [hp])⟩
  | ol xs => obtain ⟨a, e, e2, h⟩ := h; subst e; exact ⟨a, rfl, e2, h.move x (k a (by simp))⟩
  | dt xs => obtain ⟨a, e, e2, h⟩ := h; subst e; exact ⟨a, rfl, e2, h.move x (k a (by simp))⟩
  | dk xs => obtain ⟨a, e, e2, h⟩ := h; subst e; exact ⟨a, rfl, e2, h.move x (k a (by simp))⟩
/-- ex: addresses apart from all footprints -/
structure RelX (K : PySem.W.Frag) (G : Gh) (ex : List Addr) (H : Hp) (E : Env) (σ : St) : Prop where
  len : E.length = σ.length
  keep : ∀ p o, G.H0 p = some o → p ∉ G.addrs → H p = some o
  pin : ∀ i a, (i, a) ∈ G.own → σ[i]? = some (some (V.ref a))
  dom : ∀ a ∈ G.addrs, H a ≠ none
  ext : Ext G.X0 H
  fp : ∃ A : Nat → List Addr, (∀ i j a, a ∈ A i → a ∈ A j → i = j) ∧ (∀ i a, a ∈ A i → (a ∈ G.addrs ∨ G.H0 a = none) ∧ a ∉ ex) ∧ ∀ i s, E[i]? = some s → RelS K H s σ[i]? (A i)
abbrev RelE (K : PySem.W.Frag) (G : Gh) (H : Hp) (E : Env) (σ : St) : Prop := RelX K G [] H E σ

section
variable {K : PySem.W.Frag} {G : Gh} {H H' : Hp} {E : Env} {σ : St} {ex : List Addr}
/-- a footprint lies in the heap -/
theorem RelS.indom {s : S} {o : Option (Option V)} {fp : List Addr} (h : RelS K H s o fp) : ∀ a ∈ fp, Soft H a := by
  cases s with
  | un => intro a ha; rw [show fp = [] from h] at ha; cases ha
  | d x => intro a ha; rw [h.1] at ha; cases ha
  | ob a C fs =>
    obtain ⟨dx, vs, ls, e, nd, h1, h2, h3⟩ := h
    subst e
    intro p hp
    rcases List.mem_cons.mp hp with z | z
    · subst z; exact ⟨_, h1, (fun _ z => by cases z), fun _ _ z => by cases z⟩
    · rcases List.mem_cons.mp z with z | z
      · subst z; exact ⟨_, h2, (fun _ z => by cases z), fun _ _ z => by cases z⟩
      · exact h3.soft p z
  | ol xs => obtain ⟨a, e, e2, h⟩ := h; subst e; intro p hp; rw [List.mem_singleton.mp hp]; exact h.soft
  | dt xs => obtain ⟨a, e, e2, h⟩ := h; subst e; intro p hp; rw [List.mem_singleton.mp hp]; exact h.soft
  | dk xs => obtain ⟨a, e, e2, h⟩ := h; subst e; intro p hp; rw [List.mem_singleton.mp hp]; exact h.soft
theorem RelS.pext {s : S} {o : Option (Option V)} {fp : List Addr} (p : PExt H H') (h : RelS K H s o fp) : RelS K H' s o fp :=
  h.move p.ext fun a ha => by
    obtain ⟨u, e, _⟩ := h.indom a ha
    rw [e, p _ _ e]
theorem RelX.pext (p : PExt H H') (h : RelX K G ex H E σ) : RelX K G ex H' E σ := by
  obtain ⟨l, k, pn, dm, x0, A, h1, h2, h3⟩ := h
  refine ⟨l, fun q o e ne => p _ _ (k q o e ne), pn, fun a ha z => ?_, x0.trans p.ext, A, h1, h2, fun i s e => (h3 i s e).pext p⟩
  cases q : H a with
  | none => exact dm a ha q
  | some o => have := p _ _ q; rw [z] at this; cases this
theorem RelX.weak (h : RelX K G ex H E σ) : RelE K G H E σ := by
  obtain ⟨l, k, pn, dm, x0, A, h1, h2, h3⟩ := h
  exact ⟨l, k, pn, dm, x0, A, h1, fun i a e => ⟨(h2 i a e).1, by simp⟩, h3⟩
end
end DL

set_option Elab.async false
set_option linter.all false
set_option maxRecDepth 100000
namespace DL
open PySem PySem.Spec PyProof.Rows L2

/-! ### judgements -/
abbrev TD := Env → (D → Env → Prop) → Prop
abbrev TLd := Env → (List D → Env → Prop) → Prop
abbrev TTd := Env → (Bool → Env → Prop) → Prop
structure EndsD where
  nx : Env → Prop
  rt : D → Env → Prop
  bk : Env → Prop := fun _ => False
  ct : Env → Prop := fun _ => False
abbrev TSd := EndsD → Env → Prop
/-- an argument: data, or a name of a mutable thing -/
inductive Arg where
  | v (x : D)
  | o (i : Nat)
abbrev TAd := Env → (List Arg → Env → Prop) → Prop

def liftE (K : PySem.W.Frag) (G : Gh) (t : TD) : TE := fun σ H Q => ∃ (E : Env) (QE : D → Env → Prop), RelE K G H E σ ∧ t E QE ∧ ∀ d E' v H', QE d E' → Ext H H' → RelE K G H' E' σ → Rp K H' d v → Q v H'
/-- a new list: nobody else has it -/
def liftL (K : PySem.W.Frag) (G : Gh) (t : TLd) : TE := fun σ H Q => ∃ (E : Env) (QE : List D → Env → Prop), RelE K G H E σ ∧ t E QE ∧
  ∀ xs E' a vs H', QE xs E' → Ext H H' → RelX K G [a] H' E' σ → G.H0 a = none → a ∉ G.addrs → H' a = some (.lst vs) → RpL K H' xs vs → Q (.ref a) H'
/-- readable now -/
def liftR (K : PySem.W.Frag) (G : Gh) (t : TD) : TE := fun σ H Q => ∃ (E : Env) (QE : D → Env → Prop), RelE K G H E σ ∧ t E QE ∧ ∀ d E' v H', QE d E' → Ext H H' → RelE K G H' E' σ → RpR K H' d v → Q v H'
def liftT (K : PySem.W.Frag) (G : Gh) (t : TTd) : TT := fun σ H Q => ∃ (E : Env) (QE : Bool → Env → Prop), RelE K G H E σ ∧ t E QE ∧ ∀ b E' H', QE b E' → Ext H H' → RelE K G H' E' σ → Q b H'
/-- the values of arguments at a heap -/
inductive RelA (K : PySem.W.Frag) (H : Hp) (σ : St) : List Arg → List V → Prop
  | nil : RelA K H σ [] []
  | v {x : D} {v : V} {as : List Arg} {vs : List V} : Rp K H x v → RelA K H σ as vs → RelA K H σ (.v x :: as) (v :: vs)
  | o {i : Nat} {v : V} {as : List Arg} {vs : List V} : σ[i]? = some (some v) → RelA K H σ as vs → RelA K H σ (.o i :: as) (v :: vs)
def liftA (K : PySem.W.Frag) (G : Gh) (t : TAd) : TA := fun σ H Q => ∃ (E : Env) (QE : List Arg → Env → Prop), RelE K G H E σ ∧ t E QE ∧ ∀ as E' vs H', QE as E' → Ext H H' → RelE K G H' E' σ → RelA K H' σ as vs → Q vs H'
def liftS (K : PySem.W.Frag) (G : Gh) (t : TSd) : TS := fun F σ H => ∃ (E : Env) (DE : EndsD), RelE K G H E σ ∧ t DE E ∧
  (∀ E' σ' H', DE.nx E' → Ext H H' → RelE K G H' E' σ' → F.nx σ' H') ∧
  (∀ d E' v σ' H', DE.rt d E' → Ext H H' → RelE K G H' E' σ' → Rp K H' d v → F.rt v H') ∧
  (∀ E' σ' H', DE.bk E' → Ext H H' → RelE K G H' E' σ' → F.bk σ' H') ∧
  (∀ E' σ' H', DE.ct E' → Ext H H' → RelE K G H' E' σ' → F.ct σ' H')

structure ED (X : Cx) (G : Gh) (e : Expr) (t : TD) : Prop where
  pe : PE X e (liftE X.K G t)
structure EL (X : Cx) (G : Gh) (e : Expr) (t : TLd) : Prop where
  pe : PE X e (liftL X.K G t)
structure ER (X : Cx) (G : Gh) (e : Expr) (t : TD) : Prop where
  pe : PE X e (liftR X.K G t)
structure EB (X : Cx) (G : Gh) (e : Expr) (t : TTd) : Prop where
  pt : PT X e (liftT X.K G t)
structure EW (X : Cx) (G : Gh) (e : Expr) (t : TTd) : Prop where
  pw : PW X e (liftT X.K G t)
structure EA (X : Cx) (G : Gh) (es : List Expr) (t : TAd) : Prop where
  pa : PA X es (liftA X.K G t)
structure SD (X : Cx) (G : Gh) (st : Stmt) (t : TSd) : Prop where
  ps : PS X st (liftS X.K G t)
structure SDs (X : Cx) (G : Gh) (st : List Stmt) (t : TSd) : Prop where
  pss : PSs X st (liftS X.K G t)

theorem PE.weak {X : Cx} {e : Expr} {t u : TE} (h : PE X e t) (w : ∀ σ H Q, u σ H Q → t σ H Q) : PE X e u := ⟨fun pins s σ H Q I q => h.run pins s σ H Q I (w σ H Q q)⟩
theorem PT.weak {X : Cx} {e : Expr} {t u : TT} (h : PT X e t) (w : ∀ σ H Q, u σ H Q → t σ H Q) : PT X e u := ⟨fun pins s σ H Q I q => h.run pins s σ H Q I (w σ H Q q)⟩
theorem PW.weak {X : Cx} {e : Expr} {t u : TT} (h : PW X e t) (w : ∀ σ H Q, u σ H Q → t σ H Q) : PW X e u := ⟨fun wh pins s σ H Q I q => h.run wh pins s σ H Q I (w σ H Q q)⟩
theorem PA.weak {X : Cx} {es : List Expr} {t u : TA} (h : PA X es t) (w : ∀ σ H Q, u σ H Q → t σ H Q) : PA X es u := ⟨fun pos pins s σ H Q I q => h.run pos pins s σ H Q I (w σ H Q q)⟩
theorem PS.weak {X : Cx} {st : Stmt} {t u : TS} (h : PS X st t) (w : ∀ F σ H, u F σ H → t F σ H) : PS X st u := ⟨fun pins s σ H F I q => h.run pins s σ H F I (w F σ H q)⟩
theorem PSs.weak {X : Cx} {st : List Stmt} {t u : TS} (h : PSs X st t) (w : ∀ F σ H, u F σ H → t F σ H) : PSs X st u := ⟨fun pins s σ H F I q => h.run pins s σ H F I (w F σ H q)⟩

section
variable {X : Cx} {G : Gh} {a b c e : Expr} {es : List Expr} {pos : Pos}

/-- data may be read -/
theorem ED.er {t : TD} (h : ED X G e t) : ER X G e t := ⟨PE.weak h.pe fun σ H Q ⟨E, QE, r, q, k⟩ => ⟨E, QE, r, q, fun d E' v H' z x r' p => k d E' v H' z x r' (.inl p)⟩⟩

/-! ### names, constants -/
def tV (i : Nat) : TD := fun E Q => match E[i]? with
  | some (.d x) => Q x E
  | _ => False
/-- a name that may hold a list that can change, read now -/
def tVr (i : Nat) : TD := fun E Q => match E[i]? with
  | some (.d x) => Q x E
  | some (.ol xs) => Q (.list xs) E
  | _ => False
def tK (d : D) : TD := fun E Q => Q d E
theorem RelX.data {K : PySem.W.Frag} {ex : List Addr} {H : Hp} {E : Env} {σ : St} {i : Nat} {x : D} (r : RelX K G ex H E σ) (e : E[i]? = some (.d x)) : ∃ v, σ[i]? = some (some v) ∧ Rp K H x v := by
  obtain ⟨l, k, pn, dm, x0, A, h1, h2, h3⟩ := r
  exact (h3 i _ e).2
theorem RelX.ol {K : PySem.W.Frag} {ex : List Addr} {H : Hp} {E : Env} {σ : St} {i : Nat} {xs : List D} (r : RelX K G ex H E σ) (e : E[i]? = some (.ol xs)) : ∃ a vs, σ[i]? = some (some (.ref a)) ∧ H a = some (.lst vs) ∧ RpL K H xs vs := by
  obtain ⟨l, k, pn, dm, x0, A, h1, h2, h3⟩ := r
  obtain ⟨a, e1, e2, vs, e3, e4⟩ := h3 i _ e
  exact ⟨a, vs, e2, e3, e4⟩
theorem RelX.mutAt {K : PySem.W.Frag} {ex : List Addr} {H : Hp} {E : Env} {σ : St} {i : Nat} {s : S} (r : RelX K G ex H E σ) (e : E[i]? = some s) (m : s.isMut = true) : ∃ a, σ[i]? = some (some (.ref a)) ∧ RelM K H s a := by
  obtain ⟨l, k, pn, dm, x0, A, h1, h2, h3⟩ := r
  obtain ⟨a, e1, e2, e3⟩ := (h3 i _ e).mut m
  exact ⟨a, e2, e3⟩
theorem ed_var (i : Nat) {x : Str} (hN : X.N[i]? = some x := by rfl) (hv : Vis X.env.scope x := by first | exact Or.inl rfl | exact Or.inr (Or.inl rfl) | exact Or.inr (Or.inr rfl)) (hd : (x == ("__debug__" : Str)) = false := by decide)
    (hcd : (x == ("__classdict__" : Str)) = false := by decide) : ED X G (.Name x pos) (tV i) := ⟨PE.weak (pe_var hN hv hd hcd) fun σ H Q ⟨E, QE, r, q, k⟩ => by
  unfold tV at q
  split at q
  · rename_i x he
    obtain ⟨v, e, p⟩ := r.data he
    exact ⟨v, e, k _ _ _ _ q (Ext.refl _) r p⟩
  · exact q.elim⟩
theorem er_var (i : Nat) {x : Str} (hN : X.N[i]? = some x := by rfl) (hv : Vis X.env.scope x := by first | exact Or.inl rfl | exact Or.inr (Or.inl rfl) | exact Or.inr (Or.inr rfl)) (hd : (x == ("__debug__" : Str)) = false := by decide)
    (hcd : (x == ("__classdict__" : Str)) = false := by decide) : ER X G (.Name x pos) (tVr i) := ⟨PE.weak (pe_var hN hv hd hcd) fun σ H Q ⟨E, QE, r, q, k⟩ => by
  unfold tVr at q
  split at q
  · rename_i x he
    obtain ⟨v, e, p⟩ := r.data he
    exact ⟨v, e, k _ _ _ _ q (Ext.refl _) r (.inl p)⟩
  · rename_i xs he
    obtain ⟨a, vs, e, h, p⟩ := r.ol he
    exact ⟨_, e, k _ _ _ _ q (Ext.refl _) r (.inr ⟨_, _, _, rfl, rfl, h, p⟩)⟩
  · exact q.elim⟩
theorem ed_int {i j} : ED X G (.Constant (.int i) j pos) (tK (.int i)) := ⟨PE.weak pe_int fun σ H Q ⟨E, QE, r, q, k⟩ => k _ _ _ _ q (Ext.refl _) r (.int i)⟩
theorem ed_bl {i j} : ED X G (.Constant (.bool i) j pos) (tK (.bool i)) := ⟨PE.weak pe_bl fun σ H Q ⟨E, QE, r, q, k⟩ => k _ _ _ _ q (Ext.refl _) r (.bl i)⟩
theorem ed_non {j} : ED X G (.Constant .none j pos) (tK .none) := ⟨PE.weak pe_non fun σ H Q ⟨E, QE, r, q, k⟩ => k _ _ _ _ q (Ext.refl _) r .non⟩
theorem ed_str {i j} : ED X G (.Constant (.str i) j pos) (tK (.str i)) := ⟨PE.weak pe_str fun σ H Q ⟨E, QE, r, q, k⟩ => k _ _ _ _ q (Ext.refl _) r (.str i)⟩
/-- a module's name -/
theorem ed_glob {x : Str} {d : D} {v : V} {u : Value} (hg : Gl X x) (hm : X.mg x = some u) (rv : RelV v u) (rd : ∀ H, Rp X.K H d v) (hd : (x == ("__debug__" : Str)) = false := by decide) : ED X G (.Name x pos) (tK d) :=
  ⟨PE.weak (pe_glob hg hm rv hd) fun σ H Q ⟨E, QE, r, q, k⟩ => k _ _ _ _ q (Ext.refl _) r (rd H)⟩

/-! ### operators -/
/-- what an operator gives of data -/
abbrev OpT := D → D → (D → Prop) → Prop
/-- by values: the heap only grows -/
def OpD (X : Cx) (f : Value → Value → Sem Value) (op : OpT) : Prop := ∃ r : R2, OpR X f r ∧
  ∀ x y v u H (QD : D → Prop) (Q : VK), RpR X.K H x v → RpR X.K H y u → op x y QD → (∀ z w H', QD z → PExt H H' → Rp X.K H' z w → Q w H') → r v u H Q
theorem OpD.or {f : Value → Value → Sem Value} {op op' : OpT} (h : OpD X f op) (h' : OpD X f op') : OpD X f (fun x y Q => op x y Q ∨ op' x y Q) := by
  obtain ⟨r, hr, hq⟩ := h
  obtain ⟨r', hr', hq'⟩ := h'
  refine ⟨_, hr.or hr', fun x y v u H QD Q hx hy q k => ?_⟩
  rcases q with q | q
  · exact .inl (hq x y v u H QD Q hx hy q k)
  · exact .inr (hq' x y v u H QD Q hx hy q k)
theorem OpD.weak {f : Value → Value → Sem Value} {op op' : OpT} (h : OpD X f op) (w : ∀ x y Q, op' x y Q → op x y Q) : OpD X f op' := by
  obtain ⟨r, hr, hq⟩ := h
  exact ⟨r, hr, fun x y v u H QD Q hx hy q k => hq x y v u H QD Q hx hy (w _ _ _ q) k⟩
def tOpD (op : OpT) (ta tb : TD) : TD := fun E Q => ta E fun x E1 => tb E1 fun y E2 => op x y fun z => Q z E2
/-- two parts: the left is data -/
theorem lift_bin {K : PySem.W.Frag} {op : OpT} {ta tb : TD} {r : R2} (hr : ∀ x y v u H (QD : D → Prop) (Q : VK), RpR K H x v → RpR K H y u → op x y QD → (∀ z w H', QD z → PExt H H' → Rp K H' z w → Q w H') → r v u H Q)
    (σ : St) (H : Hp) (Q : VK) (h : liftE K G (tOpD op ta tb) σ H Q) : tOp r (liftE K G ta) (liftR K G tb) σ H Q := by
  obtain ⟨E, QE, rel, q, k⟩ := h
  refine ⟨E, _, rel, q, fun x E1 v H1 q1 x1 rel1 p1 => ⟨E1, _, rel1, q1, fun y E2 u H2 q2 x2 rel2 p2 => ?_⟩⟩
  exact hr x y v u H2 _ Q (.inl (p1.ext x2)) p2 q2 fun z w H3 q3 p3 rz => k z E2 w H3 q3 ((x1.trans x2).trans p3.ext) (rel2.pext p3) rz
theorem ed_op {op : Operator} {o : OpT} {ta tb : TD} (ho : OpD X (binaryOp op) o) (ha : ED X G a ta) (hb : ER X G b tb) : ED X G (.BinOp a op b pos) (tOpD o ta tb) := by
  obtain ⟨r, hr, hq⟩ := ho
  exact ⟨PE.weak (pe_op hr ha.pe hb.pe) fun σ H Q h => lift_bin hq σ H Q h⟩
theorem ed_cmp {op : CmpOp} {o : OpT} {ta tb : TD} (ho : OpD X (compareOp op) o) (ha : ED X G a ta) (hb : ER X G b tb) (hm : behindInMarks op b = false) : ED X G (.Compare a [op] [b] pos) (tOpD o ta tb) := by
  obtain ⟨r, hr, hq⟩ := ho
  exact ⟨PE.weak (pe_cmpR hr ha.pe hb.pe hm) fun σ H Q h => lift_bin hq σ H Q h⟩
/-- the left a name whose list may change: looked at behind the right -/
def tOpV (op : OpT) (i : Nat) (tb : TD) : TD := fun E Q => tb E fun y E2 => tVr i E2 fun x E3 => op x y fun z => Q z E3
def UnT := D → (D → Prop) → Prop
def UnD (X : Cx) (f : Value → Sem Value) (op : UnT) : Prop := ∃ r : V → Hp → VK → Prop, UnR X f r ∧
  ∀ x v H (QD : D → Prop) (Q : VK), RpR X.K H x v → op x QD → (∀ z w H', QD z → PExt H H' → Rp X.K H' z w → Q w H') → r v H Q
def tUnD (op : UnT) (ta : TD) : TD := fun E Q => ta E fun x E1 => op x fun z => Q z E1
theorem ed_un {op : UnaryOp} {o : UnT} {ta : TD} (ho : UnD X (unaryOp op) o) (ha : ER X G a ta) : ED X G (.UnaryOp op a pos) (tUnD o ta) := by
  obtain ⟨r, hr, hq⟩ := ho
  refine ⟨PE.weak (pe_un hr ha.pe) fun σ H Q ⟨E, QE, rel, q, k⟩ => ⟨E, _, rel, q, fun x E1 v H1 q1 x1 rel1 p1 => ?_⟩⟩
  exact hq x v H1 _ Q p1 q1 fun z w H3 q3 p3 rz => k z E1 w H3 q3 (x1.trans p3.ext) (rel1.pext p3) rz

/-! ### tests -/
/-- an expression that gives a truth -/
def tBo (t : TD) : TTd := fun E Q => t E fun x E1 => match x with
  | .bool b => Q b E1
  | _ => False
theorem eb_val {t : TD} (h : ED X G e t) (he : ∀ whole, isTrue e X.env whole = (do let v ← whole; standAt e.pos; holding [v] (truthy v)) := by intro _; rfl) : EB X G e (tBo t) :=
  ⟨PT.weak (pt_val h.pe he) fun σ H Q ⟨E, QE, r, q, k⟩ => ⟨E, _, r, q, fun d E' v H' q1 x1 r1 p1 => by
    cases p1 with
    | bl b => exact ⟨b, rfl, k b E' H' q1 x1 r1⟩
    | _ => exact q1.elim⟩⟩
theorem eb_cmp {op : CmpOp} {o : OpT} {ta tb : TD} (ho : OpD X (compareOp op) o) (ha : ED X G a ta) (hb : ER X G b tb) (hm : behindInMarks op b = false) : EB X G (.Compare a [op] [b] pos) (tBo (tOpD o ta tb)) := by
  obtain ⟨r, hr, hq⟩ := ho
  refine ⟨PT.weak (pt_cmpR hr ha.pe hb.pe hm) fun σ H Q ⟨E, QE, rel, q, k⟩ => ?_⟩
  have h : liftE X.K G (tOpD o ta tb) σ H fun x H' => ∃ k, x = .bl k ∧ Q k H' := ⟨E, _, rel, q, fun d E' v H' q1 x1 r1 p1 => by
    cases p1 with
    | bl b => exact ⟨b, rfl, k b E' H' q1 x1 r1⟩
    | _ => exact q1.elim⟩
  exact lift_bin hq σ H _ h
def tAndD (t u : TTd) : TTd := fun E Q => t E fun c E1 => if c = true then u E1 Q else Q false E1
def tOrD (t u : TTd) : TTd := fun E Q => t E fun c E1 => if c = true then Q true E1 else u E1 Q
def tNotD (t : TTd) : TTd := fun E Q => t E fun c E1 => Q (!c) E1
theorem ew_and1 {t : TTd} (h : EB X G a t) : EW X G (.BoolOp .And [a] pos) t := ⟨pw_and1 h.pt⟩
theorem ew_or1 {t : TTd} (h : EB X G a t) : EW X G (.BoolOp .Or [a] pos) t := ⟨pw_or1 h.pt⟩
theorem ew_and {t u : TTd} (h : EB X G a t) (hb : EW X G (.BoolOp .And (b :: es) pos) u) : EW X G (.BoolOp .And (a :: b :: es) pos) (tAndD t u) :=
  ⟨PW.weak (pw_and h.pt hb.pw) fun σ H Q ⟨E, QE, r, q, k⟩ => ⟨E, _, r, q, fun c E1 H1 q1 x1 r1 => by
    cases c with
    | true => exact ⟨E1, QE, r1, q1, fun b E2 H2 q2 x2 r2 => k b E2 H2 q2 (x1.trans x2) r2⟩
    | false => exact k false E1 H1 q1 x1 r1⟩⟩
theorem ew_or {t u : TTd} (h : EB X G a t) (hb : EW X G (.BoolOp .Or (b :: es) pos) u) : EW X G (.BoolOp .Or (a :: b :: es) pos) (tOrD t u) :=
  ⟨PW.weak (pw_or h.pt hb.pw) fun σ H Q ⟨E, QE, r, q, k⟩ => ⟨E, _, r, q, fun c E1 H1 q1 x1 r1 => by
    cases c with
    | false => exact ⟨E1, QE, r1, q1, fun b E2 H2 q2 x2 r2 => k b E2 H2 q2 (x1.trans x2) r2⟩
    | true => exact k true E1 H1 q1 x1 r1⟩⟩
theorem EW.eb {t : TTd} (h : EW X G e t) : EB X G e t := ⟨h.pw.pt⟩
theorem eb_not {t : TTd} (h : EB X G a t) : EB X G (.UnaryOp .Not a pos) (tNotD t) :=
  ⟨PT.weak (pt_not h.pt) fun σ H Q ⟨E, QE, r, q, k⟩ => ⟨E, _, r, q, fun c E1 H1 q1 x1 r1 => k _ E1 H1 q1 x1 r1⟩⟩
/-- a if c else b -/
def tIfE (c : TTd) (t u : TD) : TD := fun E Q => c E fun k E1 => if k = true then t E1 Q else u E1 Q
theorem ed_if {tc : TTd} {t u : TD} (hc : EB X G c tc) (ha : ED X G a t) (hb : ED X G b u) : ED X G (.IfExp c a b pos) (tIfE tc t u) :=
  ⟨PE.weak (pe_ifExp hc.pt ha.pe hb.pe) fun σ H Q ⟨E, QE, r, q, k⟩ => ⟨E, _, r, q, fun c E1 H1 q1 x1 r1 => by
    cases c with
    | true => exact ⟨E1, QE, r1, q1, fun d E2 v H2 q2 x2 r2 => k d E2 v H2 q2 (x1.trans x2) r2⟩
    | false => exact ⟨E1, QE, r1, q1, fun d E2 v H2 q2 x2 r2 => k d E2 v H2 q2 (x1.trans x2) r2⟩⟩⟩
/-! as values -/
def tAndV (t u : TD) : TD := fun E Q => t E fun x E1 => match x with
  | .bool true => u E1 Q
  | .bool false => Q (.bool false) E1
  | _ => False
def tOrV (t u : TD) : TD := fun E Q => t E fun x E1 => match x with
  | .bool true => Q (.bool true) E1
  | .bool false => u E1 Q
  | _ => False
def tNotV (t : TD) : TD := fun E Q => t E fun x E1 => match x with
  | .bool b => Q (.bool (!b)) E1
  | _ => False
theorem ed_one {op} {t : TD} (h : ED X G a t) : ED X G (.BoolOp op [a] pos) t := ⟨pe_one h.pe⟩
theorem ed_and {t u : TD} (h : ED X G a t) (hb : ED X G (.BoolOp .And (b :: es) pos) u) : ED X G (.BoolOp .And (a :: b :: es) pos) (tAndV t u) :=
  ⟨PE.weak (pe_and h.pe hb.pe) fun σ H Q ⟨E, QE, r, q, k⟩ => ⟨E, _, r, q, fun d E1 v H1 q1 x1 r1 p1 => by
    cases p1 with
    | bl c =>
      refine ⟨c, rfl, ?_⟩
      cases c with
      | true => exact ⟨E1, QE, r1, q1, fun d E2 v H2 q2 x2 r2 => k d E2 v H2 q2 (x1.trans x2) r2⟩
      | false => exact k _ E1 _ H1 q1 x1 r1 (.bl false)
    | _ => exact q1.elim⟩⟩
theorem ed_or {t u : TD} (h : ED X G a t) (hb : ED X G (.BoolOp .Or (b :: es) pos) u) : ED X G (.BoolOp .Or (a :: b :: es) pos) (tOrV t u) :=
  ⟨PE.weak (pe_or h.pe hb.pe) fun σ H Q ⟨E, QE, r, q, k⟩ => ⟨E, _, r, q, fun d E1 v H1 q1 x1 r1 p1 => by
    cases p1 with
    | bl c =>
      refine ⟨c, rfl, ?_⟩
      cases c with
      | false => exact ⟨E1, QE, r1, q1, fun d E2 v H2 q2 x2 r2 => k d E2 v H2 q2 (x1.trans x2) r2⟩
      | true => exact k _ E1 _ H1 q1 x1 r1 (.bl true)
    | _ => exact q1.elim⟩⟩
theorem ed_not {t : TD} (h : ED X G a t) : ED X G (.UnaryOp .Not a pos) (tNotV t) :=
  ⟨PE.weak (pe_not h.pe) fun σ H Q ⟨E, QE, r, q, k⟩ => ⟨E, _, r, q, fun d E1 v H1 q1 x1 r1 p1 => by
    cases p1 with
    | bl c => exact ⟨c, rfl, k _ E1 _ H1 q1 x1 r1 (.bl _)⟩
    | _ => exact q1.elim⟩⟩

/-! ### truth of any data -/
def truD : D → Option Bool
  | .none => some false
  | .bool b => some b
  | .int i => some (i != 0)
  | .str x => some ((x.length : Int) != 0)
  | .list xs => some (!xs.isEmpty)
  | .tuple xs => some (!xs.isEmpty)
  | .dict _ => none
def okLen : D → Prop
  | .str x => x.length ≤ sizeLine
  | _ => True
def tTru (t : TD) : TTd := fun E Q => t E fun x E1 => match truD x with
  | some b => okLen x ∧ Q b E1
  | none => False
theorem isEmpty_RpL {K : PySem.W.Frag} {H : Hp} {ds : List D} {vs : List V} (l : RpL K H ds vs) : ds.isEmpty = vs.isEmpty := by cases l <;> rfl
theorem eb_tru {t : TD} (h : ER X G e t) (he : ∀ whole, isTrue e X.env whole = (do let v ← whole; standAt e.pos; holding [v] (truthy v)) := by intro _; rfl) : EB X G e (tTru t) :=
  ⟨PT.weak (pt_truth h.pe he) fun σ H Q ⟨E, QE, r, q, k⟩ => ⟨E, _, r, q, fun d E' v H' q1 x1 r1 p1 => by
    cases d with
    | none => rw [p1.none]; exact ⟨false, rfl, k _ _ _ q1.2 x1 r1⟩
    | bool b => rw [p1.bool]; exact ⟨b, rfl, k _ _ _ q1.2 x1 r1⟩
    | int b => rw [p1.int]; exact ⟨_, rfl, k _ _ _ q1.2 x1 r1⟩
    | str b => rw [p1.str]; exact ⟨_, ⟨q1.1, rfl⟩, k _ _ _ q1.2 x1 r1⟩
    | list b =>
      obtain ⟨a, vs, rfl, hs, l⟩ := p1.list
      exact ⟨!vs.isEmpty, .inl ⟨vs, hs, rfl⟩, by have := k _ _ _ q1.2 x1 r1; rw [isEmpty_RpL l] at this; exact this⟩
    | tuple b =>
      obtain ⟨a, vs, rfl, hs, l⟩ := p1.tuple
      exact ⟨!vs.isEmpty, .inr (.inl ⟨vs, hs, rfl⟩), by have := k _ _ _ q1.2 x1 r1; rw [isEmpty_RpL l] at this; exact this⟩
    | dict b => exact q1.elim⟩⟩

/-! ### arguments -/
def aNil : TAd := fun E Q => Q [] E
def aV (t : TD) (u : TAd) : TAd := fun E Q => t E fun x E1 => u E1 fun as E2 => Q (.v x :: as) E2
def aO (i : Nat) (u : TAd) : TAd := fun E Q => match E[i]? with
  | some (.ol _) => u E fun as E2 => Q (.o i :: as) E2
  | some (.dt _) => u E fun as E2 => Q (.o i :: as) E2
  | some (.dk _) => u E fun as E2 => Q (.o i :: as) E2
  | _ => False
theorem ea_nil : EA X G [] aNil := ⟨PA.weak pa_nil fun σ H Q ⟨E, QE, r, q, k⟩ => k _ _ _ _ q (Ext.refl _) r .nil⟩
theorem ea_v {t : TD} {u : TAd} (h : ED X G e t) (hr : EA X G es u) (hs : starEach (e :: es) X.env = (false, eval e X.env) :: starEach es X.env := by rfl) : EA X G (e :: es) (aV t u) :=
  ⟨PA.weak (pa_cons h.pe hr.pa hs) fun σ H Q ⟨E, QE, r, q, k⟩ => ⟨E, _, r, q, fun x E1 v H1 q1 x1 r1 p1 => ⟨E1, _, r1, q1, fun as E2 vs H2 q2 x2 r2 p2 => k _ _ _ _ q2 (x1.trans x2) r2 (.v (p1.ext x2) p2)⟩⟩⟩
theorem ea_o (i : Nat) {x : Str} {u : TAd} {p : Pos} (hr : EA X G es u) (hN : X.N[i]? = some x := by rfl) (hv : Vis X.env.scope x := by first | exact Or.inl rfl | exact Or.inr (Or.inl rfl) | exact Or.inr (Or.inr rfl)) (hd : (x == ("__debug__" : Str)) = false := by decide)
    (hcd : (x == ("__classdict__" : Str)) = false := by decide) (hs : starEach (Expr.Name x p :: es) X.env = (false, eval (Expr.Name x p) X.env) :: starEach es X.env := by rfl) : EA X G (Expr.Name x p :: es) (aO i u) :=
  ⟨PA.weak (pa_cons (pe_var hN hv hd hcd) hr.pa hs) fun σ H Q ⟨E, QE, r, q, k⟩ => by
    unfold aO at q
    split at q
    · rename_i xs he
      obtain ⟨a, e, _⟩ := r.mutAt he rfl
      exact ⟨_, e, E, _, r, q, fun as E2 vs H2 q2 x2 r2 p2 => k _ _ _ _ q2 x2 r2 (.o e p2)⟩
    · rename_i xs he
      obtain ⟨a, e, _⟩ := r.mutAt he rfl
      exact ⟨_, e, E, _, r, q, fun as E2 vs H2 q2 x2 r2 p2 => k _ _ _ _ q2 x2 r2 (.o e p2)⟩
    · rename_i xs he
      obtain ⟨a, e, _⟩ := r.mutAt he rfl
      exact ⟨_, e, E, _, r, q, fun as E2 vs H2 q2 x2 r2 p2 => k _ _ _ _ q2 x2 r2 (.o e p2)⟩
    · exact q.elim⟩

/-! ### statements -/
section
variable {st : Stmt} {rest : List Stmt}
def sNx : TSd := fun DE E => DE.nx E
def sSeq (t u : TSd) : TSd := fun DE E => t { DE with nx := u DE } E
theorem sds_nil : SDs X G [] sNx := ⟨PSs.weak pss_nil fun F σ H ⟨E, DE, r, q, k1, _⟩ => k1 _ _ _ q (Ext.refl _) r⟩
theorem lift_more {K : PySem.W.Frag} {F : Ends} {σ : St} {H H1 : Hp} {E E1 : Env} {DE : EndsD} {u : TSd} {σ1 : St} (x1 : Ext H H1) (r1 : RelE K G H1 E1 σ1) (q : u DE E1)
    (k1 : ∀ E' σ' H', DE.nx E' → Ext H H' → RelE K G H' E' σ' → F.nx σ' H') (k2 : ∀ d E' v σ' H', DE.rt d E' → Ext H H' → RelE K G H' E' σ' → Rp K H' d v → F.rt v H')
    (k3 : ∀ E' σ' H', DE.bk E' → Ext H H' → RelE K G H' E' σ' → F.bk σ' H') (k4 : ∀ E' σ' H', DE.ct E' → Ext H H' → RelE K G H' E' σ' → F.ct σ' H') : liftS K G u F σ1 H1 :=
  ⟨E1, DE, r1, q, fun E' σ' H' z x r => k1 E' σ' H' z (x1.trans x) r, fun d E' v σ' H' z x r => k2 d E' v σ' H' z (x1.trans x) r, fun E' σ' H' z x r => k3 E' σ' H' z (x1.trans x) r, fun E' σ' H' z x r => k4 E' σ' H' z (x1.trans x) r⟩
theorem sds_cons {t u : TSd} (h : SD X G st t) (hr : SDs X G rest u) : SDs X G (st :: rest) (sSeq t u) :=
  ⟨PSs.weak (pss_cons h.ps hr.pss) fun F σ H ⟨E, DE, r, q, k1, k2, k3, k4⟩ => ⟨E, { DE with nx := u DE }, r, q, fun E' σ' H' z x r => lift_more (σ := σ) (E := E) x r z k1 k2 k3 k4, k2, k3, k4⟩⟩
theorem sds_one {t : TSd} (h : SD X G st t) : SDs X G [st] t := ⟨pss_one h.ps⟩
theorem sd_pass : SD X G (.Pass pos) sNx := ⟨PS.weak ps_pass fun F σ H ⟨E, DE, r, q, k1, _⟩ => k1 _ _ _ q (Ext.refl _) r⟩
def sBk : TSd := fun DE E => DE.bk E
def sCt : TSd := fun DE E => DE.ct E
theorem sd_break : SD X G (.Break pos) sBk := ⟨PS.weak ps_break fun F σ H ⟨E, DE, r, q, k1, k2, k3, k4⟩ => k3 _ _ _ q (Ext.refl _) r⟩
theorem sd_continue : SD X G (.Continue pos) sCt := ⟨PS.weak ps_continue fun F σ H ⟨E, DE, r, q, k1, k2, k3, k4⟩ => k4 _ _ _ q (Ext.refl _) r⟩
def sRet (t : TD) : TSd := fun DE E => t E DE.rt
theorem sd_ret {t : TD} (h : ED X G e t) : SD X G (.Return (some e) pos) (sRet t) :=
  ⟨PS.weak (ps_ret h.pe) fun F σ H ⟨E, DE, r, q, k1, k2, k3, k4⟩ => ⟨E, _, r, q, fun d E' v H' z x r p => k2 d E' v σ H' z x r p⟩⟩
theorem sd_retN : SD X G (.Return none pos) (sRet (tK .none)) :=
  ⟨PS.weak ps_retN fun F σ H ⟨E, DE, r, q, k1, k2, k3, k4⟩ => k2 .none E .non σ H q (Ext.refl _) r .non⟩
def sIf (c : TTd) (t u : TSd) : TSd := fun DE E => c E fun b E1 => if b = true then t DE E1 else u DE E1
theorem sd_if {sa sb : List Stmt} {tc : TTd} {t u : TSd} (hc : EB X G c tc) (ha : SDs X G sa t) (hb : SDs X G sb u) : SD X G (.If c sa sb pos) (sIf tc t u) :=
  ⟨PS.weak (ps_if hc.pt ha.pss hb.pss) fun F σ H ⟨E, DE, r, q, k1, k2, k3, k4⟩ => ⟨E, _, r, q, fun c E1 H1 q1 x1 r1 => by
    cases c with
    | true => exact lift_more (σ := σ) (E := E) x1 r1 q1 k1 k2 k3 k4
    | false => exact lift_more (σ := σ) (E := E) x1 r1 q1 k1 k2 k3 k4⟩⟩
def sExpr (t : TD) : TSd := fun DE E => t E fun _ E1 => DE.nx E1
theorem sd_expr {t : TD} (h : ED X G e t) (hs : swapsWith e none pos.line X.env = pure false := by rfl) : SD X G (.Expr e pos) (sExpr t) :=
  ⟨PS.weak (ps_expr h.pe hs) fun F σ H ⟨E, DE, r, q, k1, k2, k3, k4⟩ => ⟨E, _, r, q, fun d E1 v H1 q1 x1 r1 p1 => k1 _ _ _ q1 x1 r1⟩⟩
end
end
end DL

set_option Elab.async false
set_option linter.all false
set_option maxRecDepth 100000
namespace DL
open PySem PySem.Spec PyProof.Rows L2

section
variable {K : PySem.W.Frag} {G : Gh} {H H' : Hp} {E : Env} {σ : St} {ex : List Addr}
theorem notin_slots {i : Nat} (hi : i ∉ G.slots) (a : Addr) : (i, a) ∉ G.own := fun h => hi (List.mem_map.mpr ⟨(i, a), h, rfl⟩)
/-- a slot gets data -/
theorem RelX.setD {i : Nat} {x : D} {v : V} (r : RelX K G ex H E σ) (hi : i ∉ G.slots) (p : Rp K H x v) : RelX K G ex H (E.set i (.d x)) (σ.set i (some v)) := by
  obtain ⟨l, k, pn, dm, x0, A, h1, h2, h3⟩ := r
  refine ⟨by simp [l], k, fun j a hj => ?_, dm, x0, fun j => if j = i then [] else A j, fun j m a e1 e2 => ?_, fun j a e1 => ?_, fun j s e => ?_⟩
  · have : i ≠ j := fun z => notin_slots hi a (z ▸ hj)
    rw [List.getElem?_set_ne this]; exact pn j a hj
  · by_cases z : j = i
    · simp [z] at e1
    · by_cases z2 : m = i
      · simp [z2] at e2
      · simp only [z, z2, if_false] at e1 e2; exact h1 j m a e1 e2
  · by_cases z : j = i
    · simp [z] at e1
    · simp only [z, if_false] at e1; exact h2 j a e1
  · by_cases z : j = i
    · subst z
      by_cases hl : j < E.length
      · rw [List.getElem?_set_self hl] at e
        cases e
        exact ⟨by simp, v, by rw [List.getElem?_set_self (l ▸ hl)], p⟩
      · rw [List.getElem?_eq_none (by simpa using hl)] at e; cases e
    · rw [List.getElem?_set_ne (Ne.symm z)] at e
      rw [List.getElem?_set_ne (Ne.symm z)]
      simp only [z, if_false]; exact h3 j s e
/-- a slot gets a new mutable thing of one's own -/
theorem RelX.setM {i : Nat} {s0 : S} {a : Addr} (r : RelX K G (a :: ex) H E σ) (hx : a ∉ ex) (hi : i ∉ G.slots) (h0 : G.H0 a = none) (p : RelM K H s0 a) : RelX K G ex H (E.set i s0) (σ.set i (some (.ref a))) := by
  obtain ⟨l, k, pn, dm, x0, A, h1, h2, h3⟩ := r
  refine ⟨by simp [l], k, fun j a hj => ?_, dm, x0, fun j => if j = i then [a] else A j, fun j m b e1 e2 => ?_, fun j b e1 => ?_, fun j s e => ?_⟩
  · have : i ≠ j := fun z => notin_slots hi a (z ▸ hj)
    rw [List.getElem?_set_ne this]; exact pn j a hj
  · by_cases z : j = i
    · by_cases z2 : m = i
      · rw [z, z2]
      · simp only [z, if_true, z2, if_false, List.mem_cons, List.not_mem_nil, or_false] at e1 e2
        exact absurd e1 fun z => (h2 m b e2).2 (by simp [z])
    · by_cases z2 : m = i
      · simp only [z, if_false, z2, if_true, List.mem_cons, List.not_mem_nil, or_false] at e1 e2
        exact absurd e2 fun z => (h2 j b e1).2 (by simp [z])
      · simp only [z, z2, if_false] at e1 e2; exact h1 j m b e1 e2
  · by_cases z : j = i
    · simp only [z, if_true, List.mem_cons, List.not_mem_nil, or_false] at e1
      subst e1; exact ⟨.inr h0, hx⟩
    · simp only [z, if_false] at e1; exact ⟨(h2 j b e1).1, fun q => (h2 j b e1).2 (List.mem_cons_of_mem _ q)⟩
  · by_cases z : j = i
    · subst z
      by_cases hl : j < E.length
      · rw [List.getElem?_set_self hl] at e
        cases e
        simp only [if_true]
        exact RelS.ofMut p.isMut (by rw [List.getElem?_set_self (l ▸ hl)]) p
      · rw [List.getElem?_eq_none (by simpa using hl)] at e; cases e
    · rw [List.getElem?_set_ne (Ne.symm z)] at e
      rw [List.getElem?_set_ne (Ne.symm z)]
      simp only [z, if_false]; exact h3 j s e
theorem RelX.setL {i : Nat} {xs : List D} {a : Addr} {vs : List V} (r : RelX K G (a :: ex) H E σ) (hx : a ∉ ex) (hi : i ∉ G.slots) (h0 : G.H0 a = none) (ha : H a = some (.lst vs)) (p : RpL K H xs vs) : RelX K G ex H (E.set i (.ol xs)) (σ.set i (some (.ref a))) :=
  r.setM hx hi h0 (s0 := .ol xs) ⟨vs, ha, p⟩
/-- a mutable thing of one's own changes -/
theorem RelX.putM {i : Nat} {s0 s1 : S} {a : Addr} {u : HO} (r : RelX K G ex H E σ) (e : E[i]? = some s0) (m0 : s0.isMut = true) (hs : σ[i]? = some (some (.ref a))) (p : RelM K (upd H a u) s1 a) : RelX K G ex (upd H a u) (E.set i s1) σ := by
  obtain ⟨l, k, pn, dm, x0, A, h1, h2, h3⟩ := r
  obtain ⟨b, e1, e2, e3⟩ := (h3 i _ e).mut m0
  rw [hs] at e2
  have e2' : a = b := by injection e2 with z; injection z with z; injection z
  subst e2'
  obtain ⟨u0, g1, g2, g3⟩ := e3.soft
  have x : Ext H (upd H a u) := Ext.putS g1 g2 g3
  have own := h2 i a (by rw [e1]; simp)
  have hl : i < E.length := by
    rcases Nat.lt_or_ge i E.length with z | z
    · exact z
    · rw [List.getElem?_eq_none z] at e; cases e
  refine ⟨by simpa using l, fun q o he ne => ?_, pn, fun q hq => ?_, x0.trans x, A, h1, h2, fun j s he => ?_⟩
  · have : q ≠ a := by
      rintro rfl
      rcases own.1 with z | z
      · exact ne z
      · rw [z] at he; cases he
    rw [upd_ne this]; exact k q o he ne
  · by_cases z : q = a
    · subst z; rw [upd_same]; simp
    · rw [upd_ne z]; exact dm q hq
  · by_cases z : j = i
    · subst z
      rw [List.getElem?_set_self hl] at he
      cases he
      rw [e1]
      exact RelS.ofMut p.isMut hs p
    · rw [List.getElem?_set_ne (Ne.symm z)] at he
      exact (h3 j s he).move x fun c hc => upd_ne fun zz => z (h1 j i c hc (by rw [e1, zz]; simp))
/-- a list of one's own changes -/
theorem RelX.putL {i : Nat} {xs ys : List D} {a : Addr} {us : List V} (r : RelX K G ex H E σ) (e : E[i]? = some (.ol xs)) (hs : σ[i]? = some (some (.ref a))) (p : RpL K H ys us) : RelX K G ex (upd H a (.lst us)) (E.set i (.ol ys)) σ := by
  have x : Ext H (upd H a (.lst us)) := by
    obtain ⟨l, k, pn, dm, x0, A, h1, h2, h3⟩ := r
    obtain ⟨b, e1, e2, vs, e3, e4⟩ := h3 i _ e
    rw [hs] at e2
    have e2' : a = b := by injection e2 with z; injection z with z; injection z
    subst e2'; exact Ext.put e3
  exact r.putM e rfl hs (s1 := .ol ys) ⟨us, upd_same, p.ext x⟩
/-- a new object is apart from all -/
theorem RelX.fresh {p : Addr} {o : HO} (r : RelE K G H E σ) (hp : H p = none) : RelX K G [p] (upd H p o) E σ ∧ G.H0 p = none ∧ p ∉ G.addrs := by
  have px : PExt H (upd H p o) := PExt.new hp
  have r' := r.pext px
  obtain ⟨l, k, pn, dm, x0, A, h1, h2, h3⟩ := r'
  obtain ⟨_, k0, _, dm0, _, A0, g1, g2, g3⟩ := r
  have na : p ∉ G.addrs := fun z => dm0 p z hp
  refine ⟨⟨l, k, pn, dm, x0, fun i => if E[i]? = none then [] else A0 i, fun i j a e1 e2 => ?_, fun i a e => ?_, fun i s e => ?_⟩, ?_, na⟩
  · dsimp only at e1 e2
    split at e1
    · cases e1
    · split at e2
      · cases e2
      · exact g1 i j a e1 e2
  · dsimp only at e
    split at e
    · cases e
    · rename_i hE
      refine ⟨(g2 i a e).1, ?_⟩
      cases q : E[i]? with
      | none => exact absurd q hE
      | some s =>
        obtain ⟨u, hvs, _⟩ := (g3 i s q).indom a e
        simp only [List.mem_cons, List.not_mem_nil, or_false]
        rintro rfl
        rw [hp] at hvs; cases hvs
  · have : E[i]? ≠ none := by rw [e]; simp
    simp only [this, if_false]
    exact (g3 i s e).pext px
  · cases q : G.H0 p with
    | none => rfl
    | some o' => have := k0 p o' q na; rw [hp] at this; cases this
/-- a thing that nobody else has is frozen -/
theorem RelX.freezeS {a : Addr} {u u' : HO} (r : RelX K G [a] H E σ) (h0 : G.H0 a = none) (na : a ∉ G.addrs) (ha : H a = some u) (s1 : ∀ xs, u ≠ .tup xs) (s2 : ∀ o v, u ≠ .frz o v) : RelE K G (upd H a u') E σ := by
  have x : Ext H (upd H a u') := Ext.putS ha s1 s2
  obtain ⟨l, k, pn, dm, x0, A, h1, h2, h3⟩ := r
  refine ⟨l, fun q u he ne => ?_, pn, fun q hq => ?_, x0.trans x, fun i => if E[i]? = none then [] else A i, fun i j b e1 e2 => ?_, fun i b e => ?_, fun i s e => ?_⟩
  · have : q ≠ a := by rintro rfl; rw [h0] at he; cases he
    rw [upd_ne this]; exact k q u he ne
  · have : q ≠ a := by rintro rfl; exact na hq
    rw [upd_ne this]; exact dm q hq
  · dsimp only at e1 e2
    split at e1
    · cases e1
    · split at e2
      · cases e2
      · exact h1 i j b e1 e2
  · dsimp only at e
    split at e
    · cases e
    · exact ⟨(h2 i b e).1, by simp⟩
  · have : E[i]? ≠ none := by rw [e]; simp
    simp only [this, if_false]
    exact (h3 i s e).move x fun p hp => upd_ne (by rintro rfl; exact (h2 i p hp).2 (by simp))
/-- a list that nobody else has is frozen -/
theorem RelX.freeze {a : Addr} {vs : List V} {o : Obj} (r : RelX K G [a] H E σ) (h0 : G.H0 a = none) (na : a ∉ G.addrs) (ha : H a = some (.lst vs)) : RelE K G (upd H a (.frz o (.lst vs))) E σ :=
  r.freezeS h0 na ha (fun _ z => by cases z) (fun _ _ z => by cases z)
end

section
variable {X : Cx} {G : Gh} {a b c e : Expr} {es : List Expr} {pos : Pos}
/-! ### a new list is frozen: data -/
def tFz (t : TE) : TE := fun σ H Q => t σ H fun v H1 => ∃ a xs, v = .ref a ∧ H1 a = some (.lst xs) ∧ ∀ o, Q v (upd H1 a (.frz o (.lst xs)))
theorem PE.fz {t : TE} (h : PE X e t) : PE X e (tFz t) := ⟨fun pins s σ H Q I q => thn (h.run pins s σ H _ I q) fun u s1 ⟨v, H1, I1, r1, a, xs, e1, e2, q1⟩ => by
  obtain ⟨o, I2⟩ := I1.lock e2 trivial
  exact ⟨v, _, I2, r1, q1 o⟩⟩
def tFzD (t : TLd) : TD := fun E Q => t E fun xs E1 => Q (.list xs) E1
theorem EL.ed {t : TLd} (h : EL X G e t) : ED X G e (tFzD t) :=
  ⟨PE.weak (PE.fz h.pe) fun σ H Q ⟨E, QE, r, q, k⟩ => ⟨E, _, r, q, fun xs E1 a vs H1 q1 x1 r1 h0 na ha p1 => ⟨a, vs, rfl, ha, fun o =>
    k _ _ _ _ q1 (x1.trans (Ext.put ha)) (r1.freeze h0 na ha) (.lst (.of upd_same) (p1.ext (Ext.put ha)))⟩⟩⟩
/-- a list that is read now -/
theorem EL.er {t : TLd} (h : EL X G e t) : ER X G e (tFzD t) := h.ed.er

/-! ### displays -/
abbrev TDs := Env → (List D → Env → Prop) → Prop
def liftDs (K : PySem.W.Frag) (G : Gh) (t : TDs) : TA := fun σ H Q => ∃ (E : Env) (QE : List D → Env → Prop), RelE K G H E σ ∧ t E QE ∧ ∀ ds E' vs H', QE ds E' → Ext H H' → RelE K G H' E' σ → RpL K H' ds vs → Q vs H'
structure EDs (X : Cx) (G : Gh) (es : List Expr) (t : TDs) : Prop where
  pa : PA X es (liftDs X.K G t)
def dNil : TDs := fun E Q => Q [] E
def dCons (t : TD) (u : TDs) : TDs := fun E Q => t E fun x E1 => u E1 fun ds E2 => Q (x :: ds) E2
theorem eds_nil : EDs X G [] dNil := ⟨PA.weak pa_nil fun σ H Q ⟨E, QE, r, q, k⟩ => k _ _ _ _ q (Ext.refl _) r .nil⟩
theorem eds_cons {t : TD} {u : TDs} (h : ED X G e t) (hr : EDs X G es u) (hs : starEach (e :: es) X.env = (false, eval e X.env) :: starEach es X.env := by rfl) : EDs X G (e :: es) (dCons t u) :=
  ⟨PA.weak (pa_cons h.pe hr.pa hs) fun σ H Q ⟨E, QE, r, q, k⟩ => ⟨E, _, r, q, fun x E1 v H1 q1 x1 r1 p1 => ⟨E1, _, r1, q1, fun as E2 vs H2 q2 x2 r2 p2 => k _ _ _ _ q2 (x1.trans x2) r2 (.cons (p1.ext x2) p2)⟩⟩⟩
/-- a tuple of written items: the new object is plain -/
theorem pe_tupF {x1 : Nat} {t : TA} (h : PA X es t) : PE X (.Tuple es x1 pos) (fun σ H Q => t σ H fun xs H1 => xs.length ≤ sizeLine ∧ ∀ p o, H1 p = none → o.dict = none → Q (.ref p) (upd H1 p (.frz o (.tup xs)))) :=
  ⟨fun pins s σ H Q I hq => wpAny_Tuple_spliced (thn (h.run pos pins s σ H _ I hq) fun us s1 ⟨xs, H1, I1, r, z, q⟩ => ⟨by rw [← r.length]; exact z,
    ⟨.ref s1.heap.objs.size, upd H1 s1.heap.objs.size (.frz { cls := .type "tuple", data := .seq us.toArray } (.tup xs)), I1.laid (t' := s1.toks) (fun b u e => Heap.get?_push_of_some _ e) (Nat.le_refl _) ⟨Heap.get?_push_size _ rfl, z, us, r, ⟨_, Heap.get?_push_size _ rfl, rfl, _, rfl⟩⟩, rfl, q _ _ (I1.hok.fresh (Nat.le_refl _)) rfl⟩⟩)⟩
def tTupD (t : TDs) : TD := fun E Q => t E fun ds E1 => ds.length ≤ sizeLine ∧ Q (.tuple ds) E1
theorem ed_tup {x1} {t : TDs} (h : EDs X G es t) : ED X G (.Tuple es x1 pos) (tTupD t) :=
  ⟨PE.weak (pe_tupF h.pa) fun σ H Q ⟨E, QE, r, q, k⟩ => ⟨E, _, r, q, fun ds E1 vs H1 q1 x1 r1 p1 => ⟨by rw [← p1.length]; exact q1.1, fun p o hp ho =>
    k _ _ _ _ q1.2 (x1.trans (PExt.new hp).ext) (r1.pext (PExt.new hp)) (.tup (.new ho) (p1.ext (PExt.new hp).ext))⟩⟩⟩
def tLstD (t : TDs) : TLd := fun E Q => t E fun ds E1 => ds.length ≤ sizeLine ∧ Q ds E1
theorem el_lst {t : TDs} (h : EDs X G es t) : EL X G (.List es pos) (tLstD t) :=
  ⟨PE.weak (pe_lst h.pa) fun σ H Q ⟨E, QE, r, q, k⟩ => ⟨E, _, r, q, fun ds E1 vs H1 q1 x1 r1 p1 => ⟨by rw [← p1.length]; exact q1.1, fun p hp => by
    obtain ⟨r2, h0, na⟩ := r1.fresh (o := .lst vs) hp
    exact k _ _ _ _ _ q1.2 (x1.trans (PExt.new hp).ext) r2 h0 na upd_same (p1.ext (PExt.new hp).ext)⟩⟩⟩

/-! ### assignments -/
def sSet (i : Nat) (t : TD) : TSd := fun DE E => t E fun d E1 => DE.nx (E1.set i (.d d))
theorem sd_set {i : Nat} {x : Str} {pos' : Pos} {t : TD} (hi : i ∉ G.slots) (hN : X.N.Nodup) (hx : X.N[i]? = some x) (hl : Loc X.env.scope x) (h : ED X G e t) (hs : swapsWith e (some (.Name x pos')) pos.line X.env = pure false := by rfl)
    (hf : X.fn x = true ∨ X.env.scope.names.lookup x = some .local := by first | exact .inl rfl | exact .inr rfl | assumption) : SD X G (.Assign [.Name x pos'] e pos) (sSet i t) :=
  ⟨PS.weak (ps_set hN hx hl h.pe hs hf) fun F σ H ⟨E, DE, r, q, k1, k2, k3, k4⟩ => ⟨E, _, r, q, fun d E1 v H1 q1 x1 r1 p1 => k1 _ _ _ q1 x1 (r1.setD hi p1)⟩⟩
def sSetL (i : Nat) (t : TLd) : TSd := fun DE E => t E fun d E1 => DE.nx (E1.set i (.ol d))
theorem sd_setL {i : Nat} {x : Str} {pos' : Pos} {t : TLd} (hi : i ∉ G.slots) (hN : X.N.Nodup) (hx : X.N[i]? = some x) (hl : Loc X.env.scope x) (h : EL X G e t) (hs : swapsWith e (some (.Name x pos')) pos.line X.env = pure false := by rfl)
    (hf : X.fn x = true ∨ X.env.scope.names.lookup x = some .local := by first | exact .inl rfl | exact .inr rfl | assumption) : SD X G (.Assign [.Name x pos'] e pos) (sSetL i t) :=
  ⟨PS.weak (ps_set hN hx hl h.pe hs hf) fun F σ H ⟨E, DE, r, q, k1, k2, k3, k4⟩ => ⟨E, _, r, q, fun d E1 a vs H1 q1 x1 r1 h0 na ha p1 => k1 _ _ _ q1 x1 (r1.setL (by simp) hi h0 ha p1)⟩⟩
/-! targets: ms the slots that they change -/
theorem wipe_setIn {σ : St} {i : Nat} {o : Option V} : ∀ {ms : List Nat}, i ∈ ms → wipe (σ.set i o) ms = wipe σ ms
  | m :: ms, h => by
    show (wipe (σ.set i o) ms).set m none = (wipe σ ms).set m none
    by_cases hi : i ∈ ms
    · rw [wipe_setIn hi]
    · have hm : i = m := by rcases List.mem_cons.mp h with z | z; exact z; exact absurd z hi
      subst hm
      have : ∀ (l : List Nat), i ∉ l → wipe (σ.set i o) l = (wipe σ l).set i o := by
        intro l
        induction l with
        | nil => intro _; rfl
        | cons k l ih =>
          intro hk
          show (wipe (σ.set i o) l).set k none = ((wipe σ l).set k none).set i o
          rw [ih (fun z => hk (List.mem_cons_of_mem _ z)), List.set_comm _ _ (fun z => hk (by simp [z]))]
      rw [this ms hi, List.set_set]
abbrev TGd := D → Env → (Env → Prop) → Prop
def liftG (W : Bool) (K : PySem.W.Frag) (G : Gh) (ms : List Nat) (t : TGd) : TG := fun v σ H Q => ∃ (E : Env) (d : D) (QE : Env → Prop), RelE K G H E σ ∧ RpB W K H d v ∧ t d E QE ∧ ∀ E' σ' H', QE E' → Ext H H' → RelE K G H' E' σ' → wipe σ' ms = wipe σ ms → Q σ' H'
structure GD (X : Cx) (G : Gh) (W : Bool) (ms : List Nat) (tg : Expr) (t : TGd) : Prop where
  pg : PG X tg (liftG W X.K G ms t)
theorem PG.weak {tg : Expr} {t u : TG} (h : PG X tg t) (w : ∀ v σ H Q, u v σ H Q → t v σ H Q) : PG X tg u := ⟨fun pins s σ H v x Q I r q => h.run pins s σ H v x Q I r (w v σ H Q q)⟩
def gSet (i : Nat) : TGd := fun d E Q => Q (E.set i (.d d))
theorem gd_name {i : Nat} {x : Str} {ms : List Nat} (hi : i ∉ G.slots) (hm : i ∈ ms) (hN : X.N.Nodup) (hx : X.N[i]? = some x) (hl : Loc X.env.scope x) (hf : X.fn x = true ∨ X.env.scope.names.lookup x = some .local := by first | exact .inl rfl | exact .inr rfl | assumption) : GD X G false ms (.Name x pos) (gSet i) :=
  ⟨PG.weak (pg_name hN hx hl hf) fun v σ H Q ⟨E, d, QE, r, p, q, k⟩ => k _ _ _ q (Ext.refl _) (r.setD hi p) (wipe_setIn hm)⟩
abbrev TGsd := List D → Env → (Env → Prop) → Prop
def liftGs (K : PySem.W.Frag) (G : Gh) (ms : List Nat) (t : TGsd) : TGs := fun vs σ H Q => ∃ (E : Env) (ds : List D) (QE : Env → Prop), RelE K G H E σ ∧ RpL K H ds vs ∧ t ds E QE ∧ ∀ E' σ' H', QE E' → Ext H H' → RelE K G H' E' σ' → wipe σ' ms = wipe σ ms → Q σ' H'
structure GDs (X : Cx) (G : Gh) (ms : List Nat) (tgs : List Expr) (t : TGsd) : Prop where
  pg : PGs X tgs (liftGs X.K G ms t)
theorem PGs.weak {tgs : List Expr} {t u : TGs} (h : PGs X tgs t) (w : ∀ v σ H Q, u v σ H Q → t v σ H Q) : PGs X tgs u := ⟨fun pins s σ H v x Q I r q => h.run pins s σ H v x Q I r (w v σ H Q q)⟩
def gsNil : TGsd := fun ds E Q => match ds with
  | [] => Q E
  | _ => False
def gsCons (t : TGd) (u : TGsd) : TGsd := fun ds E Q => match ds with
  | d :: r => t d E fun E1 => u r E1 Q
  | _ => False
theorem gds_nil {ms : List Nat} : GDs X G ms [] gsNil := ⟨PGs.weak pgs_nil fun vs σ H Q ⟨E, ds, QE, r, p, q, k⟩ => by
  cases p with
  | nil => exact ⟨rfl, k _ _ _ q (Ext.refl _) r rfl⟩
  | cons _ _ => exact q.elim⟩
theorem gds_cons {ms : List Nat} {t : TGd} {u : TGsd} (h1 : GD X G false ms e t) (h2 : GDs X G ms es u) (hs : (assignEach (e :: es) X.env).map (·.2) = assign e X.env :: (assignEach es X.env).map (·.2) := by rfl) : GDs X G ms (e :: es) (gsCons t u) := ⟨PGs.weak (pgs_cons h1.pg h2.pg hs) fun vs σ H Q ⟨E, ds, QE, r, p, q, k⟩ => by
  cases p with
  | nil => exact q.elim
  | cons p1 p2 => exact ⟨_, _, rfl, E, _, _, r, .of p1, q, fun E1 σ1 H1 q1 x1 r1 w1 => ⟨E1, _, QE, r1, p2.ext x1, q1, fun E2 σ2 H2 q2 x2 r2 w2 => k _ _ _ q2 (x1.trans x2) r2 (w2.trans w1)⟩⟩⟩
/-- a tuple of targets: n of them -/
def gTupD (n : Nat) (u : TGsd) : TGd := fun d E Q => match d with
  | .tuple ds => ds.length = n ∧ u ds E Q
  | _ => False
theorem gd_tup {W : Bool} {ms : List Nat} {k n : Nat} {u : TGsd} (hc : X.calm = true) (h : GDs X G ms es u) (hn : (assignEach es X.env).length = n := by rfl) (hst : (assignEach es X.env).findIdx? (·.1) = none := by rfl) : GD X G W ms (.Tuple es k pos) (gTupD n u) :=
  ⟨PG.weak (pg_tup hc h.pg hn hst) fun v σ H Q ⟨E, d, QE, r, p, q, k⟩ => by
    have strong : Rp X.K H d v → gTup X.K n (liftGs X.K G ms u) v σ H Q := fun p => by
      cases p with
      | tup hs l => exact ⟨_, _, rfl, hs.1, by rw [← l.length]; exact q.1, E, _, QE, r, l, q.2, k⟩
      | _ => exact q.elim
    unfold RpB at p
    split at p
    · rcases p with p | ⟨ds, a, vs, rfl, rfl, hs, l⟩
      · exact strong p
      · exact ⟨_, _, rfl, hs, by rw [← l.length]; exact q.1, E, _, QE, r, l, q.2, k⟩
    · exact strong p⟩
/-- targets = e -/
def sAsg (t : TD) (g : TGd) : TSd := fun DE E => t E fun d E1 => g d E1 DE.nx
theorem sd_asg {ms : List Nat} {tg : Expr} {t : TD} {g : TGd} (h : ED X G e t) (hg : GD X G false ms tg g) (hs : swapsWithSole [tg] e pos.line X.env = pure false := by rfl) (hw : swappedStores [tg] e X.env = pure none := by rfl)
    (ha : (assignEach [tg] X.env).map (·.2) = [assign tg X.env] := by rfl) : SD X G (.Assign [tg] e pos) (sAsg t g) :=
  ⟨PS.weak (ps_asg h.pe hg.pg hs hw ha) fun F σ H ⟨E, DE, r, q, k1, k2, k3, k4⟩ => ⟨E, _, r, q, fun d E1 v H1 q1 x1 r1 p1 => ⟨E1, d, DE.nx, r1, .of p1, q1, fun E2 σ2 H2 q2 x2 r2 _ => k1 _ _ _ q2 (x1.trans x2) r2⟩⟩⟩
end
end DL

set_option Elab.async false
set_option linter.all false
set_option maxRecDepth 100000
namespace DL
open PySem PySem.Spec PyProof.Rows L2

/-! ### a thing that nobody else has, kept while something else runs -/
def pend (G : Gh) (a : Addr) (o : HO) : Gh := { H0 := upd G.H0 a o, own := G.own, X0 := G.X0, more := G.more }
section
variable {K : PySem.W.Frag} {G : Gh} {H H' : Hp} {E : Env} {σ : St} {ex : List Addr}
theorem RelX.toPend {a : Addr} {o : HO} (r : RelX K G (a :: ex) H E σ) (ha : H a = some o) (na : a ∉ G.addrs) : RelX K (pend G a o) ex H E σ := by
  obtain ⟨l, k, pn, dm, x0, A, h1, h2, h3⟩ := r
  refine ⟨l, fun p u e ne => ?_, pn, dm, x0, A, h1, fun i b e => ⟨?_, fun q => (h2 i b e).2 (List.mem_cons_of_mem _ q)⟩, h3⟩
  · by_cases z : p = a
    · subst z
      have : (pend G p o).H0 p = some o := upd_same
      rw [this] at e; cases e; exact ha
    · have e' : G.H0 p = some u := by
        have : (pend G a o).H0 p = G.H0 p := upd_ne z
        rw [this] at e; exact e
      exact k p u e' ne
  · have hb := h2 i b e
    have z : b ≠ a := by intro z; exact hb.2 (by simp [z])
    rcases hb.1 with q | q
    · exact .inl q
    · exact .inr (by show upd G.H0 a o b = none; rw [upd_ne z]; exact q)
theorem RelX.ofPend {a : Addr} {o : HO} (r : RelX K (pend G a o) ex H E σ) (h0 : G.H0 a = none) (na : a ∉ G.addrs) : RelX K G (a :: ex) H E σ ∧ H a = some o := by
  obtain ⟨l, k, pn, dm, x0, A, h1, h2, h3⟩ := r
  refine ⟨⟨l, fun p u e ne => ?_, pn, dm, x0, A, h1, fun i b e => ?_, h3⟩, ?_⟩
  · have z : p ≠ a := by rintro rfl; rw [h0] at e; cases e
    exact k p u (by show upd G.H0 a o p = some u; rw [upd_ne z]; exact e) ne
  · have hb := (h2 i b e).1
    have z : b ≠ a := by
      rintro rfl
      rcases hb with q | q
      · exact na q
      · have : upd G.H0 b o b = none := q
        rw [upd_same] at this; cases this
    refine ⟨?_, fun q => by
      rcases List.mem_cons.mp q with q | q
      · exact z q
      · exact (h2 i b e).2 q⟩
    rcases hb with q | q
    · exact .inl q
    · exact .inr (by have : upd G.H0 a o b = none := q; rw [upd_ne z] at this; exact this)
  · exact k a o upd_same na
end

/-! ### what is walked -/
structure WalkD (W : Bool) (K : PySem.W.Frag) (J : It) (H0 : Hp) (ds : List D) : Prop where
  goes : ∀ i H, Ext H0 H → i < ds.length → J.go i H
  yld : ∀ i H x H', Ext H0 H → i < ds.length → J.yld i H x H' → PExt H H' ∧ ∃ d, ds[i]? = some d ∧ RpB W K H' d x
  stops : ∀ H, Ext H0 H → J.stop ds.length H
def liftI (W : Bool) (K : PySem.W.Frag) (G : Gh) (t : TDs) : TI := fun σ H R => ∃ (E : Env) (QE : List D → Env → Prop), RelE K G H E σ ∧ t E QE ∧ ∀ ds E' J H', QE ds E' → Ext H H' → RelE K G H' E' σ → WalkD W K J H' ds → R J H'
structure ID (X : Cx) (G : Gh) (W : Bool) (tg iter : Expr) (t : TDs) : Prop where
  pi : PI X tg iter (liftI W X.K G t)
theorem PI.weak {X : Cx} {tg iter : Expr} {t u : TI} (h : PI X tg iter t) (w : ∀ σ H R, u σ H R → t σ H R) : PI X tg iter u := ⟨fun pins s σ H R I q => h.run pins s σ H R I (w σ H R q)⟩

section
variable {X : Cx} {G : Gh} {tg iter e : Expr} {pos : Pos}
/-- over data that is a tuple -/
def iTupD (t : TD) : TDs := fun E Q => t E fun d E1 => match d with
  | .tuple ds => Q ds E1
  | _ => False
def iLstD (t : TD) : TDs := fun E Q => t E fun d E1 => match d with
  | .list ds => Q ds E1
  | _ => False
theorem walkD_tup {K : PySem.W.Frag} {H : Hp} {a : Addr} {vs : List V} {ds : List D} (h : SqT K H a vs) (l : RpL K H ds vs) : WalkD false K (Itt K a) H ds where
  goes := fun i H' x hi => by
    rw [l.length] at hi
    exact ⟨vs, vs[i], SqT.ext x h, List.getElem?_eq_getElem hi⟩
  yld := fun i H' v H2 x hi hy => by
    obtain ⟨e1, e2⟩ := hy
    subst e1
    have hv := e2 vs (SqT.ext x h)
    obtain ⟨d, hd, p⟩ := l.getV hv
    exact ⟨PExt.refl _, d, hd, p.ext x⟩
  stops := fun H' x => ⟨vs, SqT.ext x h, by rw [l.length]; exact Nat.le_refl _⟩
theorem walkD_lst {K : PySem.W.Frag} {H : Hp} {a : Addr} {vs : List V} {ds : List D} (h : LsF K H a vs) (l : RpL K H ds vs) : WalkD false K (Itl K a) H ds where
  goes := fun i H' x hi => by
    rw [l.length] at hi
    exact ⟨vs, vs[i], (LsF.ext x h).sq, List.getElem?_eq_getElem hi⟩
  yld := fun i H' v H2 x hi hy => by
    obtain ⟨e1, e2⟩ := hy
    subst e1
    have hv := e2 vs ((LsF.ext x h).sq)
    obtain ⟨d, hd, p⟩ := l.getV hv
    exact ⟨PExt.refl _, d, hd, p.ext x⟩
  stops := fun H' x => ⟨vs, (LsF.ext x h).sq, by rw [l.length]; exact Nat.le_refl _⟩
theorem id_tup {t : TD} (h : ED X G iter t) : ID X G false tg iter (iTupD t) :=
  ⟨PI.weak (pi_tup h.pe) fun σ H R ⟨E, QE, r, q, k⟩ => ⟨E, _, r, q, fun d E1 v H1 q1 x1 r1 p1 => by
    cases p1 with
    | tup hs l => exact ⟨_, rfl, ⟨_, hs.1⟩, k _ _ _ _ q1 x1 r1 (walkD_tup hs.1 l)⟩
    | _ => exact q1.elim⟩⟩
theorem id_lst {t : TD} (h : ED X G iter t) : ID X G false tg iter (iLstD t) :=
  ⟨PI.weak (pi_list h.pe) fun σ H R ⟨E, QE, r, q, k⟩ => ⟨E, _, r, q, fun d E1 v H1 q1 x1 r1 p1 => by
    cases p1 with
    | lst hs l => exact ⟨_, rfl, ⟨_, hs.sq⟩, k _ _ _ _ q1 x1 r1 (walkD_lst hs l)⟩
    | _ => exact q1.elim⟩⟩
/-! ranges -/
def rangeD (lo : Int) (n : Nat) : List D := (List.range n).map fun i : Nat => PyData.int (lo + (i : Int))
theorem rangeD_length (lo : Int) (n : Nat) : (rangeD lo n).length = n := by simp [rangeD]
theorem rangeD_get {lo : Int} {n i : Nat} (h : i < n) : (rangeD lo n)[i]? = some (.int (lo + (i : Int))) := by
  simp [rangeD, h]
theorem walkD_range {K : PySem.W.Frag} {H : Hp} {lo : Int} {n : Nat} : WalkD false K (Itr lo n) H (rangeD lo n) where
  goes := fun i H' x hi => by rw [rangeD_length] at hi; exact hi
  yld := fun i H' v H2 x hi hy => by
    obtain ⟨rfl, rfl⟩ := hy
    rw [rangeD_length] at hi
    exact ⟨PExt.refl _, _, rangeD_get hi, .int _⟩
  stops := fun H' x => by rw [rangeD_length]; exact Nat.le_refl _
def iRange1 (t : TD) : TDs := fun E Q => t E fun d E1 => match d with
  | .int j => (-(2 ^ 62) ≤ j ∧ j < 2 ^ 62) ∧ Q (rangeD 0 j.toNat) E1
  | _ => False
theorem id_range1 {a : Expr} {t : TD} {p : Pos} (hg : Gl X "range") (hm : X.mg "range" = none) (h : ED X G a t) (hs : starEach [a] X.env = [(false, eval a X.env)] := by rfl) : ID X G false tg (.Call (.Name "range" p) [a] [] pos) (iRange1 t) :=
  ⟨PI.weak (pi_range1 hg hm (pa_cons h.pe pa_nil hs) hs) fun σ H R ⟨E, QE, r, q, k⟩ => ⟨E, _, r, q, fun d E1 v H1 q1 x1 r1 p1 => by
    cases p1 with
    | int i => exact ⟨i, rfl, q1.1.1, q1.1.2, k _ _ _ _ q1.2 x1 r1 walkD_range⟩
    | _ => exact q1.elim⟩⟩
def iRange2 (t u : TD) : TDs := fun E Q => t E fun d E1 => u E1 fun f E2 => match d, f with
  | .int i, .int j => (-(2 ^ 62) ≤ i ∧ i < 2 ^ 62 ∧ -(2 ^ 62) ≤ j ∧ j < 2 ^ 62) ∧ Q (rangeD i (j - i).toNat) E2
  | _, _ => False
theorem id_range2 {a b : Expr} {t u : TD} {p : Pos} (hg : Gl X "range") (hm : X.mg "range" = none) (h : ED X G a t) (hb : ED X G b u) (hs : starEach [a, b] X.env = [(false, eval a X.env), (false, eval b X.env)] := by rfl) (hs2 : starEach [b] X.env = [(false, eval b X.env)] := by rfl) :
    ID X G false tg (.Call (.Name "range" p) [a, b] [] pos) (iRange2 t u) :=
  ⟨PI.weak (pi_range2 hg hm (pa_cons h.pe (pa_cons hb.pe pa_nil hs2) (by rw [hs, hs2])) hs hs2) fun σ H R ⟨E, QE, r, q, k⟩ => ⟨E, _, r, q, fun d E1 v H1 q1 x1 r1 p1 => ⟨E1, _, r1, q1, fun f E2 u H2 q2 x2 r2 p2 => by
    cases p1 with
    | int i =>
      cases p2 with
      | int j => exact ⟨i, j, rfl, q2.1, k _ _ _ _ q2.2 (x1.trans x2) r2 walkD_range⟩
      | _ => exact q2.elim
    | _ => cases p2 <;> exact q2.elim⟩⟩⟩

/-! ### for -/
def forD (g : TGd) (tb : TSd) : List D → TSd
  | [] => fun DE E => DE.nx E
  | d :: ds => fun DE E => g d E fun E1 => tb { DE with nx := forD g tb ds DE, ct := forD g tb ds DE, bk := DE.nx } E1
def sFor (ti : TDs) (g : TGd) (tb : TSd) : TSd := fun DE E => ti E fun ds E1 => forD g tb ds DE E1
theorem sd_for {W : Bool} {body : List Stmt} {ti : TDs} {g : TGd} {tb : TSd} (hp : PassesOwn (model X.prog X.w) X.A X.env X.xe) (hc : X.calm = true) (hi : ID X G W tg iter ti) {ms : List Nat} (hg : GD X G W ms tg g) (hb : SDs X G body tb)
    (hs : ∀ x, foldedSetIterable iter X.env x = pure x := by intro _; rfl) : SD X G (.For tg iter body [] pos) (sFor ti g tb) := by
  refine ⟨PS.weak (ps_for hp hc hi.pi hg.pg hb.pss hs) fun F σ H ⟨E, DE, r, q, k1, k2, k3, k4⟩ => ⟨E, _, r, q, fun ds E1 J H1 q1 x1 r1 wk => ?_⟩⟩
  refine ⟨fun i m σ' H' => ∃ E', i + m = ds.length ∧ Ext H1 H' ∧ RelE X.K G H' E' σ' ∧ forD g tb (ds.drop i) DE E', ⟨ds.length, E1, by omega, Ext.refl _, r1, q1⟩, fun i m σ2 H2 hW => ?_⟩
  obtain ⟨E2, hm, x2, r2, q2⟩ := hW
  by_cases hi : i < ds.length
  · obtain ⟨d, hd⟩ : ∃ d, ds[i]? = some d := ⟨ds[i], List.getElem?_eq_getElem hi⟩
    have hdr : ds.drop i = d :: ds.drop (i + 1) := by
      rw [List.drop_eq_getElem_cons hi]
      rw [List.getElem?_eq_getElem hi] at hd
      rw [Option.some.inj hd]
    rw [hdr] at q2
    refine .inr ⟨wk.goes i H2 x2 hi, fun σ' H' => ∃ E', Ext H1 H' ∧ RelE X.K G H' E' σ' ∧ forD g tb (ds.drop (i + 1)) DE E', fun σ' H' ⟨E', a1, a2, a3⟩ => ⟨m - 1, by omega, E', by omega, a1, a2, a3⟩, fun x H3 hy => ?_⟩
    obtain ⟨px, d', hd', p⟩ := wk.yld i H2 x H3 x2 hi hy
    rw [hd] at hd'; cases hd'
    refine ⟨E2, d, _, r2.pext px, p, q2, fun E4 σ4 H4 q4 x4 r4 _ => ?_⟩
    have xx : Ext H1 H4 := (x2.trans px.ext).trans x4
    refine ⟨E4, _, r4, q4, fun E5 σ5 H5 z x5 r5 => ⟨E5, xx.trans x5, r5, z⟩, fun d E5 v σ5 H5 z x5 r5 p5 => k2 d E5 v σ5 H5 z ((x1.trans xx).trans x5) r5 p5, fun E5 σ5 H5 z x5 r5 => k1 E5 σ5 H5 z ((x1.trans xx).trans x5) r5, fun E5 σ5 H5 z x5 r5 => ⟨E5, xx.trans x5, r5, z⟩⟩
  · have e0 : ds.drop i = [] := List.drop_eq_nil_of_le (by omega)
    have ei : i = ds.length := by omega
    rw [e0] at q2
    refine .inl ⟨by rw [ei]; exact wk.stops H2 x2, k1 _ _ _ q2 (x1.trans x2) r2⟩

/-! ### while -/
def sWhile (c : TTd) (tb : TSd) : TSd := fun DE E => ∃ W : Nat → Env → Prop, (∃ m, W m E) ∧ ∀ m E, W m E → c E fun b E1 =>
  if b = true then tb { DE with nx := fun E' => ∃ m', m' < m ∧ W m' E', ct := fun E' => ∃ m', m' < m ∧ W m' E', bk := DE.nx } E1 else DE.nx E1
theorem sd_while {c : Expr} {body : List Stmt} {tc : TTd} {tb : TSd} (hp : PassesOwn (model X.prog X.w) X.A X.env X.xe) (hc : EB X G c tc) (hb : SDs X G body tb) : SD X G (.While c body [] pos) (sWhile tc tb) := by
  refine ⟨PS.weak (ps_while hp hc.pt hb.pss) fun F σ H ⟨E, DE, r, ⟨W, ⟨m0, w0⟩, turn⟩, k1, k2, k3, k4⟩ => ?_⟩
  refine ⟨fun m σ' H' => ∃ E', Ext H H' ∧ RelE X.K G H' E' σ' ∧ W m E', ⟨m0, E, Ext.refl _, r, w0⟩, fun m σ1 H1 ⟨E1, x1, r1, w1⟩ => ⟨E1, _, r1, turn m E1 w1, fun b E2 H2 q2 x2 r2 => ?_⟩⟩
  have xx := x1.trans x2
  cases b with
  | true =>
    rw [if_pos rfl] at q2
    refine iteT ?_
    refine ⟨fun σ' H' => ∃ E', Ext H H' ∧ RelE X.K G H' E' σ' ∧ ∃ m', m' < m ∧ W m' E', fun σ' H' ⟨E', a1, a2, m', a3, a4⟩ => ⟨m', a3, E', a1, a2, a4⟩, E2, _, r2, q2, fun E5 σ5 H5 z x5 r5 => ⟨E5, xx.trans x5, r5, z⟩, fun d E5 v σ5 H5 z x5 r5 p5 => k2 d E5 v σ5 H5 z (xx.trans x5) r5 p5, fun E5 σ5 H5 z x5 r5 => k1 E5 σ5 H5 z (xx.trans x5) r5, fun E5 σ5 H5 z x5 r5 => ⟨E5, xx.trans x5, r5, z⟩⟩
  | false =>
    rw [if_neg Bool.false_ne_true] at q2
    refine iteF ?_
    exact k1 _ _ _ q2 xx r2

/-! ### comprehensions -/
def wipeE (E : Env) : List Nat → Env
  | [] => E
  | v :: vs => (wipeE E vs).set v .un
def datOf : Option S → S
  | some (.d x) => .d x
  | _ => .un
/-- behind a comprehension: its own names are as they were -/
def restE (E0 E : Env) : List Nat → Env
  | [] => E
  | v :: vs => (restE E0 E vs).set v (datOf E0[v]?)
/-- one turn: an item, or none -/
def turnD (g : TGd) (tt : TTd) (te : TD) (d : D) (E : Env) (Q : Option D → Env → Prop) : Prop :=
  g d E fun E1 => tt E1 fun b E2 => if b = true then te E2 fun y E3 => Q (some y) E3 else Q none E2
def compD (g : TGd) (tt : TTd) (te : TD) (ms : List Nat) : List D → List D → Env → (List D → Env → Prop) → Prop
  | [], acc, E, Q => Q acc E
  | d :: ds, acc, E, Q => turnD g tt te d (wipeE E ms) fun o E' => match o with
    | some y => acc.length < sizeLine ∧ compD g tt te ms ds (acc ++ [y]) E' Q
    | none => compD g tt te ms ds acc E' Q
def tComp (ti : TDs) (g : TGd) (tt : TTd) (te : TD) (ms : List Nat) : TLd := fun E Q => ti E fun ds E1 => compD g tt te ms ds [] E1 fun xs E2 => Q xs (restE E1 E2 ms)
def tTrue : TTd := fun E Q => Q true E
structure EBs (X : Cx) (G : Gh) (ifs : List Expr) (t : TTd) : Prop where
  pt : PTs X ifs (liftT X.K G t)
theorem PTs.weak {ifs : List Expr} {t u : TT} (h : PTs X ifs t) (w : ∀ σ H Q, u σ H Q → t σ H Q) : PTs X ifs u := ⟨fun pins s σ H Q I q => h.run pins s σ H Q I (w σ H Q q)⟩
theorem ebs_nil : EBs X G [] tTrue := ⟨PTs.weak pts_nil fun σ H Q ⟨E, QE, r, q, k⟩ => k _ _ _ q (Ext.refl _) r⟩
theorem ebs_one {c : Expr} {t : TTd} (h : EB X G c t) : EBs X G [c] t := ⟨pts_one h.pt⟩
theorem RelX.wipe1 {K : PySem.W.Frag} {ex : List Addr} {H : Hp} {E : Env} {σ : St} {i : Nat} (r : RelX K G ex H E σ) (hi : i ∉ G.slots) : RelX K G ex H (E.set i .un) (σ.set i none) := by
  obtain ⟨l, k, pn, dm, x0, A, h1, h2, h3⟩ := r
  refine ⟨by simp [l], k, fun j a hj => ?_, dm, x0, fun j => if j = i then [] else A j, fun j m a e1 e2 => ?_, fun j a e1 => ?_, fun j s e => ?_⟩
  · have : i ≠ j := fun z => notin_slots hi a (z ▸ hj)
    rw [List.getElem?_set_ne this]; exact pn j a hj
  · by_cases z : j = i
    · simp [z] at e1
    · by_cases z2 : m = i
      · simp [z2] at e2
      · simp only [z, z2, if_false] at e1 e2; exact h1 j m a e1 e2
  · by_cases z : j = i
    · simp [z] at e1
    · simp only [z, if_false] at e1; exact h2 j a e1
  · by_cases z : j = i
    · subst z
      by_cases hl : j < E.length
      · rw [List.getElem?_set_self hl] at e
        cases e
        simp [RelS]
      · rw [List.getElem?_eq_none (by simpa using hl)] at e; cases e
    · rw [List.getElem?_set_ne (Ne.symm z)] at e
      rw [List.getElem?_set_ne (Ne.symm z)]
      simp only [z, if_false]; exact h3 j s e
theorem RelX.wipe {K : PySem.W.Frag} {ex : List Addr} {H : Hp} {E : Env} {σ : St} (r : RelX K G ex H E σ) : ∀ {ms : List Nat}, (∀ i ∈ ms, i ∉ G.slots) → RelX K G ex H (wipeE E ms) (wipe σ ms)
  | [], _ => r
  | i :: ms, h => (RelX.wipe r fun j hj => h j (List.mem_cons_of_mem _ hj)).wipe1 (h i (List.mem_cons_self ..))
theorem wipe_get {σ : St} {i : Nat} : ∀ {ms : List Nat}, i ∉ ms → (L2.wipe σ ms)[i]? = σ[i]?
  | [], _ => rfl
  | v :: vs, h => by
    show ((L2.wipe σ vs).set v none)[i]? = _
    rw [List.getElem?_set_ne (fun z => h (by simp [z])), wipe_get fun z => h (List.mem_cons_of_mem _ z)]
/-- behind a comprehension: the slots of before -/
theorem RelX.rest {K : PySem.W.Frag} {ex : List Addr} {H1 H : Hp} {E1 E : Env} {σ σ2 : St} {ms : List Nat} (r1 : RelE K G H1 E1 σ) (x : Ext H1 H) (r : RelX K G ex H E σ2) (hw : L2.wipe σ2 ms = L2.wipe σ ms) (hm : ∀ i ∈ ms, i ∉ G.slots) : RelX K G ex H (restE E1 E ms) σ := by
  have hl : σ2.length = σ.length := by rw [← wipe_length σ2 ms, hw, wipe_length]
  have rl : ∀ (l : List Nat), (restE E1 E l).length = E.length := by
    intro l
    induction l with
    | nil => rfl
    | cons v vs ih => show ((restE E1 E vs).set v _).length = _; rw [List.length_set, ih]
  have rg : ∀ (l : List Nat) (i : Nat), i ∉ l → (restE E1 E l)[i]? = E[i]? := by
    intro l
    induction l with
    | nil => intro i _; rfl
    | cons v vs ih => intro i h; show ((restE E1 E vs).set v _)[i]? = _; rw [List.getElem?_set_ne (fun z => h (by simp [z])), ih i fun z => h (List.mem_cons_of_mem _ z)]
  have rin : ∀ (l : List Nat) (i : Nat) (s : S), i ∈ l → (restE E1 E l)[i]? = some s → s = datOf E1[i]? := by
    intro l
    induction l with
    | nil => intro i s h; cases h
    | cons v vs ih =>
      intro i s h e
      have e : ((restE E1 E vs).set v (datOf E1[v]?))[i]? = some s := e
      by_cases z : v = i
      · subst z
        by_cases hv : v < (restE E1 E vs).length
        · rw [List.getElem?_set_self hv] at e; exact (Option.some.inj e).symm
        · rw [List.getElem?_eq_none (by simpa using hv)] at e; cases e
      · rw [List.getElem?_set_ne z] at e
        exact ih i s (by rcases List.mem_cons.mp h with q | q; exact absurd q.symm z; exact q) e
  obtain ⟨l, k, pn, dm, x0, A, h1, h2, h3⟩ := r
  have same : ∀ i, i ∉ ms → σ2[i]? = σ[i]? := fun i hi => by rw [← wipe_get (σ := σ2) hi, hw, wipe_get hi]
  refine ⟨by rw [rl, l, hl], k, fun i a ha => ?_, dm, x0, fun i => if i ∈ ms then [] else A i, fun i j a e1 e2 => ?_, fun i a e => ?_, fun i s e => ?_⟩
  · have : i ∉ ms := fun z => notin_slots (hm i z) a ha
    rw [← same i this]; exact pn i a ha
  · dsimp only at e1 e2
    split at e1
    · cases e1
    · split at e2
      · cases e2
      · exact h1 i j a e1 e2
  · dsimp only at e
    split at e
    · cases e
    · exact h2 i a e
  · by_cases hi : i ∈ ms
    · simp only [hi, if_true]
      have es := rin ms i s hi e
      subst es
      cases q : E1[i]? with
      | none => exact rfl
      | some s =>
        cases s with
        | d y =>
          obtain ⟨v, e1, p⟩ := r1.data q
          exact ⟨rfl, v, e1, p.ext x⟩
        | _ => exact rfl
    · simp only [hi, if_false]
      rw [rg ms i hi] at e
      rw [← same i hi]
      exact h3 i s e
abbrev anyG (W : Bool) (K : PySem.W.Frag) (G : Gh) (ms : List Nat) (g : TGd) : TG := fun v σ H Q => ∃ G' : Gh, G'.slots = G.slots ∧ liftG W K G' ms g v σ H Q
abbrev anyT (K : PySem.W.Frag) (G : Gh) (tt : TTd) : TT := fun σ H Q => ∃ G' : Gh, G'.slots = G.slots ∧ liftT K G' tt σ H Q
abbrev anyE (K : PySem.W.Frag) (G : Gh) (te : TD) : TE := fun σ H Q => ∃ G' : Gh, G'.slots = G.slots ∧ liftE K G' te σ H Q
theorem lift_comp {W : Bool} {ti : TDs} {g : TGd} {tt : TTd} {te : TD} {ms : List Nat} (hm : ∀ i ∈ ms, i ∉ G.slots) (σ : St) (H : Hp) (Q : VK) (h : liftL X.K G (tComp ti g tt te ms) σ H Q) : tLc (liftI W X.K G ti) (anyG W X.K G ms g) (anyT X.K G tt) (anyE X.K G te) ms σ H Q := by
  obtain ⟨E, QE, r, q, k⟩ := h
  refine ⟨E, _, r, q, fun ds E1 J H1 q1 x1 r1 wk L hL => ?_⟩
  obtain ⟨rL, h0, na⟩ := r1.fresh (o := .lst []) hL
  refine ⟨fun i m H' => ∃ (E' : Env) (σ' : St) (acc : List D) (vs : List V), i + m = ds.length ∧ Ext (upd H1 L (.lst [])) H' ∧ RelX X.K G [L] H' E' σ' ∧ L2.wipe σ' ms = L2.wipe σ ms ∧ H' L = some (.lst vs) ∧ RpL X.K H' acc vs ∧
    compD g tt te ms (ds.drop i) acc E' fun xs E2 => QE xs (restE E1 E2 ms), ⟨ds.length, E1, σ, [], [], by omega, Ext.refl _, rL, rfl, upd_same, .nil, q1⟩, fun i m H2 hW => ?_⟩
  obtain ⟨E2, σ2, acc, vs, hm2, x2, r2, w2, a2, p2, q2⟩ := hW
  have xL : Ext H1 H2 := (PExt.new hL).ext.trans x2
  by_cases hi : i < ds.length
  · obtain ⟨d, hd⟩ : ∃ d, ds[i]? = some d := ⟨ds[i], List.getElem?_eq_getElem hi⟩
    have hdr : ds.drop i = d :: ds.drop (i + 1) := by
      rw [List.drop_eq_getElem_cons hi]
      rw [List.getElem?_eq_getElem hi] at hd
      rw [Option.some.inj hd]
    rw [hdr] at q2
    refine .inr ⟨wk.goes i H2 xL hi, fun H' => ∃ (E' : Env) (σ' : St) (acc : List D) (vs : List V), Ext (upd H1 L (.lst [])) H' ∧ RelX X.K G [L] H' E' σ' ∧ L2.wipe σ' ms = L2.wipe σ ms ∧ H' L = some (.lst vs) ∧ RpL X.K H' acc vs ∧
      compD g tt te ms (ds.drop (i + 1)) acc E' fun xs E2 => QE xs (restE E1 E2 ms), fun H' ⟨E', σ', acc, vs, b1, b2, b3, b4, b5, b6⟩ => ⟨m - 1, by omega, E', σ', acc, vs, by omega, b1, b2, b3, b4, b5, b6⟩, fun x H3 hy => ?_⟩
    obtain ⟨px, d', hd', p⟩ := wk.yld i H2 x H3 xL hi hy
    rw [hd] at hd'; cases hd'
    have hs0 : (pend G L (.lst vs)).slots = G.slots := rfl
    have r3 : RelE X.K (pend G L (.lst vs)) H3 (wipeE E2 ms) (L2.wipe σ ms) := by
      have := ((r2.pext px).wipe hm).toPend (px _ _ a2) na
      rw [w2] at this; exact this
    refine ⟨pend G L (.lst vs), hs0, _, d, _, r3, p, q2, fun E4 σ4 H4 q4 x4 r4 w4 => ?_⟩
    have ww : ∀ (l : List Nat), L2.wipe (L2.wipe σ l) l = L2.wipe σ l := by
      intro l
      have : ∀ (τ : St) (l k : List Nat), (∀ j ∈ l, j ∈ k) → (∀ j ∈ k, ∀ v, τ[j]? = some v → v = none) → L2.wipe τ l = τ := by
        intro τ l
        induction l with
        | nil => intro _ _ _; rfl
        | cons v vs ih =>
          intro k hk hn
          show (L2.wipe τ vs).set v none = τ
          rw [ih k (fun j hj => hk j (List.mem_cons_of_mem _ hj)) hn]
          refine List.ext_getElem? fun j => ?_
          by_cases hv : v = j
          · subst hv
            by_cases hl : v < τ.length
            · rw [List.getElem?_set_self hl]
              have := hn v (hk v (List.mem_cons_self ..)) _ (List.getElem?_eq_getElem hl)
              rw [List.getElem?_eq_getElem hl, this]
            · rw [List.getElem?_eq_none (by simpa using hl), List.getElem?_eq_none (by simpa using hl)]
          · rw [List.getElem?_set_ne hv]
      refine this _ l l (fun j hj => hj) fun j hj v e => ?_
      cases v with
      | none => rfl
      | some y => exact absurd hj (wipe_some e).2
    refine ⟨by rw [w4]; exact ww ms, pend G L (.lst vs), hs0, E4, _, r4, q4, fun b E5 H5 q5 x5 r5 => ?_⟩
    have w45 : L2.wipe σ4 ms = L2.wipe σ ms := by rw [w4]; exact ww ms
    have x5' : Ext (upd H1 L (.lst [])) H5 := ((x2.trans px.ext).trans x4).trans x5
    cases b with
    | false =>
      rw [if_neg Bool.false_ne_true] at q5
      refine iteF ?_
      obtain ⟨r6, a6⟩ := RelX.ofPend r5 h0 na
      exact ⟨E5, σ4, acc, vs, x5', r6, w45, a6, p2.ext ((px.ext.trans x4).trans x5), q5⟩
    | true =>
      rw [if_pos rfl] at q5
      refine iteT ?_
      refine ⟨pend G L (.lst vs), hs0, E5, _, r5, q5, fun y E6 u H6 q6 x6 r6 p6 => ?_⟩
      obtain ⟨r7, a7⟩ := RelX.ofPend r6 h0 na
      have pv := p2.ext (((px.ext.trans x4).trans x5).trans x6)
      have xp : Ext H6 (upd H6 L (.lst (vs ++ [u]))) := Ext.put a7
      refine ⟨vs, a7, by rw [← pv.length]; exact q6.1, E6, σ4, acc ++ [y], vs ++ [u], (x5'.trans x6).trans xp, ?_, w45, upd_same, (RpL.append pv (.cons p6 .nil)).ext xp, q6.2⟩
      -- the list L grows: apart from all footprints
      obtain ⟨l, kk, pn, dm, x0, A, h1, h2, h3⟩ := r7
      refine ⟨l, fun p o e ne => ?_, pn, fun p hp => ?_, x0.trans xp, fun j => if E6[j]? = none then [] else A j, fun i j b e1 e2 => ?_, fun i b e => ?_, fun j s e => ?_⟩
      · have : p ≠ L := by rintro rfl; rw [h0] at e; cases e
        rw [upd_ne this]; exact kk p o e ne
      · have : p ≠ L := by rintro rfl; exact na hp
        rw [upd_ne this]; exact dm p hp
      · dsimp only at e1 e2
        split at e1
        · cases e1
        · split at e2
          · cases e2
          · exact h1 i j b e1 e2
      · dsimp only at e
        split at e
        · cases e
        · exact h2 i b e
      · have : E6[j]? ≠ none := by rw [e]; simp
        simp only [this, if_false]
        exact (h3 j s e).move xp fun p hp => upd_ne (by rintro rfl; exact (h2 j p hp).2 (by simp))
  · have e0 : ds.drop i = [] := List.drop_eq_nil_of_le (by omega)
    have ei : i = ds.length := by omega
    rw [e0] at q2
    exact .inl ⟨by rw [ei]; exact wk.stops H2 xL, k _ _ _ _ _ q2 (x1.trans xL) (RelX.rest r1 xL r2 w2 hm) h0 na a2 p2⟩
theorem comp_parts {W : Bool} {elt tg : Expr} {ifs : List Expr} {scope : Scope} {g : TGd} {tt : TTd} {te : TD} {ms : List Nat}
    (hg : ∀ (G' : Gh), G'.slots = G.slots → ∀ (s : Shared) (H : Hp) (C : Addr) (cl : List (Str × Addr)) (fp : List Addr), GD (X.blk s H scope (compEnvC scope cl C X.env) fp) G' W ms tg g)
    (ht : ∀ (G' : Gh), G'.slots = G.slots → ∀ (s : Shared) (H : Hp) (C : Addr) (cl : List (Str × Addr)) (fp : List Addr), EBs (X.blk s H scope (compEnvC scope cl C X.env) fp) G' ifs tt)
    (he : ∀ (G' : Gh), G'.slots = G.slots → ∀ (s : Shared) (H : Hp) (C : Addr) (cl : List (Str × Addr)) (fp : List Addr), ED (X.blk s H scope (compEnvC scope cl C X.env) fp) G' elt te) :
    (∀ (s : Shared) (H : Hp) (C : Addr) (cl : List (Str × Addr)) (fp : List Addr), PG (X.blk s H scope (compEnvC scope cl C X.env) fp) tg (anyG W X.K G ms g)) ∧
    (∀ (s : Shared) (H : Hp) (C : Addr) (cl : List (Str × Addr)) (fp : List Addr), PTs (X.blk s H scope (compEnvC scope cl C X.env) fp) ifs (anyT X.K G tt)) ∧
    (∀ (s : Shared) (H : Hp) (C : Addr) (cl : List (Str × Addr)) (fp : List Addr), PE (X.blk s H scope (compEnvC scope cl C X.env) fp) elt (anyE X.K G te)) :=
  ⟨fun s H C cl fp => ⟨fun pins s' σ H' v x Q I r ⟨G', hG', q⟩ => (hg G' hG' s H C cl fp).pg.run pins s' σ H' v x Q I r q⟩,
   fun s H C cl fp => ⟨fun pins s' σ H' Q I ⟨G', hG', q⟩ => (ht G' hG' s H C cl fp).pt.run pins s' σ H' Q I q⟩,
   fun s H C cl fp => ⟨fun pins s' σ H' Q I ⟨G', hG', q⟩ => (he G' hG' s H C cl fp).pe.run pins s' σ H' Q I q⟩⟩
section
variable {elt : Expr} {ifs : List Expr} {scope : Scope} {ti : TDs} {g : TGd} {tt : TTd} {te : TD} {ms : List Nat}
theorem el_comp {W : Bool} (own : List (Str × Nat)) (hc : X.calm = true) (hN : X.N.Nodup) (hms : own.map (·.2) = ms) (hm : ∀ i ∈ ms, i ∉ G.slots) (hi : ID X G W tg iter ti) (ok : BlkOk X.N X.env.scope scope own)
    (hg : ∀ (G' : Gh), G'.slots = G.slots → ∀ (s : Shared) (H : Hp) (C : Addr) (cl : List (Str × Addr)) (fp : List Addr), GD (X.blk s H scope (compEnvC scope cl C X.env) fp) G' W ms tg g)
    (ht : ∀ (G' : Gh), G'.slots = G.slots → ∀ (s : Shared) (H : Hp) (C : Addr) (cl : List (Str × Addr)) (fp : List Addr), EBs (X.blk s H scope (compEnvC scope cl C X.env) fp) G' ifs tt)
    (he : ∀ (G' : Gh), G'.slots = G.slots → ∀ (s : Shared) (H : Hp) (C : Addr) (cl : List (Str × Addr)) (fp : List Addr), ED (X.blk s H scope (compEnvC scope cl C X.env) fp) G' elt te) (hs : ∀ x, foldedSetIterable iter X.env x = pure x := by intro _; rfl) :
    EL X G (.ListComp elt [⟨tg, iter, ifs, 0⟩] scope pos) (tComp ti g tt te ms) := by
  obtain ⟨Pg, Pt, Pe⟩ := comp_parts hg ht he
  refine ⟨PE.weak (pe_lc hc hN hi.pi ok Pg Pt Pe hs) fun σ H Q h => ?_⟩
  rw [hms]; exact lift_comp hm σ H Q h
/-- behind a statement the list at slot i is frozen -/
theorem PS.fz {st : Stmt} {t : TS} (h : PS X st t) : PS X st (fun F σ H => t { F with nx := fun σ' H' => ∃ a xs, H' a = some (.lst xs) ∧ ∀ o, F.nx σ' (upd H' a (.frz o (.lst xs))) } σ H) :=
  ⟨fun pins s σ H F I q => thn (h.run pins s σ H _ I q) fun f s1 q1 => by
    cases f with
    | next =>
      obtain ⟨σ', H', I1, a, xs, e2, q2⟩ := q1
      obtain ⟨o, I2⟩ := I1.lock e2 trivial
      exact ⟨σ', _, I2, q2 o⟩
    | brk => exact q1
    | cont => exact q1
    | ret u => exact q1⟩
/-- name = [..], the name a plain local: a list of one's own -/
theorem sd_setLC {W : Bool} {i : Nat} {y : Str} {py spos : Pos} (own : List (Str × Nat)) (hsl : i ∉ G.slots) (hc : X.calm = true) (hN : X.N.Nodup) (hy : X.N[i]? = some y) (hyl : X.env.scope.names.lookup y = some .local)
    (hsw : swapsWith (.ListComp elt [⟨tg, iter, ifs, 0⟩] scope pos) (some (.Name y py)) spos.line X.env = pure true) (hms : own.map (·.2) = ms) (hm : ∀ i ∈ ms, i ∉ G.slots) (hi : ID X G W tg iter ti) (ok : BlkOk X.N X.env.scope scope own)
    (hg : ∀ (G' : Gh), G'.slots = G.slots → ∀ (s : Shared) (H : Hp) (C : Addr) (cl : List (Str × Addr)) (fp : List Addr), GD (X.blk s H scope (compEnvC scope cl C X.env) fp) G' W ms tg g)
    (ht : ∀ (G' : Gh), G'.slots = G.slots → ∀ (s : Shared) (H : Hp) (C : Addr) (cl : List (Str × Addr)) (fp : List Addr), EBs (X.blk s H scope (compEnvC scope cl C X.env) fp) G' ifs tt)
    (he : ∀ (G' : Gh), G'.slots = G.slots → ∀ (s : Shared) (H : Hp) (C : Addr) (cl : List (Str × Addr)) (fp : List Addr), ED (X.blk s H scope (compEnvC scope cl C X.env) fp) G' elt te) (hs : ∀ x, foldedSetIterable iter X.env x = pure x := by intro _; rfl) :
    SD X G (.Assign [.Name y py] (.ListComp elt [⟨tg, iter, ifs, 0⟩] scope pos) spos) (sSetL i (tComp ti g tt te ms)) := by
  obtain ⟨Pg, Pt, Pe⟩ := comp_parts hg ht he
  refine ⟨PS.weak (ps_setLc hc hN hy hyl hsw hi.pi ok Pg Pt Pe hs) fun F σ H ⟨E, DE, r, q, k1, k2, k3, k4⟩ => ?_⟩
  show tLc _ _ _ _ (own.map (·.2)) σ H fun x H1 => F.nx (σ.set i (some x)) H1
  rw [hms]
  exact lift_comp hm σ H _ ⟨E, _, r, q, fun xs E1 a vs H1 q1 x1 r1 h0 na ha p1 => k1 _ _ _ q1 x1 (r1.setL (by simp) hsl h0 ha p1)⟩
/-- .. data -/
theorem sd_setC {W : Bool} {i : Nat} {y : Str} {py spos : Pos} (own : List (Str × Nat)) (hsl : i ∉ G.slots) (hc : X.calm = true) (hN : X.N.Nodup) (hy : X.N[i]? = some y) (hyl : X.env.scope.names.lookup y = some .local)
    (hsw : swapsWith (.ListComp elt [⟨tg, iter, ifs, 0⟩] scope pos) (some (.Name y py)) spos.line X.env = pure true) (hms : own.map (·.2) = ms) (hm : ∀ i ∈ ms, i ∉ G.slots) (hi : ID X G W tg iter ti) (ok : BlkOk X.N X.env.scope scope own)
    (hg : ∀ (G' : Gh), G'.slots = G.slots → ∀ (s : Shared) (H : Hp) (C : Addr) (cl : List (Str × Addr)) (fp : List Addr), GD (X.blk s H scope (compEnvC scope cl C X.env) fp) G' W ms tg g)
    (ht : ∀ (G' : Gh), G'.slots = G.slots → ∀ (s : Shared) (H : Hp) (C : Addr) (cl : List (Str × Addr)) (fp : List Addr), EBs (X.blk s H scope (compEnvC scope cl C X.env) fp) G' ifs tt)
    (he : ∀ (G' : Gh), G'.slots = G.slots → ∀ (s : Shared) (H : Hp) (C : Addr) (cl : List (Str × Addr)) (fp : List Addr), ED (X.blk s H scope (compEnvC scope cl C X.env) fp) G' elt te) (hs : ∀ x, foldedSetIterable iter X.env x = pure x := by intro _; rfl) :
    SD X G (.Assign [.Name y py] (.ListComp elt [⟨tg, iter, ifs, 0⟩] scope pos) spos) (sSet i (tFzD (tComp ti g tt te ms))) := by
  obtain ⟨Pg, Pt, Pe⟩ := comp_parts hg ht he
  refine ⟨PS.weak (PS.fz (ps_setLc hc hN hy hyl hsw hi.pi ok Pg Pt Pe hs)) fun F σ H ⟨E, DE, r, q, k1, k2, k3, k4⟩ => ?_⟩
  show tLc _ _ _ _ (own.map (·.2)) σ H fun x H1 => ∃ a xs, H1 a = some (.lst xs) ∧ ∀ o, F.nx (σ.set i (some x)) (upd H1 a (.frz o (.lst xs)))
  rw [hms]
  refine lift_comp hm σ H _ ⟨E, _, r, q, fun xs E1 a vs H1 q1 x1 r1 h0 na ha p1 => ?_⟩
  refine ⟨a, vs, ha, fun o => k1 _ _ _ q1 (x1.trans (Ext.put ha)) ?_⟩
  exact (r1.freeze h0 na ha).setD hsl (.lst (.of upd_same) (p1.ext (Ext.put ha)))
end
end
end DL

set_option Elab.async false
set_option linter.all false
set_option maxRecDepth 100000
namespace DL
open PySem PySem.Spec PyProof.Rows L2

/-! ### a def's promise over data -/
abbrev SpD := List S → (D → List S → Prop) → Prop
inductive AR (K : PySem.W.Frag) (H : Hp) : List S → List V → List Addr → Prop
  | nil : AR K H [] [] []
  | d {x : D} {v : V} {ss : List S} {vs : List V} {as : List Addr} : Rp K H x v → AR K H ss vs as → AR K H (.d x :: ss) (v :: vs) as
  | o {s : S} {a : Addr} {ss : List S} {vs : List V} {as : List Addr} : s.isMut = true → RelM K H s a → AR K H ss vs as → AR K H (s :: ss) (.ref a :: vs) (a :: as)
def spL (K : PySem.W.Frag) (sp : SpD) : Sp := fun vs H Q _ => ∃ (ss : List S) (as : List Addr) (QD : D → List S → Prop), sp ss QD ∧ AR K H ss vs as ∧ as.Nodup ∧
  ∀ d outs v H', QD d outs → (∀ p o, H p = some o → p ∉ as → H' p = some o) → Paired (RelM K H') outs as → Rp K H' d v → Q v H'
/-- the places of the mutable ones -/
def mpos : Nat → List S → List Nat
  | _, [] => []
  | k, s :: ss => if s.isMut = true then k :: mpos (k + 1) ss else mpos (k + 1) ss
theorem AR.length {K : PySem.W.Frag} {H : Hp} : ∀ {ss : List S} {vs : List V} {as : List Addr}, AR K H ss vs as → ss.length = vs.length
  | _, _, _, .nil => rfl
  | _, _, _, .d _ r => by rw [List.length_cons, List.length_cons, AR.length r]
  | _, _, _, .o _ _ r => by rw [List.length_cons, List.length_cons, AR.length r]
theorem AR.mlen {K : PySem.W.Frag} {H : Hp} : ∀ {ss : List S} {vs : List V} {as : List Addr} (k : Nat), AR K H ss vs as → (mpos k ss).length = as.length
  | _, _, _, _, .nil => rfl
  | _, _, _, k, .d _ r => by show (mpos (k + 1) _).length = _; exact AR.mlen (k + 1) r
  | _, _, _, k, .o h _ r => by unfold mpos; rw [if_pos h, List.length_cons, List.length_cons, AR.mlen (k + 1) r]
/-- what an argument place holds -/
theorem AR.get {K : PySem.W.Frag} {H : Hp} : ∀ {ss : List S} {vs : List V} {as : List Addr} (k : Nat) {i : Nat} {s : S}, AR K H ss vs as → ss[i]? = some s →
    (∃ x v, s = .d x ∧ vs[i]? = some v ∧ Rp K H x v) ∨ (s.isMut = true ∧ ∃ a, vs[i]? = some (.ref a) ∧ RelM K H s a ∧ (k + i, a) ∈ (mpos k ss).zip as)
  | _, _, _, _, i, _, .nil, e => by simp at e
  | _, _, _, k, 0, s, .d (x := x) (v := v) p r, e => by
    simp at e; exact .inl ⟨x, v, e.symm, rfl, p⟩
  | _, _, _, k, i + 1, s, .d p r, e => by
    rcases AR.get (k + 1) (i := i) r (by simpa using e) with ⟨x, v, e1, e2, e3⟩ | ⟨h, a, e1, e2, e3⟩
    · exact .inl ⟨x, v, e1, by simpa using e2, e3⟩
    · refine .inr ⟨h, a, by simpa using e1, e2, ?_⟩
      show (k + (i + 1), a) ∈ (mpos (k + 1) _).zip _
      rw [show k + (i + 1) = k + 1 + i by omega]; exact e3
  | _, _, _, k, 0, s, .o (a := a) h m r, e => by
    simp at e; subst e
    refine .inr ⟨h, a, rfl, m, ?_⟩
    unfold mpos; rw [if_pos h]; simp
  | _, _, _, k, i + 1, s, .o h m r, e => by
    rcases AR.get (k + 1) (i := i) r (by simpa using e) with ⟨x, v, e1, e2, e3⟩ | ⟨h', a, e1, e2, e3⟩
    · exact .inl ⟨x, v, e1, by simpa using e2, e3⟩
    · refine .inr ⟨h', a, by simpa using e1, e2, ?_⟩
      unfold mpos; rw [if_pos h, List.zip_cons_cons]
      refine List.mem_cons_of_mem _ ?_
      rw [show k + (i + 1) = k + 1 + i by omega]; exact e3
theorem AR.back {K : PySem.W.Frag} {H : Hp} : ∀ {ss : List S} {vs : List V} {as : List Addr} (k : Nat) {j : Nat} {a : Addr}, AR K H ss vs as → (j, a) ∈ (mpos k ss).zip as → ∃ i s, j = k + i ∧ ss[i]? = some s ∧ vs[i]? = some (.ref a) ∧ RelM K H s a
  | _, _, _, _, _, _, .nil, e => by simp [mpos] at e
  | _, _, _, k, j, a, .d p r, e => by
    obtain ⟨i, s, e1, e2, e3, e4⟩ := AR.back (k + 1) (j := j) (a := a) r e
    exact ⟨i + 1, s, by omega, by simpa using e2, by simpa using e3, e4⟩
  | _, _, _, k, j, a, .o h m r, e => by
    unfold mpos at e; rw [if_pos h, List.zip_cons_cons] at e
    rcases List.mem_cons.mp e with z | z
    · cases z; exact ⟨0, _, by omega, rfl, rfl, m⟩
    · obtain ⟨i, s, e1, e2, e3, e4⟩ := AR.back (k + 1) r z
      exact ⟨i + 1, s, by omega, by simpa using e2, by simpa using e3, e4⟩
theorem zip_inj2 {α β : Type} : ∀ {xs : List α} {ys : List β} {i j : α} {a : β}, ys.Nodup → (i, a) ∈ xs.zip ys → (j, a) ∈ xs.zip ys → i = j
  | x :: xs, y :: ys, i, j, a, nd, h1, h2 => by
    rw [List.zip_cons_cons] at h1 h2
    have ⟨n1, n2⟩ := List.nodup_cons.mp nd
    rcases List.mem_cons.mp h1 with z1 | z1
    · rcases List.mem_cons.mp h2 with z2 | z2
      · cases z1; cases z2; rfl
      · cases z1; exact absurd (List.of_mem_zip z2).2 n1
    · rcases List.mem_cons.mp h2 with z2 | z2
      · cases z2; exact absurd (List.of_mem_zip z1).2 n1
      · exact zip_inj2 n2 z1 z2
  | [], _, _, _, _, _, h1, _ => by simp at h1
  | _ :: _, [], _, _, _, _, h1, _ => by simp at h1
theorem zip_fst {α β : Type} : ∀ {xs : List α} {ys : List β}, xs.length = ys.length → (xs.zip ys).map (·.1) = xs
  | [], _, _ => by simp
  | x :: xs, y :: ys, h => by rw [List.zip_cons_cons, List.map_cons, zip_fst (by simpa using h)]
  | _ :: _, [], h => by simp at h
theorem zip_snd {α β : Type} : ∀ {xs : List α} {ys : List β}, xs.length = ys.length → (xs.zip ys).map (·.2) = ys
  | [], [], _ => by simp
  | [], _ :: _, h => by simp at h
  | x :: xs, y :: ys, h => by rw [List.zip_cons_cons, List.map_cons, zip_snd (by simpa using h)]
  | _ :: _, [], h => by simp at h
/-- the start of a def's body -/
theorem AR.start {K : PySem.W.Frag} {H : Hp} {ss : List S} {vs : List V} {as : List Addr} {n : Nat} (r : AR K H ss vs as) (nd : as.Nodup) :
    RelE K ⟨H, (mpos 0 ss).zip as, fun _ => none, []⟩ H (ss ++ List.replicate n .un) (vs.map some ++ List.replicate n none) := by
  have hl := r.length
  have own : ∀ i a, (i, a) ∈ (mpos 0 ss).zip as → ∃ s, ss[i]? = some s ∧ vs[i]? = some (.ref a) ∧ RelM K H s a := fun i a h => by
    obtain ⟨j, s, e1, e2, e3, e4⟩ := r.back 0 h
    have : i = j := by omega
    subst this; exact ⟨s, e2, e3, e4⟩
  have key : ∀ i a, ((mpos 0 ss).zip as).lookup i = some a → (i, a) ∈ (mpos 0 ss).zip as := by
    intro i a
    generalize (mpos 0 ss).zip as = l
    induction l with
    | nil => intro h; cases h
    | cons p l ih =>
      obtain ⟨j, b⟩ := p
      intro h
      rw [List.lookup_cons] at h
      split at h
      · rename_i q; have : i = j := by simpa using q
        subst this; cases h; exact List.mem_cons_self ..
      · exact List.mem_cons_of_mem _ (ih h)
  have key2 : ∀ i a, (i, a) ∈ (mpos 0 ss).zip as → ∃ b, ((mpos 0 ss).zip as).lookup i = some b := by
    intro i a
    generalize (mpos 0 ss).zip as = l
    induction l with
    | nil => intro h; cases h
    | cons p l ih =>
      obtain ⟨j, b⟩ := p
      intro h
      rw [List.lookup_cons]
      split
      · exact ⟨b, rfl⟩
      · rename_i q
        rcases List.mem_cons.mp h with z | z
        · cases z; simp at q
        · exact ih z
  refine ⟨by simp [hl], fun p o h _ => h, fun i a h => ?_, fun a h => ?_, ⟨(fun _ _ z => by cases z), (fun _ _ _ z => by cases z)⟩, fun i => match ((mpos 0 ss).zip as).lookup i with | some a => [a] | none => [], fun i j a h1 h2 => ?_, fun i a h => ?_, fun i s h => ?_⟩
  · obtain ⟨s, e1, e2, e3⟩ := own i a h
    have hi : i < vs.length := by
      rcases Nat.lt_or_ge i vs.length with z | z
      · exact z
      · rw [List.getElem?_eq_none z] at e2; cases e2
    rw [List.getElem?_append_left (by simpa using hi), List.getElem?_map, e2]; rfl
  · have h : a ∈ ((mpos 0 ss).zip as).map (·.2) ++ [] := h
    rw [List.append_nil] at h
    obtain ⟨p, hp, rfl⟩ := List.mem_map.mp h
    obtain ⟨s, e1, e2, e3⟩ := own p.1 p.2 hp
    obtain ⟨u, e, _⟩ := e3.soft
    rw [e]; simp
  · dsimp only at h1 h2
    split at h1
    · rename_i b hb
      split at h2
      · rename_i c hc
        simp only [List.mem_cons, List.not_mem_nil, or_false] at h1 h2
        subst h1; subst h2
        exact zip_inj2 nd (key _ _ hb) (key _ _ hc)
      · cases h2
    · cases h1
  · dsimp only at h
    split at h
    · rename_i b hb
      simp only [List.mem_cons, List.not_mem_nil, or_false] at h
      subst h
      exact ⟨.inl (List.mem_append_left _ (List.mem_map.mpr ⟨_, key _ _ hb, rfl⟩)), by simp⟩
    · cases h
  · by_cases hi : i < ss.length
    · rw [List.getElem?_append_left hi] at h
      rw [List.getElem?_append_left (by simpa [← hl] using hi), List.getElem?_map]
      rcases r.get 0 h with ⟨x, v, rfl, e2, e3⟩ | ⟨hm, a, e1, e2, e3⟩
      · have no : ((mpos 0 ss).zip as).lookup i = none := by
          cases q : ((mpos 0 ss).zip as).lookup i with
          | none => rfl
          | some b =>
            obtain ⟨s', f1, f2, f3⟩ := own i b (key _ _ q)
            rw [h] at f1; cases f1
            exact f3.elim
        dsimp only
        rw [no, e2]
        exact ⟨rfl, v, rfl, e3⟩
      · rw [Nat.zero_add] at e3
        obtain ⟨b, hb⟩ := key2 i a e3
        obtain ⟨s', f1, f2, f3⟩ := own i b (key _ _ hb)
        rw [e1] at f2; cases f2
        dsimp only
        rw [hb, e1]
        exact RelS.ofMut hm rfl e2
    · have hi' : ss.length ≤ i := Nat.le_of_not_lt hi
      rw [List.getElem?_append_right hi'] at h
      have hs : s = .un := by
        have := List.mem_of_getElem? h
        exact (List.mem_replicate.mp this).2
      subst hs
      have no : ((mpos 0 ss).zip as).lookup i = none := by
        cases q : ((mpos 0 ss).zip as).lookup i with
        | none => rfl
        | some b =>
          obtain ⟨s', f1, f2, f3⟩ := own i b (key _ _ q)
          rw [List.getElem?_eq_none hi'] at f1; cases f1
      dsimp only
      rw [no]; rfl

/-- the mutable arguments at the end -/
def finO : List Nat → Env → (List S → Prop) → Prop
  | [], _, Q => Q []
  | i :: is, E, Q => match E[i]? with
    | some (.ol xs) => finO is E fun outs => Q (.ol xs :: outs)
    | some (.dt xs) => finO is E fun outs => Q (.dt xs :: outs)
    | some (.dk xs) => finO is E fun outs => Q (.dk xs :: outs)
    | _ => False
theorem finO_rel {K : PySem.W.Frag} {G : Gh} {H : Hp} {E : Env} {σ : St} (r : RelE K G H E σ) : ∀ {slots : List Nat} {as : List Addr} {Q : List S → Prop}, slots.length = as.length → (∀ p ∈ slots.zip as, p ∈ G.own) → finO slots E Q → ∃ outs, Q outs ∧ Paired (RelM K H) outs as
  | [], [], Q, _, _, h => ⟨[], h, .nil⟩
  | i :: is, a :: as, Q, hl, hs, h => by
    have key : ∀ s : S, E[i]? = some s → s.isMut = true → finO is E (fun outs => Q (s :: outs)) → ∃ outs, Q outs ∧ Paired (RelM K H) outs (a :: as) := fun s he hm h => by
      have hp := r.pin i a (hs (i, a) (by simp))
      obtain ⟨b, e1, e2⟩ := r.mutAt he hm
      rw [hp] at e1
      have : a = b := by injection e1 with z; injection z with z; injection z
      subst this
      obtain ⟨outs, q, p⟩ := finO_rel r (slots := is) (as := as) (by simpa using hl) (fun p hp => hs p (by rw [List.zip_cons_cons]; exact List.mem_cons_of_mem _ hp)) h
      exact ⟨_, q, .cons e2 p⟩
    unfold finO at h
    split at h
    · rename_i xs he; exact key _ he rfl h
    · rename_i xs he; exact key _ he rfl h
    · rename_i xs he; exact key _ he rfl h
    · exact h.elim
  | [], _ :: _, _, hl, _, _ => by simp at hl
  | _ :: _, [], _, hl, _, _ => by simp at hl

/-- THE RULE for a def -/
theorem fn_okD {P : Program} {w : World} {K : PySem.W.Frag} {mg : Str → Option Value} {base : Heap} {x qual : Str} {st : Stmt} {f : Addr} {fd : FuncData} {N ps : List Str} {k : Nat} {sp : SpD} {slots : List Nat} {tb : TSd}
    (F : Fun K x qual st f fd) (Sc : FnScope N ps (defScope st)) (shape : ∀ ss QD, sp ss QD → ss.length = ps.length ∧ mpos 0 ss = slots)
    (body : ∀ (cdv : Value) (A : Around) (outer : List PySem.Env) (s : Shared) (H : Hp) (E : XK), Room k (A.deeper (envOfC qual (defScope st) s.heap.objs.size f cdv)) → ∀ G : Gh, G.slots = slots →
      SDs (cxOf CX0 P w K mg base N qual (defScope st) f cdv A outer s H E).nox G (defBody st) tb)
    (read : ∀ ss QD, sp ss QD → tb { nx := fun E' => finO slots E' (QD .none), rt := fun d E' => finO slots E' (QD d) } (ss ++ List.replicate (N.length - ps.length) .un)) :
    FnOk P w K mg base CX0 (k + 1) f fd ps (spL K sp) := by
  refine F.ok Sc (fun vs H Q E h => ?_) (fun cdv A outer s H vs Q E hr h => ?_)
  · obtain ⟨ss, as, QD, h1, h2, _⟩ := h
    rw [← h2.length]; exact (shape ss QD h1).1
  · obtain ⟨ss, as, QD, h1, h2, nd, h4⟩ := h
    obtain ⟨hl, hm⟩ := shape ss QD h1
    have ml := h2.mlen 0
    have hG : (⟨H, (mpos 0 ss).zip as, fun _ => none, []⟩ : Gh).slots = slots := by show ((mpos 0 ss).zip as).map (·.1) = slots; rw [zip_fst ml, hm]
    have hA : (⟨H, (mpos 0 ss).zip as, fun _ => none, []⟩ : Gh).addrs = as := by show ((mpos 0 ss).zip as).map (·.2) ++ [] = as; rw [zip_snd ml, List.append_nil]
    refine ⟨_, (body cdv A outer s H E hr ⟨H, (mpos 0 ss).zip as, fun _ => none, []⟩ hG).pss, ?_⟩
    have hst : L2.start N vs = vs.map some ++ List.replicate (N.length - ps.length) none := by unfold L2.start; rw [← h2.length, hl]
    refine ⟨ss ++ List.replicate (N.length - ps.length) .un, { nx := fun E' => finO slots E' (QD .none), rt := fun d E' => finO slots E' (QD d) }, by rw [hst]; exact h2.start nd, read ss QD h1, fun E' σ' H' q x r => ?_, fun d E' v σ' H' q x r p => ?_, fun _ _ _ q => False.elim q, fun _ _ _ q => False.elim q⟩
    · obtain ⟨outs, q1, p1⟩ := finO_rel r (as := as) (by rw [← hm]; exact ml) (by rw [← hm]; exact fun p hp => hp) q
      exact h4 .none outs .non H' q1 (fun p o e ne => r.keep p o e (by rw [hA]; exact ne)) p1 .non
    · obtain ⟨outs, q1, p1⟩ := finO_rel r (as := as) (by rw [← hm]; exact ml) (by rw [← hm]; exact fun p hp => hp) q
      exact h4 d outs v H' q1 (fun p o e ne => r.keep p o e (by rw [hA]; exact ne)) p1 p

/-! ### a call of a def -/
def oixs : List Arg → List Nat
  | [] => []
  | .v _ :: as => oixs as
  | .o i :: as => i :: oixs as
def argS (E : Env) : List Arg → Option (List S)
  | [] => some []
  | .v x :: as => (argS E as).map (.d x :: ·)
  | .o i :: as => match E[i]? with
    | some (.ol xs) => (argS E as).map (.ol xs :: ·)
    | some (.dt xs) => (argS E as).map (.dt xs :: ·)
    | some (.dk xs) => (argS E as).map (.dk xs :: ·)
    | _ => none
def putO : List Arg → List S → Env → Env
  | .v _ :: as, outs, E => putO as outs E
  | .o i :: as, s :: outs, E => putO as outs (E.set i s)
  | _, _, E => E
def ndp : List Nat → Bool
  | [] => true
  | i :: is => !is.contains i && ndp is
def tCallD (sp : SpD) (ta : TAd) : TD := fun E Q => ta E fun as E1 => match argS E1 as with
  | some ss => ndp (oixs as) = true ∧ sp ss fun r outs => Q r (putO as outs E1)
  | none => False
section
variable {K : PySem.W.Frag} {G : Gh} {H H' : Hp} {E : Env} {σ : St}
abbrev MutAt (σ : St) (E : Env) : Nat → Addr → Prop := fun i a => σ[i]? = some (some (.ref a)) ∧ ∃ s : S, E[i]? = some s ∧ s.isMut = true
theorem RelA.args (r : RelE K G H E σ) : ∀ {as : List Arg} {ss : List S} {vs : List V}, RelA K H σ as vs → argS E as = some ss → ∃ addrs, AR K H ss vs addrs ∧ Paired (MutAt σ E) (oixs as) addrs
  | _, _, _, .nil, e => by cases e; exact ⟨[], .nil, .nil⟩
  | _, _, _, .v (as := as) p t, e => by
    unfold argS at e
    cases q : argS E as with
    | none => rw [q] at e; cases e
    | some ss' =>
      rw [q] at e; cases e
      obtain ⟨ad, a1, a2⟩ := RelA.args r t q
      exact ⟨ad, .d p a1, a2⟩
  | _, ss, _, .o (i := i) (v := v0) (as := as) (vs := vs0) hs t, e => by
    have key : ∀ s : S, E[i]? = some s → s.isMut = true → (argS E as).map (s :: ·) = some ss → ∃ addrs, AR K H ss (v0 :: vs0) addrs ∧ Paired (MutAt σ E) (oixs (.o i :: as)) addrs := fun s he hm e => by
      cases q : argS E as with
      | none => rw [q] at e; cases e
      | some ss' =>
        rw [q] at e; cases e
        obtain ⟨ad, a1, a2⟩ := RelA.args r t q
        obtain ⟨a, e1, e2⟩ := r.mutAt he hm
        rw [hs] at e1; cases e1
        exact ⟨a :: ad, .o hm e2 a1, .cons ⟨hs, s, he, hm⟩ a2⟩
    unfold argS at e
    split at e
    · rename_i xs he; exact key _ he rfl e
    · rename_i xs he; exact key _ he rfl e
    · rename_i xs he; exact key _ he rfl e
    · cases e
theorem Paired.mem2 {α β : Type} {F : α → β → Prop} : ∀ {xs : List α} {ys : List β} {y : β}, Paired F xs ys → y ∈ ys → ∃ x ∈ xs, F x y
  | _, _, _, .cons r t, h => by
    rcases List.mem_cons.mp h with rfl | z
    · exact ⟨_, List.mem_cons_self .., r⟩
    · obtain ⟨x, hx, f⟩ := Paired.mem2 t z; exact ⟨x, List.mem_cons_of_mem _ hx, f⟩
  | _, _, _, .nil, h => by cases h
theorem addrs_nodup (r : RelE K G H E σ) : ∀ {is : List Nat} {ad : List Addr}, ndp is = true → Paired (MutAt σ E) is ad → ad.Nodup
  | [], [], _, _ => List.nodup_nil
  | i :: is, a :: ad, h, .cons p t => by
    unfold ndp at h
    simp only [Bool.and_eq_true, Bool.not_eq_true'] at h
    refine List.nodup_cons.mpr ⟨fun z => ?_, addrs_nodup r h.2 t⟩
    obtain ⟨j, hj, e1, s2, e2, m2⟩ := Paired.mem2 t z
    obtain ⟨l, k, pn, dm, x0, A, h1, h2, h3⟩ := r
    obtain ⟨p1, s1, p2, m1⟩ := p
    obtain ⟨b, f1, f2, _⟩ := (h3 i _ p2).mut m1
    obtain ⟨c, g1, g2, _⟩ := (h3 j _ e2).mut m2
    rw [p1] at f2; cases f2
    rw [e1] at g2; cases g2
    have : i = j := h1 i j a (by rw [f1]; simp) (by rw [g1]; simp)
    subst this
    have := h.1
    simp at this
    exact this hj
/-- what is soft is no tuple, nothing frozen -/
theorem Ext.ofSoft {ad : List Addr} (keep : ∀ p o, H p = some o → p ∉ ad → H' p = some o) (soft : ∀ a ∈ ad, Soft H a) : Ext H H' :=
  ⟨fun a xs e => keep a _ e fun z => (by
      obtain ⟨u, f, g1, g2⟩ := soft a z
      rw [e] at f
      injection f with f
      exact g1 xs f.symm), fun a o v e => keep a _ e fun z => (by
      obtain ⟨u, f, g1, g2⟩ := soft a z
      rw [e] at f
      injection f with f
      exact g2 o v f.symm)⟩
/-- behind a call: the mutable arguments have changed -/
theorem RelX.puts : ∀ {as : List Arg} {outs : List S} {ad : List Addr} {E : Env}, ndp (oixs as) = true → RelE K G H E σ → (∀ p o, H p = some o → p ∉ ad → H' p = some o) → (∀ a ∈ ad, Soft H a) → Paired (RelM K H') outs ad →
    Paired (MutAt σ E) (oixs as) ad → RelE K G H' (putO as outs E) σ := by
  -- all at once: the environment with new contents
  intro as outs ad E nd r keep islst pr po
  have adn := addrs_nodup r nd po
  have ext : Ext H H' := Ext.ofSoft keep islst
  obtain ⟨l, k, pn, dm, x0, A, h1, h2, h3⟩ := r
  have own : ∀ a ∈ ad, a ∈ G.addrs ∨ G.H0 a = none := fun a ha => by
    obtain ⟨i, hi, e1, s, e2, m⟩ := Paired.mem2 po ha
    obtain ⟨b, f1, f2, _⟩ := (h3 i _ e2).mut m
    rw [e1] at f2; cases f2
    exact (h2 i a (by rw [f1]; simp)).1
  have there : ∀ (ad : List Addr) (outs : List S), Paired (RelM K H') outs ad → ∀ a ∈ ad, Soft H' a := by
    intro ad outs p
    induction p with
    | nil => intro a h; cases h
    | cons q t ih =>
      intro a h
      rcases List.mem_cons.mp h with rfl | z
      · exact q.soft
      · exact ih a z
  -- the slots that are not put keep their relation, those that are put have the new one
  have step : ∀ (as : List Arg) (outs : List S) (ad : List Addr) (E1 : Env), ndp (oixs as) = true → Paired (RelM K H') outs ad → Paired (MutAt σ E) (oixs as) ad →
      (∀ i, i ∉ oixs as → ∀ s, E1[i]? = some s → RelS K H' s σ[i]? (A i)) → E1.length = E.length →
      (∀ i s, (putO as outs E1)[i]? = some s → RelS K H' s σ[i]? (A i)) ∧ (putO as outs E1).length = E.length := by
    intro as
    induction as with
    | nil =>
      intro outs ad E1 _ _ _ h hl
      have e : DL.putO [] outs E1 = E1 := by cases outs <;> rfl
      rw [e]; exact ⟨fun i s q => h i (by simp [oixs]) s q, hl⟩
    | cons x as ih =>
      intro outs ad E1 nd p q h hl
      cases x with
      | v x =>
        have e : DL.putO (.v x :: as) outs E1 = DL.putO as outs E1 := by cases outs <;> rfl
        rw [e]
        exact ih outs ad E1 nd p q h hl
      | o i =>
        cases q with
        | cons q1 q2 =>
          rename_i a0 ad0
          cases p with
          | cons p1 p2 =>
            rename_i s0 outs0
            have nd' : ndp (i :: oixs as) = true := nd
            unfold ndp at nd'
            simp only [Bool.and_eq_true, Bool.not_eq_true'] at nd'
            have e : DL.putO (.o i :: as) (s0 :: outs0) E1 = DL.putO as outs0 (E1.set i s0) := rfl
            rw [e]
            refine ih outs0 ad0 (E1.set i s0) nd'.2 p2 q2 (fun j hj s e => ?_) (by rw [List.length_set]; exact hl)
            by_cases z : j = i
            · subst z
              by_cases hlj : j < E1.length
              · rw [List.getElem?_set_self hlj] at e
                cases e
                obtain ⟨q3, ys, q4, q5⟩ := q1
                obtain ⟨b, f1, f2, _⟩ := (h3 j _ q4).mut q5
                rw [q3] at f2; cases f2
                rw [f1]
                exact RelS.ofMut p1.isMut q3 p1
              · rw [List.getElem?_eq_none (by simpa using hlj)] at e; cases e
            · rw [List.getElem?_set_ne (Ne.symm z)] at e
              exact h j (by simp [oixs, z, hj]) s e
  have base : ∀ i, i ∉ oixs as → ∀ s, E[i]? = some s → RelS K H' s σ[i]? (A i) := fun i hi s e => by
    have hs := h3 i s e
    refine hs.move ext fun a ha => ?_
    have : a ∉ ad := fun z => by
      obtain ⟨j, hj, e1, s2, e2, m2⟩ := Paired.mem2 po z
      obtain ⟨b, f1, f2, _⟩ := (h3 j _ e2).mut m2
      rw [e1] at f2; cases f2
      have : i = j := h1 i j a ha (by rw [f1]; simp)
      subst this; exact hi hj
    obtain ⟨u, hu, _⟩ := hs.indom a ha
    rw [hu]; exact keep a u hu this
  obtain ⟨s1, s2⟩ := step as outs ad E nd pr po base rfl
  refine ⟨by rw [s2]; exact l, fun p o e ne => ?_, pn, fun a ha => ?_, x0.trans ext, A, h1, h2, s1⟩
  · refine keep p o (k p o e ne) fun z => ?_
    rcases own p z with q | q
    · exact ne q
    · rw [q] at e; cases e
  · by_cases z : a ∈ ad
    · obtain ⟨u, e, _⟩ := there ad outs pr a z; rw [e]; simp
    · cases q : H a with
      | none => exact absurd q (dm a ha)
      | some o => rw [keep a o q z]; simp
theorem Paired.keys {α β : Type} {F : α → β → Prop} : ∀ {xs : List α} {ys : List β}, Paired F xs ys → ∀ y ∈ ys, ∃ x, F x y
  | _, _, .cons r t, y, h => by
    rcases List.mem_cons.mp h with rfl | z
    · exact ⟨_, r⟩
    · exact Paired.keys t y z
  | _, _, .nil, _, h => by cases h
end
section
variable {X : Cx} {G : Gh} {e : Expr} {es : List Expr} {pos p : Pos} {x : Str} {f : Addr} {fd : FuncData} {ps : List Str} {k : Nat} {sp : SpD} {ta : TAd} {CX : CXT}
theorem lift_call (σ : St) (H : Hp) (Q : VK) (E : XK) (h : liftE X.K G (tCallD sp ta) σ H Q) : tCall (spL X.K sp) [] E (liftA X.K G ta) σ H Q := by
  obtain ⟨E0, QE, r, q, kk⟩ := h
  refine ⟨E0, _, r, q, fun as E1 vs H1 q1 x1 r1 p1 => ?_⟩
  show spL X.K sp (vs ++ []) H1 Q E
  rw [List.append_nil]
  split at q1
  · rename_i ss hs
    obtain ⟨nd, q1⟩ := q1
    obtain ⟨ad, ar, po⟩ := RelA.args r1 p1 hs
    have adn := addrs_nodup r1 nd po
    refine ⟨ss, ad, _, q1, ar, adn, fun d outs v H' q2 keep pr pd => ?_⟩
    have islst : ∀ a ∈ ad, Soft H1 a := fun a ha => by
      obtain ⟨i, hi, e1, s, e2, m⟩ := Paired.mem2 po ha
      obtain ⟨b, f1, f2⟩ := r1.mutAt e2 m
      rw [e1] at f1; cases f1; exact f2.soft
    have ext : Ext H1 H' := Ext.ofSoft keep islst
    exact kk d _ v H' q2 (x1.trans ext) (RelX.puts nd r1 keep islst pr po) pd
  · exact q1.elim
theorem ed_call (F : FnOk X.prog X.w X.K X.mg X.base CX0 k f fd ps (spL X.K sp)) (hr : Room k X.A) (hg : Gl X x) (hm : X.mg x = some (.ref f)) (hk : PySem.W.keepIn X.K (.ref f) = true) (hb : Binds X.K fd ps []) (ha : EA X G (e :: es) ta) (hdb : (x == ("__debug__" : Str)) = false := by decide)
    (hs : starEach (e :: es) X.env = (false, eval e X.env) :: starEach es X.env := by rfl) (hplain : (backTo pos (starEach es X.env)).any (·.1) = false := by rfl) : ED X G (.Call (.Name x p) (e :: es) [] pos) (tCallD sp ta) :=
  ⟨PE.weak (pe_call (dvs := []) (E := fun _ _ _ => False) F hr hg hm hk hb .nil pass0 ha.pa (hdb := hdb) (he := hs) (hpl := hplain)) fun σ H Q h => lift_call σ H Q _ h⟩
end
end DL

set_option Elab.async false
set_option linter.all false
set_option maxRecDepth 100000
namespace DL
open PySem PySem.Spec PyProof.Rows L2

/-! ### lists of one's own change -/
section
variable {X : Cx} {G : Gh} {a b c e : Expr} {es : List Expr} {pos apos cpos p0 : Pos} {x : Str}
def tApp (i : Nat) (t : TD) : TD := fun E Q => match E[i]? with
  | some (.ol _) => t E fun d E1 => match E1[i]? with
    | some (.ol xs) => xs.length < sizeLine ∧ Q .none (E1.set i (.ol (xs ++ [d])))
    | _ => False
  | _ => False
theorem ed_app (i : Nat) {t : TD} (h : ED X G e t) (hN : X.N[i]? = some x := by rfl) (hv : Vis X.env.scope x := by first | exact Or.inl rfl | exact Or.inr (Or.inl rfl) | exact Or.inr (Or.inr rfl)) (hd : (x == ("__debug__" : Str)) = false := by decide)
    (hcd : (x == ("__classdict__" : Str)) = false := by decide)
    (hbase : attributeBase (.Name x p0) "append" X.env (eval (.Name x p0) X.env) = eval (.Name x p0) X.env := by rfl)
    (hfew : ((backTo cpos (starEach [e] X.env)).all (fun x => !x.1) && (backToKw cpos (keywordEach [] X.env)).all (fun x => x.1.isSome)
      && decide (([e] : List Expr).length + ([] : List Keyword).length + (if ([] : List Keyword).isEmpty then 0 else 1) < 30)) = true := by rfl)
    (hline : (apos.endLine == cpos.line) = true := by rfl) (hs : starEach [e] X.env = (false, eval e X.env) :: starEach [] X.env := by rfl) (hplain : (backTo cpos (starEach [] X.env)).any (·.1) = false := by rfl) :
    ED X G (.Call (.Attribute (.Name x p0) "append" apos) [e] [] cpos) (tApp i t) :=
  ⟨PE.weak (pe_bm PySem.F.plainAttrs_list PySem.F.slot_list_append PySem.F.type_list_append mt_append (pe_var hN hv hd hcd) (pa_cons h.pe pa_nil hs) hbase hfew hline hs hplain) fun σ H Q ⟨E, QE, r, q, k⟩ => by
    unfold tApp at q
    split at q
    · rename_i xs0 he0
      obtain ⟨l, vs0, e1, e2, e3⟩ := r.ol he0
      refine ⟨_, e1, .inl ⟨rfl, _, SqL.of e2⟩, E, _, r, q, fun d E1 v H1 q1 x1 r1 p1 => ?_⟩
      split at q1
      · rename_i xs he
        obtain ⟨l', vs, f1, f2, f3⟩ := r1.ol he
        rw [e1] at f1; cases f1
        refine ⟨l, vs, v, rfl, rfl, f2, by rw [← f3.length]; exact q1.1, ?_⟩
        exact k _ _ _ _ q1.2 (x1.trans (Ext.put f2)) (r1.putL he e1 (RpL.append f3 (.cons p1 .nil))) .non
      · exact q1.elim
    · exact q.elim⟩
def tExtd (i : Nat) (t : TLd) : TD := fun E Q => match E[i]? with
  | some (.ol _) => t E fun ys E1 => match E1[i]? with
    | some (.ol xs) => xs.length + ys.length ≤ sizeLine ∧ Q .none (E1.set i (.ol (xs ++ ys)))
    | _ => False
  | _ => False
theorem ed_extd (i : Nat) {t : TLd} (h : EL X G e t) (hN : X.N[i]? = some x := by rfl) (hv : Vis X.env.scope x := by first | exact Or.inl rfl | exact Or.inr (Or.inl rfl) | exact Or.inr (Or.inr rfl)) (hd : (x == ("__debug__" : Str)) = false := by decide)
    (hcd : (x == ("__classdict__" : Str)) = false := by decide)
    (hbase : attributeBase (.Name x p0) "extend" X.env (eval (.Name x p0) X.env) = eval (.Name x p0) X.env := by rfl)
    (hfew : ((backTo cpos (starEach [e] X.env)).all (fun x => !x.1) && (backToKw cpos (keywordEach [] X.env)).all (fun x => x.1.isSome)
      && decide (([e] : List Expr).length + ([] : List Keyword).length + (if ([] : List Keyword).isEmpty then 0 else 1) < 30)) = true := by rfl)
    (hline : (apos.endLine == cpos.line) = true := by rfl) (hs : starEach [e] X.env = (false, eval e X.env) :: starEach [] X.env := by rfl) (hplain : (backTo cpos (starEach [] X.env)).any (·.1) = false := by rfl) :
    ED X G (.Call (.Attribute (.Name x p0) "extend" apos) [e] [] cpos) (tExtd i t) :=
  ⟨PE.weak (pe_bm PySem.F.plainAttrs_list PySem.F.slot_list_extend PySem.F.type_list_extend mt_extend (pe_var hN hv hd hcd) (pa_cons h.pe pa_nil hs) hbase hfew hline hs hplain) fun σ H Q ⟨E, QE, r, q, k⟩ => by
    unfold tExtd at q
    split at q
    · rename_i xs0 he0
      obtain ⟨l, vs0, e1, e2, e3⟩ := r.ol he0
      refine ⟨_, e1, .inl ⟨rfl, _, SqL.of e2⟩, E, _, r, q, fun ys E1 b us H1 q1 x1 r1 h0 na hb p1 => ?_⟩
      split at q1
      · rename_i xs he
        obtain ⟨l', vs, f1, f2, f3⟩ := r1.ol he
        rw [e1] at f1; cases f1
        refine ⟨l, b, vs, us, rfl, rfl, f2, hb, by rw [← f3.length, ← p1.length]; exact q1.1, ?_⟩
        exact k _ _ _ _ q1.2 (x1.trans (Ext.put f2)) (r1.weak.putL he e1 (RpL.append f3 p1)) .non
      · exact q1.elim
    · exact q.elim⟩
def tPopAt (i : Nat) (t : TD) : TD := fun E Q => match E[i]? with
  | some (.ol _) => t E fun d E1 => match d, E1[i]? with
    | .int k, some (.ol xs) => (0 ≤ k ∧ k < xs.length ∧ k < 2 ^ 63) ∧ ∀ y, xs[k.toNat]? = some y → Q y (E1.set i (.ol (xs.eraseIdx k.toNat)))
    | _, _ => False
  | _ => False
theorem seqIndex_nat {k : Int} {n : Nat} (h0 : 0 ≤ k) (h1 : k < n) : seqIndex? k n = some k.toNat := by
  have := (ixN_seq (n := n) (i := k) (j := k.toNat) (by unfold ixN; rw [if_pos h0, if_pos h1])).1
  exact this
theorem ed_popAt (i : Nat) {t : TD} (h : ED X G e t) (hN : X.N[i]? = some x := by rfl) (hv : Vis X.env.scope x := by first | exact Or.inl rfl | exact Or.inr (Or.inl rfl) | exact Or.inr (Or.inr rfl)) (hd : (x == ("__debug__" : Str)) = false := by decide)
    (hcd : (x == ("__classdict__" : Str)) = false := by decide)
    (hbase : attributeBase (.Name x p0) "pop" X.env (eval (.Name x p0) X.env) = eval (.Name x p0) X.env := by rfl)
    (hfew : ((backTo cpos (starEach [e] X.env)).all (fun x => !x.1) && (backToKw cpos (keywordEach [] X.env)).all (fun x => x.1.isSome)
      && decide (([e] : List Expr).length + ([] : List Keyword).length + (if ([] : List Keyword).isEmpty then 0 else 1) < 30)) = true := by rfl)
    (hline : (apos.endLine == cpos.line) = true := by rfl) (hs : starEach [e] X.env = (false, eval e X.env) :: starEach [] X.env := by rfl) (hplain : (backTo cpos (starEach [] X.env)).any (·.1) = false := by rfl) :
    ED X G (.Call (.Attribute (.Name x p0) "pop" apos) [e] [] cpos) (tPopAt i t) :=
  ⟨PE.weak (pe_bm PySem.F.plainAttrs_list PySem.F.slot_list_pop PySem.F.type_list_pop mt_popAt (pe_var hN hv hd hcd) (pa_cons h.pe pa_nil hs) hbase hfew hline hs hplain) fun σ H Q ⟨E, QE, r, q, k⟩ => by
    unfold tPopAt at q
    split at q
    · rename_i xs0 he0
      obtain ⟨l, vs0, e1, e2, e3⟩ := r.ol he0
      refine ⟨_, e1, .inl ⟨rfl, _, SqL.of e2⟩, E, _, r, q, fun d E1 v H1 q1 x1 r1 p1 => ?_⟩
      split at q1
      · rename_i d0 o0 j xs he
        cases p1
        obtain ⟨l', vs, f1, f2, f3⟩ := r1.ol he
        rw [e1] at f1; cases f1
        obtain ⟨⟨z0, z1, z2⟩, q1⟩ := q1
        have zl : j.toNat < xs.length := by omega
        have ey : xs[j.toNat]? = some xs[j.toNat] := List.getElem?_eq_getElem zl
        obtain ⟨y, hy, py⟩ := f3.get ey
        refine ⟨l, vs, j, j.toNat, y, rfl, rfl, f2, by omega, z2, seqIndex_nat z0 (by rw [← f3.length]; exact z1), hy, ?_⟩
        exact k _ _ _ _ (q1 _ ey) (x1.trans (Ext.put f2)) (r1.putL he e1 (RpL.eraseIdx _ f3)) (py.ext (Ext.put f2))
      · exact q1.elim
    · exact q.elim⟩
/-- an item is put -/
def putD (xs : List D) (k : Int) (d : D) (Q : List D → Prop) : Prop := match ixN xs.length k with
  | some n => Q (xs.set n d)
  | none => False
/-- xs[k] = e -/
def sSetIx (i : Nat) (tk te : TD) : TSd := fun DE E => te E fun d E1 => match E1[i]? with
  | some (.ol _) => tk E1 fun j E2 => match j, E2[i]? with
    | .int k, some (.ol xs) => putD xs k d fun ys => DE.nx (E2.set i (.ol ys))
    | _, _ => False
  | _ => False
theorem sd_setIx (i : Nat) {ix : Expr} {tk te : TD} (hk : ED X G ix tk) (he : ED X G e te) (hN : X.N[i]? = some x := by rfl) (hv : Vis X.env.scope x := by first | exact Or.inl rfl | exact Or.inr (Or.inl rfl) | exact Or.inr (Or.inr rfl)) (hd : (x == ("__debug__" : Str)) = false := by decide)
    (hcd : (x == ("__classdict__" : Str)) = false := by decide)
    (ha : ∀ v, assign (.Subscript (.Name x p0) ix apos) X.env v = (do
      let ov ← holding [v] (eval (.Name x p0) X.env)
      let iv ← holding [v, ov] (eval ix X.env)
      standAt apos
      holding [v, ov, iv] (setItem ov iv v)
      release [v, ov, iv] []) := by intro _; rfl)
    (hs : swapsWithSole [.Subscript (.Name x p0) ix apos] e pos.line X.env = pure false := by rfl) (hw : swappedStores [.Subscript (.Name x p0) ix apos] e X.env = pure none := by rfl)
    (hb : (assignEach [.Subscript (.Name x p0) ix apos] X.env).map (·.2) = [assign (.Subscript (.Name x p0) ix apos) X.env] := by rfl) :
    SD X G (.Assign [.Subscript (.Name x p0) ix apos] e pos) (sSetIx i tk te) :=
  ⟨PS.weak (ps_asg he.pe (pg_sub (pe_var hN hv hd hcd) hk.pe set_list ha) hs hw hb) fun F σ H ⟨E, DE, r, q, k1, k2, k3, k4⟩ => ⟨E, _, r, q, fun d E1 v H1 q1 x1 r1 p1 => by
    split at q1
    · rename_i xs0 he0
      obtain ⟨l, vs0, e1, e2, e3⟩ := r1.ol he0
      refine ⟨_, e1, E1, _, r1, q1, fun j E2 u H2 q2 x2 r2 p2 => ?_⟩
      split at q2
      · rename_i d0 o0 k xs he
        cases p2
        unfold putD at q2
        split at q2
        · rename_i n hn
          obtain ⟨l', vs, f1, f2, f3⟩ := r2.ol he
          rw [e1] at f1; cases f1
          refine ⟨l, vs, k, n, rfl, rfl, f2, by rw [← f3.length]; exact hn, ?_⟩
          exact k1 _ _ _ q2 ((x1.trans x2).trans (Ext.put f2)) (r2.putL he e1 (RpL.set (p1.ext x2) n f3))
        · exact q2.elim
      · exact q2.elim
    · exact q1.elim⟩⟩

/-! ### several at once -/
abbrev TPs := Env → (List S → Env → Prop) → Prop
/-- new lists at ex, data -/
inductive PVs (K : PySem.W.Frag) (G : Gh) (H : Hp) : List S → List V → List Addr → Prop
  | nil : PVs K G H [] [] []
  | d {x : D} {v : V} {ss : List S} {vs : List V} {ex : List Addr} : Rp K H x v → PVs K G H ss vs ex → PVs K G H (.d x :: ss) (v :: vs) ex
  | m {s : S} {a : Addr} {ss : List S} {vs : List V} {ex : List Addr} : RelM K H s a → G.H0 a = none → a ∉ G.addrs → a ∉ ex → PVs K G H ss vs ex → PVs K G H (s :: ss) (.ref a :: vs) (a :: ex)
theorem PVs.length {K : PySem.W.Frag} {G : Gh} {H : Hp} : ∀ {ss : List S} {vs : List V} {ex : List Addr}, PVs K G H ss vs ex → ss.length = vs.length
  | _, _, _, .nil => rfl
  | _, _, _, .d _ r => by rw [List.length_cons, List.length_cons, PVs.length r]
  | _, _, _, .m _ _ _ _ r => by rw [List.length_cons, List.length_cons, PVs.length r]
theorem PVs.pext {K : PySem.W.Frag} {G : Gh} {H H' : Hp} (p : PExt H H') : ∀ {ss : List S} {vs : List V} {ex : List Addr}, PVs K G H ss vs ex → PVs K G H' ss vs ex
  | _, _, _, .nil => .nil
  | _, _, _, .d h r => .d (h.ext p.ext) (PVs.pext p r)
  | _, _, _, .m h1 h3 h4 h5 r => .m (h1.move p.ext (by obtain ⟨u, e, _⟩ := h1.soft; rw [e, p _ _ e])) h3 h4 h5 (PVs.pext p r)
theorem PVs.ofPend {K : PySem.W.Frag} {G : Gh} {H : Hp} {a : Addr} {o : HO} : ∀ {ss : List S} {vs : List V} {ex : List Addr}, PVs K (pend G a o) H ss vs ex → PVs K G H ss vs ex ∧ a ∉ ex
  | _, _, _, .nil => ⟨.nil, by simp⟩
  | _, _, _, .d h r => ⟨.d h (PVs.ofPend r).1, (PVs.ofPend r).2⟩
  | _, _, _, .m (a := b) h1 h3 h4 h5 r => by
    have z : b ≠ a := by
      rintro rfl
      have : upd G.H0 b o b = none := h3
      rw [upd_same] at this; cases this
    have h3' : G.H0 b = none := by
      have : upd G.H0 a o b = none := h3
      rw [upd_ne z] at this; exact this
    refine ⟨.m h1 h3' h4 h5 (PVs.ofPend r).1, fun q => ?_⟩
    rcases List.mem_cons.mp q with q | q
    · exact z q.symm
    · exact (PVs.ofPend r).2 q
def liftPs (K : PySem.W.Frag) (G : Gh) (t : TPs) : TA := fun σ H Q => ∃ (E : Env) (QE : List S → Env → Prop), RelE K G H E σ ∧ t E QE ∧ ∀ ss E' vs H' ex, QE ss E' → Ext H H' → RelX K G ex H' E' σ → PVs K G H' ss vs ex → Q vs H'
structure EPs (X : Cx) (G : Gh) (es : List Expr) (t : TPs) : Prop where
  pa : PA X es (liftPs X.K G t)
def pNil : TPs := fun E Q => Q [] E
def pD (t : TD) (u : TPs) : TPs := fun E Q => t E fun x E1 => u E1 fun ss E2 => Q (.d x :: ss) E2
def pL (t : TLd) (u : TPs) : TPs := fun E Q => t E fun xs E1 => u E1 fun ss E2 => Q (.ol xs :: ss) E2
theorem eps_nil : EPs X G [] pNil := ⟨PA.weak pa_nil fun σ H Q ⟨E, QE, r, q, k⟩ => k _ _ _ _ _ q (Ext.refl _) r .nil⟩
theorem eps_d {t : TD} {u : TPs} (h : ED X G e t) (hr : EPs X G es u) (hs : starEach (e :: es) X.env = (false, eval e X.env) :: starEach es X.env := by rfl) : EPs X G (e :: es) (pD t u) :=
  ⟨PA.weak (pa_cons h.pe hr.pa hs) fun σ H Q ⟨E, QE, r, q, k⟩ => ⟨E, _, r, q, fun x E1 v H1 q1 x1 r1 p1 => ⟨E1, _, r1, q1, fun ss E2 vs H2 ex q2 x2 r2 p2 => k _ _ _ _ _ q2 (x1.trans x2) r2 (.d (p1.ext x2) p2)⟩⟩⟩
theorem eps_l {t : TLd} {u : TPs} (h : EL X G e t) (hr : ∀ G' : Gh, G'.slots = G.slots → EPs X G' es u) (hs : starEach (e :: es) X.env = (false, eval e X.env) :: starEach es X.env := by rfl) : EPs X G (e :: es) (pL t u) := by
  have hp : PA X es (fun σ H Q => ∃ G' : Gh, G'.slots = G.slots ∧ liftPs X.K G' u σ H Q) := ⟨fun pos pins s σ H Q I ⟨G', hG', q⟩ => (hr G' hG').pa.run pos pins s σ H Q I q⟩
  refine ⟨PA.weak (pa_cons h.pe hp hs) fun σ H Q ⟨E, QE, r, q, k⟩ => ⟨E, _, r, q, fun xs E1 a us H1 q1 x1 r1 h0 na ha p1 => ?_⟩⟩
  refine ⟨pend G a (.lst us), rfl, E1, _, r1.toPend ha na, q1, fun ss E2 vs H2 ex q2 x2 r2 p2 => ?_⟩
  obtain ⟨r3, ha3⟩ := RelX.ofPend r2 h0 na
  obtain ⟨p3, nx⟩ := PVs.ofPend p2
  exact k _ _ _ _ (a :: ex) q2 (x1.trans x2) r3 (.m (s := .ol xs) ⟨_, ha3, p1.ext x2⟩ h0 na nx p3)
def setAll : Env → List Nat → List S → Env
  | E, i :: is, s :: ss => setAll (E.set i s) is ss
  | E, _, _ => E
def setAllV : St → List Nat → List V → St
  | σ, i :: is, v :: vs => setAllV (σ.set i (some v)) is vs
  | σ, _, _ => σ
theorem RelX.setAll {K : PySem.W.Frag} {G : Gh} {H : Hp} : ∀ {is : List Nat} {ss : List S} {vs : List V} {ex : List Addr} {E : Env} {σ : St}, (∀ i ∈ is, i ∉ G.slots) → is.length = ss.length → RelX K G ex H E σ → PVs K G H ss vs ex → RelE K G H (setAll E is ss) (setAllV σ is vs)
  | [], [], [], _, E, σ, _, _, r, .nil => r
  | i :: is, _, _, _, E, σ, hi, hl, r, .d p t => by
    exact RelX.setAll (is := is) (fun j hj => hi j (List.mem_cons_of_mem _ hj)) (by simpa using hl) (r.setD (hi i (List.mem_cons_self ..)) p) t
  | i :: is, _, _, _, E, σ, hi, hl, r, .m h1 h3 h4 h5 t => by
    exact RelX.setAll (is := is) (fun j hj => hi j (List.mem_cons_of_mem _ hj)) (by simpa using hl) (r.setM h5 (hi i (List.mem_cons_self ..)) h3 h1) t
  | [], _, _, _, _, _, _, hl, _, .d _ _ => by simp at hl
  | [], _, _, _, _, _, _, hl, _, .m _ _ _ _ _ => by simp at hl
  | _ :: _, _, _, _, _, _, _, hl, _, .nil => by simp at hl
def sPar (is : List Nat) (t : TPs) : TSd := fun DE E => t E fun ss E1 => is.length = ss.length ∧ DE.nx (setAll E1 is ss)
/-- x, y = a, b: plain local names -/
theorem sd_par2 {i j : Nat} {x y : Str} {t : TPs} {px py pt : Pos} {kt k2 pt2} (hsl : ∀ n ∈ [i, j], n ∉ G.slots) (hc : X.calm = true) (hN : X.N.Nodup) (hi : X.N[i]? = some x) (hj : X.N[j]? = some y) (hij : i ≠ j)
    (hx : X.env.scope.names.lookup x = some .local) (hy : X.env.scope.names.lookup y = some .local) (ha : EPs X G [a, b] t)
    (hw : swappedStores [.Tuple [.Name x px, .Name y py] kt pt] (.Tuple [a, b] k2 pt2) X.env = pure (some [x, y]) := by rfl)
    (hs : swapsWithSole [.Tuple [.Name x px, .Name y py] kt pt] (.Tuple [a, b] k2 pt2) pos.line X.env = pure false := by rfl) :
    SD X G (.Assign [.Tuple [.Name x px, .Name y py] kt pt] (.Tuple [a, b] k2 pt2) pos) (sPar [i, j] t) :=
  ⟨PS.weak (ps_par hc hN hi hj hij hx hy ha.pa hw hs) fun F σ H ⟨E, DE, r, q, k1, k2, k3, k4⟩ => ⟨E, _, r, q, fun ss E1 vs H1 ex q1 x1 r1 p1 => by
    obtain ⟨hl, q1⟩ := q1
    have hv : vs.length = 2 := by rw [← p1.length, ← hl]; rfl
    match vs, hv, p1 with
    | [v, w], _, p1 => exact ⟨v, w, rfl, k1 _ _ _ q1 x1 (RelX.setAll hsl hl r1 p1)⟩⟩⟩
/-- the targets of names, any; the pair is made -/
theorem sd_parC {tgs : List Expr} {is : List Nat} {t : TPs} {kt k2 : Nat} {pt pt2 : Pos} {n : Nat} (hsl : ∀ i ∈ is, i ∉ G.slots) (hc : X.calm = true) (hz : is.length ≤ sizeLine) (ha : EPs X G es t) (hn : is.length = n)
    (hg : PGs X tgs (fun vs σ H Q => vs.length = n ∧ Q (setAllV σ is vs) H))
    (hn2 : (assignEach tgs X.env).length = n := by rfl) (hst : (assignEach tgs X.env).findIdx? (·.1) = none := by rfl)
    (hs : swapsWithSole [.Tuple tgs kt pt] (.Tuple es k2 pt2) pos.line X.env = pure false := by rfl) (hw : swappedStores [.Tuple tgs kt pt] (.Tuple es k2 pt2) X.env = pure none := by rfl)
    (hb : (assignEach [.Tuple tgs kt pt] X.env).map (·.2) = [assign (.Tuple tgs kt pt) X.env] := by rfl) :
    SD X G (.Assign [.Tuple tgs kt pt] (.Tuple es k2 pt2) pos) (sPar is t) :=
  ⟨PS.weak (ps_asg (pe_tup ha.pa) (pg_tup hc hg hn2 hst) hs hw hb) fun F σ H ⟨E, DE, r, q, k1, k2, k3, k4⟩ => ⟨E, _, r, q, fun ss E1 vs H1 ex q1 x1 r1 p1 => by
    obtain ⟨hl, q1⟩ := q1
    have hv : vs.length = n := by rw [← p1.length, ← hl, hn]
    refine ⟨by rw [hv, ← hn]; exact hz, fun p hp => ⟨p, vs, rfl, SqT.of upd_same, hv, hv, ?_⟩⟩
    have px := PExt.new (o := .tup vs) hp
    exact k1 _ _ _ q1 (x1.trans px.ext) (RelX.setAll hsl hl (r1.pext px) (p1.pext px))⟩⟩
theorem pgs_n0 : PGs X [] (fun vs σ H Q => vs.length = 0 ∧ Q (setAllV σ [] vs) H) := ⟨fun pins s σ H vs us Q I r h => pgs_nil.run pins s σ H vs us Q I r (by
  obtain ⟨h1, h2⟩ := h
  have : vs = [] := List.length_eq_zero_iff.mp h1
  subst this; exact ⟨rfl, h2⟩)⟩
theorem pgs_nS {i n : Nat} {is : List Nat} {tgs : List Expr} {x : Str} {px : Pos} (hN : X.N.Nodup) (hx : X.N[i]? = some x) (hl : Loc X.env.scope x) (h : PGs X tgs (fun vs σ H Q => vs.length = n ∧ Q (setAllV σ is vs) H))
    (hf : X.fn x = true ∨ X.env.scope.names.lookup x = some .local := by first | exact .inl rfl | exact .inr rfl | assumption)
    (hs : (assignEach (.Name x px :: tgs) X.env).map (·.2) = assign (.Name x px) X.env :: (assignEach tgs X.env).map (·.2) := by rfl) :
    PGs X (.Name x px :: tgs) (fun vs σ H Q => vs.length = n + 1 ∧ Q (setAllV σ (i :: is) vs) H) := ⟨fun pins s σ H vs us Q I r h' => (pgs_cons (pg_name hN hx hl hf) h hs).run pins s σ H vs us Q I r (by
  obtain ⟨h1, h2⟩ := h'
  match vs, h1, h2 with
  | v :: vs, h1, h2 => exact ⟨v, vs, rfl, by simpa using h1, h2⟩)⟩
end
end DL

set_option Elab.async false
set_option linter.all false
set_option maxRecDepth 100000
set_option maxHeartbeats 1000000
namespace DL
open PySem PySem.Spec PyProof.Rows L2

section
variable {X : Cx}
/-! ### arithmetic -/
theorem or3 {f : Value → Value → Sem Value} {r1 r2 r3 : R2} (h1 : OpR X f r1) (h2 : OpR X f r2) (h3 : OpR X f r3) : OpR X f (fun x y H Q => r1 x y H Q ∨ (r2 x y H Q ∨ r3 x y H Q)) := h1.or (h2.or h3)
/-- () + t is t -/
theorem op_catT0 : OpR X (binaryOp .Add) (fun x y H Q => ∃ a b ys, x = .ref a ∧ y = .ref b ∧ SqT X.K H a [] ∧ SqT X.K H b ys ∧ Q (.ref b) H) := by
  intro pins s σ H x y v u Q I rx ry h
  obtain ⟨a, b, ys, rfl, rfl, ha, hb, q⟩ := h
  cases rx
  cases ry
  obtain ⟨its, r1, p1, _⟩ := I.tuple ha
  obtain ⟨its2, r2, p2, _⟩ := I.tuple hb
  have e0 : its = [] := r1.nil_iff.mpr rfl
  subst e0
  obtain ⟨⟨cls, dd, data, sl⟩, ho, hc, n, hd⟩ := id p1
  obtain ⟨⟨cls2, dd2, data2, sl2⟩, ho2, hc2, n2, hd2⟩ := id p2
  simp only at hc hd hc2 hd2
  subst hc hd hc2 hd2
  exact concat_meets ⟨_, ho, rfl⟩ ⟨_, ho2, rfl⟩ noFill_tuple_add seq_tuple_add PySem.F.slot_tuple_add PySem.F.entry_tuple_add (PySem.F.args_tuple_add_2 _ _)
      (tuple_addW0 a b [].toArray its2.toArray n n2 dd dd2 sl sl2 rfl) ⟨ho, ho2, ⟨.ref b, H, I, rfl, q⟩⟩
/-- t + u, both with items: a new, plain tuple -/
theorem op_catF : OpR X (binaryOp .Add) (fun x y H Q => ∃ a b xs ys, x = .ref a ∧ y = .ref b ∧ SqT X.K H a xs ∧ SqT X.K H b ys ∧ xs ≠ [] ∧ xs.length + ys.length ≤ sizeLine ∧ (ys = [] → Q (.ref a) H) ∧ (ys ≠ [] → ∀ p o, H p = none → o.dict = none → Q (.ref p) (upd H p (.frz o (.tup (xs ++ ys)))))) := by
  intro pins s σ H x y v u Q I rx ry h
  obtain ⟨a, b, xs, ys, rfl, rfl, ha, hb, hx, hz, q1, q2⟩ := h
  cases rx; cases ry
  obtain ⟨its, r1, p1, _⟩ := I.tuple ha
  obtain ⟨its2, r2, p2, _⟩ := I.tuple hb
  refine HT.cat_tup p1 p2 (fun z => hx (r1.nil_iff.mp z)) (fun z => ⟨.ref a, H, I, rfl, q1 (r2.nil_iff.mp z)⟩) (fun z => ?_) (by rw [← r1.length, ← r2.length]; exact hz)
  refine ⟨.ref s.heap.objs.size, _, I.laid (t' := s.toks) (o := .frz _ (.tup (xs ++ ys))) (fun b ob q => Heap.get?_push_of_some _ q) (Nat.le_refl _) ⟨Heap.get?_push_size _ rfl, ?_⟩, rfl, q2 (fun w => z (r2.nil_iff.mpr w)) _ _ (I.hok.fresh (Nat.le_refl _)) rfl⟩
  exact ⟨by rw [List.length_append]; exact hz, _, r1.append r2, IsTup.new _ _⟩
/-- tuple(xs) of a list: a new, plain tuple -/
theorem call_tupF : CallR X (.type "tuple") (fun xs H Q => ∃ p ys, xs = [.ref p] ∧ ((SqL X.K H p ys ∧ ∀ l o, H l = none → o.dict = none → Q (.ref l) (upd H l (.frz o (.tup ys)))) ∨ (SqT X.K H p ys ∧ Q (.ref p) H))) := by
  intro pins s σ H xs us Q I r h
  obtain ⟨p, ys, rfl, h⟩ := h
  obtain rfl := Vals.ref1 r
  rcases h with ⟨hq, q⟩ | ⟨hq, q⟩
  · obtain ⟨its, r', pl, hz⟩ := I.list hq
    have hlen := r'.length
    refine call_tuple_list pl.isList (fun h' kp => ?_) (by simp only [List.size_toArray] <;> omega)
    have I1 : Inv X pins σ H { s with heap := h' } := I.kept (t' := s.toks) kp
    exact ⟨.ref h'.objs.size, upd H h'.objs.size (.frz { cls := .type "tuple", data := .seq its.toArray } (.tup ys)), I1.laid (t' := s.toks) (fun b o e => Heap.get?_push_of_some _ e) (Nat.le_refl _) ⟨Heap.get?_push_size _ rfl, hz, its, r', IsTup.new _ _⟩, rfl, q _ _ (I1.hok.fresh (Nat.le_refl _)) rfl⟩
  · obtain ⟨its, r', pl, hz⟩ := I.tuple hq
    exact call_tuple_same pl ⟨.ref p, H, I, rfl, q⟩
def opAdd : OpT := fun x y Q => match x, y with
  | .int i, .int j => Q (.int (i + j))
  | .str a, .str b => a.length + b.length ≤ sizeLine ∧ Q (.str (a ++ b))
  | .tuple xs, .tuple ys => xs.length + ys.length ≤ sizeLine ∧ Q (.tuple (xs ++ ys))
  | _, _ => False
theorem od_add : OpD X (binaryOp .Add) opAdd := by
  refine ⟨_, op_add.or (op_add_str.or (op_catF.or op_catT0)), fun x y v u H QD Q hx hy q k => ?_⟩
  cases x with
  | int i =>
    cases y with
    | int j => rw [hx.int, hy.int]; exact .inl ⟨i, j, rfl, rfl, k _ _ _ q (PExt.refl _) (.int _)⟩
    | _ => exact q.elim
  | str i =>
    cases y with
    | str j => rw [hx.str, hy.str]; exact .inr (.inl ⟨i, j, rfl, rfl, q.1, k _ _ _ q.2 (PExt.refl _) (.str _)⟩)
    | _ => exact q.elim
  | tuple xs =>
    cases y with
    | tuple ys =>
      obtain ⟨a, vs, rfl, sa, la⟩ := hx.tupD
      obtain ⟨b, us, rfl, sb, lb⟩ := hy.tupD
      cases la with
      | nil => exact .inr (.inr (.inr ⟨a, b, us, rfl, rfl, sa.1, sb.1, k _ _ _ q.2 (PExt.refl _) (.tup sb lb)⟩))
      | cons p la =>
        rename_i x0 v0 xs0 vs0
        refine .inr (.inr (.inl ⟨a, b, _, us, rfl, rfl, sa.1, sb.1, List.cons_ne_nil _ _, ?_, fun e => ?_, fun _ p0 o hp ho => ?_⟩))
        · have := q.1
          rw [List.length_cons] at this ⊢
          rw [← la.length, ← lb.length]; exact this
        · subst e
          cases lb
          have := q.2
          rw [List.append_nil] at this
          exact k _ _ _ this (PExt.refl _) (.tup sa (.cons p la))
        · have px := PExt.new (o := .frz o (.tup (v0 :: vs0 ++ us))) hp
          exact k _ _ _ q.2 px (.tup (.new ho) ((RpL.append (.cons p la) lb).ext px.ext))
    | _ => exact q.elim
  | _ => exact q.elim
def opI (C : Int → Int → Prop) (g : Int → Int → Int) : OpT := fun x y Q => match x, y with
  | .int i, .int j => C i j ∧ Q (.int (g i j))
  | _, _ => False
def opI0 (g : Int → Int → Int) : OpT := fun x y Q => match x, y with
  | .int i, .int j => Q (.int (g i j))
  | _, _ => False
def opB0 (g : Int → Int → Bool) : OpT := fun x y Q => match x, y with
  | .int i, .int j => Q (.bool (g i j))
  | _, _ => False
theorem od_I {f : Value → Value → Sem Value} {C : Int → Int → Prop} {g : Int → Int → Int} (h : OpR X f (rI C fun i j => .int (g i j))) : OpD X f (opI C g) := ⟨_, h, fun x y v u H QD Q hx hy q k => by
  cases x with
  | int i =>
    cases y with
    | int j => rw [hx.int, hy.int]; exact ⟨i, j, rfl, rfl, q.1, k _ _ _ q.2 (PExt.refl _) (.int _)⟩
    | _ => exact q.elim
  | _ => exact q.elim⟩
theorem od_I0 {f : Value → Value → Sem Value} {g : Int → Int → Int} (h : OpR X f (rI0 fun i j => .int (g i j))) : OpD X f (opI0 g) := ⟨_, h, fun x y v u H QD Q hx hy q k => by
  cases x with
  | int i =>
    cases y with
    | int j => rw [hx.int, hy.int]; exact ⟨i, j, rfl, rfl, k _ _ _ q (PExt.refl _) (.int _)⟩
    | _ => exact q.elim
  | _ => exact q.elim⟩
theorem od_B0 {f : Value → Value → Sem Value} {g : Int → Int → Bool} (h : OpR X f (rI0 fun i j => .bl (g i j))) : OpD X f (opB0 g) := ⟨_, h, fun x y v u H QD Q hx hy q k => by
  cases x with
  | int i =>
    cases y with
    | int j => rw [hx.int, hy.int]; exact ⟨i, j, rfl, rfl, k _ _ _ q (PExt.refl _) (.bl _)⟩
    | _ => exact q.elim
  | _ => exact q.elim⟩
def opSub : OpT := opI0 fun i j => i - j
theorem od_sub : OpD X (binaryOp .Sub) opSub := od_I0 op_sub
def opMul : OpT := opI CMulW fun i j => i * j
theorem od_mul : OpD X (binaryOp .Mult) opMul := od_I op_mulW
def opDiv : OpT := opI CDivW fun i j => i / j
theorem od_div : OpD X (binaryOp .FloorDiv) opDiv := od_I op_fdivW
def opMod : OpT := opI (fun _ j => 0 < j) fun i j => i % j
theorem od_mod : OpD X (binaryOp .Mod) opMod := od_I op_mod
def opPow : OpT := opI CPow fun i j => i ^ j.toNat
theorem od_pow : OpD X (binaryOp .Pow) opPow := od_I op_pow
def unNeg : UnT := fun x Q => match x with
  | .int i => Q (.int (-i))
  | _ => False
theorem ud_neg : UnD X (unaryOp .USub) unNeg := ⟨_, un_neg, fun x v H QD Q hx q k => by
  cases x with
  | int i => rw [hx.int]; exact ⟨i, rfl, k _ _ _ q (PExt.refl _) (.int _)⟩
  | _ => exact q.elim⟩

/-! ### comparisons -/
def opEq : OpT := fun x y Q => (SeqAt.shaped x = true ∧ SeqAt.shaped y = true) ∧ Q (.bool (PyData.eqv x y))
def opNe : OpT := fun x y Q => (SeqAt.shaped x = true ∧ SeqAt.shaped y = true) ∧ Q (.bool (!PyData.eqv x y))
theorem od_eq (hu : X.A.units + 64 < cLine) : OpD X (compareOp .Eq) opEq := ⟨_, op_eqD hu, fun x y v u H QD Q hx hy q k => ⟨x, y, hx.dp (SeqAt.canLay_of_shaped q.1.1), hy.dp (SeqAt.canLay_of_shaped q.1.2), q.1.1, q.1.2, k _ _ _ q.2 (PExt.refl _) (.bl _)⟩⟩
theorem od_ne (hu : X.A.units + 64 < cLine) : OpD X (compareOp .NotEq) opNe := ⟨_, op_neD hu, fun x y v u H QD Q hx hy q k => ⟨x, y, hx.dp (SeqAt.canLay_of_shaped q.1.1), hy.dp (SeqAt.canLay_of_shaped q.1.2), q.1.1, q.1.2, k _ _ _ q.2 (PExt.refl _) (.bl _)⟩⟩
def opLt : OpT := opB0 fun i j => decide (i < j)
theorem od_lt : OpD X (compareOp .Lt) opLt := od_B0 op_lt
def opLe : OpT := opB0 fun i j => decide (i ≤ j)
theorem od_le : OpD X (compareOp .LtE) opLe := od_B0 op_le
def opGt : OpT := opB0 fun i j => decide (j < i)
theorem od_gt : OpD X (compareOp .Gt) opGt := od_B0 op_gt
def opGe : OpT := opB0 fun i j => decide (j ≤ i)
theorem od_ge : OpD X (compareOp .GtE) opGe := od_B0 op_ge
def isNone : D → Bool
  | .none => true
  | _ => false
def opIs : OpT := fun x y Q => match y with
  | .none => Q (.bool (isNone x))
  | .bool b => match x with
    | .bool a => Q (.bool (decide (a = b)))
    | _ => False
  | _ => False
def opIsN : OpT := fun x y Q => match y with
  | .none => Q (.bool (!isNone x))
  | .bool b => match x with
    | .bool a => Q (.bool (!decide (a = b)))
    | _ => False
  | _ => False
theorem isNone_iff {K : PySem.W.Frag} {H : Hp} {x : D} {v : V} (h : RpR K H x v) : isNone x = decide (v = .non) := by
  rcases h with h | ⟨ds, a, vs, rfl, rfl, _⟩
  · cases h <;> rfl
  · rfl
theorem od_is : OpD X (compareOp .Is) opIs := ⟨_, op_isN.or op_isBl, fun x y v u H QD Q hx hy q k => by
  cases y with
  | none => rw [hy.none]; exact .inl ⟨rfl, by rw [← isNone_iff hx]; exact k _ _ _ q (PExt.refl _) (.bl _)⟩
  | bool b =>
    cases x with
    | bool a => rw [hx.bool, hy.bool]; exact .inr ⟨a, b, rfl, rfl, k _ _ _ q (PExt.refl _) (.bl _)⟩
    | _ => exact q.elim
  | _ => exact q.elim⟩
theorem od_isN : OpD X (compareOp .IsNot) opIsN := ⟨_, op_notN.or op_notBl, fun x y v u H QD Q hx hy q k => by
  cases y with
  | none => rw [hy.none]; exact .inl ⟨rfl, by rw [← isNone_iff hx]; exact k _ _ _ q (PExt.refl _) (.bl _)⟩
  | bool b =>
    cases x with
    | bool a => rw [hx.bool, hy.bool]; exact .inr ⟨a, b, rfl, rfl, k _ _ _ q (PExt.refl _) (.bl _)⟩
    | _ => exact q.elim
  | _ => exact q.elim⟩
/-! x in a list, a tuple -/
theorem op_inT (hu : X.A.units + 65 < cLine) : OpR X (compareOp .In) (fun x y H Q => ∃ d ds, Dp X.K H x d ∧ Dp X.K H y (.tuple ds) ∧ SeqAt.shaped d = true ∧ SeqAt.shaped (.tuple ds) = true ∧ Q (.bl (ds.any fun z => PyData.eqv z d)) H) := by
  intro pins s σ H x y v u Q I rx ry h
  obtain ⟨d, ds, hd, he, sd, se, q⟩ := h
  obtain ⟨as, r1⟩ := Dp.reads I d x v hd rx
  obtain ⟨bs, r2⟩ := Dp.reads I (.tuple ds) y u he ry
  exact SeqAt.in_tuple_reads r2 r1 (SeqAt.canLay_of_shaped se) (SeqAt.canLay_of_shaped sd) (room_in_shaped sd hu) ⟨.bl _, H, I, rfl, q⟩
theorem op_notInT (hu : X.A.units + 65 < cLine) : OpR X (compareOp .NotIn) (fun x y H Q => ∃ d ds, Dp X.K H x d ∧ Dp X.K H y (.tuple ds) ∧ SeqAt.shaped d = true ∧ SeqAt.shaped (.tuple ds) = true ∧ Q (.bl (!ds.any fun z => PyData.eqv z d)) H) := by
  intro pins s σ H x y v u Q I rx ry h
  obtain ⟨d, ds, hd, he, sd, se, q⟩ := h
  obtain ⟨as, r1⟩ := Dp.reads I d x v hd rx
  obtain ⟨bs, r2⟩ := Dp.reads I (.tuple ds) y u he ry
  exact SeqAt.notIn_tuple_reads r2 r1 (SeqAt.canLay_of_shaped se) (SeqAt.canLay_of_shaped sd) (room_in_shaped sd hu) ⟨.bl _, H, I, rfl, q⟩
def opIn : OpT := fun x y Q => match y with
  | .list ds => (SeqAt.shaped x = true ∧ SeqAt.shaped (.list ds) = true) ∧ Q (.bool (ds.any fun z => PyData.eqv z x))
  | .tuple ds => (SeqAt.shaped x = true ∧ SeqAt.shaped (.tuple ds) = true) ∧ Q (.bool (ds.any fun z => PyData.eqv z x))
  | _ => False
def opNotIn : OpT := fun x y Q => match y with
  | .list ds => (SeqAt.shaped x = true ∧ SeqAt.shaped (.list ds) = true) ∧ Q (.bool (!ds.any fun z => PyData.eqv z x))
  | .tuple ds => (SeqAt.shaped x = true ∧ SeqAt.shaped (.tuple ds) = true) ∧ Q (.bool (!ds.any fun z => PyData.eqv z x))
  | _ => False
theorem od_in (hu : X.A.units + 65 < cLine) : OpD X (compareOp .In) opIn := ⟨_, (op_inD hu).or (op_inT hu), fun x y v u H QD Q hx hy q k => by
  cases y with
  | list ds => exact .inl ⟨x, ds, hx.dp (SeqAt.canLay_of_shaped q.1.1), hy.dp (SeqAt.canLay_of_shaped q.1.2), q.1.1, q.1.2, k _ _ _ q.2 (PExt.refl _) (.bl _)⟩
  | tuple ds => exact .inr ⟨x, ds, hx.dp (SeqAt.canLay_of_shaped q.1.1), hy.dp (SeqAt.canLay_of_shaped q.1.2), q.1.1, q.1.2, k _ _ _ q.2 (PExt.refl _) (.bl _)⟩
  | _ => exact q.elim⟩
theorem od_notIn (hu : X.A.units + 65 < cLine) : OpD X (compareOp .NotIn) opNotIn := ⟨_, (op_notInD hu).or (op_notInT hu), fun x y v u H QD Q hx hy q k => by
  cases y with
  | list ds => exact .inl ⟨x, ds, hx.dp (SeqAt.canLay_of_shaped q.1.1), hy.dp (SeqAt.canLay_of_shaped q.1.2), q.1.1, q.1.2, k _ _ _ q.2 (PExt.refl _) (.bl _)⟩
  | tuple ds => exact .inr ⟨x, ds, hx.dp (SeqAt.canLay_of_shaped q.1.1), hy.dp (SeqAt.canLay_of_shaped q.1.2), q.1.1, q.1.2, k _ _ _ q.2 (PExt.refl _) (.bl _)⟩
  | _ => exact q.elim⟩
end

section
variable {X : Cx} {G : Gh} {a b c e : Expr} {es : List Expr} {pos p p2 : Pos} {x : Str}
/-! ### chains -/
def tChainD (o o' : OpT) (ta tb tc : TD) : TD := fun E Q => ta E fun x E1 => tb E1 fun y E2 => o x y fun z => match z with
  | .bool true => tc E2 fun w E3 => o' y w fun r => Q r E3
  | .bool false => Q (.bool false) E2
  | _ => False
theorem ed_chain {op op' : CmpOp} {o o' : OpT} {ta tb tc : TD} (ho : OpD X (compareOp op) o) (ho' : OpD X (compareOp op') o') (ha : ED X G a ta) (hb : ED X G b tb) (hc : ED X G c tc)
    (h1 : lastMarks [op, op'] [b, c] = false := by with_unfolding_all rfl) : ED X G (.Compare a [op, op'] [b, c] pos) (tChainD o o' ta tb tc) := by
  obtain ⟨r, hr, hq⟩ := ho
  obtain ⟨r', hr', hq'⟩ := ho'
  refine ⟨PE.weak (pe_chain hr hr' ha.pe hb.pe hc.pe h1) fun σ H Q ⟨E, QE, rel, q, k⟩ => ⟨E, _, rel, q, fun x E1 v H1 q1 x1 r1 p1 => ⟨E1, _, r1, q1, fun y E2 u H2 q2 x2 r2 p2 => ?_⟩⟩⟩
  refine hq x y v u H2 _ _ (.inl (p1.ext x2)) (.inl p2) q2 fun z w H3 q3 px rz => ?_
  cases rz with
  | bl b =>
    refine ⟨b, rfl, ?_⟩
    cases b with
    | true =>
      refine iteT ⟨E2, _, r2.pext px, q3, fun c E3 w H4 q4 x4 r4 p4 => ?_⟩
      exact hq' y c u w H4 _ _ (.inl ((p2.ext px.ext).ext x4)) (.inl p4) q4 fun z w H5 q5 px5 rz5 => k _ _ _ _ q5 ((((x1.trans x2).trans px.ext).trans x4).trans px5.ext) (r4.pext px5) rz5
    | false => exact iteF (k _ _ _ _ q3 ((x1.trans x2).trans px.ext) (r2.pext px) (.bl false))
  | _ => exact q3.elim

/-! ### items -/
def atD (xs : List D) (i : Int) (Q : D → Prop) : Prop := match atI xs i with
  | some d => Q d
  | none => False
def opIx : OpT := fun x y Q => match x, y with
  | .list xs, .int i => atD xs i Q
  | .tuple xs, .int i => atD xs i Q
  | .str z, .int i => match atI z.cps.toList i with
    | some c => z.length ≤ sizeLine ∧ Q (.str ⟨#[c]⟩)
    | none => False
  | _, _ => False
theorem atI_rp {K : PySem.W.Frag} {H : Hp} {ds : List D} {vs : List V} {i : Int} {d : D} (l : RpL K H ds vs) (h : atI ds i = some d) : ∃ v, atI vs i = some v ∧ Rp K H d v := by
  unfold atI at h ⊢
  rw [l.length] at h
  cases q : ixN vs.length i with
  | none => rw [q] at h; cases h
  | some j =>
    rw [q] at h
    exact l.get h
theorem lift_ix {r : R2} {ta tb : TD} (hr : r = rIx X.K) (σ : St) (H : Hp) (Q : VK) (h : liftE X.K G (tOpD opIx ta tb) σ H Q) : tOp r (liftE X.K G ta) (liftR X.K G tb) σ H Q := by
  subst hr
  refine lift_bin (fun x y v u H QD Q hx hy q k => ?_) σ H Q h
  cases y with
  | int i =>
    rw [hy.int]
    cases x with
    | list xs =>
      obtain ⟨a, vs, rfl, hs, l⟩ := hx.list
      have q : atD xs i QD := q
      unfold atD at q
      split at q
      · rename_i d hd
        obtain ⟨v, hv, pv⟩ := atI_rp l hd
        exact .inl ⟨a, vs, i, v, rfl, rfl, hs, hv, k _ _ _ q (PExt.refl _) pv⟩
      · exact q.elim
    | tuple xs =>
      obtain ⟨a, vs, rfl, hs, l⟩ := hx.tuple
      have q : atD xs i QD := q
      unfold atD at q
      split at q
      · rename_i d hd
        obtain ⟨v, hv, pv⟩ := atI_rp l hd
        exact .inr (.inl ⟨a, vs, i, v, rfl, rfl, hs, hv, k _ _ _ q (PExt.refl _) pv⟩)
      · exact q.elim
    | str z =>
      rw [hx.str]
      have q : (match atI z.cps.toList i with
        | some c => z.length ≤ sizeLine ∧ QD (.str ⟨#[c]⟩)
        | none => False) := q
      split at q
      · rename_i c hc
        exact .inr (.inr ⟨z, i, c, rfl, rfl, q.1, hc, k _ _ _ q.2 (PExt.refl _) (.str _)⟩)
      · exact q.elim
    | _ => exact q.elim
  | _ => cases x <;> exact q.elim
theorem ed_ix {ta tb : TD} (ha : ED X G a ta) (hb : ED X G b tb) (hs : PlainIx b := by exact fun _ _ => rfl) : ED X G (.Subscript a b pos) (tOpD opIx ta tb) :=
  ⟨PE.weak (pe_ix ix_seq ha.pe hb.er.pe hs) fun σ H Q h => lift_ix rfl σ H Q h⟩
/-- an item of a list of one's own, at a name -/
def tIxO (i : Nat) (tb : TD) : TD := fun E Q => match E[i]? with
  | some (.ol _) => tb E fun y E1 => match E1[i]?, y with
    | some (.ol xs), .int k => atD xs k fun d => Q d E1
    | _, _ => False
  | _ => False
theorem ed_ixO (i : Nat) {tb : TD} (hb : ED X G b tb) (hN : X.N[i]? = some x := by rfl) (hv : Vis X.env.scope x := by first | exact Or.inl rfl | exact Or.inr (Or.inl rfl) | exact Or.inr (Or.inr rfl)) (hd : (x == ("__debug__" : Str)) = false := by decide)
    (hcd : (x == ("__classdict__" : Str)) = false := by decide) (hs : PlainIx b := by exact fun _ _ => rfl) : ED X G (.Subscript (.Name x p) b pos) (tIxO i tb) :=
  ⟨PE.weak (pe_ix ix_list (pe_var hN hv hd hcd) hb.pe hs) fun σ H Q ⟨E, QE, r, q, k⟩ => by
    unfold tIxO at q
    split at q
    · rename_i xs0 he0
      obtain ⟨l, vs0, e1, e2, e3⟩ := r.ol he0
      refine ⟨_, e1, E, _, r, q, fun d E1 v H1 q1 x1 r1 p1 => ?_⟩
      split at q1
      · rename_i o0 d0 xs j he
        cases p1
        obtain ⟨l', vs, f1, f2, f3⟩ := r1.ol he
        rw [e1] at f1; cases f1
        unfold atD at q1
        split at q1
        · rename_i d hd
          obtain ⟨v, hv, pv⟩ := atI_rp f3 hd
          exact ⟨l, vs, j, v, rfl, rfl, SqL.of f2, hv, k _ _ _ _ q1 x1 r1 pv⟩
        · exact q1.elim
      · exact q1.elim
    · exact q.elim⟩

/-! ### calls of builtins -/
abbrev CaT := List D → (D → Prop) → Prop
abbrev CaL := List D → (List D → Prop) → Prop
inductive RpRs (K : PySem.W.Frag) (H : Hp) : List D → List V → Prop
  | nil : RpRs K H [] []
  | cons {d : D} {v : V} {ds : List D} {vs : List V} : RpR K H d v → RpRs K H ds vs → RpRs K H (d :: ds) (v :: vs)
theorem RpRs.one {K : PySem.W.Frag} {H : Hp} {d : D} {vs : List V} (h : RpRs K H [d] vs) : ∃ v, vs = [v] ∧ RpR K H d v := by
  cases h with
  | cons h t => cases t; exact ⟨_, rfl, h⟩
theorem RpRs.two {K : PySem.W.Frag} {H : Hp} {d e : D} {vs : List V} (h : RpRs K H [d, e] vs) : ∃ v u, vs = [v, u] ∧ RpR K H d v ∧ RpR K H e u := by
  cases h with
  | cons h t => obtain ⟨u, rfl, hu⟩ := t.one; exact ⟨_, u, rfl, h, hu⟩
def CaD (X : Cx) (f : Value) (op : CaT) : Prop := ∃ r, CallR X f r ∧ ∀ ds vs H (QD : D → Prop) (Q : VK), RpRs X.K H ds vs → op ds QD → (∀ z w H', QD z → PExt H H' → Rp X.K H' z w → Q w H') → r vs H Q
/-- a new list is handed back -/
def CaLD (X : Cx) (f : Value) (op : CaL) : Prop := ∃ r, CallR X f r ∧ ∀ ds vs H (QD : List D → Prop) (Q : VK), RpRs X.K H ds vs → op ds QD → (∀ zs us p, QD zs → H p = none → RpL X.K H zs us → Q (.ref p) (upd H p (.lst us))) → r vs H Q
def tCa1 (op : CaT) (ta : TD) : TD := fun E Q => ta E fun x E1 => op [x] fun z => Q z E1
def tCa2 (op : CaT) (ta tb : TD) : TD := fun E Q => ta E fun x E1 => tb E1 fun y E2 => op [x, y] fun z => Q z E2
def tCaL1 (op : CaL) (ta : TD) : TLd := fun E Q => ta E fun x E1 => op [x] fun z => Q z E1
section
variable {id : String} {op : CaT} {opl : CaL} {ta tb : TD}
theorem lift_ca1 {r : List V → Hp → VK → Prop} (hq : ∀ ds vs H (QD : D → Prop) (Q : VK), RpRs X.K H ds vs → op ds QD → (∀ z w H', QD z → PExt H H' → Rp X.K H' z w → Q w H') → r vs H Q)
    (σ : St) (H : Hp) (Q : VK) (h : liftE X.K G (tCa1 op ta) σ H Q) : tCB r (tCons (liftR X.K G ta) tNil) σ H Q := by
  obtain ⟨E, QE, rel, q, k⟩ := h
  refine ⟨E, _, rel, q, fun x E1 v H1 q1 x1 r1 p1 => ?_⟩
  exact hq [x] [v] H1 _ Q (.cons p1 .nil) q1 fun z w H3 q3 p3 rz => k z E1 w H3 q3 (x1.trans p3.ext) (r1.pext p3) rz
theorem ed_ca1 (hc : CaD X (.builtin id) op) (ha : ER X G a ta) (hg : Gl X x) (hm : X.mg x = none) (hv : bootBuiltins x = some (.builtin id)) (hn : x ≠ "__name__" := by decide) (hdb : (x == ("__debug__" : Str)) = false := by decide)
    (hs : starEach [a] X.env = (false, eval a X.env) :: starEach [] X.env := by rfl) (hpl : (backTo pos (starEach [] X.env)).any (·.1) = false := by rfl) : ED X G (.Call (.Name x p) [a] [] pos) (tCa1 op ta) := by
  obtain ⟨r, hr, hq⟩ := hc
  exact ⟨PE.weak (pe_callB hr hg hm hv (pa_cons ha.pe pa_nil hs) hn hdb hs hpl) fun σ H Q h => lift_ca1 hq σ H Q h⟩
theorem ed_caT1 (hc : CaD X (.type id) op) (ha : ER X G a ta) (hg : Gl X x) (hm : X.mg x = none) (hv : bootBuiltins x = some (.type id)) (hn : x ≠ "__name__" := by decide) (hdb : (x == ("__debug__" : Str)) = false := by decide)
    (hs : starEach [a] X.env = (false, eval a X.env) :: starEach [] X.env := by rfl) (hpl : (backTo pos (starEach [] X.env)).any (·.1) = false := by rfl) : ED X G (.Call (.Name x p) [a] [] pos) (tCa1 op ta) := by
  obtain ⟨r, hr, hq⟩ := hc
  exact ⟨PE.weak (pe_callTy hr hg hm hv (pa_cons ha.pe pa_nil hs) hn hdb hs hpl) fun σ H Q h => lift_ca1 hq σ H Q h⟩
theorem ed_ca2 (hc : CaD X (.builtin id) op) (ha : ED X G a ta) (hb : ER X G b tb) (hg : Gl X x) (hm : X.mg x = none) (hv : bootBuiltins x = some (.builtin id)) (hn : x ≠ "__name__" := by decide) (hdb : (x == ("__debug__" : Str)) = false := by decide)
    (hs : starEach [a, b] X.env = (false, eval a X.env) :: starEach [b] X.env := by rfl) (hs2 : starEach [b] X.env = (false, eval b X.env) :: starEach [] X.env := by rfl) (hpl : (backTo pos (starEach [b] X.env)).any (·.1) = false := by rfl) : ED X G (.Call (.Name x p) [a, b] [] pos) (tCa2 op ta tb) := by
  obtain ⟨r, hr, hq⟩ := hc
  refine ⟨PE.weak (pe_callB hr hg hm hv (pa_cons ha.pe (pa_cons hb.pe pa_nil hs2) hs) hn hdb hs hpl) fun σ H Q ⟨E, QE, rel, q, k⟩ => ⟨E, _, rel, q, fun x E1 v H1 q1 x1 r1 p1 => ⟨E1, _, r1, q1, fun y E2 u H2 q2 x2 r2 p2 => ?_⟩⟩⟩
  exact hq [x, y] [v, u] H2 _ Q (.cons (.inl (p1.ext x2)) (.cons p2 .nil)) q2 fun z w H3 q3 p3 rz => k z E2 w H3 q3 ((x1.trans x2).trans p3.ext) (r2.pext p3) rz
theorem lift_caL1 {r : List V → Hp → VK → Prop} (hq : ∀ ds vs H (QD : List D → Prop) (Q : VK), RpRs X.K H ds vs → opl ds QD → (∀ zs us p, QD zs → H p = none → RpL X.K H zs us → Q (.ref p) (upd H p (.lst us))) → r vs H Q)
    (σ : St) (H : Hp) (Q : VK) (h : liftL X.K G (tCaL1 opl ta) σ H Q) : tCB r (tCons (liftR X.K G ta) tNil) σ H Q := by
  obtain ⟨E, QE, rel, q, k⟩ := h
  refine ⟨E, _, rel, q, fun x E1 v H1 q1 x1 r1 p1 => ?_⟩
  refine hq [x] [v] H1 _ Q (.cons p1 .nil) q1 fun zs us p q3 hp rz => ?_
  obtain ⟨r2, h0, na⟩ := r1.fresh (o := .lst us) hp
  exact k zs E1 p us _ q3 (x1.trans (PExt.new hp).ext) r2 h0 na upd_same (rz.ext (PExt.new hp).ext)
theorem el_ca1 (hc : CaLD X (.builtin id) opl) (ha : ER X G a ta) (hg : Gl X x) (hm : X.mg x = none) (hv : bootBuiltins x = some (.builtin id)) (hn : x ≠ "__name__" := by decide) (hdb : (x == ("__debug__" : Str)) = false := by decide)
    (hs : starEach [a] X.env = (false, eval a X.env) :: starEach [] X.env := by rfl) (hpl : (backTo pos (starEach [] X.env)).any (·.1) = false := by rfl) : EL X G (.Call (.Name x p) [a] [] pos) (tCaL1 opl ta) := by
  obtain ⟨r, hr, hq⟩ := hc
  exact ⟨PE.weak (pe_callB hr hg hm hv (pa_cons ha.pe pa_nil hs) hn hdb hs hpl) fun σ H Q h => lift_caL1 hq σ H Q h⟩
theorem el_caT1 (hc : CaLD X (.type id) opl) (ha : ER X G a ta) (hg : Gl X x) (hm : X.mg x = none) (hv : bootBuiltins x = some (.type id)) (hn : x ≠ "__name__" := by decide) (hdb : (x == ("__debug__" : Str)) = false := by decide)
    (hs : starEach [a] X.env = (false, eval a X.env) :: starEach [] X.env := by rfl) (hpl : (backTo pos (starEach [] X.env)).any (·.1) = false := by rfl) : EL X G (.Call (.Name x p) [a] [] pos) (tCaL1 opl ta) := by
  obtain ⟨r, hr, hq⟩ := hc
  exact ⟨PE.weak (pe_callTy hr hg hm hv (pa_cons ha.pe pa_nil hs) hn hdb hs hpl) fun σ H Q h => lift_caL1 hq σ H Q h⟩
end
/-! len, abs, max, min, sum, all, tuple, list, int -/
def caLen : CaT := fun ds Q => match ds with
  | [.list xs] => Q (.int xs.length)
  | [.tuple xs] => Q (.int xs.length)
  | [.str z] => z.length ≤ sizeLine ∧ Q (.int z.length)
  | _ => False
theorem cd_len : CaD X (.builtin "len") caLen := by
  refine ⟨_, (show CallR X (.builtin "len") (fun xs H Q => (∃ p ys, xs = [.ref p] ∧ (SqL X.K H p ys ∨ SqT X.K H p ys) ∧ Q (.int ys.length) H) ∨ ∃ z, xs = [.str z] ∧ z.length ≤ sizeLine ∧ Q (.int z.length) H) from fun pins s σ H vs us Q I r h => by
    rcases h with h | h
    · exact call_len_seq pins s σ H vs us Q I r h
    · exact call_len_str pins s σ H vs us Q I r h), fun ds vs H QD Q hd q k => ?_⟩
  match ds, q, hd with
  | [.list xs], q, hd =>
    obtain ⟨v, rfl, h⟩ := hd.one
    obtain ⟨a, us, rfl, hs, l⟩ := h.list
    exact .inl ⟨a, us, rfl, .inl hs, by rw [← l.length]; exact k _ _ _ q (PExt.refl _) (.int _)⟩
  | [.tuple xs], q, hd =>
    obtain ⟨v, rfl, h⟩ := hd.one
    obtain ⟨a, us, rfl, hs, l⟩ := h.tuple
    exact .inl ⟨a, us, rfl, .inr hs, by rw [← l.length]; exact k _ _ _ q (PExt.refl _) (.int _)⟩
  | [.str z], q, hd =>
    obtain ⟨v, rfl, h⟩ := hd.one
    rw [h.str]
    exact .inr ⟨z, rfl, q.1, k _ _ _ q.2 (PExt.refl _) (.int _)⟩
def caAbs : CaT := fun ds Q => match ds with
  | [.int i] => Q (.int (if i < 0 then -i else i))
  | _ => False
theorem cd_abs : CaD X (.builtin "abs") caAbs := ⟨_, call_abs, fun ds vs H QD Q hd q k => by
  match ds, q, hd with
  | [.int i], q, hd =>
    obtain ⟨v, rfl, h⟩ := hd.one
    rw [h.int]
    exact ⟨i, rfl, k _ _ _ q (PExt.refl _) (.int _)⟩⟩
def caMax2 : CaT := fun ds Q => match ds with
  | [.int i, .int j] => Q (.int (if j > i then j else i))
  | _ => False
theorem cd_max2 (hc : X.calm = true) : CaD X (.builtin "max") caMax2 := ⟨_, call_max2 hc, fun ds vs H QD Q hd q k => by
  match ds, q, hd with
  | [.int i, .int j], q, hd =>
    obtain ⟨v, u, rfl, h, h'⟩ := hd.two
    rw [h.int, h'.int]
    exact ⟨i, j, rfl, k _ _ _ q (PExt.refl _) (.int _)⟩⟩
def caMin2 : CaT := fun ds Q => match ds with
  | [.int i, .int j] => Q (.int (if j < i then j else i))
  | _ => False
theorem cd_min2 (hc : X.calm = true) : CaD X (.builtin "min") caMin2 := ⟨_, call_min2 hc, fun ds vs H QD Q hd q k => by
  match ds, q, hd with
  | [.int i, .int j], q, hd =>
    obtain ⟨v, u, rfl, h, h'⟩ := hd.two
    rw [h.int, h'.int]
    exact ⟨i, j, rfl, k _ _ _ q (PExt.refl _) (.int _)⟩⟩
/-- ints of data -/
def intsOf : List D → Option (List Int)
  | [] => some []
  | .int i :: ds => (intsOf ds).map (i :: ·)
  | _ :: _ => none
theorem intsOf_map : ∀ {ds : List D} {ns : List Int}, intsOf ds = some ns → ds = ns.map PyData.int
  | [], ns, h => by cases h; rfl
  | .int i :: ds, ns, h => by
    unfold intsOf at h
    cases q : intsOf ds with
    | none => rw [q] at h; cases h
    | some m => rw [q] at h; cases h; rw [List.map_cons, ← intsOf_map q]
  | .none :: _, _, h => by cases h
  | .bool _ :: _, _, h => by cases h
  | .str _ :: _, _, h => by cases h
  | .list _ :: _, _, h => by cases h
  | .tuple _ :: _, _, h => by cases h
  | .dict _ :: _, _, h => by cases h
theorem intsOf_ints : ∀ (ns : List Int), intsOf (ns.map PyData.int) = some ns
  | [] => rfl
  | n :: ns => by show (intsOf (ns.map PyData.int)).map (n :: ·) = _; rw [intsOf_ints ns]; rfl
def boolsOf : List D → Option (List Bool)
  | [] => some []
  | .bool i :: ds => (boolsOf ds).map (i :: ·)
  | _ :: _ => none
theorem boolsOf_map : ∀ {ds : List D} {ns : List Bool}, boolsOf ds = some ns → ds = ns.map PyData.bool
  | [], ns, h => by cases h; rfl
  | .bool i :: ds, ns, h => by
    unfold boolsOf at h
    cases q : boolsOf ds with
    | none => rw [q] at h; cases h
    | some m => rw [q] at h; cases h; rw [List.map_cons, ← boolsOf_map q]
  | .none :: _, _, h => by cases h
  | .int _ :: _, _, h => by cases h
  | .str _ :: _, _, h => by cases h
  | .list _ :: _, _, h => by cases h
  | .tuple _ :: _, _, h => by cases h
  | .dict _ :: _, _, h => by cases h
theorem boolsOf_bools : ∀ (ns : List Bool), boolsOf (ns.map PyData.bool) = some ns
  | [] => rfl
  | n :: ns => by show (boolsOf (ns.map PyData.bool)).map (n :: ·) = _; rw [boolsOf_bools ns]; rfl
theorem RpL.bools {K : PySem.W.Frag} {H : Hp} : ∀ {ns : List Bool} {vs : List V}, RpL K H (ns.map PyData.bool) vs → vs = ns.map V.bl
  | [], _, .nil => rfl
  | _ :: _, _, .cons (.bl _) t => by rw [RpL.bools t]; rfl
def caSum : CaT := fun ds Q => match ds with
  | [.list xs] => ∃ ns : List Int, xs = ns.map PyData.int ∧ Q (.int ns.sum)
  | _ => False
theorem cd_sum (hc : X.calm = true) : CaD X (.builtin "sum") caSum := ⟨_, cr_sum hc, fun ds vs H QD Q hd q k => by
  match ds, q, hd with
  | [.list xs], q, hd =>
    obtain ⟨ns, rfl, q⟩ := q
    obtain ⟨v, rfl, h⟩ := hd.one
    obtain ⟨a, us, rfl, hs, l⟩ := h.list
    have := l.ints; subst this
    exact ⟨a, ns, rfl, hs, k _ _ _ q (PExt.refl _) (.int _)⟩⟩
def caMax : CaT := fun ds Q => match ds with
  | [.list xs] => ∃ ns : List Int, xs = ns.map PyData.int ∧ 0 < ns.length ∧ ∀ m, m ∈ ns → (∀ y, y ∈ ns → y ≤ m) → Q (.int m)
  | _ => False
theorem cd_max (hc : X.calm = true) : CaD X (.builtin "max") caMax := ⟨_, cr_max hc, fun ds vs H QD Q hd q k => by
  match ds, q, hd with
  | [.list xs], q, hd =>
    obtain ⟨ns, rfl, hl, q⟩ := q
    obtain ⟨v, rfl, h⟩ := hd.one
    obtain ⟨a, us, rfl, hs, l⟩ := h.list
    have := l.ints; subst this
    exact ⟨a, ns, rfl, hs, hl, fun m h1 h2 => k _ _ _ (q m h1 h2) (PExt.refl _) (.int _)⟩⟩
def caMin : CaT := fun ds Q => match ds with
  | [.list xs] => ∃ ns : List Int, xs = ns.map PyData.int ∧ 0 < ns.length ∧ ∀ m, m ∈ ns → (∀ y, y ∈ ns → m ≤ y) → Q (.int m)
  | _ => False
theorem cd_min (hc : X.calm = true) : CaD X (.builtin "min") caMin := ⟨_, cr_min hc, fun ds vs H QD Q hd q k => by
  match ds, q, hd with
  | [.list xs], q, hd =>
    obtain ⟨ns, rfl, hl, q⟩ := q
    obtain ⟨v, rfl, h⟩ := hd.one
    obtain ⟨a, us, rfl, hs, l⟩ := h.list
    have := l.ints; subst this
    exact ⟨a, ns, rfl, hs, hl, fun m h1 h2 => k _ _ _ (q m h1 h2) (PExt.refl _) (.int _)⟩⟩
def caAll : CaT := fun ds Q => match ds with
  | [.list xs] => ∃ bs : List Bool, xs = bs.map PyData.bool ∧ Q (.bool (bs.all id))
  | _ => False
theorem cd_all (hc : X.calm = true) : CaD X (.builtin "all") caAll := ⟨_, cr_all hc, fun ds vs H QD Q hd q k => by
  match ds, q, hd with
  | [.list xs], q, hd =>
    obtain ⟨bs, rfl, q⟩ := q
    obtain ⟨v, rfl, h⟩ := hd.one
    obtain ⟨a, us, rfl, hs, l⟩ := h.list
    have := l.bools; subst this
    exact ⟨a, bs, rfl, hs, k _ _ _ q (PExt.refl _) (.bl _)⟩⟩
def caTuple : CaT := fun ds Q => match ds with
  | [.list xs] => Q (.tuple xs)
  | [.tuple xs] => Q (.tuple xs)
  | _ => False
theorem cd_tuple : CaD X (.type "tuple") caTuple := ⟨_, call_tupF, fun ds vs H QD Q hd q k => by
  match ds, q, hd with
  | [.list xs], q, hd =>
    obtain ⟨v, rfl, h⟩ := hd.one
    obtain ⟨a, us, rfl, hs, l⟩ := h.list
    exact ⟨a, us, rfl, .inl ⟨hs, fun p o hp ho => k _ _ _ q (PExt.new hp) (.tup (.new ho) (l.ext (PExt.new hp).ext))⟩⟩
  | [.tuple xs], q, hd =>
    obtain ⟨v, rfl, h⟩ := hd.one
    obtain ⟨a, us, rfl, hs, l⟩ := h.tupD
    exact ⟨a, us, rfl, .inr ⟨hs.1, k _ _ _ q (PExt.refl _) (.tup hs l)⟩⟩⟩
def caList : CaL := fun ds Q => match ds with
  | [.list xs] => Q xs
  | [.tuple xs] => Q xs
  | _ => False
theorem cd_list : CaLD X (.type "list") caList := ⟨_, call_list_of, fun ds vs H QD Q hd q k => by
  match ds, q, hd with
  | [.list xs], q, hd =>
    obtain ⟨v, rfl, h⟩ := hd.one
    obtain ⟨a, us, rfl, hs, l⟩ := h.list
    exact ⟨a, us, rfl, .inl hs, fun p hp => k _ _ _ q hp l⟩
  | [.tuple xs], q, hd =>
    obtain ⟨v, rfl, h⟩ := hd.one
    obtain ⟨a, us, rfl, hs, l⟩ := h.tuple
    exact ⟨a, us, rfl, .inr hs, fun p hp => k _ _ _ q hp l⟩⟩
def caInt : CaT := fun ds Q => match ds with
  | [.int i] => Q (.int i)
  | [.bool b] => Q (.int (if b then 1 else 0))
  | _ => False
theorem cd_int : CaD X (.type "int") caInt := ⟨_, call_int1, fun ds vs H QD Q hd q k => by
  match ds, q, hd with
  | [.int i], q, hd =>
    obtain ⟨v, rfl, h⟩ := hd.one
    rw [h.int]; exact .inl ⟨i, rfl, k _ _ _ q (PExt.refl _) (.int _)⟩
  | [.bool b], q, hd =>
    obtain ⟨v, rfl, h⟩ := hd.one
    rw [h.bool]; exact .inr ⟨b, rfl, k _ _ _ q (PExt.refl _) (.int _)⟩⟩
end
end DL

set_option Elab.async false
set_option linter.all false
set_option maxRecDepth 100000
set_option maxHeartbeats 1000000
namespace DL
open PySem PySem.Spec PyProof.Rows L2

section
variable {X : Cx} {G : Gh} {a b c e : Expr} {es : List Expr} {pos p p1 p2 p3 : Pos} {x : Str}
/-- a list whose object is plain -/
def LsP (K : PySem.W.Frag) (H : Hp) (a : Addr) (vs : List V) : Prop := H a = some (.lst vs) ∨ LsF K H a vs
theorem LsP.at {K : PySem.W.Frag} {H : Hp} {a : Addr} {vs : List V} {P : Program} {w : World} {h : Heap} (l : LsP K H a vs) (hok : HOk P w H h) (KX : K.In h) : vs.length ≤ sizeLine ∧ ∃ (its : List Value) (n : Nat), Vals vs its ∧ h.get? a = some { cls := .type "list", data := .seq its.toArray n } := by
  rcases l with l | ⟨o, l⟩ | ⟨its, n, e, z, r⟩
  · exact Rd.ok (.inl l) hok
  · exact Rd.ok (.inr ⟨o, l⟩) hok
  · refine ⟨?_, its.toList, n, r, by have := KX _ _ e; simpa using this⟩
    have e2 := r.length
    simp only [Array.length_toList] at e2
    omega
theorem RpR.listR {K : PySem.W.Frag} {H : Hp} {ds : List D} {v : V} (h : RpR K H (.list ds) v) : ∃ a vs, v = .ref a ∧ LsP K H a vs ∧ RpL K H ds vs := by
  rcases h with h | ⟨ds, a, vs, e, rfl, h, l⟩
  · cases h with
    | lst h l => exact ⟨_, _, rfl, .inr h, l⟩
  · cases e
    exact ⟨_, _, rfl, .inl h, l⟩
/-! ### list + list, list * int: new lists -/
def OpLD (X : Cx) (f : Value → Value → Sem Value) (op : D → D → (List D → Prop) → Prop) : Prop := ∃ r : R2, OpR X f r ∧
  ∀ x y v u H (QD : List D → Prop) (Q : VK), RpR X.K H x v → RpR X.K H y u → op x y QD → (∀ zs us q, QD zs → H q = none → RpL X.K H zs us → Q (.ref q) (upd H q (.lst us))) → r v u H Q
def tOpL (op : D → D → (List D → Prop) → Prop) (ta tb : TD) : TLd := fun E Q => ta E fun x E1 => tb E1 fun y E2 => op x y fun z => Q z E2
theorem el_op {op : Operator} {o : D → D → (List D → Prop) → Prop} {ta tb : TD} (ho : OpLD X (binaryOp op) o) (ha : ED X G a ta) (hb : ER X G b tb) : EL X G (.BinOp a op b pos) (tOpL o ta tb) := by
  obtain ⟨r, hr, hq⟩ := ho
  refine ⟨PE.weak (pe_op hr ha.pe hb.pe) fun σ H Q ⟨E, QE, rel, q, k⟩ => ⟨E, _, rel, q, fun x E1 v H1 q1 x1 r1 p1 => ⟨E1, _, r1, q1, fun y E2 u H2 q2 x2 r2 p2 => ?_⟩⟩⟩
  refine hq x y v u H2 _ Q (.inl (p1.ext x2)) p2 q2 fun zs us q3 qz hp rz => ?_
  obtain ⟨r3, h0, na⟩ := r2.fresh (o := .lst us) hp
  exact k zs E2 q3 us _ qz ((x1.trans x2).trans (PExt.new hp).ext) r3 h0 na upd_same (rz.ext (PExt.new hp).ext)
theorem op_catR : OpR X (binaryOp .Add) (fun x y H Q => ∃ l b xs zs, x = .ref l ∧ y = .ref b ∧ LsP X.K H l xs ∧ LsP X.K H b zs ∧ xs.length + zs.length ≤ sizeLine ∧ ∀ p, H p = none → Q (.ref p) (upd H p (.lst (xs ++ zs)))) := by
  intro pins s σ H x y v u Q I rx ry h
  obtain ⟨l, b, xs, zs, rfl, rfl, hH, hB, hz, q⟩ := h
  cases rx
  cases ry
  obtain ⟨z, its, n, r, e⟩ := hH.at I.hok I.kIn
  obtain ⟨z2, its2, n2, r2, e2⟩ := hB.at I.hok I.kIn
  have hl := r.length
  have hl2 := r2.length
  refine PySem.P.add_list e e2 ?_ (by rw [List.size_toArray, List.size_toArray]; omega)
  have ea : its.toArray ++ its2.toArray = (its ++ its2).toArray := by simp
  rw [ea]
  exact ⟨.ref _, _, I.lnew (t' := s.toks) (r.append r2) (by rw [List.length_append]; omega), rfl, q _ I.fresh⟩
def opCat : D → D → (List D → Prop) → Prop := fun x y Q => match x, y with
  | .list xs, .list ys => xs.length + ys.length ≤ sizeLine ∧ Q (xs ++ ys)
  | _, _ => False
theorem od_cat : OpLD X (binaryOp .Add) opCat := ⟨_, op_catR, fun x y v u H QD Q hx hy q k => by
  cases x with
  | list xs =>
    cases y with
    | list ys =>
      obtain ⟨a, vs, rfl, sa, la⟩ := hx.listR
      obtain ⟨b, us, rfl, sb, lb⟩ := hy.listR
      exact ⟨a, b, vs, us, rfl, rfl, sa, sb, by rw [← la.length, ← lb.length]; exact q.1, fun p hp => k _ _ _ q.2 hp (la.append lb)⟩
    | _ => exact q.elim
  | _ => exact q.elim⟩
theorem op_repR : OpR X (binaryOp .Mult) (fun x y H Q => ∃ l k xs, x = .ref l ∧ y = .int k ∧ LsP X.K H l xs ∧ -(2 ^ 63) ≤ k ∧ k < 2 ^ 63 ∧ xs.length * k.toNat ≤ sizeLine ∧
  ∀ p, H p = none → Q (.ref p) (upd H p (.lst (List.replicate k.toNat xs).flatten))) := by
  intro pins s σ H x y v u Q I rx ry h
  obtain ⟨l, k, xs, rfl, rfl, hH, h1, h2, hz, q⟩ := h
  cases rx
  obtain ⟨t, rfl⟩ := ry
  obtain ⟨z, its, n, r, e⟩ := hH.at I.hok I.kIn
  have hl := r.length
  have hlen : its.toArray.size * k.toNat ≤ sizeLine := by rw [List.size_toArray, ← hl]; exact hz
  have hcap : ¬ its.toArray.size * k.toNat > (2 ^ 63 - 1) / 8 := by
    have : (sizeLine : Nat) ≤ (2 ^ 63 - 1) / 8 := by decide
    omega
  have hfit : ¬ (!Builtin.List.listFitsIndex k) = true := by
    rw [fitsIndex_both h1 h2]
    exact Bool.false_ne_true
  have hlong : ¬ Builtin.List.listTooLong (its.toArray.size * k.toNat) = true := by
    rw [notLongL hlen]
    exact Bool.false_ne_true
  have hnew : List.foldl (fun x1 x2 => x1 ++ x2) #[] (List.replicate (if its.toArray.isEmpty = true then 0 else k.toNat) its.toArray) = (List.replicate k.toNat its).flatten.toArray := by
    have f0 : ∀ m : Nat, List.foldl (fun x1 x2 => x1 ++ x2) #[] (List.replicate m its.toArray) = (List.replicate m its).flatten.toArray := fun m => by
      have := foldl_rep its m []
      rw [List.nil_append] at this
      exact this
    rw [f0]
    cases its with
    | nil => simp
    | cons a r' => rw [if_neg (by simp)]
  refine wpAny_binaryOp_repeat_ref (T := "list") (U := "int") (by decide) ⟨_, e, rfl⟩ (fun s' => typeIs_int s' k t) noFill_list_mul F.fills_int_mul F.slot_int_rmul repeat_list F.slot_int_index.lookup
    (call_meets F.slot_int_rmul (typeIs_int s k t) F.entry_int_rmul (F.args_int_rmul_2 _ _) (int___rmul___int_list k t l its.toArray n)
      ⟨e, rfl, ⟨_, e, rfl⟩, call_meets F.slot_list_mul ⟨_, e, rfl⟩ F.entry_list_mul (F.args_list_mul_2 _ _) (AutoListH.list___mul___list_int_3 l its.toArray n k t hfit hcap hlong) ⟨e, ?_⟩⟩)
  rw [hnew]
  exact ⟨.ref _, _, I.lnew (t' := s.toks) (r.rep k.toNat) (by rw [PyProof.Rows.lm_len_rep_flat, Nat.mul_comm]; exact hz), rfl, q _ I.fresh⟩
def opRep : D → D → (List D → Prop) → Prop := fun x y Q => match x, y with
  | .list xs, .int k => (-(2 ^ 63) ≤ k ∧ k < 2 ^ 63 ∧ xs.length * k.toNat ≤ sizeLine) ∧ Q (List.replicate k.toNat xs).flatten
  | _, _ => False
theorem RpL.rep {K : PySem.W.Frag} {H : Hp} {ds : List D} {vs : List V} (l : RpL K H ds vs) : ∀ n : Nat, RpL K H (List.replicate n ds).flatten (List.replicate n vs).flatten
  | 0 => .nil
  | n + 1 => by rw [List.replicate_succ, List.replicate_succ, List.flatten_cons, List.flatten_cons]; exact l.append (RpL.rep l n)
theorem od_rep : OpLD X (binaryOp .Mult) opRep := ⟨_, op_repR, fun x y v u H QD Q hx hy q k => by
  cases x with
  | list xs =>
    cases y with
    | int j =>
      obtain ⟨a, vs, rfl, sa, la⟩ := hx.listR
      rw [hy.int]
      exact ⟨a, j, vs, rfl, rfl, sa, q.1.1, q.1.2.1, by rw [← la.length]; exact q.1.2.2, fun p hp => k _ _ _ q.2 hp (la.rep _)⟩
    | _ => exact q.elim
  | _ => exact q.elim⟩

/-! ### slices -/
def cutD (xs : List D) (lo hi : Option Int) : List D := (xs.drop (HT.sIx xs.length 0 lo)).take (HT.sIx xs.length xs.length hi - HT.sIx xs.length 0 lo)
theorem RpL.cut {K : PySem.W.Frag} {H : Hp} {ds : List D} {vs : List V} (l : RpL K H ds vs) (lo hi : Option Int) : RpL K H (cutD ds lo hi) (cutV vs lo hi) := by
  unfold cutD cutV
  rw [l.length]
  exact (l.drop _).take _
abbrev TOd := Env → (Option Int → Env → Prop) → Prop
def liftO (K : PySem.W.Frag) (G : Gh) (t : TOd) : TO := fun σ H Q => ∃ (E : Env) (QE : Option Int → Env → Prop), RelE K G H E σ ∧ t E QE ∧ ∀ o E' H', QE o E' → Ext H H' → RelE K G H' E' σ → Q o H'
structure EO (X : Cx) (G : Gh) (e : Option Expr) (t : TOd) : Prop where
  po : PO X e (liftO X.K G t)
theorem PO.weak {e : Option Expr} {t u : TO} (h : PO X e t) (w : ∀ σ H Q, u σ H Q → t σ H Q) : PO X e u := ⟨fun pins s σ H Q I q => h.run pins s σ H Q I (w σ H Q q)⟩
def oNo : TOd := fun E Q => Q none E
def oE (t : TD) : TOd := fun E Q => t E fun d E1 => match d with
  | .int i => Q (some i) E1
  | _ => False
theorem eo_no : EO X G none oNo := ⟨PO.weak po_none fun σ H Q ⟨E, QE, r, q, k⟩ => k _ _ _ q (Ext.refl _) r⟩
theorem eo_e {t : TD} (h : ED X G e t) : EO X G (some e) (oE t) := ⟨PO.weak (po_some h.pe) fun σ H Q ⟨E, QE, r, q, k⟩ => ⟨E, _, r, q, fun d E1 v H1 q1 x1 r1 p1 => by
  cases p1 with
  | int i => exact ⟨i, rfl, k _ _ _ q1 x1 r1⟩
  | _ => exact q1.elim⟩⟩
/-- t[lo:hi], the whole: t itself -/
theorem whole_tuple {prog : Program} {w : World} {A : Around} {E : Value → Shared → Prop} {s : Shared} {t sl : Addr} {items : Array Value} {vl vu : Value} {lo hi : Option Int} {Q : Value → Shared → Prop} (ht : IsTup s.heap t items) (hs : s.heap.IsSliceOf sl vl vu .none) (pl : IsPart vl lo) (pu : IsPart vu hi)
    (hw : HT.sIx items.size 0 lo = 0 ∧ HT.sIx items.size items.size hi = items.size) (h : Q (.ref t) s) : wpAny (model prog w) A (getItem (.ref t) (.ref sl)) Q E s := by
  obtain ⟨os, hos, hcs, hds⟩ := id hs
  have hTs : s.TypeIs (.ref sl) "slice" := ⟨os, hos, hcs⟩
  unfold getItem
  try with_reducible refine wpAny_holding ?_
  first | refine wpAny_bind (wpAny_pure ?_) | skip
  refine wpAny_bind (wpAny_sequenceKey ht.typeIs (by decide) ?_)
  refine wpAny_bind (wpAny_callSpecial?_slot (name := Str.ofString "__getitem__") ht.typeIs PyProof.Rows.slot_tuple_getitem
    (wpAny_call_entry PyProof.Rows.slot_tuple_getitem ht.typeIs entry_tuple_getitem ?_ (args_tuple_getitem _ _)))
  show wpAny _ _ (Builtin.Tuple.tupleItemsOf (.ref t) >>= _) _ _ s
  refine wpAny_bind (tupleItemsOf_ ht ?_)
  refine wpAny_bind (wpAny_typeOf hTs ?_)
  rw [if_pos (by decide)]
  refine wpAny_bind (HT.sliceApplied_gen hs pl pu ?_)
  have hyes : (((HT.sIx items.size 0 lo : Nat) : Int) == 0 && (1 : Int) == 1 && (HT.sIx items.size items.size hi - HT.sIx items.size 0 lo) == items.size) = true := by
    rw [hw.1, hw.2]; simp
  show wpAny _ _ (if (((HT.sIx items.size 0 lo : Nat) : Int) == 0 && (1 : Int) == 1 && (HT.sIx items.size items.size hi - HT.sIx items.size 0 lo) == items.size) = true then _ else _) _ _ s
  rw [if_pos hyes]
  refine wpAny_bind ?_
  · unfold Builtin.Tuple.tupleIsExact
    refine wpAny_bind (wpAny_typeOf ht.typeIs (wpAny_pure ?_))
    rw [if_pos (by decide)]
    exact wpAny_bind (wpAny_rule (wpAny_pure ⟨_, rfl, wpAny_pure h⟩))
theorem sl_tupW : SlR X (fun x lo hi H Q => ∃ a xs, x = .ref a ∧ SqT X.K H a xs ∧ (HT.sIx xs.length 0 lo = 0 ∧ HT.sIx xs.length xs.length hi = xs.length) ∧ Q (.ref a) H) := by
  intro pins s σ H x v vl vu lo hi sl Q I rx hs pl pu h
  obtain ⟨a, xs, rfl, hx, hw, q⟩ := h
  cases rx
  obtain ⟨its, r, ht, hz⟩ := I.tuple hx
  have hlen : its.toArray.size = xs.length := by rw [List.size_toArray]; exact r.length.symm
  refine ⟨"tuple", _, PyProof.Rows.slot_tuple_getitem.lookup, ht.typeIs, ?_⟩
  exact whole_tuple ht hs pl pu (by rw [hlen]; exact hw) ⟨.ref a, H, I, rfl, q⟩
/-- t[lo:hi], not the whole: a new, plain tuple -/
theorem sl_tupF : SlR X (fun x lo hi H Q => ∃ a xs, x = .ref a ∧ SqT X.K H a xs ∧ ¬ (HT.sIx xs.length 0 lo = 0 ∧ HT.sIx xs.length xs.length hi = xs.length) ∧ ∀ p o, H p = none → o.dict = none → Q (.ref p) (upd H p (.frz o (.tup (cutV xs lo hi))))) := by
  intro pins s σ H x v vl vu lo hi sl Q I rx hs pl pu h
  obtain ⟨a, xs, rfl, hx, hw, q⟩ := h
  cases rx
  obtain ⟨its, r, ht, hz⟩ := I.tuple hx
  have hlen : its.toArray.size = xs.length := by rw [List.size_toArray]; exact r.length.symm
  refine ⟨"tuple", _, PyProof.Rows.slot_tuple_getitem.lookup, ht.typeIs, HT.getItem_tuple_cut ht hs pl pu (by rw [hlen]; exact hw) ?_ (by rw [hlen]; exact hz)⟩
  rw [hlen]
  exact ⟨.ref s.heap.objs.size, _, I.laid (t' := s.toks) (o := .frz _ (.tup (cutV xs lo hi))) (fun b ob q => Heap.get?_push_of_some _ q) (Nat.le_refl _) ⟨Heap.get?_push_size _ rfl, Nat.le_trans (cutV_length xs lo hi) hz, _, (r.drop (HT.sIx xs.length 0 lo)).take (HT.sIx xs.length xs.length hi - HT.sIx xs.length 0 lo), IsTup.new _ _⟩, rfl, q _ _ (I.hok.fresh (Nat.le_refl _)) rfl⟩
def slD (x : D) (lo hi : Option Int) (Q : D → Prop) : Prop := match x with
  | .tuple xs => Q (.tuple (cutD xs lo hi))
  | .str z => z.length ≤ sizeLine ∧ Q (.str (cutS z lo hi))
  | _ => False
def tSlD (ta : TD) (tl th : TOd) : TD := fun E Q => ta E fun x E1 => tl E1 fun l E2 => th E2 fun u E3 => slD x l u fun z => Q z E3
theorem cut_whole {xs : List D} {lo hi : Option Int} (h : HT.sIx xs.length 0 lo = 0 ∧ HT.sIx xs.length xs.length hi = xs.length) : cutD xs lo hi = xs := by
  unfold cutD; rw [h.1, h.2]; simp
theorem ed_sl {lo hi : Option Expr} {ta : TD} {tl th : TOd} (ha : ED X G a ta) (hl : EO X G lo tl) (hh : EO X G hi th) : ED X G (.Subscript a (.Slice lo hi none p2) pos) (tSlD ta tl th) := by
  refine ⟨PE.weak (pe_slice (sl_tupF.or (sl_tupW.or sl_str)) ha.pe hl.po hh.po) fun σ H Q ⟨E, QE, rel, q, k⟩ => ⟨E, _, rel, q, fun x E1 v H1 q1 x1 r1 p1 => ⟨E1, _, r1, q1, fun l E2 H2 q2 x2 r2 => ⟨E2, _, r2, q2, fun u E3 H3 q3 x3 r3 => ?_⟩⟩⟩⟩
  have xx := (x1.trans x2).trans x3
  have p3 := (p1.ext x2).ext x3
  cases p3 with
  | tup hs ll =>
    rename_i a0 vs ds
    by_cases hw : HT.sIx vs.length 0 l = 0 ∧ HT.sIx vs.length vs.length u = vs.length
    · have hw' := hw
      rw [← ll.length] at hw'
      refine .inr (.inl ⟨_, _, rfl, hs.1, hw, k _ _ _ _ q3 xx r3 ?_⟩)
      rw [cut_whole hw']; exact .tup hs ll
    · exact .inl ⟨_, _, rfl, hs.1, hw, fun p o hp ho => k _ _ _ _ q3 (xx.trans (PExt.new hp).ext) (r3.pext (PExt.new hp)) (.tup (.new ho) ((ll.cut l u).ext (PExt.new hp).ext))⟩
  | str z => exact .inr (.inr ⟨z, rfl, q3.1, k _ _ _ _ q3.2 xx r3 (.str _)⟩)
  | _ => exact q3.elim
def tSlL (ta : TD) (tl th : TOd) : TLd := fun E Q => ta E fun x E1 => tl E1 fun l E2 => th E2 fun u E3 => match x with
  | .list xs => Q (cutD xs l u) E3
  | _ => False
theorem el_sl {lo hi : Option Expr} {ta : TD} {tl th : TOd} (ha : ED X G a ta) (hl : EO X G lo tl) (hh : EO X G hi th) : EL X G (.Subscript a (.Slice lo hi none p2) pos) (tSlL ta tl th) := by
  refine ⟨PE.weak (pe_slice sl_list ha.pe hl.po hh.po) fun σ H Q ⟨E, QE, rel, q, k⟩ => ⟨E, _, rel, q, fun x E1 v H1 q1 x1 r1 p1 => ⟨E1, _, r1, q1, fun l E2 H2 q2 x2 r2 => ⟨E2, _, r2, q2, fun u E3 H3 q3 x3 r3 => ?_⟩⟩⟩⟩
  have xx := (x1.trans x2).trans x3
  have p3 := (p1.ext x2).ext x3
  cases p3 with
  | lst hs ll =>
    refine ⟨_, _, rfl, hs.sq, fun p hp => ?_⟩
    obtain ⟨r4, h0, na⟩ := r3.fresh (o := .lst (cutV _ l u)) hp
    exact k _ _ _ _ _ q3 (xx.trans (PExt.new hp).ext) r4 h0 na upd_same ((ll.cut l u).ext (PExt.new hp).ext)
  | _ => exact q3.elim
/-- xs[::-1] of a list -/
def tRevD (ta : TD) : TLd := fun E Q => ta E fun x E1 => match x with
  | .list xs => Q xs.reverse E1
  | _ => False
theorem el_rev {k : Nat} {ta : TD} (ha : ER X G a ta) : EL X G (.Subscript a (.Slice none none (some (.UnaryOp .USub (.Constant (.int 1) k p1) p2)) p3) pos) (tRevD ta) :=
  ⟨PE.weak (pe_revL ha.pe) fun σ H Q ⟨E, QE, rel, q, k⟩ => ⟨E, _, rel, q, fun x E1 v H1 q1 x1 r1 p1 => by
    cases x with
    | list xs =>
      obtain ⟨a, vs, rfl, hs, ll⟩ := p1.list
      refine ⟨a, vs, rfl, hs, fun p hp => ?_⟩
      obtain ⟨r4, h0, na⟩ := r1.fresh (o := .lst vs.reverse) hp
      exact k _ _ _ _ _ q1 (x1.trans (PExt.new hp).ext) r4 h0 na upd_same (ll.reverse.ext (PExt.new hp).ext)
    | _ => exact q1.elim⟩⟩

/-! ### isinstance with a built-in class -/
def tyD : D → String
  | .none => "NoneType"
  | .bool _ => "bool"
  | .int _ => "int"
  | .str _ => "str"
  | .list _ => "list"
  | .tuple _ => "tuple"
  | .dict _ => "dict"
theorem call_isiR {T : String} {bf : D → Bool} (hb : ∀ d : D, (match d with | .dict _ => True | _ => kitB (tyD d) T = some (bf d))) : CallR X (.builtin "isinstance") (fun vs H Q => ∃ d v, vs = [v, .ty T] ∧ Rp X.K H d v ∧ (∀ k, d ≠ .dict k) ∧ Q (.bl (bf d)) H) := by
  intro pins s σ H vs us Q I r h
  obtain ⟨d, v, rfl, hd, hn, q⟩ := h
  obtain ⟨u1, u2, rfl, r1, r2⟩ := vals2 r
  cases (show u2 = Value.type T from r2)
  have kit : ∃ P : Heap → Prop, PySem.W.KitX X.K u1 (.type (tyD d)) P ∧ P s.heap ∧ u1 ≠ .builtin "__main__.__loader__#opaque" := by
    cases hd with
    | non => cases (show u1 = Value.none from r1); exact ⟨_, PySem.W.kitx_none, True.intro, fun z => nomatch z⟩
    | bl y => cases (show u1 = Value.bool y from r1); exact ⟨_, PySem.W.kitx_bool, True.intro, fun z => nomatch z⟩
    | int i => obtain ⟨t, q⟩ := (show ∃ t, u1 = Value.int i t from r1); cases q; exact ⟨_, PySem.W.kitx_int, True.intro, fun z => nomatch z⟩
    | str y => obtain ⟨t, q⟩ := (show ∃ t, u1 = Value.str y t from r1); cases q; exact ⟨_, PySem.W.kitx_str, True.intro, fun z => nomatch z⟩
    | dct _ _ _ _ => exact absurd rfl (hn _)
    | hdl a => exact absurd rfl (hn _)
    | dck _ _ _ _ => exact absurd rfl (hn _)
    | lst hs _ =>
      rename_i a xs ds _
      cases (show u1 = Value.ref a from r1)
      obtain ⟨its, rv, hl, _⟩ := I.list hs.sq
      obtain ⟨o, n, ho, hc, _⟩ := hl
      exact ⟨_, PySem.W.kitx_list, ⟨o, ho, hc⟩, fun z => nomatch z⟩
    | tup hs _ =>
      rename_i a xs ds _
      cases (show u1 = Value.ref a from r1)
      obtain ⟨its, rv, ⟨o, ho, hc, _⟩, _⟩ := I.tuple hs.1
      exact ⟨_, PySem.W.kitx_tuple, ⟨o, ho, hc⟩, fun z => nomatch z⟩
  obtain ⟨P, Z, p, hx⟩ := kit
  have e : PySem.W.kitOne X.K (.type (tyD d)) (.type T) = some (bf d) := by
    have := hb d
    cases d with
    | dict k => exact absurd rfl (hn k)
    | _ => exact kit_ty this
  exact PySem.W.kia_one Z I.kIn p e hx fun tk => ⟨.bl _, H, I.tok tk, rfl, q⟩
def isInt : D → Bool
  | .int _ => true
  | .bool _ => true
  | _ => false
def isBool : D → Bool
  | .bool _ => true
  | _ => false
def isStr : D → Bool
  | .str _ => true
  | _ => false
def isTuple : D → Bool
  | .tuple _ => true
  | _ => false
def isList : D → Bool
  | .list _ => true
  | _ => false
def notDict : D → Prop
  | .dict _ => False
  | _ => True
def tIsi (bf : D → Bool) (ta : TD) : TD := fun E Q => ta E fun x E1 => notDict x ∧ Q (.bool (bf x)) E1
theorem ed_isi {T : String} {ty : Str} {bf : D → Bool} {ta : TD} {pt : Pos} (hb : ∀ d : D, (match d with | .dict _ => True | _ => kitB (tyD d) T = some (bf d))) (ha : ED X G a ta) (hg : Gl X "isinstance") (hm : X.mg "isinstance" = none) (hg2 : Gl X ty) (hm2 : X.mg ty = none) (hv2 : bootBuiltins ty = some (.type T))
    (hn2 : ty ≠ "__name__" := by decide) (hd2 : (ty == ("__debug__" : Str)) = false := by decide)
    (hs : starEach [a, .Name ty pt] X.env = (false, eval a X.env) :: starEach [.Name ty pt] X.env := by rfl) (hs2 : starEach [.Name ty pt] X.env = (false, eval (.Name ty pt) X.env) :: starEach [] X.env := by rfl) (hpl : (backTo pos (starEach [.Name ty pt] X.env)).any (·.1) = false := by rfl) :
    ED X G (.Call (.Name "isinstance" p) [a, .Name ty pt] [] pos) (tIsi bf ta) := by
  refine ⟨PE.weak (pe_callB (call_isiR hb) hg hm (by decide +kernel) (pa_cons ha.pe (pa_cons (pe_bltn (v := .ty T) hg2 hm2 hv2 rfl hn2 hd2) pa_nil hs2) hs) (by decide) (by decide) hs hpl) fun σ H Q ⟨E, QE, rel, q, k⟩ => ⟨E, _, rel, q, fun x E1 v H1 q1 x1 r1 p1 => ?_⟩⟩
  refine ⟨x, v, rfl, p1, ?_, k _ _ _ _ q1.2 x1 r1 (.bl _)⟩
  intro z e; subst e; exact q1.1
theorem isi_int : ∀ d : D, (match d with | .dict _ => True | _ => kitB (tyD d) "int" = some (isInt d)) := by intro d; cases d <;> first | trivial | (show kitB _ _ = _; decide +kernel)
theorem isi_bool : ∀ d : D, (match d with | .dict _ => True | _ => kitB (tyD d) "bool" = some (isBool d)) := by intro d; cases d <;> first | trivial | (show kitB _ _ = _; decide +kernel)
theorem isi_str : ∀ d : D, (match d with | .dict _ => True | _ => kitB (tyD d) "str" = some (isStr d)) := by intro d; cases d <;> first | trivial | (show kitB _ _ = _; decide +kernel)
theorem isi_tuple : ∀ d : D, (match d with | .dict _ => True | _ => kitB (tyD d) "tuple" = some (isTuple d)) := by intro d; cases d <;> first | trivial | (show kitB _ _ = _; decide +kernel)
theorem isi_list : ∀ d : D, (match d with | .dict _ => True | _ => kitB (tyD d) "list" = some (isList d)) := by intro d; cases d <;> first | trivial | (show kitB _ _ = _; decide +kernel)

/-! ### zip of two tuples, of two lists -/
def zipD (xs ys : List D) : List D := (xs.zip ys).map fun p => .tuple [p.1, p.2]
def iZipD (ta tb : TD) : TDs := fun E Q => ta E fun x E1 => tb E1 fun y E2 => match x, y with
  | .tuple xs, .tuple ys => Q (zipD xs ys) E2
  | .list xs, .list ys => Q (zipD xs ys) E2
  | _, _ => False
theorem zipD_len (xs ys : List D) : (zipD xs ys).length = min xs.length ys.length := by simp [zipD]
theorem zipD_get {xs ys : List D} {i : Nat} {x y : D} (h1 : xs[i]? = some x) (h2 : ys[i]? = some y) : (zipD xs ys)[i]? = some (.tuple [x, y]) := by
  unfold zipD
  rw [List.getElem?_map, (List.getElem?_zip_eq_some (z := (x, y))).mpr ⟨h1, h2⟩]; rfl
theorem walkD_zipT {K : PySem.W.Frag} {H : Hp} {a b : Addr} {vs us : List V} {ds es : List D} (h : SqT K H a vs) (h' : SqT K H b us) (l : RpL K H ds vs) (l' : RpL K H es us) : WalkD true K (RZ.ItzT K a b) H (zipD ds es) where
  goes := fun i H' x hi => by
    rw [zipD_len, l.length, l'.length] at hi
    exact ⟨vs, us, vs[i], us[i], SqT.ext x h, SqT.ext x h', List.getElem?_eq_getElem _, List.getElem?_eq_getElem _⟩
  yld := fun i H' v H2 x hi hy => by
    obtain ⟨T, v1, v2, rfl, hT, rfl, e1, e2⟩ := hy
    obtain ⟨d, hd, p⟩ := l.getV (e1 vs (SqT.ext x h))
    obtain ⟨d', hd', p'⟩ := l'.getV (e2 us (SqT.ext x h'))
    have px := PExt.new (o := .tup [v1, v2]) hT
    exact ⟨px, _, zipD_get hd hd', .pair (SqT.of upd_same) (.cons ((p.ext x).ext px.ext) (.cons ((p'.ext x).ext px.ext) .nil))⟩
  stops := fun H' x => ⟨vs, us, SqT.ext x h, SqT.ext x h', by rw [zipD_len, l.length, l'.length]; omega⟩
theorem walkD_zipL {K : PySem.W.Frag} {H : Hp} {a b : Addr} {vs us : List V} {ds es : List D} (h : LsF K H a vs) (h' : LsF K H b us) (l : RpL K H ds vs) (l' : RpL K H es us) : WalkD true K (Itz K a b) H (zipD ds es) where
  goes := fun i H' x hi => by
    rw [zipD_len, l.length, l'.length] at hi
    exact ⟨vs, us, vs[i], us[i], (LsF.ext x h).sq, (LsF.ext x h').sq, List.getElem?_eq_getElem _, List.getElem?_eq_getElem _⟩
  yld := fun i H' v H2 x hi hy => by
    obtain ⟨T, v1, v2, rfl, hT, rfl, e1, e2⟩ := hy
    obtain ⟨d, hd, p⟩ := l.getV (e1 vs ((LsF.ext x h).sq))
    obtain ⟨d', hd', p'⟩ := l'.getV (e2 us ((LsF.ext x h').sq))
    have px := PExt.new (o := .tup [v1, v2]) hT
    exact ⟨px, _, zipD_get hd hd', .pair (SqT.of upd_same) (.cons ((p.ext x).ext px.ext) (.cons ((p'.ext x).ext px.ext) .nil))⟩
  stops := fun H' x => ⟨vs, us, (LsF.ext x h).sq, (LsF.ext x h').sq, by rw [zipD_len, l.length, l'.length]; omega⟩
theorem id_zip {elts : List Expr} {kk : Nat} {tpos : Pos} {ta tb : TD} (ha : ED X G a ta) (hb : ED X G b tb) (hg : Gl X "zip") (hm : X.mg "zip" = none)
    (hs : starEach [a, b] X.env = (false, eval a X.env) :: starEach [b] X.env := by rfl) (hs2 : starEach [b] X.env = (false, eval b X.env) :: starEach [] X.env := by rfl) (hpl : (backTo pos (starEach [b] X.env)).any (·.1) = false := by rfl) :
    ID X G true (.Tuple elts kk tpos) (.Call (.Name "zip" p) [a, b] [] pos) (iZipD ta tb) := by
  refine ⟨PI.weak (RZ.pi_zipA hg hm (pa_cons ha.pe (pa_cons hb.pe pa_nil hs2) hs) hs hpl) fun σ H R ⟨E, QE, rel, q, k⟩ => ⟨E, _, rel, q, fun x E1 v H1 q1 x1 r1 p1 => ⟨E1, _, r1, q1, fun y E2 u H2 q2 x2 r2 p2 => ?_⟩⟩⟩
  have p1 := p1.ext x2
  cases p1 with
  | tup h1 l1 =>
    cases p2 with
    | tup h2 l2 => exact ⟨_, _, _, _, rfl, .inr ⟨h1.1, h2.1, k _ _ _ _ q2 (x1.trans x2) r2 (walkD_zipT h1.1 h2.1 l1 l2)⟩⟩
    | _ => exact q2.elim
  | lst h1 l1 =>
    cases p2 with
    | lst h2 l2 => exact ⟨_, _, _, _, rfl,   .inl ⟨h1.sq, h2.sq, k _ _ _ _ q2 (x1.trans x2) r2 (walkD_zipL h1 h2 l1 l2)⟩⟩
    | _ => exact q2.elim
  | _ => cases p2 <;> exact q2.elim
end
end DL

set_option Elab.async false
set_option linter.all false
set_option maxRecDepth 100000
set_option maxHeartbeats 1000000
namespace DL
open PySem PySem.Spec PyProof.Rows L2

theorem ns {G : Gh} {l : List Nat} (h : G.slots = l) {i : Nat} (hd : i ∉ l) : i ∉ G.slots := by rw [h]; exact hd
theorem nsA {G : Gh} {l ms : List Nat} (h : G.slots = l) (hd : ∀ i ∈ ms, i ∉ l) : ∀ i ∈ ms, i ∉ G.slots := by rw [h]; exact hd
theorem u65 {k : Nat} {A : Around} (r : Room k A) : A.units + 65 < cLine := by have := r.un; omega
theorem bb_len : bootBuiltins "len" = some (.builtin "len") := by decide +kernel
theorem bb_abs : bootBuiltins "abs" = some (.builtin "abs") := by decide +kernel
theorem bb_max : bootBuiltins "max" = some (.builtin "max") := by decide +kernel
theorem bb_min : bootBuiltins "min" = some (.builtin "min") := by decide +kernel
theorem bb_sum : bootBuiltins "sum" = some (.builtin "sum") := by decide +kernel
theorem bb_all : bootBuiltins "all" = some (.builtin "all") := by decide +kernel
theorem bb_sorted : bootBuiltins "sorted" = some (.builtin "sorted") := by decide +kernel
theorem bb_tuple : bootBuiltins "tuple" = some (.type "tuple") := by decide +kernel
theorem bb_list : bootBuiltins "list" = some (.type "list") := by decide +kernel
theorem bb_int : bootBuiltins "int" = some (.type "int") := by decide +kernel
theorem bb_bool : bootBuiltins "bool" = some (.type "bool") := by decide +kernel
theorem bb_str : bootBuiltins "str" = some (.type "str") := by decide +kernel
theorem bb_set : bootBuiltins "set" = some (.type "set") := by decide +kernel

end DL

set_option Elab.async false
set_option linter.all false
set_option maxRecDepth 100000
set_option maxHeartbeats 1000000
namespace DL
open PySem PySem.Spec PyProof.Rows L2

/-! ### reading: one statement after another, what follows a letter -/
theorem seq_step {t u : TSd} {DE : EndsD} {E : Env} (h : ∀ R : Env → Prop, (∀ E', u DE E' → R E') → t { DE with nx := R } E) : sSeq t u DE E := h _ fun _ h => h
theorem ifB {b : Bool} {A B : Prop} (h1 : b = true → A) (h2 : b = false → B) : if b = true then A else B := by
  cases b with
  | true => exact if_pos rfl ▸ h1 rfl
  | false => rw [if_neg Bool.false_ne_true]; exact h2 rfl
theorem ifT {b : Bool} {A B : Prop} (hb : b = true) (h1 : A) : if b = true then A else B := by rw [if_pos hb]; exact h1
theorem ifF {b : Bool} {A B : Prop} (hb : b = false) (h1 : B) : if b = true then A else B := by rw [hb, if_neg Bool.false_ne_true]; exact h1
/-! == of numbers, truths -/
theorem eqv_int (i j : Int) : PyData.eqv (.int i) (.int j) = decide (i = j) := by
  show (i == j) = decide (i = j)
  by_cases h : i = j
  · subst h; simp
  · simp [h]
theorem eqv_bool (i j : Bool) : PyData.eqv (.bool i) (.bool j) = (i == j) := rfl
theorem eqv_str (i j : Str) : PyData.eqv (.str i) (.str j) = (i == j) := rfl
theorem eqv_none : PyData.eqv .none .none = true := rfl
theorem eqv_tup (xs ys : List D) : PyData.eqv (.tuple xs) (.tuple ys) = PyData.eqvAll xs ys := by simp [PyData.eqv]
theorem eqv_lst (xs ys : List D) : PyData.eqv (.list xs) (.list ys) = PyData.eqvAll xs ys := by simp [PyData.eqv]
theorem shaped_int (i : Int) : SeqAt.shaped (.int i) = true := rfl
theorem shaped_bool (i : Bool) : SeqAt.shaped (.bool i) = true := rfl
theorem shaped_none : SeqAt.shaped .none = true := rfl
/-! items -/
theorem atI_at {α : Type} {xs : List α} {i : Int} {d : α} (h0 : 0 ≤ i) (h : xs[i.toNat]? = some d) : atI xs i = some d := by
  obtain ⟨hl, _⟩ := List.getElem?_eq_some_iff.mp h
  unfold atI ixN
  rw [if_pos h0, if_pos (by omega)]
  exact h
theorem atD_at {xs : List D} {i : Int} {d : D} {Q : D → Prop} (h0 : 0 ≤ i) (h : xs[i.toNat]? = some d) (q : Q d) : atD xs i Q := by unfold atD; rw [atI_at h0 h]; exact q
theorem atD_neg {xs : List D} {i : Int} {d : D} {Q : D → Prop} (h0 : i < 0) (h1 : -(xs.length : Int) ≤ i) (h : xs[(i + xs.length).toNat]? = some d) (q : Q d) : atD xs i Q := by
  unfold atD atI ixN
  rw [if_neg (by omega), if_pos h1]
  show (match (xs[(i + xs.length).toNat]?) with | some d => Q d | none => False)
  rw [h]; exact q
theorem atD_0 {x : D} {xs : List D} {Q : D → Prop} : atD (x :: xs) 0 Q = Q x := by
  unfold atD; rw [atI_at (d := x) (by decide) rfl]
theorem atD_1 {x y : D} {xs : List D} {Q : D → Prop} : atD (x :: y :: xs) 1 Q = Q y := by
  unfold atD; rw [atI_at (d := y) (by decide) rfl]
theorem atD_2 {x y z : D} {xs : List D} {Q : D → Prop} : atD (x :: y :: z :: xs) 2 Q = Q z := by
  unfold atD; rw [atI_at (d := z) (by decide) rfl]
theorem atD_3 {x y z u : D} {xs : List D} {Q : D → Prop} : atD (x :: y :: z :: u :: xs) 3 Q = Q u := by
  unfold atD; rw [atI_at (d := u) (by decide) rfl]
theorem putD_at {xs : List D} {i : Int} {d : D} {Q : List D → Prop} (h0 : 0 ≤ i) (h : i < xs.length) (q : Q (xs.set i.toNat d)) : putD xs i d Q := by
  unfold putD ixN; rw [if_pos h0, if_pos h]; exact q
theorem putD_0 {x d : D} {xs : List D} {Q : List D → Prop} : putD (x :: xs) 0 d Q = Q (d :: xs) := by
  unfold putD ixN; rw [if_pos (by decide), if_pos (by rw [List.length_cons]; omega)]; rfl
theorem getElem_map_int {ns : List Int} {i : Nat} (h : i < ns.length) : (ns.map PyData.int)[i]? = some (.int ns[i]) := by
  rw [List.getElem?_map, List.getElem?_eq_getElem h]; rfl
/-- a for by what holds between two turns; R: what follows a turn -/
theorem forD_inv {g : TGd} {tb : TSd} {DE : EndsD} {ds : List D} {E : Env} (I : Nat → Env → Prop) (h0 : I 0 E)
    (hs : ∀ (i : Nat) (d : D) (E : Env), ds[i]? = some d → I i E → ∀ R : Env → Prop, (∀ E', I (i + 1) E' → R E') → g d E fun E1 => tb { DE with nx := R, ct := R, bk := DE.nx } E1)
    (hd : ∀ E, I ds.length E → DE.nx E) : forD g tb ds DE E := by
  induction ds generalizing E I with
  | nil => exact hd E h0
  | cons d ds ih =>
    refine hs 0 d E rfl h0 _ fun E' h' => ?_
    exact ih (fun i => I (i + 1)) h' (fun i d E e q => hs (i + 1) d E (by simpa using e) q) fun E q => hd E (by simpa using q)
theorem for_inv {ti : TDs} {g : TGd} {tb : TSd} {DE : EndsD} {E : Env} {ds : List D} {E1 : Env} (h : ∀ Q : List D → Env → Prop, Q ds E1 → ti E Q) (I : Nat → Env → Prop) (h0 : I 0 E1)
    (hs : ∀ (i : Nat) (d : D) (E : Env), ds[i]? = some d → I i E → ∀ R : Env → Prop, (∀ E', I (i + 1) E' → R E') → g d E fun E1 => tb { DE with nx := R, ct := R, bk := DE.nx } E1)
    (hd : ∀ E, I ds.length E → DE.nx E) : sFor ti g tb DE E := h _ (forD_inv I h0 hs hd)
/-- a comprehension whose element looks at its own names alone, and changes nothing: f says what it gives -/
theorem wipeE_wipe (E : Env) : ∀ ms : List Nat, wipeE (wipeE E ms) ms = wipeE E ms := by
  have h : ∀ (l k : List Nat) (F : Env), (∀ j ∈ l, j ∈ k) → (∀ j ∈ k, ∀ s, F[j]? = some s → s = .un) → wipeE F l = F := by
    intro l
    induction l with
    | nil => intro _ _ _ _; rfl
    | cons v vs ih =>
      intro k F hk hn
      show (wipeE F vs).set v .un = F
      rw [ih k F (fun j hj => hk j (List.mem_cons_of_mem _ hj)) hn]
      refine List.ext_getElem? fun j => ?_
      by_cases hv : v = j
      · subst hv
        by_cases hl : v < F.length
        · rw [List.getElem?_set_self hl]
          have := hn v (hk v (List.mem_cons_self ..)) _ (List.getElem?_eq_getElem hl)
          rw [List.getElem?_eq_getElem hl, this]
        · rw [List.getElem?_eq_none (by simpa using hl), List.getElem?_eq_none (by simpa using hl)]
      · rw [List.getElem?_set_ne hv]
  intro ms
  refine h ms ms _ (fun j hj => hj) fun j hj s e => ?_
  have w : ∀ (l : List Nat) (j : Nat) (s : S), j ∈ l → (wipeE E l)[j]? = some s → s = .un := by
    intro l
    induction l with
    | nil => intro _ _ h; cases h
    | cons v vs ih =>
      intro j s hj e
      have e : ((wipeE E vs).set v .un)[j]? = some s := e
      by_cases hv : v = j
      · subst hv
        by_cases hl : v < (wipeE E vs).length
        · rw [List.getElem?_set_self hl] at e; exact (Option.some.inj e).symm
        · rw [List.getElem?_eq_none (by simpa using hl)] at e; cases e
      · rw [List.getElem?_set_ne hv] at e
        exact ih j s (by rcases List.mem_cons.mp hj with q | q; exact absurd q.symm hv; exact q) e
  exact w ms j s hj e
theorem compD_pure {g : TGd} {tt : TTd} {te : TD} {ms : List Nat} {W : Env} (f : D → Option D) : ∀ (ds acc : List D) (E : Env) (Q : List D → Env → Prop), wipeE E ms = W →
    (∀ d ∈ ds, ∀ R : Option D → Env → Prop, (∀ E', wipeE E' ms = W → R (f d) E') → turnD g tt te d W R) → acc.length + ds.length ≤ sizeLine → (∀ E', wipeE E' ms = W → Q (acc ++ ds.filterMap f) E') → compD g tt te ms ds acc E Q
  | [], acc, E, Q, hE, _, _, q => by have := q E hE; rw [List.filterMap_nil, List.append_nil] at this; exact this
  | d :: ds, acc, E, Q, hE, hf, hl, q => by
    show turnD g tt te d (wipeE E ms) _
    rw [hE]
    refine hf d (List.mem_cons_self ..) _ fun E' hE' => ?_
    rw [List.length_cons] at hl
    cases hd : f d with
    | none =>
      refine compD_pure f ds acc E' Q hE' (fun d hd => hf d (List.mem_cons_of_mem _ hd)) (by omega) fun E2 h2 => ?_
      have := q E2 h2
      rw [List.filterMap_cons, hd] at this; exact this
    | some y =>
      refine ⟨by omega, compD_pure f ds (acc ++ [y]) E' Q hE' (fun d hd => hf d (List.mem_cons_of_mem _ hd)) (by rw [List.length_append]; simp; omega) fun E2 h2 => ?_⟩
      have := q E2 h2
      rw [List.filterMap_cons, hd] at this
      rw [List.append_assoc]; exact this
/-- behind it the environment is the one ahead (its own names were not in use, and hold nothing known) -/
theorem rest_wipe {E E' : Env} : ∀ {ms : List Nat}, wipeE E' ms = wipeE E ms → (∀ i ∈ ms, E[i]? = some .un ∨ (∃ x, E[i]? = some (.d x))) → restE E E' ms = E := by
  intro ms hw hE
  have hl : E'.length = E.length := by
    have : ∀ (F : Env) (l : List Nat), (wipeE F l).length = F.length := by
      intro F l
      induction l with
      | nil => rfl
      | cons v vs ih => show ((wipeE F vs).set v .un).length = _; rw [List.length_set, ih]
    rw [← this E' ms, hw, this]
  have wg : ∀ (F : Env) (l : List Nat) (i : Nat), i ∉ l → (wipeE F l)[i]? = F[i]? := by
    intro F l
    induction l with
    | nil => intro _ _; rfl
    | cons v vs ih => intro i h; show ((wipeE F vs).set v .un)[i]? = _; rw [List.getElem?_set_ne (fun z => h (by simp [z])), ih i fun z => h (List.mem_cons_of_mem _ z)]
  refine List.ext_getElem? fun i => ?_
  by_cases hi : i ∈ ms
  · have key : ∀ (l : List Nat), i ∈ l → (restE E E' l)[i]? = some (datOf E[i]?) := by
      intro l
      induction l with
      | nil => intro h; cases h
      | cons v vs ih =>
        intro h
        show ((restE E E' vs).set v (datOf E[v]?))[i]? = _
        have rl : ∀ (l : List Nat), (restE E E' l).length = E'.length := by
          intro l
          induction l with
          | nil => rfl
          | cons v vs ih => show ((restE E E' vs).set v _).length = _; rw [List.length_set, ih]
        by_cases hv : v = i
        · subst hv
          have : v < E.length := by
            rcases hE v hi with z | ⟨x, z⟩
            · exact (List.getElem?_eq_some_iff.mp z).1
            · exact (List.getElem?_eq_some_iff.mp z).1
          rw [List.getElem?_set_self (by rw [rl, hl]; exact this)]
        · rw [List.getElem?_set_ne hv]
          exact ih (by rcases List.mem_cons.mp h with q | q; exact absurd q.symm hv; exact q)
    rw [key ms hi]
    rcases hE i hi with z | ⟨x, z⟩
    · rw [z]; rfl
    · rw [z]; rfl
  · have rg : ∀ (l : List Nat), i ∉ l → (restE E E' l)[i]? = E'[i]? := by
      intro l
      induction l with
      | nil => intro _; rfl
      | cons v vs ih => intro h; show ((restE E E' vs).set v _)[i]? = _; rw [List.getElem?_set_ne (fun z => h (by simp [z])), ih fun z => h (List.mem_cons_of_mem _ z)]
    rw [rg ms hi, ← wg E' ms i hi, hw, wg E ms i hi]
theorem comp_pure {ti : TDs} {g : TGd} {tt : TTd} {te : TD} {ms : List Nat} {E E1 : Env} {Q : List D → Env → Prop} (ds : List D) (f : D → Option D) (hi : ∀ R : List D → Env → Prop, R ds E1 → ti E R)
    (hf : ∀ d ∈ ds, ∀ R : Option D → Env → Prop, (∀ E', wipeE E' ms = wipeE E1 ms → R (f d) E') → turnD g tt te d (wipeE E1 ms) R) (hE : ∀ i ∈ ms, E1[i]? = some .un ∨ (∃ x, E1[i]? = some (.d x))) (hl : ds.length ≤ sizeLine) (q : Q (ds.filterMap f) E1) : tComp ti g tt te ms E Q :=
  hi _ (compD_pure f ds [] E1 _ rfl hf (by simpa using hl) fun E' hE' => by rw [rest_wipe hE' hE]; exact q)
theorem filterMap_some {α β : Type} (f : α → β) : ∀ l : List α, l.filterMap (fun x => some (f x)) = l.map f
  | [] => rfl
  | a :: l => by rw [List.filterMap_cons, List.map_cons, filterMap_some f l]
/-- over typed items -/
theorem compD_map {α : Type} {g : TGd} {tt : TTd} {te : TD} {ms : List Nat} {W : Env} (enc : α → D) (p : α → Bool) (f : α → D) : ∀ (xs : List α) (acc : List D) (E : Env) (Q : List D → Env → Prop), wipeE E ms = W →
    (∀ x ∈ xs, ∀ R : Option D → Env → Prop, (∀ E', wipeE E' ms = W → R (if p x = true then some (f x) else none) E') → turnD g tt te (enc x) W R) → acc.length + xs.length ≤ sizeLine → (∀ E', wipeE E' ms = W → Q (acc ++ (xs.filter p).map f) E') → compD g tt te ms (xs.map enc) acc E Q
  | [], acc, E, Q, hE, _, _, q => by have := q E hE; rw [List.filter_nil, List.map_nil, List.append_nil] at this; exact this
  | x :: xs, acc, E, Q, hE, hf, hl, q => by
    show turnD g tt te (enc x) (wipeE E ms) _
    rw [hE]
    refine hf x (List.mem_cons_self ..) _ fun E' hE' => ?_
    rw [List.length_cons] at hl
    cases hp : p x with
    | false =>
      rw [if_neg Bool.false_ne_true]
      refine compD_map enc p f xs acc E' Q hE' (fun d hd => hf d (List.mem_cons_of_mem _ hd)) (by omega) fun E2 h2 => ?_
      have := q E2 h2
      rw [List.filter_cons_of_neg (by rw [hp]; exact Bool.false_ne_true)] at this; exact this
    | true =>
      rw [if_pos rfl]
      refine ⟨by omega, compD_map enc p f xs (acc ++ [f x]) E' Q hE' (fun d hd => hf d (List.mem_cons_of_mem _ hd)) (by rw [List.length_append]; simp; omega) fun E2 h2 => ?_⟩
      have := q E2 h2
      rw [List.filter_cons_of_pos hp] at this
      rw [List.append_assoc]; exact this
theorem comp_filter {α : Type} {ti : TDs} {g : TGd} {tt : TTd} {te : TD} {ms : List Nat} {E E1 : Env} {Q : List D → Env → Prop} (xs : List α) (enc : α → D) (p : α → Bool) (f : α → D) (hi : ∀ R : List D → Env → Prop, R (xs.map enc) E1 → ti E R)
    (hE : ∀ i ∈ ms, E1[i]? = some .un ∨ (∃ x, E1[i]? = some (.d x))) (hl : xs.length ≤ sizeLine)
    (hf : ∀ x ∈ xs, ∀ R : Option D → Env → Prop, (∀ E', wipeE E' ms = wipeE E1 ms → R (if p x = true then some (f x) else none) E') → turnD g tt te (enc x) (wipeE E1 ms) R) (q : Q ((xs.filter p).map f) E1) : tComp ti g tt te ms E Q :=
  hi _ (compD_map enc p f xs [] E1 _ rfl hf (by simpa using hl) fun E' hE' => by rw [rest_wipe hE' hE]; exact q)
theorem comp_map {α : Type} {ti : TDs} {g : TGd} {te : TD} {ms : List Nat} {E E1 : Env} {Q : List D → Env → Prop} (xs : List α) (enc : α → D) (f : α → D) (hi : ∀ R : List D → Env → Prop, R (xs.map enc) E1 → ti E R)
    (hE : ∀ i ∈ ms, E1[i]? = some .un ∨ (∃ x, E1[i]? = some (.d x))) (hl : xs.length ≤ sizeLine)
    (hf : ∀ x ∈ xs, ∀ R : D → Env → Prop, (∀ E', wipeE E' ms = wipeE E1 ms → R (f x) E') → g (enc x) (wipeE E1 ms) fun E1 => te E1 R) (q : Q (xs.map f) E1) : tComp ti g tTrue te ms E Q := by
  refine comp_filter xs enc (fun _ => true) f hi hE hl (fun x hx R hR => ?_) (by rw [List.filter_eq_self.mpr (fun _ _ => rfl)]; exact q)
  exact hf x hx (fun y E3 => R (some y) E3) hR
theorem un1 {E : Env} {i : Nat} (h : E[i]? = some .un) : ∀ j ∈ [i], E[j]? = some .un ∨ (∃ x, E[j]? = some (.d x)) := fun j hj => by
  rcases List.mem_cons.mp hj with rfl | z
  · exact .inl h
  · cases z
theorem un2 {E : Env} {i k : Nat} (h : E[i]? = some .un) (h' : E[k]? = some .un) : ∀ j ∈ [i, k], E[j]? = some .un ∨ (∃ x, E[j]? = some (.d x)) := fun j hj => by
  rcases List.mem_cons.mp hj with rfl | z
  · exact .inl h
  · exact un1 h' j z
end DL

set_option Elab.async false
set_option linter.all false
set_option maxRecDepth 100000
set_option maxHeartbeats 1000000
namespace DL
open PySem PySem.Spec PyProof.Rows L2

section
variable {X : Cx} {G : Gh} {a b c e : Expr} {es : List Expr} {pos p p1 p2 p3 : Pos} {x : Str}
/-! ### range(a, b, c): as an object, its len -/
def rngO (q : Addr) (i j c : Int) : HO := .ext fun h => ∃ t u v, IsRange h q i j c t u v
theorem pe_range3 {ta : TA} (hg : Gl X "range") (hm : X.mg "range" = none) (ha : PA X [a, b, c] ta)
    (hs : starEach [a, b, c] X.env = (false, eval a X.env) :: starEach [b, c] X.env := by rfl) (hpl : (backTo pos (starEach [b, c] X.env)).any (·.1) = false := by rfl) :
    PE X (.Call (.Name "range" p) [a, b, c] [] pos) (fun σ H Q => ta σ H fun vs H1 => ∃ (i j k : Int), vs = [.int i, .int j, .int k] ∧ (k ≠ 0 ∧ k.natAbs < 1073741824) ∧ ∀ q, H1 q = none → Q (.ref q) (upd H1 q (rngO q i j k))) := by
  refine ⟨fun pins s σ H Q I h => ?_⟩
  refine Call_ (ld_blt I hg hm boot_range (PyProof.Rows.callWith_type1 (thn (ha.run pos pins s σ H _ I h) fun us s1 ⟨vs, H1, I1, r1, q1⟩ => ?_) hs hpl))
  obtain ⟨i, j, k, e, ⟨c0, c1⟩, q⟩ := q1
  subst e
  cases r1 with
  | cons r rr =>
    cases rr with
    | cons r' rr =>
      cases rr with
      | cons r'' rr =>
        cases rr
        obtain ⟨t, rfl⟩ := r
        obtain ⟨t', rfl⟩ := r'
        obtain ⟨t'', rfl⟩ := r''
        refine call_range_3 c0 ?_ (.inl (PyProof.noPylong_small c1))
        have hob : (s1.heap.push { cls := .type "range", data := .fields #[.int i t, .int j t', .int k t''] }).get? s1.heap.objs.size = some { cls := .type "range", data := .fields #[.int i t, .int j t', .int k t''] } := Heap.get?_push_size _ rfl
        refine ⟨.ref s1.heap.objs.size, _, I1.laid (t' := s1.toks) (o := rngO s1.heap.objs.size i j k) (fun b ob q => Heap.get?_push_of_some _ q) (Nat.le_refl _) ?_, rfl, q _ (I1.hok.fresh (Nat.le_refl _))⟩
        refine ⟨⟨t, t', t'', hob⟩, ⟨_, hob⟩, fun h1 h2 ⟨t1, u1, v1, e1⟩ k => ⟨t1, u1, v1, k _ e1⟩⟩
theorem call_len_rng : CallR X (.builtin "len") (fun vs H Q => ∃ (q : Addr) (i j c : Int) (n : Nat), vs = [.ref q] ∧ H q = some (rngO q i j c) ∧ Builtin.Range.rangeSize i j c = n ∧ n < 2 ^ 62 ∧ Q (.int n) H) := by
  intro pins s σ H vs us Q I r h
  obtain ⟨q, i, j, c, n, rfl, hq, hn, hz, k⟩ := h
  rw [Vals.ref1 r]
  obtain ⟨⟨t, u, v, hr⟩, _⟩ := I.hok q _ hq
  refine call_len_range hr hn (by omega) ⟨.int n, H, I.tok _, ⟨_, rfl⟩, k⟩
def tLenRange (ta tb tc : TD) : TD := fun E Q => ta E fun x E1 => tb E1 fun y E2 => tc E2 fun z E3 => match x, y, z with
  | .int i, .int j, .int k => ∃ n : Nat, (k ≠ 0 ∧ k.natAbs < 1073741824) ∧ Builtin.Range.rangeSize i j k = n ∧ n < 2 ^ 62 ∧ Q (.int n) E3
  | _, _, _ => False
theorem ed_lenRange {ta tb tc : TD} (ha : ED X G a ta) (hb : ED X G b tb) (hc : ED X G c tc) (hg : Gl X "len") (hm : X.mg "len" = none) (hg2 : Gl X "range") (hm2 : X.mg "range" = none)
    (hs : starEach [a, b, c] X.env = (false, eval a X.env) :: starEach [b, c] X.env := by rfl) (hs2 : starEach [b, c] X.env = (false, eval b X.env) :: starEach [c] X.env := by rfl) (hs3 : starEach [c] X.env = (false, eval c X.env) :: starEach [] X.env := by rfl)
    (hpl : (backTo p3 (starEach [b, c] X.env)).any (·.1) = false := by rfl)
    (hs4 : starEach [.Call (.Name "range" p2) [a, b, c] [] p3] X.env = (false, eval (.Call (.Name "range" p2) [a, b, c] [] p3) X.env) :: starEach [] X.env := by rfl) (hpl2 : (backTo pos (starEach [] X.env)).any (·.1) = false := by rfl) :
    ED X G (.Call (.Name "len" p) [.Call (.Name "range" p2) [a, b, c] [] p3] [] pos) (tLenRange ta tb tc) := by
  refine ⟨PE.weak (pe_callB call_len_rng hg hm bb_len (pa_cons (pe_range3 hg2 hm2 (pa_cons ha.pe (pa_cons hb.pe (pa_cons hc.pe pa_nil hs3) hs2) hs) hs hpl) pa_nil hs4) (by decide) (by decide) hs4 hpl2) fun σ H Q ⟨E, QE, rel, q, k⟩ =>
    ⟨E, _, rel, q, fun x E1 v H1 q1 x1 r1 p1 => ⟨E1, _, r1, q1, fun y E2 u H2 q2 x2 r2 p2 => ⟨E2, _, r2, q2, fun z E3 w H3 q3 x3 r3 p3 => ?_⟩⟩⟩⟩
  cases p1 with
  | int i =>
    cases p2 with
    | int j =>
      cases p3 with
      | int m =>
        obtain ⟨n, hc, hn, hz, q3⟩ := q3
        refine ⟨i, j, m, rfl, hc, fun q hq => ⟨q, i, j, m, n, rfl, upd_same, hn, hz, ?_⟩⟩
        exact k _ _ _ _ q3 (((x1.trans x2).trans x3).trans (PExt.new hq).ext) (r3.pext (PExt.new hq)) (.int _)
      | _ => exact q3.elim
    | _ => cases p3 <;> exact q3.elim
  | _ => cases p2 <;> cases p3 <;> exact q3.elim
/-! range with a step, walked -/
def rangeCD (lo c : Int) (n : Nat) : List D := (List.range n).map fun i : Nat => PyData.int (lo + (i : Int) * c)
theorem walkD_rangeC {K : PySem.W.Frag} {H : Hp} {lo c : Int} {n : Nat} : WalkD false K (Itc lo c n) H (rangeCD lo c n) where
  goes := fun i H' x hi => (walk_rangeC (lo := lo) (c := c) (n := n)).goes i H' (by simpa [rangeCD] using hi) trivial
  yld := fun i H' v H2 x hi hy => by
    have hi' : i < n := by simpa [rangeCD] using hi
    obtain ⟨rfl, rfl⟩ := (walk_rangeC (lo := lo) (c := c) (n := n)).yields i H' v H2 hi' trivial hy
    exact ⟨PExt.refl _, _, by simp [rangeCD, hi'], .int _⟩
  stops := fun H' x => by
    have := (walk_rangeC (lo := lo) (c := c) (n := n)).stops H' trivial
    simpa [rangeCD] using this
def iRange3 (ta tb tc : TD) : TDs := fun E Q => ta E fun x E1 => tb E1 fun y E2 => tc E2 fun z E3 => match x, y, z with
  | .int i, .int j, .int k => ∃ n : Nat, RgC i j k n ∧ Q (rangeCD i k n) E3
  | _, _, _ => False
theorem id_range3 {tg : Expr} {ta tb tc : TD} (hg2 : Gl X "range") (hm2 : X.mg "range" = none) (ha : ED X G a ta) (hb : ED X G b tb) (hc : ED X G c tc)
    (hs : starEach [a, b, c] X.env = (false, eval a X.env) :: starEach [b, c] X.env := by rfl) (hs2 : starEach [b, c] X.env = (false, eval b X.env) :: starEach [c] X.env := by rfl) (hs3 : starEach [c] X.env = (false, eval c X.env) :: starEach [] X.env := by rfl)
    (hpl : (backTo p3 (starEach [b, c] X.env)).any (·.1) = false := by rfl) : ID X G false tg (.Call (.Name "range" p2) [a, b, c] [] p3) (iRange3 ta tb tc) := by
  refine ⟨PI.weak (pi_range3 hg2 hm2 (pa_cons ha.pe (pa_cons hb.pe (pa_cons hc.pe pa_nil hs3) hs2) hs) hs hpl) fun σ H Q ⟨E, QE, rel, q, k⟩ =>
    ⟨E, _, rel, q, fun x E1 v H1 q1 x1 r1 p1 => ⟨E1, _, r1, q1, fun y E2 u H2 q2 x2 r2 p2 => ⟨E2, _, r2, q2, fun z E3 w H3 q3 x3 r3 p3 => ?_⟩⟩⟩⟩
  cases p1 with
  | int i =>
    cases p2 with
    | int j =>
      cases p3 with
      | int m =>
        obtain ⟨n, hc, q3⟩ := q3
        exact ⟨i, j, m, n, rfl, hc, k _ _ _ _ q3 ((x1.trans x2).trans x3) r3 walkD_rangeC⟩
      | _ => exact q3.elim
    | _ => cases p3 <;> exact q3.elim
  | _ => cases p2 <;> cases p3 <;> exact q3.elim
/-- x, y, z = a, b, c: plain local names -/
theorem sd_par3 {i j l : Nat} {x y z : Str} {t : TPs} {px py pz pt : Pos} {kt k2 pt2} (hsl : ∀ n ∈ [i, j, l], n ∉ G.slots) (hc : X.calm = true) (hN : X.N.Nodup) (hi : X.N[i]? = some x) (hj : X.N[j]? = some y) (hl : X.N[l]? = some z) (hij : i ≠ j) (hil : i ≠ l) (hjl : j ≠ l)
    (hx : X.env.scope.names.lookup x = some .local) (hy : X.env.scope.names.lookup y = some .local) (hz : X.env.scope.names.lookup z = some .local) (ha : EPs X G [a, b, c] t)
    (hw : swappedStores [.Tuple [.Name x px, .Name y py, .Name z pz] kt pt] (.Tuple [a, b, c] k2 pt2) X.env = pure (some [x, y, z]) := by rfl)
    (hs : swapsWithSole [.Tuple [.Name x px, .Name y py, .Name z pz] kt pt] (.Tuple [a, b, c] k2 pt2) pos.line X.env = pure false := by rfl) :
    SD X G (.Assign [.Tuple [.Name x px, .Name y py, .Name z pz] kt pt] (.Tuple [a, b, c] k2 pt2) pos) (sPar [i, j, l] t) :=
  ⟨PS.weak (ps_par3 hc hN hi hj hl hij hil hjl hx hy hz ha.pa hw hs) fun F σ H ⟨E, DE, r, q, k1, k2, k3, k4⟩ => ⟨E, _, r, q, fun ss E1 vs H1 ex q1 x1 r1 p1 => by
    obtain ⟨hl, q1⟩ := q1
    have hv : vs.length = 3 := by rw [← p1.length, ← hl]; rfl
    match vs, hv, p1 with
    | [v, w, u], _, p1 => exact ⟨v, w, u, rfl, k1 _ _ _ q1 x1 (RelX.setAll hsl hl r1 p1)⟩⟩⟩
/-! ### slices by numbers from 0 on -/
theorem sIx_int {n d : Nat} {i : Int} (h : 0 ≤ i) : HT.sIx n d (some i) = min i.toNat n := by
  show (if i < 0 then (i + (n : Int)).toNat else min i.toNat n) = _
  rw [if_neg (by omega)]
theorem cut_to {xs : List D} {i : Int} (h : 0 ≤ i) : cutD xs none (some i) = xs.take i.toNat := by
  unfold cutD
  rw [HT.sIx_none, sIx_int h]
  show xs.take (min i.toNat xs.length - 0) = _
  rw [Nat.sub_zero]
  rcases Nat.le_total i.toNat xs.length with z | z
  · rw [Nat.min_eq_left z]
  · rw [Nat.min_eq_right z, List.take_of_length_le (Nat.le_refl _), List.take_of_length_le z]
theorem cut_from {xs : List D} {i : Int} (h : 0 ≤ i) : cutD xs (some i) none = xs.drop i.toNat := by
  unfold cutD
  rw [HT.sIx_none, sIx_int h]
  rcases Nat.le_total i.toNat xs.length with z | z
  · rw [Nat.min_eq_left z, List.take_of_length_le (by rw [List.length_drop]; omega)]
  · rw [Nat.min_eq_right z, List.drop_eq_nil_of_le (Nat.le_refl _), List.drop_eq_nil_of_le z, List.take_nil]
theorem cut_mid {xs : List D} {i j : Int} (h : 0 ≤ i) (h' : 0 ≤ j) : cutD xs (some i) (some j) = (xs.take j.toNat).drop i.toNat := by
  unfold cutD
  rw [sIx_int h, sIx_int h', List.drop_take]
  rcases Nat.le_total i.toNat xs.length with z | z
  · rw [Nat.min_eq_left z]
    rcases Nat.le_total j.toNat xs.length with y | y
    · rw [Nat.min_eq_left y]
    · rw [Nat.min_eq_right y, List.take_of_length_le (by rw [List.length_drop]; omega), List.take_of_length_le (by rw [List.length_drop]; omega)]
  · rw [Nat.min_eq_right z, List.drop_eq_nil_of_le (Nat.le_refl _), List.drop_eq_nil_of_le z, List.take_nil, List.take_nil]
end
end DL

set_option Elab.async false
set_option linter.all false
set_option maxRecDepth 100000
namespace DL
open PySem PySem.Spec PyProof.Rows L2
/-- a def that nobody calls at this height -/
theorem no_ok {P : Program} {w : World} {K : PySem.W.Frag} {mg : Str → Option Value} {base : Heap} {x qual : Str} {st : Stmt} {f : Addr} {fd : FuncData} {N ps : List Str} {k : Nat} (F : Fun K x qual st f fd) (Sc : FnScope N ps (defScope st)) : FnOk P w K mg base CX0 (k + 1) f fd ps (spL K fun _ _ => False) :=
  F.ok Sc (fun vs H Q E ⟨_, _, _, h, _⟩ => h.elim) (fun cdv A outer s H vs Q E hr ⟨_, _, _, h, _⟩ => h.elim)
/-- the end of a law: the law's def keeps the promise spLaw-like on every script -/
theorem law_walk {l : PySem.W.OpenLaw} {n k : Nat} {q : Program} {loose : List Str} {XP : (Str → Option Value) → Heap → Prop} {YP : World → Heap → Prop} {d : DefRec} {KK : Params → PySem.W.Frag} {sp : SpD} {x : Str} (hm : l.most = some n) (hl : n ≤ sizeLine) (hdf : d.params.defaults = []) (rm : Room k callerA) (hY : ∀ (w : World) (h : Heap), YP w h → (KK w.params).In h)
    (F : ∀ (w : World) (mg : Str → Option Value) (fa : Addr) (h : Heap), (KK w.params).In h → h.Ns mainGlobals mg → mg d.name = some (.ref fa) → ∃ fd : FuncData, (∀ (s : Shared) (u : Value), BindsTo s fd ⟨[u], []⟩ [(x, u)]) ∧ ∀ base : Heap, (KK w.params).In base → base.Ns mainGlobals mg → FnOk l.prog w (KK w.params) mg base L2.CX0 k fa fd [x] (spL (KK w.params) sp))
    (hsp : ∀ (ns : List Int) (Q : D → List S → Prop), ns.length ≤ n → (∀ z ∈ ns, Builtin.Int.intBits z ≤ 1048576) → Q (.bool true) [] → sp [.d (.list (ns.map PyData.int))] Q) :
    PySem.W.WalkO q loose XP YP l.row.toRowW d [] (fun f vs => PySem.call f vs) := by
  refine Att.attach_callB hm hdf fun w s₀ s₁ mg mb fa o pm cd doc a vs ns G Y ho hd hcd hmg hobj hints hlen hbits hg => ?_
  have KX := hY w _ Y
  obtain ⟨fd, hb, hF⟩ := F w mg fa _ KX G.T.g hmg
  refine law_call KX G.T.g G.T.b G.T.builtins G.T.nolimit hg hobj hints (Nat.le_trans hlen hl) rm hF hb (fun H hO hS => ?_) (fun H e s' h => h)
  have hF : LsF (KK w.params) H a (ns.map V.int) := by
    rcases hS with (z | z) | ⟨ob, its, m, e, hc, hdd, hdt, hz, r⟩
    · rcases hO a with y | ⟨ob, xs, y⟩
      · rw [z] at y; cases y
      · rw [z] at y; cases y
    · exact .inl z
    · have e2 := KX _ _ e
      rw [hobj] at e2
      cases e2
      cases hdt
      exact .inr ⟨_, _, e, hz, r⟩
  refine ⟨[.d (.list (ns.map PyData.int))], [], fun d outs => d = .bool true, hsp ns _ hlen hbits rfl, .d (.lst hF (RpL.ofInts ns)) .nil, List.nodup_nil, fun d outs v H' h _ _ r => ?_⟩
  subst h
  cases r
  rfl
end DL

set_option Elab.async false
set_option linter.all false
set_option maxRecDepth 100000
set_option maxHeartbeats 3200000
/-! DL13: set(xs) of a list of ints, sorted(set(xs)), len(set(xs)). -/
namespace DL
open PySem PySem.Spec PyProof.Rows L2
section
variable {P : Program} {w : World} {A : Around} {E : Value → Shared → Prop} {s : Shared}
abbrev nSet (w : World) : Obj := { cls := .type "set", dict := none, data := .set #[] 0 (.fresh 0 0 (!w.params.followText "set-order")) }
theorem set_of_list {l : Addr} {items : Array Value} (ns : List Int) {Q : Value → Shared → Prop} (hh : A.handled = none) (hl : s.heap.IsList l items) (hit : IntsAre items.toList ns) (hb : ns.length + 1 < scanBound)
    (fin : ∀ (h' : Heap) (tk c : Nat), SetR w h' s.heap.objs.size (fun j => decide (j ∈ ns)) c → c ≤ ns.length → (∀ b o, s.heap.get? b = some o → h'.get? b = some o) → Q (.ref s.heap.objs.size) { s with heap := h', toks := tk }) :
    wpAny (model P w) A (call (.type "set") [.ref l]) Q E s := by
  have sz : items.size = ns.length := by have q := IntsAre.length hit; rw [Array.length_toList] at q; exact q
  obtain ⟨cm, tlm, _⟩ := F.called_set.mro
  have made := F.called_set.made; have subs := F.called_set.sub
  refine wpAny_call (codeAny_of_tree ?_); show wpAny _ _ (callAny (.type "set") _) _ _ _
  refine wpAny_pure ⟨Code.quiet_builtin _ (by decide +kernel), codeAny_builtin F.entry_type_call ?_⟩; rw [Around.under_plain (weight_type_call_type "set" [.ref l] []) rfl]
  have n1 := F.called_set.notType; have n2 := F.called_set.canCreate; have n3 := F.typeCall_set_1 (.ref l)
  repeat (any_goals (first | assumption | wp_step))
  refine codeAny_mono (code_set_led1 (.ref l) (E := E) (Q₁ := fun ob s₁ => ob = .ref s.heap.objs.size ∧ s₁ = { s with heap := s.heap.push (nSet w) }) ⟨rfl, rfl⟩) fun res s₁ hres => ?_
  cases res with
  | error e => exact hres
  | ok fl =>
    cases fl with
    | ret ob =>
      obtain ⟨rfl, rfl⟩ := hres
      have there : (s.heap.push (nSet w)).get? s.heap.objs.size = some (nSet w) := Heap.get?_push_size _ rfl
      have isS : Shared.TypeIs { s with heap := s.heap.push (nSet w) } (.ref s.heap.objs.size) "set" := ⟨_, there, rfl⟩
      have i1 := F.called_set.init.lookup; have i2 := F.called_set.init.bind (.ref s.heap.objs.size)
      repeat (any_goals (first | assumption | wp_step))
      refine codeAny_mono (codeAny_call_builtin (R := wants (fun r s₂ => r = .none ∧ ∃ h' tk c, s₂ = { s with heap := h', toks := tk } ∧ SetR w h' s.heap.objs.size (fun j => decide (j ∈ ns)) c ∧ c ≤ ns.length ∧ (∀ b o, s.heap.get? b = some o → h'.get? b = some o)) E) F.called_set.init.plain F.entry_set_init (check_set_init_1 isS ?_)) fun r₂ s₂ hr₂ => ?_
      · obtain ⟨⟨ocls, odict, odata, oslots⟩, hol, hcl, nl, hdl⟩ := hl
        simp only at hcl hdl; subst hcl; subst hdl
        have lthere : (s.heap.push (nSet w)).get? l = some { cls := .type "list", dict := odict, data := .seq items nl, slots := oslots } := Heap.get?_push_of_some _ hol
        have s1 := F.sub_list_set; have s2 := F.sub_list_frozenset; have s3 : (Value.type "list" == Value.type "dict") = false := by decide
        have isL : (s.heap.push (nSet w)).IsList l items := ⟨_, lthere, rfl, nl, rfl⟩
        unfold Builtin.«set.__init__» noKeywords Builtin.Frozenset.updateFrom; generalize ePI : pyIter = PI
        wp_walk
        subst ePI
        refine wpAny_pyIter_list isL ?_; refine wpAny_bind (wpAny_runValue ?_)
        have lt : l < s.heap.objs.size := Heap.lt_size hol
        have calm3 : A.in1.in1.in1.handled = none := by simp [hh]
        have neI : l ≠ (s.heap.push (nSet w)).objs.size := by rw [Heap.size_push]; exact Nat.ne_of_lt (Nat.lt_succ_of_lt lt)
        have notin : s.heap.objs.size ∉ [(s.heap.push (nSet w)).objs.size, l] := by
          rw [Heap.size_push]; simp only [List.mem_cons, List.mem_singleton, List.not_mem_nil, or_false, not_or]; exact ⟨Nat.ne_of_lt (Nat.lt_succ_self _), Nat.ne_of_gt lt⟩
        have vals : ∀ (i : Nat) (v : Value), items[i]? = some v → ∃ k t, ns[i]? = some k ∧ v = .int k t := fun i v hv => by
          have hi : i < ns.length := by rw [← sz]; exact (Array.getElem?_eq_some_iff.mp hv).1
          obtain ⟨t, e⟩ := PyProof.Rows.IntsAre.int_at hit i v (by rw [Array.getElem?_toList]; exact hv)
          refine ⟨ns[i], t, List.getElem?_eq_getElem hi, ?_⟩; rw [e, List.getD_eq_getElem?_getD, List.getElem?_eq_getElem hi] <;> rfl
        refine set_update_ints ((Walks.list calm3 _ l neI items).toS) s.heap.objs.size notin ns sz hb vals (items.size - 0) 0 _ (by omega) (Nat.zero_le _) ⟨⟨_, Heap.get?_push_size _ rfl, rfl, rfl⟩, (isL.push _)⟩ ⟨0, Nat.le_refl 0, setR_new_at (Heap.get?_push_of_some _ there)⟩ fun s' c' hm hc' hS' => ?_
        obtain ⟨h', g2, d', tk', os'⟩ := s'
        have eg : g2 = s.gens := hm.gens; have ed : d' = s.drawn := hm.drawn; have eo : os' = s.os := hm.os
        subst eg; subst ed; subst eo
        show wpAny _ _ _ _ _ _
        refine wpAny_pure ?_; show wpAny _ _ (ret Value.none) _ _ _
        rw [sz] at hc'; refine wpAny_pure ⟨rfl, h', tk', c', rfl, hS', hc', fun b o e => ?_⟩
        have hb0 : b < s.heap.objs.size := Heap.lt_size e
        have hb2 : b ≠ (s.heap.push (nSet w)).objs.size := by rw [Heap.size_push]; exact Nat.ne_of_lt (Nat.lt_succ_of_lt hb0)
        exact hm.heap b o (by simp only [List.mem_cons, List.mem_singleton, List.not_mem_nil, or_false, not_or]; exact ⟨Nat.ne_of_lt hb0, hb2⟩) (Heap.get?_push_of_some _ (Heap.get?_push_of_some _ e))
      · cases r₂ with
        | error e => exact hr₂
        | ok fl₂ =>
          cases fl₂ with
          | ret r =>
            obtain ⟨rfl, h', tk, c', rfl, hS', hc', hk'⟩ := hr₂
            repeat (any_goals (first | assumption | wp_step))
            exact fin _ _ _ hS' hc' hk'
          | _ => exact hr₂.elim
    | _ => exact hres.elim
end
end DL
namespace DL
open PySem PySem.Spec PyProof.Rows L2
section
variable {X : Cx} {G : Gh} {a : Expr} {pos p p1 p2 p3 : Pos}
theorem cr_setL (hc : X.calm = true) : CallR X (.type "set") (fun vs H Q => ∃ (l : Addr) (ns : List Int), vs = [.ref l] ∧ SqL X.K H l (ns.map V.int) ∧ ns.length ≤ 4000 ∧ ∀ q c, H q = none → c ≤ ns.length → Q (.ref q) (upd H q (SetO X.w q (fun j => decide (j ∈ ns)) c))) := by
  intro pins s σ H vs us Q I r h
  obtain ⟨l, ns, rfl, hS, hl, q⟩ := h
  rw [Vals.ref1 r]
  obtain ⟨its, rv, pl, hz⟩ := I.list hS
  refine set_of_list ns (I.ok.hd hc) pl.isList (by simpa using rv.ints) (by unfold scanBound; omega) fun h' tk c R hcn k => ?_
  exact ⟨.ref _, upd H s.heap.objs.size (SetO X.w s.heap.objs.size (fun j => decide (j ∈ ns)) c), I.laid (t' := tk) k (Nat.le_refl _) (setO_new R), rfl, q _ _ (I.hok.fresh (Nat.le_refl _)) hcn⟩
/-- sorted(set(xs)), xs a list of fewer than 64 ints -/
def tSortSet (ta : TD) : TLd := fun E Q => ta E fun x E1 => match x with
  | .list xs => ∃ ns : List Int, xs = ns.map PyData.int ∧ ns.length < 64 ∧ ∀ zs : List Int, zs.Pairwise (· < ·) → (∀ k, k ∈ zs ↔ k ∈ ns) → Q (zs.map PyData.int) E1
  | _ => False
theorem el_sortSet {ta : TD} (ha : ER X G a ta) (hg : Gl X "sorted") (hm : X.mg "sorted" = none) (hg2 : Gl X "set") (hm2 : X.mg "set" = none) (hc : X.calm = true := by rfl)
    (hs : starEach [a] X.env = (false, eval a X.env) :: starEach [] X.env := by rfl) : EL X G (.Call (.Name "sorted" p) [.Call (.Name "set" p1) [a] [] p2] [] pos) (tSortSet ta) := by
  refine ⟨PE.weak (pe_callB (cr_sortedSet hc) hg hm bb_sorted (pa_cons (pe_callTy (cr_setL hc) hg2 hm2 PyProof.Rows.boot_set (pa_cons ha.pe pa_nil hs) (by decide) (by decide) hs) pa_nil)) fun σ H Q ⟨E, QE, rel, q, k⟩ => ⟨E, _, rel, q, fun x E1 v H1 q1 x1 r1 p1 => ?_⟩⟩
  cases x with
  | list xs =>
    obtain ⟨ns, rfl, hl, q1⟩ := q1
    obtain ⟨b, us, rfl, hs, l⟩ := p1.list
    rw [l.ints] at hs
    refine ⟨b, ns, rfl, hs, by omega, fun q c hq hcn => ⟨q, _, c, rfl, upd_same, by omega, fun zs p' h1 h2 h3 hp => ?_⟩⟩
    obtain ⟨r3, h30, n3⟩ := (r1.pext (PExt.new (o := SetO X.w q (fun j => decide (j ∈ ns)) c) hq)).fresh (o := .lst (zs.map V.int)) hp
    exact k _ _ _ _ _ (q1 zs h1 fun z => by rw [h2 z]; exact decide_eq_true_iff) ((x1.trans (PExt.new hq).ext).trans (PExt.new hp).ext) r3 h30 n3 upd_same (RpL.ofInts zs)
  | _ => exact q1.elim
/-- len(set(xs)) -/
def tLenSet (ta : TD) : TD := fun E Q => ta E fun x E1 => match x with
  | .list xs => ∃ ns : List Int, xs = ns.map PyData.int ∧ ns.Nodup ∧ ns.length ≤ 4000 ∧ Q (.int (ns.length : Nat)) E1
  | _ => False
theorem ed_lenSet {ta : TD} (ha : ER X G a ta) (hg : Gl X "len") (hm : X.mg "len" = none) (hg2 : Gl X "set") (hm2 : X.mg "set" = none) (hc : X.calm = true := by rfl)
    (hs : starEach [a] X.env = (false, eval a X.env) :: starEach [] X.env := by rfl) : ED X G (.Call (.Name "len" p) [.Call (.Name "set" p1) [a] [] p2] [] pos) (tLenSet ta) := by
  refine ⟨PE.weak (RZ.pe_lenSetI hg hm hg2 hm2 ha.pe hc hs) fun σ H Q ⟨E, QE, rel, q, k⟩ => ⟨E, _, rel, q, fun x E1 v H1 q1 x1 r1 p1 => ?_⟩⟩
  cases x with
  | list xs =>
    obtain ⟨ns, rfl, hn, hl, q1⟩ := q1
    obtain ⟨b, us, rfl, hs, l⟩ := p1.list
    rw [l.ints] at hs
    exact ⟨b, ns, rfl, hs, hn, hl, k _ _ _ _ q1 x1 r1 (.int _)⟩
  | _ => exact q1.elim
end
/-- ints that rise are what sorted(set()) makes of them -/
theorem sset_up {ns zs : List Int} (h : ns.Pairwise (· < ·)) (hz : zs.Pairwise (· < ·)) (e : ∀ k, k ∈ zs ↔ k ∈ ns) : zs = ns := by
  induction ns generalizing zs with
  | nil =>
    cases zs with
    | nil => rfl
    | cons a l => exact absurd ((e a).mp List.mem_cons_self) (by simp)
  | cons a l ih =>
    cases zs with
    | nil => exact absurd ((e a).mpr List.mem_cons_self) (by simp)
    | cons b m =>
      have h1 := List.pairwise_cons.mp h
      have h2 := List.pairwise_cons.mp hz
      have eab : b = a := by
        rcases List.mem_cons.mp ((e b).mp List.mem_cons_self) with q | q
        · exact q
        · rcases List.mem_cons.mp ((e a).mpr List.mem_cons_self) with q2 | q2
          · exact q2.symm
          · have := h1.1 b q; have := h2.1 a q2; omega
      subst eab
      rw [ih h1.2 h2.2 fun k => ?_]
      constructor
      · intro hk
        rcases List.mem_cons.mp ((e k).mp (List.mem_cons_of_mem _ hk)) with q | q
        · have := h2.1 k hk; omega
        · exact q
      · intro hk
        rcases List.mem_cons.mp ((e k).mpr (List.mem_cons_of_mem _ hk)) with q | q
        · have := h1.1 k hk; omega
        · exact q
theorem sset_down {ns zs : List Int} (h : ns.Pairwise (· > ·)) (hz : zs.Pairwise (· < ·)) (e : ∀ k, k ∈ zs ↔ k ∈ ns) : zs.reverse = ns := by
  have : zs = ns.reverse := sset_up (List.pairwise_reverse.mpr h) hz fun k => by rw [e k, List.mem_reverse]
  rw [this, List.reverse_reverse]
end DL

set_option Elab.async false
set_option linter.all false
set_option maxRecDepth 100000
/-! DL14: plain laws of data: shaped, == of encoded lists. -/
namespace DL
open PySem PySem.Spec PyProof.Rows L2
/-- n lists or tuples deep at most, no dict -/
def shOk : Nat → D → Bool
  | _, .none => true
  | _, .bool _ => true
  | _, .int _ => true
  | _, .str x => PyData.strOk x
  | n + 1, .tuple ds => ds.all (shOk n)
  | n + 1, .list ds => ds.all (shOk n)
  | _, _ => false
theorem shOk_all {n : Nat} (ih : ∀ d, shOk n d = true → d.canLay0 = true ∧ d.depth ≤ n) : ∀ ds : List D, ds.all (shOk n) = true → PyData.canLayAll0 ds = true ∧ PyData.depthAll ds ≤ n
  | [], _ => ⟨rfl, Nat.zero_le _⟩
  | d :: ds, h => by
    rw [List.all_cons, Bool.and_eq_true] at h
    have ⟨a, b⟩ := ih d h.1
    have ⟨c, e⟩ := shOk_all ih ds h.2
    exact ⟨by rw [PyData.canLayAll0, a, c]; rfl, by rw [PyData.depthAll]; omega⟩
theorem shOk_spec : ∀ (n : Nat) (d : D), shOk n d = true → d.canLay0 = true ∧ d.depth ≤ n
  | n, .none, _ => ⟨rfl, Nat.zero_le _⟩
  | n, .bool _, _ => ⟨rfl, Nat.zero_le _⟩
  | n, .int _, _ => ⟨rfl, Nat.zero_le _⟩
  | n, .str x, h => ⟨by cases n <;> exact h, Nat.zero_le _⟩
  | n + 1, .tuple ds, h => by
    have ⟨a, b⟩ := shOk_all (shOk_spec n) ds h
    exact ⟨by rw [PyData.canLay0]; exact a, by rw [PyData.depth]; omega⟩
  | n + 1, .list ds, h => by
    have ⟨a, b⟩ := shOk_all (shOk_spec n) ds h
    exact ⟨by rw [PyData.canLay0]; exact a, by rw [PyData.depth]; omega⟩
  | 0, .tuple _, h => by cases h
  | 0, .list _, h => by cases h
  | 0, .dict _, h => by cases h
  | n + 1, .dict _, h => by cases h
theorem shaped_of {n : Nat} {d : D} (h : shOk n d = true) (hn : n ≤ 64 := by decide) : SeqAt.shaped d = true := by
  have ⟨a, b⟩ := shOk_spec n d h
  show (d.canLay0 && decide (d.depth ≤ 64)) = true
  rw [a, decide_eq_true (show d.depth ≤ 64 by omega)]; rfl
theorem eqv_self {n : Nat} {d : D} (h : shOk n d = true) : PyData.eqv d d = true := SeqAt.eqv_refl d (shOk_spec n d h).1
theorem shOk_lst {n : Nat} {ds : List D} : shOk (n + 1) (.list ds) = ds.all (shOk n) := rfl
theorem shOk_tup {n : Nat} {ds : List D} : shOk (n + 1) (.tuple ds) = ds.all (shOk n) := rfl
theorem all_enc {α : Type} {n : Nat} {e : α → D} (he : ∀ a, shOk n (e a) = true) (xs : List α) : (xs.map e).all (shOk n) = true := by
  rw [List.all_map]; exact List.all_eq_true.mpr fun a _ => he a
theorem all_ints {n : Nat} (ns : List Int) : (ns.map PyData.int).all (shOk n) = true := all_enc (fun _ => by cases n <;> rfl) ns
theorem shaped_li (ns : List Int) : SeqAt.shaped (.list (ns.map PyData.int)) = true := shaped_of (n := 1) (by rw [shOk_lst]; exact all_ints ns)
theorem shaped_ti (ns : List Int) : SeqAt.shaped (.tuple (ns.map PyData.int)) = true := shaped_of (n := 1) (by rw [shOk_tup]; exact all_ints ns)
theorem eqvAll_enc {α : Type} [DecidableEq α] {e : α → D} (he : ∀ a b, PyData.eqv (e a) (e b) = decide (a = b)) : ∀ xs ys : List α, PyData.eqvAll (xs.map e) (ys.map e) = decide (xs = ys)
  | [], [] => rfl
  | [], _ :: _ => rfl
  | _ :: _, [] => rfl
  | x :: xs, y :: ys => by
    rw [List.map_cons, List.map_cons, PyData.eqvAll, he, eqvAll_enc he xs ys]
    by_cases h1 : x = y <;> by_cases h2 : xs = ys <;> simp [h1, h2]
theorem eqv_li (ns ms : List Int) : PyData.eqv (.list (ns.map PyData.int)) (.list (ms.map PyData.int)) = decide (ns = ms) := by rw [eqv_lst, eqvAll_enc eqv_int]
theorem eqv_ti (ns ms : List Int) : PyData.eqv (.tuple (ns.map PyData.int)) (.tuple (ms.map PyData.int)) = decide (ns = ms) := by rw [eqv_tup, eqvAll_enc eqv_int]
end DL

set_option Elab.async false
set_option linter.all false
set_option maxRecDepth 100000
set_option maxHeartbeats 1000000
/-! DL15: sorted(xs), sorted(xs, reverse=b): lists and tuples of any data that is alike. -/
namespace DL
open PySem PySem.Spec PyProof.Rows L2
section
variable {prog : Program} {w : World} {A : Around} {E : Value → Shared → Prop} {s : Shared} {β : Type} {vs : List Value} {bs : List β} {enc : β → PyData} {R : Value → β → Prop}
/-- what is made of a list's or a tuple's items: a new list, in the very next place -/
theorem collect_one {l : Addr} {T : String} {o : Obj} {n : Nat} {Q : List Value → Shared → Prop} (hT : T = "list" ∨ T = "tuple") (ho : s.heap.get? l = some o) (hc : o.cls = .type T) (hd : o.data = .seq vs.toArray n) (small : vs.length ≤ sizeLine)
    (fin : Q vs { s with heap := (s.heap.push (seqObj "list" #[] 0)).update s.heap.objs.size (Obj.mapSeq (· ++ vs.toArray)) }) : wpAny (model prog w) A (collect (.ref l)) Q E s := by
  have new : (s.heap.push (seqObj "list" #[] 0)).get? s.heap.objs.size = some (seqObj "list" #[] 0) := Heap.get?_push_size _ rfl
  have was : (s.heap.push (seqObj "list" #[] 0)).get? l = some o := Heap.get?_push_of_some _ ho
  unfold collect; refine wpAny_bind (wpAny_runValue (codeAny_builtin entry_proto_collect' ?_))
  show wpAny _ _ (do again (.builtin "list.__iadd__" ⟨[← newList [], Value.ref l], []⟩)) _ _ s
  refine wpAny_bind (wpAny_newList (wpAny_pure ⟨Code.quiet_builtin _ (by decide +kernel), codeAny_builtin entry_list_iadd' ?_⟩) (Nat.zero_le _))
  show wpAny _ _ (Builtin.List.listExtendWith (Value.ref s.heap.objs.size) (Value.ref l) (Value.ref s.heap.objs.size)) _ _ { s with heap := s.heap.push (seqObj "list" #[] 0) }
  unfold Builtin.List.listExtendWith; refine wpAny_bind (wpAny_typeOf (T := T) ⟨o, was, hc⟩ ?_)
  rw [if_pos (by rcases hT with rfl | rfl; · rw [show (Value.type "list" == Value.type "list") = true from rfl, Bool.or_true, Bool.true_or]
                 · rw [show (Value.type "tuple" == Value.type "tuple") = true from rfl, Bool.or_true])]; refine wpAny_bind (listItems_at was hd ?_); refine wpAny_bind (listItems_at (xs := #[]) (n := 0) new rfl ?_)
  rw [if_neg (by simp)]
  refine wpAny_bind (listUpdate_at (xs := #[]) (n := 0) new rfl ?_ (Nat.zero_le _) (by show (#[] ++ vs.toArray).size ≤ sizeLine + 1; simp only [Array.size_append, List.size_toArray, List.length_nil]; omega)); refine wpAny_pure ?_
  show wpAny (model prog w) A (do
      let ob ← load s.heap.objs.size
      match ob.data with | .seq xs _ => pure xs.toList | _ => unsupported "internal:collect") Q E { s with heap := (s.heap.push (seqObj "list" #[] 0)).update s.heap.objs.size (Obj.mapSeq (· ++ vs.toArray)) }
  refine wpAny_bind (wpAny_load (get?_update_seq new _) ?_); show wpAny _ _ (pure ((#[] : Array Value) ++ vs.toArray).toList) Q E _
  have e0 : ((#[] : Array Value) ++ vs.toArray).toList = vs := by simp
  rw [e0]; exact wpAny_pure fin
theorem sorted_seqD {l : Addr} {T : String} {o : Obj} {n : Nat} {rv : Bool} {kw : List (Str × Value)} {Q : Value → Shared → Prop} (hT : T = "list" ∨ T = "tuple") (ho : s.heap.get? l = some o) (hc : o.cls = .type T) (hd : o.data = .seq vs.toArray n)
    (hkw : ∀ p, Builtin.«list.sort» ⟨[.ref p], kw⟩ = Builtin.«list.sort» ⟨[.ref p], [(Str.ofString "reverse", .bool rv)]⟩) (ok1 : argsOk "sorted" ⟨[.ref l], kw⟩) (ok2 : ∀ x, argsOk "list.sort" ⟨[.ref x], kw⟩)
    (e : PySem.W.EachIs R vs bs) (er : PySem.W.EachIs (fun v b => ∃ as, Reads s.heap v (enc b) as) vs bs) (hal : PySem.W.AllAlike (bs.map enc)) (hk : PySem.W.Sortable (bs.map enc)) (hL : vs.length ≤ sizeLine) (hu : ∀ b, b ∈ bs → A.units + 2 + (enc b).depth < cLine)
    (h : ∀ h' p out c, (∀ b o, s.heap.get? b = some o → h'.get? b = some o) → s.heap.objs.size ≤ p → h'.get? p = some { cls := .type "list", data := .seq (List.toArray out) c } → PySem.W.EachIs R out (bs.mergeSort (PySem.W.dataLe rv enc)) → Q (.ref p) { s with heap := h' }) :
    wpAny (model prog w) A (call (.builtin "sorted") [.ref l] kw) Q E s := by
  refine call_function_entry_kw kind_sorted plain_sorted entry_sorted ok1 ?_
  unfold Builtin.«sorted»
  refine wpAny_bind (m := checkCount "sorted" 1 1 _) (wpAny_pure ?_)
  refine wpAny_bind (collect_one hT ho hc hd hL ?_)
  generalize hh1 : (s.heap.push (seqObj "list" #[] 0)).update s.heap.objs.size (Obj.mapSeq (· ++ vs.toArray)) = h1
  have le1 : s.heap.objs.size ≤ h1.objs.size := by rw [← hh1, Heap.size_update, size_push']; exact Nat.le_succ _
  have k1 : ∀ b u, s.heap.get? b = some u → h1.get? b = some u := fun b u q => by
    rw [← hh1, Heap.get?_update_ne _ _ _ _ (Nat.ne_of_lt (Heap.lt_size q))]; exact Heap.get?_push_of_some _ q
  refine wpAny_bind (wpAny_newList ?_ hL)
  have hp : (h1.push (seqObj "list" vs.toArray 0)).get? h1.objs.size = some (seqObj "list" vs.toArray 0) := Heap.get?_push_size _ rfl
  have old : ∀ b u, s.heap.get? b = some u → b ≠ h1.objs.size ∧ (h1.push (seqObj "list" vs.toArray 0)).get? b = some u := fun b u q => ⟨Nat.ne_of_lt (Heap.lt_size (k1 b u q)), Heap.get?_push_of_some _ (k1 b u q)⟩
  refine wpAny_bind (wpAny_holding (wpAny_call_entry_kw slot_list_sort ⟨_, hp, rfl⟩ entry_list_sort ?body (ok2 _)))
  case body =>
    have er' : PySem.W.EachIs (fun v b => ∃ as, Reads (PySem.W.sortingHeap (h1.push (seqObj "list" vs.toArray 0)) h1.objs.size vs) v (enc b) as) vs bs := er.mono fun _ _ ⟨as, r⟩ => ⟨as, PyProof.Rows.Reads.keeps (fun b u q => PySem.W.sortingHeap_old (old b u q).1 (old b u q).2) r⟩
    show wpAny (model prog w) A.in1.in1 (Builtin.«list.sort» ⟨[.ref h1.objs.size], kw⟩) _ _ _
    rw [hkw]
    refine PySem.W.list_sort_rev_vals (κ := PySem.W.dataKind (PySem.W.sortingHeap (h1.push (seqObj "list" vs.toArray 0)) h1.objs.size vs) (bs.map enc)) hp (PySem.W.SortsAt.data (s := { s with heap := PySem.W.sortingHeap (h1.push (seqObj "list" vs.toArray 0)) h1.objs.size vs }) (PySem.W.each_map (R := fun v d => ∃ as, Reads (PySem.W.sortingHeap (h1.push (seqObj "list" vs.toArray 0)) h1.objs.size vs) v d as) enc er') hal hk (PySem.W.bound_map hu)) hL ⟨_, rfl, wpAny_pure ⟨_, rfl, ?_⟩⟩
    obtain ⟨c, hc2⟩ := sortedHeap_at (vs := vs) (out := (PySem.W.sortVals (PySem.W.dataKind (PySem.W.sortingHeap (h1.push (seqObj "list" vs.toArray 0)) h1.objs.size vs) (bs.map enc)) rv vs vs).toArray) hp
    refine h _ _ _ c (fun b u q => ?_) le1 hc2 (PySem.W.sortVals_data rv e er' hal)
    rw [sortedHeap_old (old b u q).1 (Heap.lt_size (old b u q).2)]
    exact (old b u q).2
end
section
variable {X : Cx} {G : Gh}
theorem each_pairs {K : PySem.W.Frag} {H : Hp} : ∀ {ds : List D} {us : List V} {vs : List Value}, RpL K H ds us → Vals us vs → PySem.W.EachIs (fun v (b : V × D) => RelV b.1 v) vs (us.zip ds)
  | _, _, _, .nil, .nil => .nil
  | _, _, _, .cons _ l, .cons r t => .cons r (each_pairs l t)
theorem each_reads {pins : List (Addr × Obj)} {s : Shared} {σ : St} {H : Hp} (I : Inv X pins σ H s) : ∀ {ds : List D} {us : List V} {vs : List Value}, (∀ d ∈ ds, d.canLay0 = true) → RpL X.K H ds us → Vals us vs → PySem.W.EachIs (fun v (b : V × D) => ∃ as, Reads s.heap v b.2 as) vs (us.zip ds)
  | _, _, _, _, .nil, .nil => .nil
  | _, _, _, z, .cons h l, .cons r t => .cons (Dp.reads I _ _ _ (h.dp (z _ (List.mem_cons_self ..))) r) (each_reads I (fun d hd => z d (List.mem_cons_of_mem _ hd)) l t)
theorem each_vals : ∀ {bs : List (V × D)} {vs : List Value}, PySem.W.EachIs (fun v (b : V × D) => RelV b.1 v) vs bs → Vals (bs.map (·.1)) vs
  | _, _, .nil => .nil
  | _, _, .cons r t => .cons r (each_vals t)
theorem zip_rp {K : PySem.W.Frag} {H : Hp} : ∀ {ds : List D} {us : List V}, RpL K H ds us → ∀ b ∈ us.zip ds, Rp K H b.2 b.1
  | _, _, .nil, b, hb => by simp at hb
  | _, _, .cons r l, b, hb => by
    rw [List.zip_cons_cons] at hb
    rcases List.mem_cons.mp hb with e | e
    · subst e; exact r
    · exact zip_rp l b e
theorem rp_zip {K : PySem.W.Frag} {H : Hp} : ∀ {bs : List (V × D)}, (∀ b ∈ bs, Rp K H b.2 b.1) → RpL K H (bs.map (·.2)) (bs.map (·.1))
  | [], _ => .nil
  | b :: bs, h => .cons (h b List.mem_cons_self) (rp_zip fun c hc => h c (List.mem_cons_of_mem _ hc))
theorem zip_snd2 {K : PySem.W.Frag} {H : Hp} {ds : List D} {us : List V} (l : RpL K H ds us) : (us.zip ds).map (·.2) = ds := by
  have := l.length
  rw [List.map_snd_zip (by omega)]
theorem le_snd (rv : Bool) : ∀ a b : V × D, PySem.W.dataLe rv (fun b : V × D => b.2) a b = PySem.W.dataLe rv (fun d : D => d) a.2 b.2 := fun _ _ => rfl
/-- sorted: the data in order -/
def sortD (rv : Bool) (xs : List D) : List D := xs.mergeSort (PySem.W.dataLe rv fun d : D => d)
def sortOk (xs : List D) : Prop := PySem.W.AllAlike xs ∧ PySem.W.Sortable xs ∧ ∀ d ∈ xs, d.depth ≤ 60 ∧ d.canLay0 = true
theorem sorted_run {rv : Bool} {kw : List (Str × Value)} (hu : X.A.units + 65 < cLine) {pins : List (Addr × Obj)} {s : Shared} {σ : St} {H : Hp} {a : Addr} {us : List V} {ds : List D} {Q : VK} (I : Inv X pins σ H s)
    (hs : SqL X.K H a us ∨ SqT X.K H a us) (l : RpL X.K H ds us) (ok : sortOk ds)
    (hkw : ∀ p, Builtin.«list.sort» ⟨[.ref p], kw⟩ = Builtin.«list.sort» ⟨[.ref p], [(Str.ofString "reverse", .bool rv)]⟩) (ok1 : argsOk "sorted" ⟨[.ref a], kw⟩) (ok2 : ∀ x, argsOk "list.sort" ⟨[.ref x], kw⟩)
    (q : ∀ ws p, H p = none → RpL X.K H (sortD rv ds) ws → Q (.ref p) (upd H p (.lst ws))) : wpAny (model X.prog X.w) X.A (call (.builtin "sorted") [.ref a] kw) (EP X pins σ Q) X.xe s := by
  obtain ⟨T, o, n, its, hT, ho, hc, hd, r, hz⟩ : ∃ (T : String) (o : Obj) (n : Nat) (its : List Value), (T = "list" ∨ T = "tuple") ∧ s.heap.get? a = some o ∧ o.cls = .type T ∧ o.data = .seq its.toArray n ∧ Vals us its ∧ us.length ≤ sizeLine := by
    rcases hs with hs | hs
    · obtain ⟨its, r, ⟨o, n, ho, hc, _, hd⟩, hz⟩ := I.list hs
      exact ⟨"list", o, n, its, .inl rfl, ho, hc, hd, r, hz⟩
    · obtain ⟨its, r, ⟨o, ho, hc, n, hd⟩, hz⟩ := I.tuple hs
      exact ⟨"tuple", o, n, its, .inr rfl, ho, hc, hd, r, hz⟩
  have e2 := zip_snd2 l
  refine sorted_seqD (enc := fun b : V × D => b.2) (R := fun v b => RelV b.1 v) (bs := us.zip ds) hT ho hc hd hkw ok1 ok2 (each_pairs l r) (each_reads I (fun d hd => (ok.2.2 d hd).2) l r) (by rw [e2]; exact ok.1) (by rw [e2]; exact ok.2.1) (by rw [← r.length]; exact hz) (fun b hb => ?_) fun h' p out c k1 hp hp2 eo => ?_
  · have := (ok.2.2 b.2 (by rw [← e2]; exact List.mem_map_of_mem hb)).1; omega
  · have rv1 := each_vals eo
    have hn : H p = none := I.hok.fresh hp
    have mem : ∀ b ∈ (us.zip ds).mergeSort (PySem.W.dataLe rv fun b : V × D => b.2), Rp X.K H b.2 b.1 := fun b hb => zip_rp l b ((List.mergeSort_perm _ _).mem_iff.mp hb)
    have e3 : ((us.zip ds).mergeSort (PySem.W.dataLe rv fun b : V × D => b.2)).map (·.2) = sortD rv ds := by
      unfold sortD
      rw [PySem.W.sort_maps (s := PySem.W.dataLe rv fun d : D => d) (fun b : V × D => b.2) (fun a _ b _ => le_snd rv a b), e2]
    have hr := rp_zip mem
    rw [e3] at hr
    have hlen : (((us.zip ds).mergeSort (PySem.W.dataLe rv fun b : V × D => b.2)).map (·.1)).length ≤ sizeLine := by
      rw [List.length_map, (List.mergeSort_perm _ _).length_eq, List.length_zip]; omega
    exact ⟨.ref p, upd H p (.lst _), I.laid (t' := s.toks) k1 hp ⟨hlen, out, c, rv1, hp2⟩, rfl, q _ p hn hr⟩
def caSorted : CaL := fun ds Q => match ds with
  | [.list xs] => sortOk xs ∧ Q (sortD false xs)
  | [.tuple xs] => sortOk xs ∧ Q (sortD false xs)
  | _ => False
theorem cr_sortedD (hu : X.A.units + 65 < cLine) : CallR X (.builtin "sorted") (fun vs H Q => ∃ (a : Addr) (us : List V) (ds : List D), vs = [.ref a] ∧ (SqL X.K H a us ∨ SqT X.K H a us) ∧ RpL X.K H ds us ∧ sortOk ds ∧ ∀ ws p, H p = none → RpL X.K H (sortD false ds) ws → Q (.ref p) (upd H p (.lst ws))) := by
  intro pins s σ H vs us Q I r h
  obtain ⟨a, ws, ds, rfl, hs, l, ok, q⟩ := h
  obtain rfl := Vals.ref1 r
  exact DL.sorted_run hu I hs l ok (fun p => PySem.W.plain_is_rev p) (args_sorted1 _) (fun _ => args_list_sort _) q
theorem cd_sorted (hu : X.A.units + 65 < cLine) : CaLD X (.builtin "sorted") caSorted := ⟨_, cr_sortedD hu, fun ds vs H QD Q hd q k => by
  match ds, q, hd with
  | [.list xs], q, hd =>
    obtain ⟨v, rfl, h⟩ := hd.one
    obtain ⟨a, us, rfl, hs, l⟩ := h.list
    exact ⟨a, us, xs, rfl, .inl hs, l, q.1, fun ws p hp hr => k _ _ _ q.2 hp hr⟩
  | [.tuple xs], q, hd =>
    obtain ⟨v, rfl, h⟩ := hd.one
    obtain ⟨a, us, rfl, hs, l⟩ := h.tuple
    exact ⟨a, us, xs, rfl, .inr hs, l, q.1, fun ws p hp hr => k _ _ _ q.2 hp hr⟩⟩
end
end DL

set_option Elab.async false
set_option linter.all false
set_option maxRecDepth 100000
set_option maxHeartbeats 1000000
/-! DL16: enumerate(t) of a tuple; count, index. -/
namespace DL
open PySem PySem.Spec PyProof.Rows L2 AutoSeq1
section
theorem meets_enumT (l : Addr) (items : Array Value) (n : Nat) (dct : Option Addr) (sl : Array (Option Value)) :
    Meets (Builtin.«enumerate.__new__» ⟨[.type "enumerate", .ref l], []⟩) (fun _ R s => s.heap.get? l = some { cls := .type "tuple", dict := dct, data := .seq items n, slots := sl } ∧
      R (.ok (.ret (.ref (s.heap.push { cls := .type "tuple_iterator", data := .fields #[.ref l, .int 0 0] }).objs.size)))
        { s with heap := (s.heap.push { cls := .type "tuple_iterator", data := .fields #[.ref l, .int 0 0] }).push { cls := .type "enumerate", data := .fields #[.none, .bool false, .ref s.heap.objs.size, rawInt 0, .none, .none] } }) :=
  .of_wp fun prog w A R s h => by
    obtain ⟨hp, g, d, tk, os⟩ := s; obtain ⟨hl, h⟩ := h
    have subE := sub_enumerate; have isT : Heap.IsTuple (Shared.heap ⟨hp, g, d, tk, os⟩) l items := ⟨_, hl, rfl, n, rfl⟩
    wp_walk using wpAny_loadPart' hl
    refine wpAny_stack_any fun st => wpAny_pure ?_
    split
    · rename_i c _ _ _ _ _
      cases (c == Value.type "enumerate") <;> (wp_walk using wpAny_loadPart' hl, wpAny_pyIter_tuple isT; exact ⟨_, rfl, h⟩)
    · wp_walk using wpAny_loadPart' hl, wpAny_pyIter_tuple isT; exact ⟨_, rfl, h⟩
variable {prog : Program} {w : World} {A : Around} {E : Value → Shared → Prop} {s : Shared}
theorem call_enumT {l : Addr} {items : Array Value} {Q : Value → Shared → Prop} (hL : s.heap.IsTuple l items)
    (fin : ∀ h', IsEnum h' (s.heap.objs.size + 1) s.heap.objs.size 0 .none → h'.IsTupleIter s.heap.objs.size l 0 → (∀ b o, s.heap.get? b = some o → h'.get? b = some o) → Q (.ref (s.heap.objs.size + 1)) { s with heap := h' }) :
    wpAny (model prog w) A (call (.type "enumerate") [.ref l]) Q E s := by
  obtain ⟨⟨c, dct, dt, sl⟩, hl, hc, n, hd⟩ := hL
  obtain rfl : c = .type "tuple" := hc
  obtain rfl : dt = .seq items n := hd
  refine callType_new F.called_enumerate (by decide) (F.typeCall_enumerate_1 _) (F.newCall_enumerate_1 _) (fun obj => F.args_object_init_2 obj _) F.entry_enumerate_new (meets_enumT l items n dct sl) ⟨hl, ?_⟩
  have z1 : (s.heap.push { cls := .type "tuple_iterator", data := .fields #[.ref l, .int 0 0] }).objs.size = s.heap.objs.size + 1 := Heap.size_push ..
  show _ ∧ _
  rw [z1]
  have is : IsEnum ((s.heap.push { cls := .type "tuple_iterator", data := .fields #[.ref l, .int 0 0] }).push { cls := .type "enumerate", data := .fields #[.none, .bool false, .ref s.heap.objs.size, rawInt 0, .none, .none] }) (s.heap.objs.size + 1) s.heap.objs.size 0 .none := by
    have q := Heap.get?_push_size (s.heap.push { cls := .type "tuple_iterator", data := .fields #[.ref l, .int 0 0] }) (o := { cls := .type "enumerate", data := .fields #[.none, .bool false, .ref s.heap.objs.size, rawInt 0, .none, .none] }) rfl
    rw [z1] at q; exact q
  exact ⟨⟨_, is, rfl⟩, fin _ is ⟨_, Heap.get?_push_of_some _ (Heap.get?_push_size _ rfl), rfl, rfl⟩ fun b o x => Heap.get?_push_of_some _ (Heap.get?_push_of_some _ x)⟩
end
/-- the tuple at a, each item in a new pair with its number -/
def IteT (K : PySem.W.Frag) (a : Addr) : It :=
  ⟨fun i H => ∃ (xs : List V) (x : V), SqT K H a xs ∧ xs[i]? = some x, fun i H v H' => ∃ T x, v = .ref T ∧ H T = none ∧ H' = upd H T (.tup [.int (i : Nat), x]) ∧ ∀ xs, SqT K H a xs → xs[i]? = some x, fun i H => ∃ xs : List V, SqT K H a xs ∧ xs.length = i⟩
theorem turn_enumT {P : Program} {w : World} {K : PySem.W.Frag} {elts : List Expr} {kk : Nat} {tpos : Pos} (a e it : Addr) :
    Turn P w K (.Tuple elts kk tpos) (IteT K a) [e, it] e (fun i h => (∃ old, IsEnum h e it ((i : Nat) : Int) old) ∧ h.IsTupleIter it a i ∧ e ≠ it ∧ a ≠ it ∧ a ≠ e) where
  mem := by simp
  obj := fun i h st b hb => by
    obtain ⟨⟨old, he⟩, ⟨o, ho, hc, hd⟩, _⟩ := st
    rcases (show b = e ∨ b = it by simpa using hb) with z | z
    · rw [z]; exact ⟨_, he, fun v q => nomatch q⟩
    · rw [z]; exact ⟨o, ho, fun v q => by rw [hd] at q; cases q⟩
  keep := fun i h h' st k => let ⟨⟨old, he⟩, hi, hne⟩ := st; ⟨⟨old, k e (by simp) _ he⟩, hi.at fun o q => k it (by simp) o q, hne⟩
  item := by
    intro X hP hw hK hc i pins s σ H E I hf st hg
    subst hP hw hK
    obtain ⟨⟨old, he⟩, hit, hne, hai, hae⟩ := st
    obtain ⟨xs, x, hq, hx⟩ := hg
    obtain ⟨its, rv, p, hz⟩ := I.tuple hq
    obtain ⟨u, hu, ru⟩ := rv.get hx
    have hel : e < s.heap.objs.size := Heap.lt_size he
    have hil : it < s.heap.objs.size := by obtain ⟨_, q, _⟩ := hit; exact Heap.lt_size q
    have lt : i < its.toArray.size := by simpa using (List.getElem?_eq_some_iff.mp hu).1
    have nf : e ∉ [it, a] := by simp; exact ⟨hne, Ne.symm hae⟩
    refine wpAny_pyNext_enum_itemD (Draws.tuple (A := X.A.in1) (I.ok.hd hc) it a hai its.toArray) he ⟨hit, p⟩ lt hne nf fun u2 h' tk hP2 ho hit' hT hsz hk => ?_
    obtain rfl : u2 = u := by
      have : its[i]? = some u2 := by simpa using hP2
      rw [hu] at this; exact (Option.some.inj this).symm
    refine ⟨_, rfl, wpAny_letOwnedTupleGo_enum (s := { s with heap := h', toks := tk + 1 }) ho fun h'' he' sb => ?_⟩
    have hT2 : h''.get? s.heap.objs.size = some { cls := .type "tuple", data := .seq #[.int i tk, u2] } := (sb.2 _ (Nat.ne_of_gt hel)).trans hT
    have new : ObjOk X.prog X.w (upd H s.heap.objs.size (.tup [.int (i : Nat), x])) h'' s.heap.objs.size (.tup [.int (i : Nat), x]) := ⟨by show 2 ≤ sizeLine; decide, [.int i tk, u2], .cons ⟨_, rfl⟩ (.cons ru .nil), ⟨_, hT2, rfl, _, rfl⟩⟩
    have I1 : Inv X pins σ (upd H s.heap.objs.size (.tup [.int (i : Nat), x])) { s with heap := h'', toks := tk + 1 } :=
      I.turnedNew (ch := [e, it]) (fun b ob hb q => (sb.2 b (fun z => hb (by simp [z]))).trans (hk b ob (fun z => hb (by simp [z])) (fun z => hb (by simp [z])) q)) hf (Nat.le_refl _) new
    refine ⟨.ref s.heap.objs.size, _, I1, rfl, ⟨_, x, rfl, I.hok.fresh (Nat.le_refl _), rfl, fun ys hy => by rw [I.tuple_inj hy hq]; exact hx⟩, ⟨⟨u2, ?_⟩, hit'.1.at fun o q => (sb.2 it (Ne.symm hne)).trans q, hne, hai, hae⟩, fun b hb => ?_⟩
    · rw [show ((i + 1 : Nat) : Int) = (i : Int) + 1 by omega]; exact he'
    · have hb' : b < s.heap.objs.size := by rcases (show b = e ∨ b = it by simpa using hb) with z | z <;> rw [z] <;> assumption
      rw [upd_ne (Nat.ne_of_lt hb')]; exact (hf b hb).1
  done := by
    intro X hP hw hK hc i pins s σ H E I hf st hg
    subst hP hw hK
    obtain ⟨⟨old, he⟩, hit, hne, hai, hae⟩ := st
    obtain ⟨xs, hq, hx⟩ := hg
    obtain ⟨its, rv, p, hz⟩ := I.tuple hq
    obtain ⟨f0, f1, f2, f3, f4, f5⟩ := hf it (by simp)
    have hl := rv.length
    subst hx
    have hit2 : s.heap.IsTupleIter it a its.toArray.size := by rw [List.size_toArray, ← hl]; exact hit
    exact wpAny_pyNext_enum_endD (Draws.tuple (A := X.A.in1) (I.ok.hd hc) it a hai its.toArray) he ⟨hit2, p⟩ fun h' eb => ⟨rfl, I.turned (t' := s.toks) (fun b o hb q => eb b o hb q) f0 f1 f3 f4 f5⟩
  self := fun A i s Q E st h => let ⟨⟨_, he⟩, _⟩ := st; wpAny_pyIter_enum he h
section
variable {X : Cx} {G : Gh} {e : Expr} {p pos tpos : Pos} {elts : List Expr} {kk : Nat}
theorem pi_enumT {ta : TA} (hg : Gl X "enumerate") (hm : X.mg "enumerate" = none) (ha : PA X [e] ta) (hs : starEach [e] X.env = [(false, eval e X.env)] := by rfl) :
    PI X (.Tuple elts kk tpos) (.Call (.Name "enumerate" p) [e] [] pos) (fun σ H R => ta σ H fun vs H1 => ∃ a xs, vs = [.ref a] ∧ SqT X.K H1 a xs ∧ R (IteT X.K a) H1) := by
  refine ⟨fun pins s σ H R I h => Call_ (ld_blt I hg hm boot_enumerate (PyProof.Rows.callWith_type1 (thn (ha.run pos pins s σ H _ I h) fun us s1 ⟨vs, H1, I1, r1, q1⟩ => ?_) hs rfl))⟩
  obtain ⟨a, xs, rfl, hq, q⟩ := q1
  obtain rfl := Vals.ref1 r1
  obtain ⟨its, rv, pt, hz⟩ := I1.tuple hq
  have lta : a < s1.heap.objs.size := by obtain ⟨o, ho, _⟩ := pt; exact Heap.lt_size ho
  refine call_enumT pt fun h' he hit hk => wpAny_pyIter_enum he ?_
  have I2 : Inv X pins σ H1 { s1 with heap := h' } := I1.kept (t' := s1.toks) hk
  refine ⟨s1.heap.objs.size + 1, [s1.heap.objs.size + 1, s1.heap.objs.size], _, _, H1, rfl, I2, turn_enumT a (s1.heap.objs.size + 1) s1.heap.objs.size, ⟨⟨.none, he⟩, hit, Nat.succ_ne_self _, Nat.ne_of_lt lta, Nat.ne_of_lt (Nat.lt_succ_of_lt lta)⟩, fun b hb => ?_, q⟩
  have hle : s1.heap.objs.size ≤ b := by rcases (show b = s1.heap.objs.size + 1 ∨ b = s1.heap.objs.size by simpa using hb) with z | z <;> rw [z]; exact Nat.le_succ _; exact Nat.le_refl _
  exact I1.fpOk hle (I1.hok.fresh hle)
def enumD (xs : List D) : List D := xs.zipIdx.map fun p => .tuple [.int ((p.2 : Nat) : Int), p.1]
theorem enumD_len (xs : List D) : (enumD xs).length = xs.length := by simp [enumD]
theorem enumD_get {xs : List D} {i : Nat} {d : D} (h : xs[i]? = some d) : (enumD xs)[i]? = some (.tuple [.int (i : Int), d]) := by
  unfold enumD
  rw [List.getElem?_map, List.getElem?_zipIdx, h]; simp
def iEnumT (t : TD) : TDs := fun E Q => t E fun d E1 => match d with
  | .tuple ds => Q (enumD ds) E1
  | _ => False
def iEnumL (t : TD) : TDs := fun E Q => t E fun d E1 => match d with
  | .list ds => Q (enumD ds) E1
  | _ => False
theorem walkD_enumT {K : PySem.W.Frag} {H : Hp} {a : Addr} {vs : List V} {ds : List D} (h : SqT K H a vs) (l : RpL K H ds vs) : WalkD true K (IteT K a) H (enumD ds) where
  goes := fun i H' x hi => by
    rw [enumD_len, l.length] at hi
    exact ⟨vs, vs[i], SqT.ext x h, List.getElem?_eq_getElem hi⟩
  yld := fun i H' v H2 x hi hy => by
    obtain ⟨T, v1, rfl, hT, rfl, e1⟩ := hy
    obtain ⟨d, hd, p⟩ := l.getV (e1 vs (SqT.ext x h))
    have px := PExt.new (o := .tup [.int (i : Nat), v1]) hT
    exact ⟨px, _, enumD_get hd, .pair (SqT.of upd_same) (.cons (.int _) (.cons ((p.ext x).ext px.ext) .nil))⟩
  stops := fun H' x => ⟨vs, SqT.ext x h, by rw [enumD_len, l.length]⟩
theorem walkD_enumL {K : PySem.W.Frag} {H : Hp} {a : Addr} {vs : List V} {ds : List D} (h : LsF K H a vs) (l : RpL K H ds vs) : WalkD true K (Ite K a) H (enumD ds) where
  goes := fun i H' x hi => by
    rw [enumD_len, l.length] at hi
    exact ⟨vs, vs[i], (LsF.ext x h).sq, List.getElem?_eq_getElem hi⟩
  yld := fun i H' v H2 x hi hy => by
    obtain ⟨T, v1, rfl, hT, rfl, e1⟩ := hy
    obtain ⟨d, hd, p⟩ := l.getV (e1 vs (LsF.ext x h).sq)
    have px := PExt.new (o := .tup [.int (i : Nat), v1]) hT
    exact ⟨px, _, enumD_get hd, .pair (SqT.of upd_same) (.cons (.int _) (.cons ((p.ext x).ext px.ext) .nil))⟩
  stops := fun H' x => ⟨vs, (LsF.ext x h).sq, by rw [enumD_len, l.length]; exact Nat.le_refl _⟩
theorem id_enumT {t : TD} (h : ED X G e t) (hg : Gl X "enumerate") (hm : X.mg "enumerate" = none) (hs : starEach [e] X.env = [(false, eval e X.env)] := by rfl) : ID X G true (.Tuple elts kk tpos) (.Call (.Name "enumerate" p) [e] [] pos) (iEnumT t) :=
  ⟨PI.weak (pi_enumT hg hm (pa_cons h.pe pa_nil hs) hs) fun σ H R ⟨E, QE, r, q, k⟩ => ⟨E, _, r, q, fun d E1 v H1 q1 x1 r1 p1 => by
    cases p1 with
    | tup hs l => exact ⟨_, _, rfl, hs.1, k _ _ _ _ q1 x1 r1 (walkD_enumT hs.1 l)⟩
    | _ => exact q1.elim⟩⟩
theorem id_enumL {t : TD} (h : ED X G e t) (hg : Gl X "enumerate") (hm : X.mg "enumerate" = none) (hs : starEach [e] X.env = [(false, eval e X.env)] := by rfl) : ID X G true (.Tuple elts kk tpos) (.Call (.Name "enumerate" p) [e] [] pos) (iEnumL t) :=
  ⟨PI.weak (pi_enum hg hm (pa_cons h.pe pa_nil hs) hs) fun σ H R ⟨E, QE, r, q, k⟩ => ⟨E, _, r, q, fun d E1 v H1 q1 x1 r1 p1 => by
    cases p1 with
    | lst hs l => exact ⟨_, _, rfl, hs.sq, k _ _ _ _ q1 x1 r1 (walkD_enumL hs l)⟩
    | _ => exact q1.elim⟩⟩
end
end DL

set_option Elab.async false
set_option linter.all false
set_option maxRecDepth 100000
set_option maxHeartbeats 1000000
/-! DL17: count, index; x or y, not x by truth; sorted(.., reverse=True). -/
namespace DL
open PySem PySem.Spec PyProof.Rows L2
section
variable {X : Cx} {G : Gh} {a b e o : Expr} {es : List Expr} {pos p apos cpos : Pos}
/-! ### methods of tuples -/
theorem SqD.is {pins : List (Addr × Obj)} {s : Shared} {σ : St} {H : Hp} {p : Addr} {xs : List V} (I : Inv X pins σ H s) (h : SqD X.K H p xs) : s.TypeIs (.ref p) "tuple" ∧ ∃ ob, s.heap.get? p = some ob ∧ ob.dict = none := by
  obtain ⟨its, r, ⟨o, ho, hc, _⟩, hz⟩ := I.tuple h.1
  refine ⟨⟨o, ho, hc⟩, ?_⟩
  rcases h.2 with ⟨o2, u, e2, d2⟩ | ⟨o2, e2, d2⟩
  · exact ⟨o2, (I.hok _ _ e2).1, d2⟩
  · exact ⟨o2, I.kIn _ _ e2, d2⟩
theorem pe_bmT {name : Str} {id : String} {r : V → List V → Hp → VK → Prop} {to : TE} {t : TA} (slot : Slot "tuple" name id) (hty : typeOf (.builtin id) = pure (.type "method_descriptor")) (hm : MtR X id r) (ho : PE X o to) (ha : PA X [e] t)
    (hbase : attributeBase o name X.env (eval o X.env) = eval o X.env := by rfl)
    (hfew : ((backTo cpos (starEach [e] X.env)).all (fun x => !x.1) && (backToKw cpos (keywordEach [] X.env)).all (fun x => x.1.isSome) && decide (([e] : List Expr).length + ([] : List Keyword).length + (if ([] : List Keyword).isEmpty then 0 else 1) < 30)) = true := by rfl)
    (hline : (apos.endLine == cpos.line) = true := by rfl) (hs : starEach [e] X.env = (false, eval e X.env) :: starEach [] X.env := by rfl) (hplain : (backTo cpos (starEach [] X.env)).any (·.1) = false := by rfl) :
    PE X (.Call (.Attribute o name apos) [e] [] cpos) (fun σ H Q => to σ H fun x H1 => (∃ p xs, x = .ref p ∧ SqD X.K H1 p xs) ∧ t σ H1 fun xs H2 => r x xs H2 Q) := by
  refine ⟨fun pins s σ H Q I h => wpAny_Call_method_late hbase hfew hline rfl (thn (ho.run pins s σ H _ I h) fun v s1 ⟨x, H1, I1, r1, ty, q1⟩ => ?_)⟩
  obtain ⟨p0, xs0, rfl, hd⟩ := ty
  obtain rfl : v = Value.ref p0 := r1
  obtain ⟨h1, h2⟩ := hd.is I1
  refine ⟨"tuple", id, PySem.F.plainAttrs_tuple, slot, hty, h1, fun a ea => by cases ea; exact h2, ?_⟩
  have hA := ha.run cpos pins s1 σ H1 _ I1 q1
  rw [hs] at hA ⊢
  exact Calls.callWith_builtin (by show (false || (backTo cpos (starEach [] X.env)).any (·.1)) = false; rw [hplain] <;> rfl) (Calls.evalArgs_plain (thn hA fun us s2 ⟨vs, H2, I2, r2, q2⟩ => hm pins s2 σ H2 (.ref p0) vs _ us Q I2 rfl r2 q2))
def okAll (xs : List D) (y : D) : Prop := xs.all (shOk 60) = true ∧ shOk 60 y = true
theorem okAll.sp {xs : List D} {y : D} (h : okAll xs y) (hu : X.A.units + 65 < cLine) : PyData.canLayAll0 xs = true ∧ y.canLay0 = true ∧ X.A.units + 1 + min (PyData.depthAll xs) y.depth < cLine := by
  have ⟨a, b⟩ := shOk_spec 60 y h.2
  have c := (shOk_all (shOk_spec 60) xs h.1).1
  have : min (PyData.depthAll xs) y.depth ≤ y.depth := Nat.min_le_right _ _
  exact ⟨c, a, by omega⟩
def cntD (xs : List D) (y : D) : Nat := xs.countP fun z => PyData.eqv z y
def rCnt (S : PySem.W.Frag → Hp → Addr → List V → Prop) (K : PySem.W.Frag) : V → List V → Hp → VK → Prop := fun x xs H Q => ∃ (p : Addr) (us : List V) (ds : List D) (y : V) (d : D), x = .ref p ∧ xs = [y] ∧ S K H p us ∧ RpL K H ds us ∧ Rp K H d y ∧ okAll ds d ∧ Q (.int (cntD ds d : Nat)) H
theorem mt_countL (hu : X.A.units + 65 < cLine) : MtR X "list.count" (rCnt SqL X.K) := by
  intro pins s σ H x xs v us Q I rx rxs h
  obtain ⟨p, ws, ds, y, d, rfl, rfl, hs, l, hy, ok, q⟩ := h
  obtain rfl : v = Value.ref p := rx
  obtain ⟨u, rfl, ru⟩ := rxs.one
  obtain ⟨its, rv, pl, hz⟩ := I.list hs
  obtain ⟨c1, c2, c3⟩ := ok.sp hu
  obtain ⟨as, r1⟩ := Dp.readsAll I ds _ its (l.dp c1) rv
  obtain ⟨bs, r2⟩ := Dp.reads I d y u (hy.dp c2) ru
  exact SeqAt.count_list_data pl.isList (by simpa using r1) r2 (PyData.plainAll_of_canLay0 _ c1) (PyData.plain_of_canLay0 _ c2) c3 ⟨.int _, H, I.tok _, ⟨_, rfl⟩, q⟩
theorem mt_countT (hu : X.A.units + 65 < cLine) : MtR X "tuple.count" (rCnt SqT X.K) := by
  intro pins s σ H x xs v us Q I rx rxs h
  obtain ⟨p, ws, ds, y, d, rfl, rfl, hs, l, hy, ok, q⟩ := h
  obtain rfl : v = Value.ref p := rx
  obtain ⟨u, rfl, ru⟩ := rxs.one
  obtain ⟨its, rv, pl, hz⟩ := I.tuple hs
  obtain ⟨c1, c2, c3⟩ := ok.sp hu
  obtain ⟨as, r1⟩ := Dp.readsAll I ds _ its (l.dp c1) rv
  obtain ⟨bs, r2⟩ := Dp.reads I d y u (hy.dp c2) ru
  exact SeqAt.count_tuple_data pl (by simpa using r1) r2 (PyData.plainAll_of_canLay0 _ c1) (PyData.plain_of_canLay0 _ c2) c3 ⟨.int _, H, I.tok _, ⟨_, rfl⟩, q⟩
/-- xs.index(y): the first place of an equal one -/
def idxOk (xs : List D) (y : D) (j : Nat) : Prop := (∃ z, xs[j]? = some z ∧ PyData.eqv z y = true) ∧ ∀ m z, m < j → xs[m]? = some z → PyData.eqv z y = false
def rIdx (S : PySem.W.Frag → Hp → Addr → List V → Prop) (K : PySem.W.Frag) : V → List V → Hp → VK → Prop := fun x xs H Q => ∃ (p : Addr) (us : List V) (ds : List D) (y : V) (d : D) (j : Nat), x = .ref p ∧ xs = [y] ∧ S K H p us ∧ RpL K H ds us ∧ Rp K H d y ∧ okAll ds d ∧ idxOk ds d j ∧ Q (.int (j : Nat)) H
theorem mt_indexT (hu : X.A.units + 65 < cLine) : MtR X "tuple.index" (rIdx SqT X.K) := by
  intro pins s σ H x xs v us Q I rx rxs h
  obtain ⟨p, ws, ds, y, d, j, rfl, rfl, hs, l, hy, ok, ⟨⟨z, hz1, hz2⟩, hno⟩, q⟩ := h
  obtain rfl : v = Value.ref p := rx
  obtain ⟨u, rfl, ru⟩ := rxs.one
  obtain ⟨its, rv, ⟨⟨cls, dd, data, sls⟩, ho, hc, n, hdt⟩, hlen⟩ := I.tuple hs
  obtain rfl : cls = .type "tuple" := hc
  obtain rfl : data = .seq its.toArray n := hdt
  obtain ⟨c1, c2, c3⟩ := ok.sp hu
  obtain ⟨as, h4⟩ := Dp.readsAll I ds _ its (l.dp c1) rv
  obtain ⟨bs, r2⟩ := Dp.reads I d y u (hy.dp c2) ru
  have hn : its.length = ds.length := SeqAt.ReadsAll.length ds its as h4
  have hmap : its.map (SeqAt.readOf s.heap) = ds := SeqAt.readsAll_map ds its as c1 h4
  have hjd := (List.getElem?_eq_some_iff.mp hz1).1
  have hj : j < its.toArray.size := by simp; omega
  have at_ : ∀ (m : Nat) (hm : m < its.toArray.size) (z' : PyData), ds[m]? = some z' → SeqAt.readOf s.heap its.toArray[m] = z' := by
    intro m hm z' hz'
    have hml : m < its.length := by simpa using hm
    rw [← hmap, List.getElem?_map, List.getElem?_eq_getElem hml] at hz'
    have e1 : SeqAt.readOf s.heap its[m] = z' := Option.some.inj (show some (SeqAt.readOf s.heap its[m]) = some z' from hz')
    simpa using e1
  refine call_meets PySem.F.slot_tuple_index ⟨_, ho, rfl⟩ PySem.F.entry_tuple_index (PySem.F.args_tuple_index_2 _ _) (TI.tuple_indexAt p its.toArray n dd sls u (fun w => PyData.eqv (SeqAt.readOf s.heap w) d) j hj ?_ ?_)
    ⟨ho, SeqAt.items_eqAt (vs := its.toArray) (show ReadsAll s.heap its.toArray.toList ds as by simpa using h4) r2 c1 c2 c3, ⟨.int (j : Nat), H, I.tok _, ⟨_, rfl⟩, q⟩⟩
  · show PyData.eqv (SeqAt.readOf s.heap its.toArray[j]) d = true
    rw [at_ j hj z hz1]; exact hz2
  · intro m hm hmj
    have hmd : m < ds.length := by omega
    show PyData.eqv (SeqAt.readOf s.heap its.toArray[m]) d = false
    rw [at_ m hm _ (List.getElem?_eq_getElem hmd)]; exact hno m _ hmj (List.getElem?_eq_getElem hmd)
def tCountT (ta tb : TD) : TD := fun E Q => ta E fun x E1 => match x with
  | .tuple xs => tb E1 fun y E2 => okAll xs y ∧ Q (.int (cntD xs y : Nat)) E2
  | _ => False
def tCountL (ta tb : TD) : TD := fun E Q => ta E fun x E1 => match x with
  | .list xs => tb E1 fun y E2 => okAll xs y ∧ Q (.int (cntD xs y : Nat)) E2
  | _ => False
def tIndexT (ta tb : TD) : TD := fun E Q => ta E fun x E1 => match x with
  | .tuple xs => tb E1 fun y E2 => ∃ j, okAll xs y ∧ idxOk xs y j ∧ Q (.int (j : Nat)) E2
  | _ => False
def tIndexL (ta tb : TD) : TD := fun E Q => ta E fun x E1 => match x with
  | .list xs => tb E1 fun y E2 => ∃ j, okAll xs y ∧ idxOk xs y j ∧ Q (.int (j : Nat)) E2
  | _ => False
section
variable {ta tb : TD}
theorem ed_countT (hu : X.A.units + 65 < cLine) (ho : ED X G o ta) (he : ED X G e tb) (hbase : attributeBase o "count" X.env (eval o X.env) = eval o X.env := by rfl)
    (hfew : ((backTo cpos (starEach [e] X.env)).all (fun x => !x.1) && (backToKw cpos (keywordEach [] X.env)).all (fun x => x.1.isSome) && decide (([e] : List Expr).length + ([] : List Keyword).length + (if ([] : List Keyword).isEmpty then 0 else 1) < 30)) = true := by rfl)
    (hline : (apos.endLine == cpos.line) = true := by rfl) (hs : starEach [e] X.env = (false, eval e X.env) :: starEach [] X.env := by rfl) (hplain : (backTo cpos (starEach [] X.env)).any (·.1) = false := by rfl) :
    ED X G (.Call (.Attribute o "count" apos) [e] [] cpos) (tCountT ta tb) :=
  ⟨PE.weak (pe_bmT PySem.F.slot_tuple_count PySem.F.type_tuple_count (mt_countT hu) ho.pe (pa_cons he.pe pa_nil hs) hbase hfew hline hs hplain) fun σ H Q ⟨E, QE, r, q, k⟩ => ⟨E, _, r, q, fun x E1 v H1 q1 x1 r1 p1 => by
    cases p1 with
    | tup hd l => exact ⟨⟨_, _, rfl, hd⟩, E1, _, r1, q1, fun y E2 w H2 q2 x2 r2 p2 => ⟨_, _, _, w, y, rfl, rfl, (hd.ext x2).1, l.ext x2, p2, q2.1, k _ _ _ _ q2.2 (x1.trans x2) r2 (.int _)⟩⟩
    | _ => exact q1.elim⟩⟩
theorem ed_indexT (hu : X.A.units + 65 < cLine) (ho : ED X G o ta) (he : ED X G e tb) (hbase : attributeBase o "index" X.env (eval o X.env) = eval o X.env := by rfl)
    (hfew : ((backTo cpos (starEach [e] X.env)).all (fun x => !x.1) && (backToKw cpos (keywordEach [] X.env)).all (fun x => x.1.isSome) && decide (([e] : List Expr).length + ([] : List Keyword).length + (if ([] : List Keyword).isEmpty then 0 else 1) < 30)) = true := by rfl)
    (hline : (apos.endLine == cpos.line) = true := by rfl) (hs : starEach [e] X.env = (false, eval e X.env) :: starEach [] X.env := by rfl) (hplain : (backTo cpos (starEach [] X.env)).any (·.1) = false := by rfl) :
    ED X G (.Call (.Attribute o "index" apos) [e] [] cpos) (tIndexT ta tb) :=
  ⟨PE.weak (pe_bmT PySem.F.slot_tuple_index PySem.F.type_tuple_index (mt_indexT hu) ho.pe (pa_cons he.pe pa_nil hs) hbase hfew hline hs hplain) fun σ H Q ⟨E, QE, r, q, k⟩ => ⟨E, _, r, q, fun x E1 v H1 q1 x1 r1 p1 => by
    cases p1 with
    | tup hd l => exact ⟨⟨_, _, rfl, hd⟩, E1, _, r1, q1, fun y E2 w H2 q2 x2 r2 p2 => let ⟨j, q2, q3, q4⟩ := q2; ⟨_, _, _, w, y, j, rfl, rfl, (hd.ext x2).1, l.ext x2, p2, q2, q3, k _ _ _ _ q4 (x1.trans x2) r2 (.int _)⟩⟩
    | _ => exact q1.elim⟩⟩
theorem ed_countL (hu : X.A.units + 65 < cLine) (ho : ED X G o ta) (he : ED X G e tb) (hbase : attributeBase o "count" X.env (eval o X.env) = eval o X.env := by rfl)
    (hfew : ((backTo cpos (starEach [e] X.env)).all (fun x => !x.1) && (backToKw cpos (keywordEach [] X.env)).all (fun x => x.1.isSome) && decide (([e] : List Expr).length + ([] : List Keyword).length + (if ([] : List Keyword).isEmpty then 0 else 1) < 30)) = true := by rfl)
    (hline : (apos.endLine == cpos.line) = true := by rfl) (hs : starEach [e] X.env = (false, eval e X.env) :: starEach [] X.env := by rfl) (hplain : (backTo cpos (starEach [] X.env)).any (·.1) = false := by rfl) :
    ED X G (.Call (.Attribute o "count" apos) [e] [] cpos) (tCountL ta tb) :=
  ⟨PE.weak (pe_bm PySem.F.plainAttrs_list PySem.F.slot_list_count PySem.F.type_list_count (mt_countL hu) ho.pe (pa_cons he.pe pa_nil hs) hbase hfew hline hs hplain) fun σ H Q ⟨E, QE, r, q, k⟩ => ⟨E, _, r, q, fun x E1 v H1 q1 x1 r1 p1 => by
    cases p1 with
    | lst hd l => exact ⟨.inl ⟨rfl, _, hd.sq⟩, E1, _, r1, q1, fun y E2 w H2 q2 x2 r2 p2 => ⟨_, _, _, w, y, rfl, rfl, (LsF.ext x2 hd).sq, l.ext x2, p2, q2.1, k _ _ _ _ q2.2 (x1.trans x2) r2 (.int _)⟩⟩
    | _ => exact q1.elim⟩⟩
theorem shaped_all {xs : List D} (h : xs.all (shOk 60) = true) : SeqAt.shaped (.list xs) = true := shaped_of (n := 61) (by rw [shOk_lst]; exact h)
theorem ed_indexL (hu : X.A.units + 65 < cLine) (ho : ED X G o ta) (he : ED X G e tb) (hbase : attributeBase o "index" X.env (eval o X.env) = eval o X.env := by rfl)
    (hfew : ((backTo cpos (starEach [e] X.env)).all (fun x => !x.1) && (backToKw cpos (keywordEach [] X.env)).all (fun x => x.1.isSome) && decide (([e] : List Expr).length + ([] : List Keyword).length + (if ([] : List Keyword).isEmpty then 0 else 1) < 30)) = true := by rfl)
    (hline : (apos.endLine == cpos.line) = true := by rfl) (hs : starEach [e] X.env = (false, eval e X.env) :: starEach [] X.env := by rfl) (hplain : (backTo cpos (starEach [] X.env)).any (·.1) = false := by rfl) :
    ED X G (.Call (.Attribute o "index" apos) [e] [] cpos) (tIndexL ta tb) :=
  ⟨PE.weak (pe_bm PySem.F.plainAttrs_list PySem.F.slot_list_index PySem.F.type_list_index (mt_indexD hu) ho.pe (pa_cons he.pe pa_nil hs) hbase hfew hline hs hplain) fun σ H Q ⟨E, QE, r, q, k⟩ => ⟨E, _, r, q, fun x E1 v H1 q1 x1 r1 p1 => by
    cases p1 with
    | lst hd l => exact ⟨.inl ⟨rfl, _, hd.sq⟩, E1, _, r1, q1, fun y E2 w H2 q2 x2 r2 p2 => let ⟨j, q2, ⟨⟨z, q3, q5⟩, q6⟩, q4⟩ := q2; ⟨_, w, y, _, j, z, rfl, rfl, .lst (LsF.ext x2 hd).sq ((l.ext x2).dp (q2.sp hu).1), p2.dp (q2.sp hu).2.1, shaped_all q2.1, shaped_of q2.2, q3, q5, fun m z' => q6 m z', k _ _ _ _ q4 (x1.trans x2) r2 (.int _)⟩⟩
    | _ => exact q1.elim⟩⟩
end
/-! ### truth -/
theorem tru_of {K : PySem.W.Frag} {H : Hp} {d : D} {v : V} {c : Bool} (h : Rp K H d v) (e : truD d = some c) (ok : okLen d) : TruV K v H c := by
  cases h with
  | non => cases e; rfl
  | bl b => cases e; rfl
  | int i => cases e; rfl
  | str x => cases e; exact ⟨ok, rfl⟩
  | tup hs l => cases e; exact .inr (.inl ⟨_, hs.1, by rw [isEmpty_RpL l]⟩)
  | lst hs l => cases e; exact .inl ⟨_, hs.sq, by rw [isEmpty_RpL l]⟩
  | dct _ _ _ _ => cases e
  | hdl _ => cases e
  | dck _ _ _ _ => cases e
def tOrT (t u : TD) : TD := fun E Q => t E fun x E1 => match truD x with
  | some c => okLen x ∧ if c = true then Q x E1 else u E1 Q
  | none => False
def tAndT (t u : TD) : TD := fun E Q => t E fun x E1 => match truD x with
  | some c => okLen x ∧ if c = true then u E1 Q else Q x E1
  | none => False
def tNotT (t : TD) : TD := fun E Q => t E fun x E1 => match truD x with
  | some c => okLen x ∧ Q (.bool (!c)) E1
  | none => False
theorem ed_orT {t u : TD} (h : ED X G a t) (hb : ED X G (.BoolOp .Or (b :: es) pos) u) : ED X G (.BoolOp .Or (a :: b :: es) pos) (DL.tOrT t u) :=
  ⟨PE.weak (pe_orT h.pe hb.pe) fun σ H Q ⟨E, QE, r, q, k⟩ => ⟨E, _, r, q, fun x E1 v H1 q1 x1 r1 p1 => by
    cases e : truD x with
    | none => rw [e] at q1; exact q1.elim
    | some c =>
      rw [e] at q1
      refine ⟨c, tru_of p1 e q1.1, ?_⟩
      cases c with
      | true => exact k _ _ _ _ q1.2 x1 r1 p1
      | false => exact ⟨E1, _, r1, q1.2, fun y E2 w H2 q2 x2 r2 p2 => k _ _ _ _ q2 (x1.trans x2) r2 p2⟩⟩⟩
theorem ed_andT {t u : TD} (h : ED X G a t) (hb : ED X G (.BoolOp .And (b :: es) pos) u) : ED X G (.BoolOp .And (a :: b :: es) pos) (DL.tAndT t u) :=
  ⟨PE.weak (pe_andT h.pe hb.pe) fun σ H Q ⟨E, QE, r, q, k⟩ => ⟨E, _, r, q, fun x E1 v H1 q1 x1 r1 p1 => by
    cases e : truD x with
    | none => rw [e] at q1; exact q1.elim
    | some c =>
      rw [e] at q1
      refine ⟨c, tru_of p1 e q1.1, ?_⟩
      cases c with
      | false => exact k _ _ _ _ q1.2 x1 r1 p1
      | true => exact ⟨E1, _, r1, q1.2, fun y E2 w H2 q2 x2 r2 p2 => k _ _ _ _ q2 (x1.trans x2) r2 p2⟩⟩⟩
theorem ed_notT {t : TD} (h : ED X G a t) : ED X G (.UnaryOp .Not a pos) (DL.tNotT t) :=
  ⟨PE.weak (pe_notT h.pe) fun σ H Q ⟨E, QE, r, q, k⟩ => ⟨E, _, r, q, fun x E1 v H1 q1 x1 r1 p1 => by
    cases e : truD x with
    | none => rw [e] at q1; exact q1.elim
    | some c =>
      rw [e] at q1
      exact ⟨c, tru_of p1 e q1.1, k _ _ _ _ q1.2 x1 r1 (.bl _)⟩⟩⟩
/-! ### sorted(xs, reverse=True) -/
def tSortRev (ta : TD) : TLd := fun E Q => ta E fun x E1 => match x with
  | .list xs => sortOk xs ∧ Q (sortD true xs) E1
  | .tuple xs => sortOk xs ∧ Q (sortD true xs) E1
  | _ => False
theorem cr_sortedRevD (hu : X.A.units + 65 < cLine) : CallRK X (.builtin "sorted") [Str.ofString "reverse"] (fun vs zs H Q => ∃ (a : Addr) (us : List V) (ds : List D), vs = [.ref a] ∧ zs = [.bl true] ∧ (SqL X.K H a us ∨ SqT X.K H a us) ∧ RpL X.K H ds us ∧ sortOk ds ∧ ∀ ws p, H p = none → RpL X.K H (sortD true ds) ws → Q (.ref p) (upd H p (.lst ws))) := by
  intro pins s σ H vs zs us ws Q I r rz h
  obtain ⟨a, us', ds, rfl, rfl, hs, l, ok, q⟩ := h
  obtain rfl := Vals.ref1 r
  obtain ⟨w1, rfl, e1⟩ := vals1 rz
  obtain rfl : w1 = Value.bool true := e1
  exact DL.sorted_run hu I hs l ok (fun _ => rfl) (PyProof.Rows.args_sorted_rev _ _) (fun _ => PyProof.Rows.args_list_sort_rev _ _) q
theorem el_sortRev {ta : TD} {k0 : Nat} {p1 p2 : Pos} (hu : X.A.units + 65 < cLine) (ha : ER X G a ta) (hg : Gl X "sorted") (hm : X.mg "sorted" = none)
    (he : backTo pos (starEach [a] X.env) = (false, eval a X.env) :: backTo pos (starEach [] X.env) := by rfl) (hs : starEach [a] X.env = (false, eval a X.env) :: starEach [] X.env := by rfl) (hpl : (backTo pos (starEach [a] X.env)).any (·.1) = false := by rfl) :
    EL X G (.Call (.Name "sorted" p) [a] [⟨some "reverse", .Constant (.bool true) k0 p1, p2⟩] pos) (tSortRev ta) := by
  refine ⟨PE.weak (pe_callBK (cr_sortedRevD hu) hg hm bb_sorted (pa_cons ha.pe pa_nil hs) (pk_cons pe_bl pk_nil) (by decide) (by decide) he hpl) fun σ H Q ⟨E, QE, r, q, k⟩ => ⟨E, _, r, q, fun x E1 v H1 q1 x1 r1 p1 => ?_⟩⟩
  have fin : ∀ (xs : List D), QE (sortD true xs) E1 → ∀ ws p, H1 p = none → RpL X.K H1 (sortD true xs) ws → Q (.ref p) (upd H1 p (.lst ws)) := fun xs qq ws p hp hr => by
    obtain ⟨r2, h0, na⟩ := r1.fresh (o := .lst ws) hp
    exact k _ _ _ _ _ qq (x1.trans (PExt.new hp).ext) r2 h0 na upd_same (hr.ext (PExt.new hp).ext)
  cases x with
  | list xs => obtain ⟨b, us, rfl, hs, l⟩ := p1.list; exact ⟨b, us, xs, rfl, rfl, .inl hs, l, q1.1, fin xs q1.2⟩
  | tuple xs => obtain ⟨b, us, rfl, hs, l⟩ := p1.tuple; exact ⟨b, us, xs, rfl, rfl, .inr hs, l, q1.1, fin xs q1.2⟩
  | _ => exact q1.elim
end
end DL

set_option Elab.async false
set_option linter.all false
set_option maxRecDepth 100000
set_option maxHeartbeats 1000000
/-! DL18: a list of one's own is frozen where it is handed on; calls without arguments. -/
namespace DL
open PySem PySem.Spec PyProof.Rows L2
section
variable {K : PySem.W.Frag} {G : Gh} {H : Hp} {E : Env} {σ : St}
theorem RelX.freezeM {i : Nat} {s0 : S} {a : Addr} {u' : HO} {d : D} (r : RelE K G H E σ) (e : E[i]? = some s0) (m0 : s0.isMut = true) (hs : σ[i]? = some (some (.ref a))) (p : Rp K (upd H a u') d (.ref a)) :
    RelE K G (upd H a u') (E.set i (.d d)) σ := by
  obtain ⟨l, k, pn, dm, x0, A, h1, h2, h3⟩ := r
  obtain ⟨b, e1, e2, e3⟩ := (h3 i _ e).mut m0
  rw [hs] at e2
  have e2' : a = b := by injection e2 with z; injection z with z; injection z
  subst e2'
  obtain ⟨u0, g1, g2, g3⟩ := e3.soft
  have x : Ext H (upd H a u') := Ext.putS g1 g2 g3
  have own := h2 i a (by rw [e1]; simp)
  have hl : i < E.length := (List.getElem?_eq_some_iff.mp e).1
  refine ⟨by simpa using l, fun q u he ne => ?_, pn, fun q hq => ?_, x0.trans x, fun j => if j = i then [] else A j, fun j m b q1 q2 => ?_, fun j b q1 => ?_, fun j s he => ?_⟩
  · have : q ≠ a := by
      rintro rfl
      rcases own.1 with z | z
      · exact ne z
      · rw [z] at he; cases he
    rw [upd_ne this]; exact k q u he ne
  · by_cases z : q = a
    · subst z; rw [upd_same]; simp
    · rw [upd_ne z]; exact dm q hq
  · dsimp only at q1 q2
    split at q1
    · cases q1
    · split at q2
      · cases q2
      · exact h1 j m b q1 q2
  · dsimp only at q1
    split at q1
    · cases q1
    · exact h2 j b q1
  · by_cases z : j = i
    · subst z
      rw [List.getElem?_set_self hl] at he
      cases he
      simp only [if_true]
      exact ⟨rfl, _, hs, p⟩
    · rw [List.getElem?_set_ne (Ne.symm z)] at he
      simp only [z, if_false]
      exact (h3 j s he).move x fun c hc => upd_ne fun zz => z (h1 j i c hc (by rw [e1, zz]; simp))
theorem RelX.freezeV {i : Nat} {xs : List D} {a : Addr} {vs : List V} {o : Obj} (r : RelE K G H E σ) (e : E[i]? = some (.ol xs)) (hs : σ[i]? = some (some (.ref a))) (ha : H a = some (.lst vs)) (p : RpL K H xs vs) :
    RelE K G (upd H a (.frz o (.lst vs))) (E.set i (.d (.list xs))) σ :=
  r.freezeM e rfl hs (.lst (.of upd_same) (p.ext (Ext.put ha)))
end
section
variable {X : Cx} {G : Gh} {e : Expr} {pos p0 : Pos} {x : Str}
theorem PE.fzIf {t : TE} (h : PE X e t) : PE X e (fun σ H Q => t σ H fun v H1 => Q v H1 ∨ ∃ a u, v = .ref a ∧ H1 a = some u ∧ Mut (some u) ∧ ∀ o, Q v (upd H1 a (.frz o u))) :=
  ⟨fun pins s σ H Q I q => thn (h.run pins s σ H _ I q) fun u s1 ⟨v, H1, I1, r1, q1⟩ => by
    rcases q1 with q1 | ⟨a, xs, e1, e2, mu, q1⟩
    · exact ⟨v, _, I1, r1, q1⟩
    · obtain ⟨o, I2⟩ := I1.lock e2 mu
      exact ⟨v, _, I2, r1, q1 o⟩⟩
def tFzV (i : Nat) : TD := fun E Q => match E[i]? with
  | some (.d x) => Q x E
  | some (.ol xs) => Q (.list xs) (E.set i (.d (.list xs)))
  | some (.dt kvs) => Q (.dict kvs) (E.set i (.d (.dict kvs)))
  | _ => False
theorem ed_fzv (i : Nat) (hN : X.N[i]? = some x := by rfl) (hv : Vis X.env.scope x := by first | exact Or.inl rfl | exact Or.inr (Or.inl rfl) | exact Or.inr (Or.inr rfl)) (hd : (x == ("__debug__" : Str)) = false := by decide)
    (hcd : (x == ("__classdict__" : Str)) = false := by decide) : ED X G (.Name x p0) (tFzV i) :=
  ⟨PE.weak (PE.fzIf (pe_var hN hv hd hcd)) fun σ H Q ⟨E, QE, r, q, k⟩ => by
    unfold tFzV at q
    split at q
    · rename_i d0 he
      obtain ⟨v, e1, e2⟩ := r.data he
      exact ⟨v, e1, .inl (k _ _ _ _ q (Ext.refl _) r e2)⟩
    · rename_i xs he
      obtain ⟨a, vs, e1, e2, e3⟩ := r.ol he
      exact ⟨_, e1, .inr ⟨a, _, rfl, e2, trivial, fun o => k _ _ _ _ q (Ext.put e2) (r.freezeV he e1 e2 e3) (.lst (.of upd_same) (e3.ext (Ext.put e2)))⟩⟩
    · rename_i kvs he
      obtain ⟨a, e1, es, e2, l, nd, sm⟩ := r.mutAt he rfl
      refine ⟨_, e1, .inr ⟨a, _, rfl, e2, trivial, fun o => ?_⟩⟩
      have x : Ext H (upd H a (.frz o (dO a es))) := Ext.putS e2 (fun _ z => by cases z) (fun _ _ z => by cases z)
      have p : Rp X.K (upd H a (.frz o (dO a es))) (.dict kvs) (.ref a) := .dct upd_same (l.ext x) nd sm
      exact k _ _ _ _ q x (r.freezeM he rfl e1 p) p
    · exact q.elim⟩
end
end DL

set_option Elab.async false
set_option linter.all false
set_option maxRecDepth 100000
set_option maxHeartbeats 1000000
/-! DL19: x > y of any data that is alike. -/
namespace DL
open PySem PySem.Spec PyProof.Rows L2
section
variable {X : Cx}
theorem op_gtD (hu : X.A.units + 65 < cLine) : OpR X (compareOp .Gt) (fun x y H Q => ∃ d e, Dp X.K H x d ∧ Dp X.K H y e ∧ PySem.W.alike d e = true ∧ d ≠ .none ∧ d.depth ≤ 60 ∧ Q (.bl (PySem.W.dataLt e d)) H) := by
  intro pins s σ H x y v u Q I rx ry h
  obtain ⟨d, e, hd, he, al, nn, dp, q⟩ := h
  obtain ⟨as, r1⟩ := Dp.reads I d x v hd rx
  obtain ⟨bs, r2⟩ := Dp.reads I e y u he ry
  have : min d.depth e.depth ≤ d.depth := Nat.min_le_left _ _
  exact PySem.W.gt_data r1 r2 al nn (by omega) ⟨.bl _, H, I, rfl, q⟩
def opGtD : OpT := fun x y Q => (PySem.W.alike x y = true ∧ x ≠ .none ∧ x.depth ≤ 60 ∧ x.canLay0 = true ∧ y.canLay0 = true) ∧ Q (.bool (PySem.W.dataLt y x))
theorem od_gtD (hu : X.A.units + 65 < cLine) : OpD X (compareOp .Gt) opGtD := ⟨_, op_gtD hu, fun x y v u H QD Q hx hy q k => ⟨x, y, hx.dp q.1.2.2.2.1, hy.dp q.1.2.2.2.2, q.1.1, q.1.2.1, q.1.2.2.1, k _ _ _ q.2 (PExt.refl _) (.bl _)⟩⟩
end
end DL

set_option Elab.async false
set_option linter.all false
set_option maxRecDepth 100000
set_option maxHeartbeats 1000000
/-! DL20: sum, min, max of a tuple of ints. -/
namespace DL
open PySem PySem.Spec PyProof.Rows L2
section
variable {prog : Program} {w : World} {A : Around} {E : Value → Shared → Prop} {s : Shared} {l : Addr} {xs : Array (Int × Tok)}
abbrev tItr (l : Addr) : Obj := { cls := .type "tuple_iterator", data := .fields #[.ref l, .int 0 0] }
theorem iterT {Q : Value → Shared → Prop} (hl : s.heap.IsTuple l (intItems xs))
    (fin : ∀ s₂ : Shared, s₂ = { s with heap := s.heap.push (tItr l) } → (s₂.heap.IsTupleIter s.heap.objs.size l 0 ∧ s₂.heap.IsTuple l (intItems xs)) → (∀ b ∈ [s.heap.objs.size, l], b < s₂.heap.objs.size) → l ≠ s.heap.objs.size → Q (.ref s.heap.objs.size) s₂) :
    wpAny (model prog w) A (pyIter (.ref l)) Q E s := by
  have lt : l < s.heap.objs.size := by obtain ⟨_, e, _⟩ := hl; exact Heap.lt_size e
  refine wpAny_pyIter_tuple hl (fin _ rfl ⟨⟨_, Heap.get?_push_size _ rfl, rfl, rfl⟩, hl.push _⟩ (fun b hb => ?_) (Nat.ne_of_lt lt))
  show b < (s.heap.push (tItr l)).objs.size
  rw [Heap.size_push]
  rcases (show b = s.heap.objs.size ∨ b = l by simpa using hb) with z | z <;> rw [z]
  · exact Nat.lt_succ_self _
  · exact Nat.lt_succ_of_lt lt
theorem keptT {h' : Heap} (hk : ∀ b o, b ∉ [s.heap.objs.size] → (s.heap.push (tItr l)).get? b = some o → h'.get? b = some o) : ∀ b o, s.heap.get? b = some o → h'.get? b = some o := fun b o e =>
  hk b o (fun hm => absurd (List.mem_singleton.mp hm ▸ Heap.lt_size e) (Nat.lt_irrefl _)) (Heap.get?_push_of_some _ e)
variable {its : List Value} {ns : List Int} {Q : Value → Shared → Prop}
theorem sum_tup (hh : A.handled = none) (hl : s.heap.IsTuple l its.toArray) (hi : IntsAre its ns) (fin : ∀ h' tk t', (∀ b o, s.heap.get? b = some o → h'.get? b = some o) → Q (.int ns.sum t') { s with heap := h', toks := tk }) :
    wpAny (model prog w) A (call (.builtin "sum") [.ref l]) Q E s := by
  obtain ⟨xs, e⟩ := hi.allInts.items
  have hn : numsOf (intItems xs).toList = ns := by rw [← e]; exact hi.numsOf
  rw [nums_intItems] at hn; rw [e] at hl
  refine call_sum_walkG (iterT hl fun s₂ e st hfp hlI => ?_); subst e
  refine ⟨_, _, _, _, _, _, numAt xs, rfl, Walks.tuple (A := A.in1) hh _ l hlI (intItems xs), st, hfp, (fun _ _ => intItems_at), fun h' tk t' hk => ?_⟩
  have := fin h' tk t' (keptT hk)
  rw [← hn] at this
  have e2 : preSum (numAt xs) xs.size = (xs.toList.map (·.1)).sum := by rw [preSum_eq, List.take_of_length_le (by simp)]
  rw [← e2] at this
  simpa [intItems] using this
theorem max_tup (hh : A.handled = none) (hl : s.heap.IsTuple l its.toArray) (hi : IntsAre its ns) (hne : 0 < ns.length) (fin : ∀ h' tk M t', (∀ b o, s.heap.get? b = some o → h'.get? b = some o) → M ∈ ns → (∀ a, a ∈ ns → a ≤ M) → Q (.int M t') { s with heap := h', toks := tk }) :
    wpAny (model prog w) A (call (.builtin "max") [.ref l]) Q E s := by
  obtain ⟨xs, e⟩ := hi.allInts.items
  have hn : numsOf (intItems xs).toList = ns := by rw [← e]; exact hi.numsOf
  rw [nums_intItems] at hn; subst hn; rw [e] at hl
  have hsz : 0 < xs.size := by simpa using hne
  refine call_max_walk (iterT hl fun s₂ e st hfp hlI => ?_); subst e
  refine ⟨_, _, _, _, _, _, _, rfl, Walks.tuple (A := A.in1) hh _ l hlI (intItems xs), st, hfp, by simpa [intItems] using hsz, CmpOf.ints_gt (numAt xs) (fun _ _ => intItems_at), fun v h' tk hP hk => ?_⟩
  have hv : (intItems xs)[argBest (fun i j => decide (numAt xs i > numAt xs j)) (xs.size - 1)]? = some v := by simpa [intItems] using hP
  obtain ⟨t, rfl⟩ := intItems_at hv
  obtain ⟨h1, h2⟩ := argBest_gt (numAt xs) (xs.size - 1)
  refine fin h' tk _ t (keptT hk) ?_ fun a ha => ?_
  · rw [numAt_eq]; exact PySem.getD_mem (by rw [List.length_map, Array.length_toList]; omega)
  · obtain ⟨j, hj, rfl⟩ := mem_getD ha
    rw [List.length_map, Array.length_toList] at hj; rw [← numAt_eq]; exact h2 j (by omega)
theorem min_tup (hh : A.handled = none) (hl : s.heap.IsTuple l its.toArray) (hi : IntsAre its ns) (hne : 0 < ns.length) (fin : ∀ h' tk M t', (∀ b o, s.heap.get? b = some o → h'.get? b = some o) → M ∈ ns → (∀ a, a ∈ ns → M ≤ a) → Q (.int M t') { s with heap := h', toks := tk }) :
    wpAny (model prog w) A (call (.builtin "min") [.ref l]) Q E s := by
  obtain ⟨xs, e⟩ := hi.allInts.items
  have hn : numsOf (intItems xs).toList = ns := by rw [← e]; exact hi.numsOf
  rw [nums_intItems] at hn; subst hn; rw [e] at hl
  have hsz : 0 < xs.size := by simpa using hne
  refine call_min_walk (iterT hl fun s₂ e st hfp hlI => ?_); subst e
  refine ⟨_, _, _, _, _, _, _, rfl, Walks.tuple (A := A.in1) hh _ l hlI (intItems xs), st, hfp, by simpa [intItems] using hsz, CmpOf.ints_lt (numAt xs) (fun _ _ => intItems_at), fun v h' tk hP hk => ?_⟩
  have hv : (intItems xs)[argBest (fun i j => decide (numAt xs i < numAt xs j)) (xs.size - 1)]? = some v := by simpa [intItems] using hP
  obtain ⟨t, rfl⟩ := intItems_at hv
  obtain ⟨h1, h2⟩ := argBest_lt (numAt xs) (xs.size - 1)
  refine fin h' tk _ t (keptT hk) ?_ fun a ha => ?_
  · rw [numAt_eq]; exact PySem.getD_mem (by rw [List.length_map, Array.length_toList]; omega)
  · obtain ⟨j, hj, rfl⟩ := mem_getD ha
    rw [List.length_map, Array.length_toList] at hj; rw [← numAt_eq]; exact h2 j (by omega)
end
section
variable {X : Cx}
theorem cr_sumT (hc : X.calm = true) : CallR X (.builtin "sum") (fun vs H Q => ∃ (a : Addr) (ns : List Int), vs = [V.ref a] ∧ SqT X.K H a (ns.map V.int) ∧ Q (.int ns.sum) H) := by
  intro pins s σ H vs us Q I r h
  obtain ⟨a, ns, rfl, hs, q⟩ := h
  obtain ⟨its, rv, hl, _⟩ := I.tuple hs
  rw [Vals.ref1 r]
  exact sum_tup (I.ok.hd hc) hl rv.ints fun h' tk t' hk => ⟨.int _, H, I.kept hk, ⟨_, rfl⟩, q⟩
theorem cr_maxT (hc : X.calm = true) : CallR X (.builtin "max") (fun vs H Q => ∃ (a : Addr) (ns : List Int), vs = [V.ref a] ∧ SqT X.K H a (ns.map V.int) ∧ 0 < ns.length ∧ ∀ m, m ∈ ns → (∀ y, y ∈ ns → y ≤ m) → Q (.int m) H) := by
  intro pins s σ H vs us Q I r h
  obtain ⟨a, ns, rfl, hs, hne, q⟩ := h
  obtain ⟨its, rv, hl, _⟩ := I.tuple hs
  rw [Vals.ref1 r]
  exact max_tup (I.ok.hd hc) hl rv.ints hne fun h' tk m t' hk h1 h2 => ⟨.int _, H, I.kept hk, ⟨_, rfl⟩, q m h1 h2⟩
theorem cr_minT (hc : X.calm = true) : CallR X (.builtin "min") (fun vs H Q => ∃ (a : Addr) (ns : List Int), vs = [V.ref a] ∧ SqT X.K H a (ns.map V.int) ∧ 0 < ns.length ∧ ∀ m, m ∈ ns → (∀ y, y ∈ ns → m ≤ y) → Q (.int m) H) := by
  intro pins s σ H vs us Q I r h
  obtain ⟨a, ns, rfl, hs, hne, q⟩ := h
  obtain ⟨its, rv, hl, _⟩ := I.tuple hs
  rw [Vals.ref1 r]
  exact min_tup (I.ok.hd hc) hl rv.ints hne fun h' tk m t' hk h1 h2 => ⟨.int _, H, I.kept hk, ⟨_, rfl⟩, q m h1 h2⟩
def caSumT : CaT := fun ds Q => match ds with
  | [.tuple xs] => ∃ ns : List Int, xs = ns.map PyData.int ∧ Q (.int ns.sum)
  | _ => False
def caMaxT : CaT := fun ds Q => match ds with
  | [.tuple xs] => ∃ ns : List Int, xs = ns.map PyData.int ∧ 0 < ns.length ∧ ∀ m, m ∈ ns → (∀ y, y ∈ ns → y ≤ m) → Q (.int m)
  | _ => False
def caMinT : CaT := fun ds Q => match ds with
  | [.tuple xs] => ∃ ns : List Int, xs = ns.map PyData.int ∧ 0 < ns.length ∧ ∀ m, m ∈ ns → (∀ y, y ∈ ns → m ≤ y) → Q (.int m)
  | _ => False
theorem cd_sumT (hc : X.calm = true) : CaD X (.builtin "sum") caSumT := ⟨_, cr_sumT hc, fun ds vs H QD Q hd q k => by
  match ds, q, hd with
  | [.tuple xs], q, hd =>
    obtain ⟨v, rfl, h⟩ := hd.one
    obtain ⟨a, us, rfl, hs, l⟩ := h.tuple
    obtain ⟨ns, rfl, q⟩ := q
    rw [l.ints] at hs
    exact ⟨a, ns, rfl, hs, k _ _ _ q (PExt.refl _) (.int _)⟩⟩
theorem cd_maxT (hc : X.calm = true) : CaD X (.builtin "max") caMaxT := ⟨_, cr_maxT hc, fun ds vs H QD Q hd q k => by
  match ds, q, hd with
  | [.tuple xs], q, hd =>
    obtain ⟨v, rfl, h⟩ := hd.one
    obtain ⟨a, us, rfl, hs, l⟩ := h.tuple
    obtain ⟨ns, rfl, hn, q⟩ := q
    rw [l.ints] at hs
    exact ⟨a, ns, rfl, hs, hn, fun m h1 h2 => k _ _ _ (q m h1 h2) (PExt.refl _) (.int _)⟩⟩
theorem cd_minT (hc : X.calm = true) : CaD X (.builtin "min") caMinT := ⟨_, cr_minT hc, fun ds vs H QD Q hd q k => by
  match ds, q, hd with
  | [.tuple xs], q, hd =>
    obtain ⟨v, rfl, h⟩ := hd.one
    obtain ⟨a, us, rfl, hs, l⟩ := h.tuple
    obtain ⟨ns, rfl, hn, q⟩ := q
    rw [l.ints] at hs
    exact ⟨a, ns, rfl, hs, hn, fun m h1 h2 => k _ _ _ (q m h1 h2) (PExt.refl _) (.int _)⟩⟩
end
end DL

set_option Elab.async false
set_option linter.all false
set_option maxRecDepth 100000
set_option maxHeartbeats 1000000
/-! DL21: zip of a list and a tuple. -/
namespace DL
open PySem PySem.Spec PyProof.Rows L2
/-- the list at a and the tuple at b, the items in new pairs -/
def ItzM (K : PySem.W.Frag) (a b : Addr) : It :=
  ⟨fun i H => ∃ (xs ys : List V) (x y : V), SqL K H a xs ∧ SqT K H b ys ∧ xs[i]? = some x ∧ ys[i]? = some y,
    fun i H v H' => ∃ T x y, v = .ref T ∧ H T = none ∧ H' = upd H T (.tup [x, y]) ∧ (∀ xs, SqL K H a xs → xs[i]? = some x) ∧ ∀ ys, SqT K H b ys → ys[i]? = some y,
    fun i H => ∃ xs ys : List V, SqL K H a xs ∧ SqT K H b ys ∧ i ≤ xs.length ∧ i ≤ ys.length ∧ (i = xs.length ∨ i = ys.length)⟩
theorem turn_zipM {P : Program} {w : World} {K : PySem.W.Frag} {elts : List Expr} {kk : Nat} {tpos : Pos} {a b z TI TO i1 i2 : Addr} (D : ZipSep2 z TI TO i1 i2 [i1, a] [i2, b]) (ha : a ≠ i1) (hb : b ≠ i2) :
    Turn P w K (.Tuple elts kk tpos) (ItzM K a b) [z, TI, TO, i1, i2] z (fun i h => IsZip h z TI TO .none ∧ IsTupOf2 h TI (.ref i1) (.ref i2) ∧ (∃ x y, IsTupOf2 h TO x y) ∧ h.IsListIter i1 a i ∧ h.IsTupleIter i2 b i) where
  mem := by simp
  obj := fun i h st c hc => by
    obtain ⟨hz, hTI, ⟨x, y, hTO⟩, ⟨o1, e1, _, d1⟩, ⟨o2, e2, _, d2⟩⟩ := st
    rcases (show c = z ∨ c = TI ∨ c = TO ∨ c = i1 ∨ c = i2 by simpa using hc) with q | q | q | q | q <;> rw [q]
    · exact ⟨_, hz, fun v q => nomatch q⟩
    · exact ⟨_, hTI, fun v q => nomatch q⟩
    · exact ⟨_, hTO, fun v q => nomatch q⟩
    · exact ⟨o1, e1, fun v q => by rw [d1] at q; cases q⟩
    · exact ⟨o2, e2, fun v q => by rw [d2] at q; cases q⟩
  keep := fun i h h' st k => by
    obtain ⟨hz, hTI, ⟨x, y, hTO⟩, h1, h2⟩ := st
    exact ⟨k z (by simp) _ hz, k TI (by simp) _ hTI, ⟨x, y, k TO (by simp) _ hTO⟩, h1.at fun o q => k i1 (by simp) o q, h2.at fun o q => k i2 (by simp) o q⟩
  item := by
    intro X hP hw hK hc i pins s σ H E I hf st hg
    subst hP hw hK
    obtain ⟨hz, hTI, ⟨x0, y0, hTO⟩, h1, h2⟩ := st
    obtain ⟨xs, ys, x, y, hqx, hqy, hx, hy⟩ := hg
    obtain ⟨its, rv, p, _⟩ := I.list hqx
    obtain ⟨its2, rv2, p2, _⟩ := I.tuple hqy
    obtain ⟨u, hu, ru⟩ := rv.get hx
    obtain ⟨u2, hu2, ru2⟩ := rv2.get hy
    have hzl : z < s.heap.objs.size := Heap.lt_size hz
    have t1 : i < its.toArray.size := by simpa using (List.getElem?_eq_some_iff.mp hu).1
    have t2 : i < its2.toArray.size := by simpa using (List.getElem?_eq_some_iff.mp hu2).1
    refine wpAny_pyNext_zipD2_item D (Draws.list (A := X.A.in1) (I.ok.hd hc) i1 a ha its.toArray) (Draws.tuple (A := X.A.in1) (I.ok.hd hc) i2 b hb its2.toArray) hz hTI hTO ⟨h1, p.isList⟩ ⟨h2, p2⟩ t1 t2 fun v1 v2 h' tk g1 g2 z' TO' h1' h2' hT hsz hk => ?_
    have q1 : its[i]? = some v1 := by simpa using g1
    have q2 : its2[i]? = some v2 := by simpa using g2
    obtain rfl : v1 = u := by rw [hu] at q1; exact (Option.some.inj q1).symm
    obtain rfl : v2 = u2 := by rw [hu2] at q2; exact (Option.some.inj q2).symm
    refine ⟨_, rfl, wpAny_letOwnedTupleGo_zip (s := { s with heap := h', toks := tk }) z' fun h'' z'' sb => ?_⟩
    have hT2 : h''.get? s.heap.objs.size = some { cls := .type "tuple", data := .seq #[v1, v2] } := (sb.2 _ (Nat.ne_of_gt hzl)).trans hT
    have new : ObjOk X.prog X.w (upd H s.heap.objs.size (.tup [x, y])) h'' s.heap.objs.size (.tup [x, y]) := ⟨by show 2 ≤ sizeLine; decide, [v1, v2], .cons ru (.cons ru2 .nil), ⟨_, hT2, rfl, _, rfl⟩⟩
    have I1 : Inv X pins σ (upd H s.heap.objs.size (.tup [x, y])) { s with heap := h'', toks := tk } :=
      I.turnedNew (ch := [z, TI, TO, i1, i2]) (fun c o hb q => (sb.2 c (fun q' => hb (by simp [q']))).trans (hk c o (fun q' => hb (by simp [q'])) (fun q' => hb (by simp [q'])) (fun q' => hb (by simp [q'])) (fun q' => hb (by simp [q'])) q)) hf (Nat.le_refl _) new
    refine ⟨.ref s.heap.objs.size, _, I1, rfl, ⟨_, x, y, rfl, I.hok.fresh (Nat.le_refl _), rfl, fun l hl => by rw [I.list_inj hl hqx]; exact hx, fun l hl => by rw [I.tuple_inj hl hqy]; exact hy⟩, ⟨z'', ?_, ⟨v1, v2, (sb.2 _ D.TOz).trans TO'⟩, h1'.1.at fun o q => (sb.2 _ (Ne.symm D.zi1)).trans q, h2'.1.at fun o q => (sb.2 _ (Ne.symm D.zi2)).trans q⟩, fun c hcm => ?_⟩
    · exact (sb.2 _ D.TIz).trans (hk _ _ D.TIz D.TITO D.TIi1 D.TIi2 hTI)
    · have hlt : c < s.heap.objs.size := by
        rcases (show c = z ∨ c = TI ∨ c = TO ∨ c = i1 ∨ c = i2 by simpa using hcm) with q | q | q | q | q <;> rw [q]
        · exact hzl
        · exact Heap.lt_size hTI
        · exact Heap.lt_size hTO
        · obtain ⟨_, e1, _⟩ := h1; exact Heap.lt_size e1
        · obtain ⟨_, e2, _⟩ := h2; exact Heap.lt_size e2
      rw [upd_ne (Nat.ne_of_lt hlt)]; exact (hf c hcm).1
  done := by
    intro X hP hw hK hc i pins s σ H E I hf st hg
    subst hP hw hK
    obtain ⟨hz, hTI, ⟨x0, y0, hTO⟩, h1, h2⟩ := st
    obtain ⟨xs, ys, hqx, hqy, le1, le2, hend⟩ := hg
    obtain ⟨its, rv, p, _⟩ := I.list hqx
    obtain ⟨its2, rv2, p2, _⟩ := I.tuple hqy
    have l1 := rv.length
    have l2 := rv2.length
    exact wpAny_pyNext_zipD2_end D (Draws.list (A := X.A.in1) (I.ok.hd hc) i1 a ha its.toArray) (Draws.tuple (A := X.A.in1) (I.ok.hd hc) i2 b hb its2.toArray) hz hTI hTO ⟨h1, p.isList⟩ ⟨h2, p2⟩ (by simp; omega) (by simp; omega) (by simp; omega) fun h' tk hk => ⟨rfl, I.turnedL (t' := tk) (ch := [z, TI, TO, i1, i2]) (fun c o hb q =>
      hk c o (fun q' => hb (by simp [q'])) (fun q' => hb (by simp [q'])) (fun q' => hb (by simp [q'])) (fun q' => hb (by simp [q'])) q) hf⟩
  self := fun A i s Q E st h => wpAny_pyIter_zip st.1 h
section
variable {X : Cx} {G : Gh} {a b : Expr} {p pos tpos : Pos} {elts : List Expr} {kk : Nat}
theorem pi_zipM {ta : TA} (hg : Gl X "zip") (hm : X.mg "zip" = none) (ha : PA X [a, b] ta) (hs : starEach [a, b] X.env = (false, eval a X.env) :: starEach [b] X.env := by rfl) (hpl : (backTo pos (starEach [b] X.env)).any (·.1) = false := by rfl) :
    PI X (.Tuple elts kk tpos) (.Call (.Name "zip" p) [a, b] [] pos) (fun σ H R => ta σ H fun vs H1 => ∃ a b xs ys, vs = [.ref a, .ref b] ∧ SqL X.K H1 a xs ∧ SqT X.K H1 b ys ∧ R (ItzM X.K a b) H1) := by
  refine ⟨fun pins s σ H R I h => Call_ (ld_blt I hg hm PyProof.Rows.boot_zip (PyProof.Rows.callWith_type1 (thn (ha.run pos pins s σ H _ I h) fun us s1 ⟨vs, H1, I1, r1, q1⟩ => ?_) hs hpl))⟩
  obtain ⟨a, b, xs, ys, rfl, hqx, hqy, q⟩ := q1
  obtain ⟨w1, w2, rfl, e1, e2⟩ := vals2 r1
  obtain rfl : w1 = Value.ref a := e1
  obtain rfl : w2 = Value.ref b := e2
  obtain ⟨its, rv, p, _⟩ := I1.list hqx
  obtain ⟨its2, rv2, p2, _⟩ := I1.tuple hqy
  have lta : a < s1.heap.objs.size := by obtain ⟨_, _, ho, _⟩ := p; exact Heap.lt_size ho
  have ltb : b < s1.heap.objs.size := by obtain ⟨_, ho, _⟩ := p2; exact Heap.lt_size ho
  refine zip_begins2 (begins_list a its.toArray) (begins_tuple b its2.toArray) p.isList p2 fun h' hz hTI hTO g1 g2 _ hk => wpAny_pyIter_zip hz ?_
  have I2 : Inv X pins σ H1 { s1 with heap := h' } := I1.kept (t' := s1.toks) hk
  refine ⟨s1.heap.objs.size + 4, [s1.heap.objs.size + 4, s1.heap.objs.size + 2, s1.heap.objs.size + 3, s1.heap.objs.size, s1.heap.objs.size + 1], _, _, H1, rfl, I2, turn_zipM (zip_sep2 (fp1 := [a]) (fp2 := [b]) (fun c hc => by rw [List.mem_singleton.mp hc]; exact lta) (fun c hc => by rw [List.mem_singleton.mp hc]; exact ltb)) (Nat.ne_of_lt lta) (Nat.ne_of_lt (Nat.lt_succ_of_lt ltb)), ⟨hz, hTI, ⟨_, _, hTO⟩, ⟨_, g1, rfl, rfl⟩, ⟨_, g2, rfl, rfl⟩⟩, fun c hc => ?_, q⟩
  have hle : s1.heap.objs.size ≤ c := by
    have := (show c = s1.heap.objs.size + 4 ∨ c = s1.heap.objs.size + 2 ∨ c = s1.heap.objs.size + 3 ∨ c = s1.heap.objs.size ∨ c = s1.heap.objs.size + 1 by simpa using hc)
    rcases this with z | z | z | z | z <;> rw [z]
    all_goals first | exact Nat.le_refl _ | exact Nat.le_add_right _ _
  exact I1.fpOk hle (I1.hok.fresh hle)
def iZipM (ta tb : TD) : TDs := fun E Q => ta E fun x E1 => tb E1 fun y E2 => match x, y with
  | .list xs, .tuple ys => Q (zipD xs ys) E2
  | _, _ => False
theorem walkD_zipM {K : PySem.W.Frag} {H : Hp} {a b : Addr} {vs us : List V} {ds es : List D} (h : LsF K H a vs) (h' : SqT K H b us) (l : RpL K H ds vs) (l' : RpL K H es us) : WalkD true K (ItzM K a b) H (zipD ds es) where
  goes := fun i H' x hi => by
    rw [zipD_len, l.length, l'.length] at hi
    exact ⟨vs, us, vs[i], us[i], (LsF.ext x h).sq, SqT.ext x h', List.getElem?_eq_getElem _, List.getElem?_eq_getElem _⟩
  yld := fun i H' v H2 x hi hy => by
    obtain ⟨T, v1, v2, rfl, hT, rfl, e1, e2⟩ := hy
    obtain ⟨d, hd, p⟩ := l.getV (e1 vs (LsF.ext x h).sq)
    obtain ⟨d', hd', p'⟩ := l'.getV (e2 us (SqT.ext x h'))
    have px := PExt.new (o := .tup [v1, v2]) hT
    exact ⟨px, _, zipD_get hd hd', .pair (SqT.of upd_same) (.cons ((p.ext x).ext px.ext) (.cons ((p'.ext x).ext px.ext) .nil))⟩
  stops := fun H' x => ⟨vs, us, (LsF.ext x h).sq, SqT.ext x h', by rw [zipD_len, l.length, l'.length]; omega, by rw [zipD_len, l.length, l'.length]; omega, by rw [zipD_len, l.length, l'.length]; omega⟩
theorem id_zipM {ta tb : TD} (ha : ED X G a ta) (hb : ED X G b tb) (hg : Gl X "zip") (hm : X.mg "zip" = none)
    (hs : starEach [a, b] X.env = (false, eval a X.env) :: starEach [b] X.env := by rfl) (hs2 : starEach [b] X.env = (false, eval b X.env) :: starEach [] X.env := by rfl) (hpl : (backTo pos (starEach [b] X.env)).any (·.1) = false := by rfl) :
    ID X G true (.Tuple elts kk tpos) (.Call (.Name "zip" p) [a, b] [] pos) (iZipM ta tb) := by
  refine ⟨PI.weak (pi_zipM hg hm (pa_cons ha.pe (pa_cons hb.pe pa_nil hs2) hs) hs hpl) fun σ H R ⟨E, QE, rel, q, k⟩ => ⟨E, _, rel, q, fun x E1 v H1 q1 x1 r1 p1 => ⟨E1, _, r1, q1, fun y E2 u H2 q2 x2 r2 p2 => ?_⟩⟩⟩
  have p1 := p1.ext x2
  cases p1 with
  | lst h1 l1 =>
    cases p2 with
    | tup h2 l2 => exact ⟨_, _, _, _, rfl, h1.sq, h2.1, k _ _ _ _ q2 (x1.trans x2) r2 (walkD_zipM h1 h2.1 l1 l2)⟩
    | _ => exact q2.elim
  | _ => cases p2 <;> exact q2.elim
end
end DL

set_option Elab.async false
set_option linter.all false
set_option maxRecDepth 100000
set_option maxHeartbeats 1000000
/-! DL22: t[::-1] of a tuple, str of an int, tuple * int, a chain of three comparisons, zip of three tuples, a comprehension with effects. -/
namespace DL
open PySem PySem.Spec PyProof.Rows L2
section
variable {prog : Program} {w : World} {A : Around} {E : Value → Shared → Prop} {s : Shared}
theorem sliceApplied_rev {sl : Addr} {vs : Value} {n : Nat} {Q : Int × Int × Nat → Shared → Prop} (hs : s.heap.IsSliceOf sl .none .none vs) (ps : IsPart vs (some (-1)))
    (h : Q ((n : Int) - 1, -1, n) s) : wpAny (model prog w) A (Builtin.Slice.sliceApplied (.ref sl) (pure (n : Int))) Q E s := by
  obtain ⟨os, hos, hcs, hds⟩ := id hs
  unfold Builtin.Slice.sliceApplied Builtin.Slice.sliceFields
  refine wpAny_bind (wpAny_bind (wpAny_field hos hds (x := .none) rfl (wpAny_bind (wpAny_field hos hds (x := .none) rfl (wpAny_bind (wpAny_field hos hds (x := vs) rfl (wpAny_pure ?_)))))))
  refine wpAny_bind (HT.slicePart_ ps ?_)
  show wpAny _ _ (if ((-1 : Int) == 0) = true then _ else _) _ _ s
  rw [if_neg (by decide)]
  refine wpAny_bind (slicePart_none (wpAny_bind (slicePart_none (wpAny_bind (wpAny_pure ?_)))))
  show wpAny _ _ (pure ((n : Int) - 1, (-1 : Int), Builtin.Slice.slicePlaces ((n : Int) - 1) (-1) (-1))) _ _ s
  have e : Builtin.Slice.slicePlaces ((n : Int) - 1) (-1) (-1) = n := by
    unfold Builtin.Slice.slicePlaces
    rw [if_neg (by decide)]
    split
    · have : ((n : Int) - 1 - -1 - 1) / (- -1) = n - 1 := by
        rw [show (- -1 : Int) = 1 from rfl, Int.ediv_one]; omega
      rw [this]; omega
    · omega
  rw [e]
  exact wpAny_pure h
theorem fm_congr {α β : Type} {f g : α → Option β} : ∀ {l : List α}, (∀ k ∈ l, f k = g k) → l.filterMap f = l.filterMap g
  | [], _ => rfl
  | a :: l, h => by rw [List.filterMap_cons, List.filterMap_cons, h a (List.mem_cons_self ..), fm_congr fun k hk => h k (List.mem_cons_of_mem _ hk)]
theorem pick_rev (xs : Array Value) : ((List.range xs.size).filterMap fun (k : Nat) => xs[(((xs.size : Int) - 1) + (k : Int) * (-1)).toNat]?).toArray = xs.toList.reverse.toArray := by
  congr 1
  have h : ∀ k ∈ List.range xs.size, xs[(((xs.size : Int) - 1) + (k : Int) * (-1)).toNat]? = xs.toList.reverse[k]? := fun k hk => by
    have hk := List.mem_range.mp hk
    rw [show ((((xs.size : Int) - 1) + (k : Int) * (-1)).toNat) = xs.size - 1 - k by omega, List.getElem?_reverse (by simpa using hk)]
    simp
  rw [fm_congr h]
  have g : ∀ (l : List Value), (List.range l.length).filterMap (fun k => l[k]?) = l := by
    intro l
    refine List.ext_getElem? fun i => ?_
    have : (List.range l.length).filterMap (fun k => l[k]?) = l := by
      have e2 : (List.range l.length).filterMap (fun k => l[k]?) = (List.range l.length).attach.map fun p => l[p.1]'(List.mem_range.mp p.2) := by
        have : ∀ (m : List Nat) (hm : ∀ k ∈ m, k < l.length), m.filterMap (fun k => l[k]?) = m.attach.map fun p => l[p.1]'(hm p.1 p.2) := by
          intro m
          induction m with
          | nil => intro _; rfl
          | cons a m ih =>
            intro hm
            rw [List.filterMap_cons, List.getElem?_eq_getElem (hm a (List.mem_cons_self ..)), List.attach_cons, List.map_cons]
            dsimp only
            rw [ih fun k hk => hm k (List.mem_cons_of_mem _ hk), List.map_map]
            rfl
        exact this _ fun k hk => List.mem_range.mp hk
      rw [e2]
      refine List.ext_getElem (by simp) fun i h1 h2 => ?_
      simp
    rw [this]
  have := g xs.toList.reverse
  rw [List.length_reverse, Array.length_toList] at this
  exact this
theorem rev_tuple {t sl : Addr} {items : Array Value} {vs : Value} {Q : Value → Shared → Prop} (ht : IsTup s.heap t items) (hs : s.heap.IsSliceOf sl .none .none vs) (ps : IsPart vs (some (-1)))
    (h : Q (.ref s.heap.objs.size) { s with heap := s.heap.push { cls := .type "tuple", data := .seq items.toList.reverse.toArray } }) (hsz : items.size ≤ sizeLine) : wpAny (model prog w) A (getItem (.ref t) (.ref sl)) Q E s := by
  have htake : sizeOk (.seq items.toList.reverse.toArray) := by
    show items.toList.reverse.toArray.size ≤ sizeLine
    rw [List.size_toArray, List.length_reverse, Array.length_toList]; exact hsz
  obtain ⟨os, hos, hcs, hds⟩ := id hs
  have hTs : s.TypeIs (.ref sl) "slice" := ⟨os, hos, hcs⟩
  unfold getItem
  try with_reducible refine wpAny_holding ?_
  first | refine wpAny_bind (wpAny_pure ?_) | skip
  refine wpAny_bind (wpAny_sequenceKey ht.typeIs (by decide) ?_)
  refine wpAny_bind (wpAny_callSpecial?_slot (name := Str.ofString "__getitem__") ht.typeIs PyProof.Rows.slot_tuple_getitem
    (wpAny_call_entry PyProof.Rows.slot_tuple_getitem ht.typeIs entry_tuple_getitem ?_ (args_tuple_getitem _ _)))
  show wpAny _ _ (Builtin.Tuple.tupleItemsOf (.ref t) >>= _) _ _ s
  refine wpAny_bind (tupleItemsOf_ ht ?_)
  refine wpAny_bind (wpAny_typeOf hTs ?_)
  rw [if_pos (by decide)]
  refine wpAny_bind (sliceApplied_rev hs ps ?_)
  have hno : ¬ (((((items.size : Int) - 1) == 0 && (-1 : Int) == 1 && items.size == items.size) = true)) := by simp
  show wpAny _ _ (if (((items.size : Int) - 1) == 0 && (-1 : Int) == 1 && items.size == items.size) = true then _ else _) _ _ s
  rw [if_neg hno, pick_rev]
  first
    | exact wpAny_bind (m := Builtin.Tuple.tupleExact _) (wpAny_newObj_type (wpAny_pure ⟨_, rfl, wpAny_pure h⟩) htake)
    | exact wpAny_bind (m := Builtin.Tuple.tupleExact _) (wpAny_newObj_type (wpAny_bind (wpAny_pure (wpAny_pure ⟨_, rfl, wpAny_pure h⟩))) htake)
    | exact wpAny_bind (wpAny_bind (m := Builtin.Tuple.tupleExact _) (wpAny_newObj_type (wpAny_pure (wpAny_pure ⟨_, rfl, wpAny_pure h⟩)) htake))
    | exact wpAny_bind (wpAny_bind (m := Builtin.Tuple.tupleExact _) (wpAny_newObj_type (wpAny_pure ⟨_, rfl, wpAny_pure h⟩) htake))
end
section
variable {X : Cx} {G : Gh} {a b c d e : Expr} {pos p p1 p2 p3 : Pos}
theorem pe_revT {te : TE} {k : Nat} (he : PE X e te) : PE X (.Subscript e (.Slice none none (some (.UnaryOp .USub (.Constant (.int 1) k p1) p2)) p3) pos)
    (fun σ H Q => te σ H fun x H1 => ∃ a xs, x = .ref a ∧ SqT X.K H1 a xs ∧ ∀ p o, H1 p = none → o.dict = none → Q (.ref p) (upd H1 p (.frz o (.tup xs.reverse)))) := by
  refine ⟨fun pins s σ H Q I h => ?_⟩
  refine Subscript_ (thn (he.run pins s σ H _ I h) fun v s1 ⟨x, H1, I1, r1, q1⟩ => ?_)
  obtain ⟨a, xs, ex, hx, q⟩ := q1
  subst ex
  cases r1
  have hst : PO X (some (.UnaryOp .USub (.Constant (.int 1) k p1) p2)) (tPart (tUn (rU fun i => .int (-i)) (tC (.int 1)))) := po_some (pe_un un_neg pe_int)
  refine wpAny_Slice (thn (po_none.run pins s1 σ H1 (fun o H2 => o = none ∧ H2 = H1) I1 ⟨rfl, rfl⟩) fun vl s2 ⟨l, H2, I2, pl, el, e2⟩ => ?_)
  subst el e2
  refine thn (po_none.run pins s2 σ H2 (fun o H3 => o = none ∧ H3 = H2) I2 ⟨rfl, rfl⟩) fun vu s3 ⟨u, H3, I3, pu, eu, e3⟩ => ?_
  subst eu e3
  refine thn (hst.run pins s3 σ H3 (fun o H4 => o = some (-1) ∧ H4 = H3) I3 ⟨1, rfl, -1, rfl, rfl, rfl⟩) fun vs s4 ⟨o, H4, I4, ps, eo, e4⟩ => ?_
  subst eo e4
  have I5 : Inv X pins σ H4 { s4 with heap := s4.heap.push { cls := .type "slice", data := .fields #[vl, vu, vs] } } := I4.kept (t' := s4.toks) fun b ob q => Heap.get?_push_of_some _ q
  obtain ⟨its, r, ht, hz⟩ := I5.tuple hx
  have hlen := r.length
  cases pl
  cases pu
  show wpAny (model X.prog X.w) X.A (subscriptTail e (.Slice none none (some (.UnaryOp .USub (.Constant (.int 1) k p1) p2)) p3) (.ref a) (.ref s4.heap.objs.size)) (EP X pins σ Q) X.xe { s4 with heap := s4.heap.push { cls := .type "slice", data := .fields #[.none, .none, vs] } }
  refine tail_any (ops := [.ref a, .ref s4.heap.objs.size]) ht.typeIs (PyProof.Rows.slot_tuple_getitem.lookup) ?_ (by with_unfolding_all rfl)
  refine rev_tuple ht (Heap.IsSliceOf.new _ .none .none vs) ps ?_ (by rw [List.size_toArray]; omega)
  exact ⟨.ref _, _, I5.laid (t' := s4.toks) (o := .frz _ (.tup xs.reverse)) (fun b ob q => Heap.get?_push_of_some _ q) (Nat.le_refl _) ⟨Heap.get?_push_size _ rfl, by rw [List.length_reverse]; exact hz, _, r.reverse, IsTup.new _ _⟩, rfl, q _ _ (I5.hok.fresh (Nat.le_refl _)) rfl⟩
/-- t[::-1] of a tuple -/
def tRevT (ta : TD) : TD := fun E Q => ta E fun x E1 => match x with
  | .tuple xs => Q (.tuple xs.reverse) E1
  | _ => False
theorem ed_revT {k : Nat} {ta : TD} (ha : ED X G a ta) : ED X G (.Subscript a (.Slice none none (some (.UnaryOp .USub (.Constant (.int 1) k p1) p2)) p3) pos) (tRevT ta) :=
  ⟨PE.weak (pe_revT ha.pe) fun σ H Q ⟨E, QE, rel, q, k⟩ => ⟨E, _, rel, q, fun x E1 v H1 q1 x1 r1 p1 => by
    cases p1 with
    | tup hs ll => exact ⟨_, _, rfl, hs.1, fun p o hp ho => k _ _ _ _ q1 (x1.trans (PExt.new hp).ext) (r1.pext (PExt.new hp)) (.tup (.new ho) (ll.reverse.ext (PExt.new hp).ext))⟩
    | _ => exact q1.elim⟩⟩
/-! ### str of an int -/
def caStr : CaT := fun ds Q => match ds with
  | [.int i] => i.natAbs.log2 < 1920 ∧ Q (.str (toString i))
  | _ => False
theorem cd_str : CaD X (.type "str") caStr := ⟨_, call_str_int, fun ds vs H QD Q hd q k => by
  match ds, q, hd with
  | [.int i], q, hd =>
    obtain ⟨v, rfl, h⟩ := hd.one
    rw [h.int]
    exact ⟨i, rfl, q.1, k _ _ _ q.2 (PExt.refl _) (.str _)⟩⟩
/-! ### tuple * int -/
theorem op_repTF : OpR X (binaryOp .Mult) (fun x y H Q => ∃ l k xs, x = .ref l ∧ y = .int k ∧ SqT X.K H l xs ∧ xs ≠ [] ∧ 2 ≤ k ∧ k ≤ 1000 ∧ xs.length ≤ 1000 ∧ ∀ p o, H p = none → o.dict = none → Q (.ref p) (upd H p (.frz o (.tup (List.replicate k.toNat xs).flatten)))) := by
  intro pins s σ H x y v u Q I rx ry h
  obtain ⟨l, k, xs, rfl, rfl, hT, hne, h1, h2, hz, q⟩ := h
  cases rx
  obtain ⟨t, rfl⟩ := ry
  obtain ⟨its, r, ⟨⟨cls, dd, data, sl⟩, ho, hc, n, hd⟩, hs⟩ := I.tuple hT
  simp only at hc hd
  subst hc hd
  have hle : its.length = xs.length := r.length.symm
  have hn : its ≠ [] := fun e => hne (by
    rw [e] at hle
    exact List.eq_nil_of_length_eq_zero hle.symm)
  have hi : its.toArray.isEmpty = false := by
    cases its with
    | nil => exact absurd rfl hn
    | cons a b => rfl
  have hsz0 : its.toArray.size = xs.length := by rw [List.size_toArray, hle]
  have hm : ((its.toArray.size : Nat) : Int) * k ≤ 1000000 := by
    rw [hsz0]
    have a1 : ((xs.length : Nat) : Int) * k ≤ 1000 * k := Int.mul_le_mul_of_nonneg_right (by omega) (by omega)
    omega
  have flen : (List.replicate k.toNat its).flatten.length ≤ sizeLine := by
    rw [PyProof.Rows.lm_len_rep_flat, hle, sizeLine_eq]
    have a1 : k.toNat * xs.length ≤ 1000 * 1000 := Nat.mul_le_mul (by omega) hz
    omega
  have c0 : (decide (k < -(2 ^ 63)) || decide (k ≥ 2 ^ 63)) = false := by
    rw [decide_eq_false (by omega), decide_eq_false (by omega)] <;> rfl
  have c1 : (its.toArray.isEmpty || k == 1) = false := by
    rw [hi, Bool.false_or]
    exact beq_eq_false_iff_ne.mpr (by omega)
  have c2 : (decide (k ≤ 0) || its.toArray.isEmpty) = false := by
    rw [hi, Bool.or_false]
    exact decide_eq_false (by omega)
  have c4 : Builtin.Tuple.tupleTooMany (((its.toArray.size : Nat) : Int) * k) = false := by
    unfold Builtin.Tuple.tupleTooMany
    rw [sizeLine_eq]
    exact decide_eq_false (by omega)
  refine wpAny_binaryOp_repeat_ref (T := "tuple") (U := "int") (by decide) ⟨_, ho, rfl⟩ (fun s' => typeIs_int s' k t) noFill_tuple_mul F.fills_int_mul F.slot_int_rmul repeat_tuple F.slot_int_index.lookup
    (call_meets F.slot_int_rmul (typeIs_int s k t) F.entry_int_rmul (F.args_int_rmul_2 _ _) (int_rmul_tuple k t l its.toArray n dd sl)
      ⟨ho, rfl, ⟨_, ho, rfl⟩, call_meets F.slot_tuple_mul ⟨_, ho, rfl⟩ F.entry_tuple_mul (F.args_tuple_mul_2 _ _) (tuple_mulW l its.toArray n dd sl k t c0 c1 c2 (by omega) c4 (by rw [size_rep, List.size_toArray]; exact flen)) ⟨ho, ?_⟩⟩)
  rw [size_rep]
  have fl : (List.replicate k.toNat xs).flatten.length ≤ sizeLine := by rw [PyProof.Rows.lm_len_rep_flat, sizeLine_eq]; have a1 : k.toNat * xs.length ≤ 1000 * 1000 := Nat.mul_le_mul (by omega) hz; omega
  exact ⟨.ref s.heap.objs.size, _, I.laid (t' := s.toks) (o := .frz _ (.tup (List.replicate k.toNat xs).flatten)) (fun b ob q => Heap.get?_push_of_some _ q) (Nat.le_refl _) ⟨Heap.get?_push_size _ rfl, fl, _, r.rep k.toNat, IsTup.new _ _⟩, rfl, q _ _ (I.hok.fresh (Nat.le_refl _)) rfl⟩
def opRepT : OpT := fun x y Q => match x, y with
  | .tuple xs, .int k => (xs ≠ [] ∧ 2 ≤ k ∧ k ≤ 1000 ∧ xs.length ≤ 1000) ∧ Q (.tuple (List.replicate k.toNat xs).flatten)
  | _, _ => False
theorem od_repT : OpD X (binaryOp .Mult) opRepT := ⟨_, op_repTF, fun x y v u H QD Q hx hy q k => by
  cases x with
  | tuple xs =>
    cases y with
    | int j =>
      obtain ⟨a, vs, rfl, sa, la⟩ := hx.tuple
      rw [hy.int]
      have hl := la.length
      refine ⟨a, j, vs, rfl, rfl, sa, fun e => q.1.1 ?_, q.1.2.1, q.1.2.2.1, by rw [← hl]; exact q.1.2.2.2, fun p o hp ho => k _ _ _ q.2 (PExt.new hp) (.tup (.new ho) ((la.rep _).ext (PExt.new hp).ext))⟩
      rw [e] at hl
      exact List.eq_nil_of_length_eq_zero hl
    | _ => exact q.elim
  | _ => exact q.elim⟩
/-! ### a op b op' c op'' d -/
def tChain3 (r r' r'' : R2) (ta tb tc td : TE) : TE := fun σ H Q => ta σ H fun x H1 => tb σ H1 fun y H2 => r x y H2 fun z H3 => ∃ k, z = .bl k ∧
  (if k = true then tc σ H3 fun w' H4 => r' y w' H4 fun z' H5 => ∃ k', z' = .bl k' ∧ (if k' = true then td σ H5 fun u' H6 => r'' w' u' H6 Q else Q (.bl false) H5) else Q (.bl false) H3)
theorem pe_chain3 {ta tb tc td : TE} {op op' op'' : CmpOp} {r r' r'' : R2} (ho : OpR X (compareOp op) r) (ho' : OpR X (compareOp op') r') (ho'' : OpR X (compareOp op'') r'') (ha : PE X a ta) (hb : PE X b tb) (hc : PE X c tc) (hd : PE X d td)
    (hm : lastMarks [op, op', op''] [b, c, d] = false := by with_unfolding_all rfl) : PE X (.Compare a [op, op', op''] [b, c, d] pos) (tChain3 r r' r'' ta tb tc td) := by
  refine ⟨fun pins s σ H Q I h => ?_⟩
  refine Compare_chain (thn (ha.run pins s σ H _ I h) fun v s1 ⟨x, H1, I1, r1, q1⟩ => chain_link (thn (hb.run pins s1 σ H1 _ I1 q1) fun u s2 ⟨y, H2, I2, r2, q2⟩ =>
    thn (ho pins s2 σ H2 x y v u _ I2 r1 r2 q2) fun d s3 ⟨z, H3, I3, r3, k, e, q3⟩ => ?_)) hm
  subst e
  cases r3
  refine wpAny_truthy_bool ?_
  cases k with
  | false => exact ite_ff ⟨.bl false, H3, I3, rfl, q3⟩
  | true =>
    refine ite_tt (chain_link (thn (hc.run pins s3 σ H3 _ I3 q3) fun w' s4 ⟨z', H4, I4, r4, q4⟩ => thn (ho' pins s4 σ H4 y z' u w' _ I4 r2 r4 q4) fun d s5 ⟨z, H5, I5, r5, k, e, q5⟩ => ?_))
    subst e
    cases r5
    refine wpAny_truthy_bool ?_
    cases k with
    | false => exact ite_ff ⟨.bl false, H5, I5, rfl, q5⟩
    | true => exact ite_tt (chain_last (thn (hd.run pins s5 σ H5 _ I5 q5) fun w'' s6 ⟨z'', H6, I6, r6, q6⟩ => ho'' pins s6 σ H6 z' z'' w' w'' Q I6 r4 r6 q6))
def tChain3D (o o' o'' : OpT) (ta tb tc td : TD) : TD := fun E Q => ta E fun x E1 => tb E1 fun y E2 => o x y fun z => match z with
  | .bool true => tc E2 fun w E3 => o' y w fun z' => match z' with
    | .bool true => td E3 fun u E4 => o'' w u fun r => Q r E4
    | .bool false => Q (.bool false) E3
    | _ => False
  | .bool false => Q (.bool false) E2
  | _ => False
theorem ed_chain3 {op op' op'' : CmpOp} {o o' o'' : OpT} {ta tb tc td : TD} (ho : OpD X (compareOp op) o) (ho' : OpD X (compareOp op') o') (ho'' : OpD X (compareOp op'') o'') (ha : ED X G a ta) (hb : ED X G b tb) (hc : ED X G c tc) (hd : ED X G d td)
    (h1 : lastMarks [op, op', op''] [b, c, d] = false := by with_unfolding_all rfl) : ED X G (.Compare a [op, op', op''] [b, c, d] pos) (tChain3D o o' o'' ta tb tc td) := by
  obtain ⟨r, hr, hq⟩ := ho
  obtain ⟨r', hr', hq'⟩ := ho'
  obtain ⟨r'', hr'', hq''⟩ := ho''
  refine ⟨PE.weak (pe_chain3 hr hr' hr'' ha.pe hb.pe hc.pe hd.pe h1) fun σ H Q ⟨E, QE, rel, q, k⟩ => ⟨E, _, rel, q, fun x E1 v H1 q1 x1 r1 p1 => ⟨E1, _, r1, q1, fun y E2 u H2 q2 x2 r2 p2 => ?_⟩⟩⟩
  refine hq x y v u H2 _ _ (.inl (p1.ext x2)) (.inl p2) q2 fun z w H3 q3 px rz => ?_
  cases rz with
  | bl b =>
    refine ⟨b, rfl, ?_⟩
    cases b with
    | true =>
      refine iteT ⟨E2, _, r2.pext px, q3, fun c E3 w H4 q4 x4 r4 p4 => ?_⟩
      refine hq' y c u w H4 _ _ (.inl ((p2.ext px.ext).ext x4)) (.inl p4) q4 fun z w' H5 q5 px5 rz5 => ?_
      cases rz5 with
      | bl b =>
        refine ⟨b, rfl, ?_⟩
        have xx := (((x1.trans x2).trans px.ext).trans x4).trans px5.ext
        cases b with
        | true =>
          refine iteT ⟨E3, _, r4.pext px5, q5, fun d E4 w6 H6 q6 x6 r6 p6 => ?_⟩
          exact hq'' c d w w6 H6 _ _ (.inl ((p4.ext px5.ext).ext x6)) (.inl p6) q6 fun z w7 H7 q7 px7 rz7 => k _ _ _ _ q7 ((xx.trans x6).trans px7.ext) (r6.pext px7) rz7
        | false => exact iteF (k _ _ _ _ q5 xx (r4.pext px5) (.bl false))
      | _ => exact q5.elim
    | false => exact iteF (k _ _ _ _ q3 ((x1.trans x2).trans px.ext) (r2.pext px) (.bl false))
  | _ => exact q3.elim
end
/-! ### a comprehension with effects: an invariant of what was found and the environment -/
theorem compD_inv {g : TGd} {tt : TTd} {te : TD} {ms : List Nat} (I : Nat → List D → Env → Prop) : ∀ (ds : List D) (k : Nat) (acc : List D) (E : Env) (Q : List D → Env → Prop), acc.length ≤ k → k + ds.length ≤ sizeLine → I k acc E →
    (∀ (i : Nat) (d : D) (acc : List D) (E : Env), ds[i]? = some d → I (k + i) acc E → ∀ R : Option D → Env → Prop, (∀ E', I (k + i + 1) acc E' → R none E') → (∀ y E', I (k + i + 1) (acc ++ [y]) E' → R (some y) E') → turnD g tt te d (wipeE E ms) R) →
    (∀ acc E, I (k + ds.length) acc E → Q acc E) → compD g tt te ms ds acc E Q
  | [], k, acc, E, Q, _, _, h0, _, hd => hd _ _ h0
  | d :: ds, k, acc, E, Q, hl, hz, h0, hs, hd => by
    show turnD g tt te d (wipeE E ms) _
    rw [List.length_cons] at hz
    have hs' : ∀ (i : Nat) (d : D) (acc : List D) (E : Env), ds[i]? = some d → I (k + 1 + i) acc E → ∀ R : Option D → Env → Prop, (∀ E', I (k + 1 + i + 1) acc E' → R none E') → (∀ y E', I (k + 1 + i + 1) (acc ++ [y]) E' → R (some y) E') → turnD g tt te d (wipeE E ms) R := fun i d acc E e h => by
      have := hs (i + 1) d acc E (by simpa using e) (by rw [show k + (i + 1) = k + 1 + i by omega]; exact h)
      rw [show k + (i + 1) = k + 1 + i by omega] at this
      exact this
    have hd' : ∀ acc E, I (k + 1 + ds.length) acc E → Q acc E := fun acc E h => hd acc E (by rw [List.length_cons, show k + (ds.length + 1) = k + 1 + ds.length by omega]; exact h)
    refine hs 0 d acc E rfl h0 _ (fun E' h => compD_inv I ds (k + 1) acc E' Q (by omega) (by omega) h hs' hd') fun y E' h => ⟨by omega, compD_inv I ds (k + 1) (acc ++ [y]) E' Q (by rw [List.length_append, List.length_cons, List.length_nil]; omega) (by omega) h hs' hd'⟩
theorem compD_inv0 {g : TGd} {tt : TTd} {te : TD} {ms : List Nat} {E : Env} {Q : List D → Env → Prop} {ds : List D} (I : Nat → List D → Env → Prop) (hz : ds.length ≤ sizeLine) (h0 : I 0 [] E)
    (hs : ∀ (i : Nat) (d : D) (acc : List D) (E : Env), ds[i]? = some d → I i acc E → ∀ R : Option D → Env → Prop, (∀ E', I (i + 1) acc E' → R none E') → (∀ y E', I (i + 1) (acc ++ [y]) E' → R (some y) E') → turnD g tt te d (wipeE E ms) R)
    (hd : ∀ acc E2, I ds.length acc E2 → Q acc E2) : compD g tt te ms ds [] E Q :=
  compD_inv I ds 0 [] E _ (Nat.le_refl _) (by omega) h0 (fun i d acc E e h => by rw [Nat.zero_add] at h ⊢; exact hs i d acc E e h) fun acc E2 h => hd acc E2 (by rw [Nat.zero_add] at h; exact h)
theorem comp_inv {ti : TDs} {g : TGd} {tt : TTd} {te : TD} {ms : List Nat} {E E1 : Env} {Q : List D → Env → Prop} (ds : List D) (I : Nat → List D → Env → Prop) (hi : ∀ R : List D → Env → Prop, R ds E1 → ti E R) (hz : ds.length ≤ sizeLine) (h0 : I 0 [] E1)
    (hs : ∀ (i : Nat) (d : D) (acc : List D) (E : Env), ds[i]? = some d → I i acc E → ∀ R : Option D → Env → Prop, (∀ E', I (i + 1) acc E' → R none E') → (∀ y E', I (i + 1) (acc ++ [y]) E' → R (some y) E') → turnD g tt te d (wipeE E ms) R)
    (hd : ∀ acc E2, I ds.length acc E2 → Q acc (restE E1 E2 ms)) : tComp ti g tt te ms E Q :=
  hi _ (compD_inv I ds 0 [] E1 _ (Nat.le_refl _) (by omega) h0 (fun i d acc E e h => by rw [Nat.zero_add] at h ⊢; exact hs i d acc E e h) fun acc E2 h => hd acc E2 (by rw [Nat.zero_add] at h; exact h))
end DL

set_option Elab.async false
set_option linter.all false
set_option maxRecDepth 100000
set_option maxHeartbeats 1000000
/-! DL23: zip of three tuples. -/
namespace DL
open PySem PySem.Spec PyProof.Rows L2
/-- the tuples at a, b, c, the items in new triples -/
def Itz3 (K : PySem.W.Frag) (a b c : Addr) : It :=
  ⟨fun i H => ∃ (xs ys zs : List V) (x y z : V), SqT K H a xs ∧ SqT K H b ys ∧ SqT K H c zs ∧ xs[i]? = some x ∧ ys[i]? = some y ∧ zs[i]? = some z,
    fun i H v H' => ∃ T x y z, v = .ref T ∧ H T = none ∧ H' = upd H T (.tup [x, y, z]) ∧ (∀ xs, SqT K H a xs → xs[i]? = some x) ∧ (∀ ys, SqT K H b ys → ys[i]? = some y) ∧ ∀ zs, SqT K H c zs → zs[i]? = some z,
    fun i H => ∃ xs ys zs : List V, SqT K H a xs ∧ SqT K H b ys ∧ SqT K H c zs ∧ i ≤ xs.length ∧ i ≤ ys.length ∧ i ≤ zs.length ∧ (i = xs.length ∨ i = ys.length ∨ i = zs.length)⟩
theorem turn_zip3 {P : Program} {w : World} {K : PySem.W.Frag} {elts : List Expr} {kk : Nat} {tpos : Pos} {a b c z TI TO i1 i2 i3 : Addr} (D : ZipSep3 z TI TO i1 i2 i3 [i1, a] [i2, b] [i3, c]) (ha : a ≠ i1) (hb : b ≠ i2) (hcc : c ≠ i3) :
    Turn P w K (.Tuple elts kk tpos) (Itz3 K a b c) [z, TI, TO, i1, i2, i3] z (fun i h => IsZip h z TI TO .none ∧ IsTupOf3 h TI (.ref i1) (.ref i2) (.ref i3) ∧ (∃ x y w, IsTupOf3 h TO x y w) ∧ h.IsTupleIter i1 a i ∧ h.IsTupleIter i2 b i ∧ h.IsTupleIter i3 c i) where
  mem := by simp
  obj := fun i h st c hc => by
    obtain ⟨hz, hTI, ⟨x, y, w, hTO⟩, ⟨o1, e1, _, d1⟩, ⟨o2, e2, _, d2⟩, ⟨o3, e3, _, d3⟩⟩ := st
    rcases (show c = z ∨ c = TI ∨ c = TO ∨ c = i1 ∨ c = i2 ∨ c = i3 by simpa using hc) with q | q | q | q | q | q <;> rw [q]
    · exact ⟨_, hz, fun v q => nomatch q⟩
    · exact ⟨_, hTI, fun v q => nomatch q⟩
    · exact ⟨_, hTO, fun v q => nomatch q⟩
    · exact ⟨o1, e1, fun v q => by rw [d1] at q; cases q⟩
    · exact ⟨o2, e2, fun v q => by rw [d2] at q; cases q⟩
    · exact ⟨o3, e3, fun v q => by rw [d3] at q; cases q⟩
  keep := fun i h h' st k => by
    obtain ⟨hz, hTI, ⟨x, y, w, hTO⟩, h1, h2, h3⟩ := st
    exact ⟨k z (by simp) _ hz, k TI (by simp) _ hTI, ⟨x, y, w, k TO (by simp) _ hTO⟩, h1.at fun o q => k i1 (by simp) o q, h2.at fun o q => k i2 (by simp) o q, h3.at fun o q => k i3 (by simp) o q⟩
  item := by
    intro X hP hw hK hc i pins s σ H E I hf st hg
    subst hP hw hK
    obtain ⟨hz, hTI, ⟨x0, y0, z0, hTO⟩, h1, h2, h3⟩ := st
    obtain ⟨xs, ys, zs, x, y, zz, hqx, hqy, hqz, hx, hy, hzz⟩ := hg
    obtain ⟨its, rv, p, _⟩ := I.tuple hqx
    obtain ⟨its2, rv2, p2, _⟩ := I.tuple hqy
    obtain ⟨its3, rv3, p3, _⟩ := I.tuple hqz
    obtain ⟨u, hu, ru⟩ := rv.get hx
    obtain ⟨u2, hu2, ru2⟩ := rv2.get hy
    obtain ⟨u3, hu3, ru3⟩ := rv3.get hzz
    have hzl : z < s.heap.objs.size := Heap.lt_size hz
    have t1 : i < its.toArray.size := by simpa using (List.getElem?_eq_some_iff.mp hu).1
    have t2 : i < its2.toArray.size := by simpa using (List.getElem?_eq_some_iff.mp hu2).1
    have t3 : i < its3.toArray.size := by simpa using (List.getElem?_eq_some_iff.mp hu3).1
    refine wpAny_pyNext_zipD3_item D (Draws.tuple (A := X.A.in1) (I.ok.hd hc) i1 a ha its.toArray) (Draws.tuple (A := X.A.in1) (I.ok.hd hc) i2 b hb its2.toArray) (Draws.tuple (A := X.A.in1) (I.ok.hd hc) i3 c hcc its3.toArray) hz hTI hTO ⟨h1, p⟩ ⟨h2, p2⟩ ⟨h3, p3⟩ t1 t2 t3 fun v1 v2 v3 h' tk g1 g2 g3 z' TO' h1' h2' h3' hT hsz hk => ?_
    have q1 : its[i]? = some v1 := by simpa using g1
    have q2 : its2[i]? = some v2 := by simpa using g2
    have q3 : its3[i]? = some v3 := by simpa using g3
    obtain rfl : v1 = u := by rw [hu] at q1; exact (Option.some.inj q1).symm
    obtain rfl : v2 = u2 := by rw [hu2] at q2; exact (Option.some.inj q2).symm
    obtain rfl : v3 = u3 := by rw [hu3] at q3; exact (Option.some.inj q3).symm
    refine ⟨_, rfl, wpAny_letOwnedTupleGo_zip (s := { s with heap := h', toks := tk }) z' fun h'' z'' sb => ?_⟩
    have hT2 : h''.get? s.heap.objs.size = some { cls := .type "tuple", data := .seq #[v1, v2, v3] } := (sb.2 _ (Nat.ne_of_gt hzl)).trans hT
    have new : ObjOk X.prog X.w (upd H s.heap.objs.size (.tup [x, y, zz])) h'' s.heap.objs.size (.tup [x, y, zz]) := ⟨by show 3 ≤ sizeLine; decide, [v1, v2, v3], .cons ru (.cons ru2 (.cons ru3 .nil)), ⟨_, hT2, rfl, _, rfl⟩⟩
    have I1 : Inv X pins σ (upd H s.heap.objs.size (.tup [x, y, zz])) { s with heap := h'', toks := tk } :=
      I.turnedNew (ch := [z, TI, TO, i1, i2, i3]) (fun c o hb q => (sb.2 c (fun q' => hb (by simp [q']))).trans (hk c o (fun q' => hb (by simp [q'])) (fun q' => hb (by simp [q'])) (fun q' => hb (by simp [q'])) (fun q' => hb (by simp [q'])) (fun q' => hb (by simp [q'])) q)) hf (Nat.le_refl _) new
    refine ⟨.ref s.heap.objs.size, _, I1, rfl, ⟨_, x, y, zz, rfl, I.hok.fresh (Nat.le_refl _), rfl, fun l hl => by rw [I.tuple_inj hl hqx]; exact hx, fun l hl => by rw [I.tuple_inj hl hqy]; exact hy, fun l hl => by rw [I.tuple_inj hl hqz]; exact hzz⟩, ⟨z'', ?_, ⟨v1, v2, v3, (sb.2 _ D.TOz).trans TO'⟩, h1'.1.at fun o q => (sb.2 _ (Ne.symm D.zi1)).trans q, h2'.1.at fun o q => (sb.2 _ (Ne.symm D.zi2)).trans q, h3'.1.at fun o q => (sb.2 _ (Ne.symm D.zi3)).trans q⟩, fun c hcm => ?_⟩
    · exact (sb.2 _ D.TIz).trans (hk _ _ D.TIz D.TITO D.TIi1 D.TIi2 D.TIi3 hTI)
    · have hlt : c < s.heap.objs.size := by
        rcases (show c = z ∨ c = TI ∨ c = TO ∨ c = i1 ∨ c = i2 ∨ c = i3 by simpa using hcm) with q | q | q | q | q | q <;> rw [q]
        · exact hzl
        · exact Heap.lt_size hTI
        · exact Heap.lt_size hTO
        · obtain ⟨_, e1, _⟩ := h1; exact Heap.lt_size e1
        · obtain ⟨_, e2, _⟩ := h2; exact Heap.lt_size e2
        · obtain ⟨_, e3, _⟩ := h3; exact Heap.lt_size e3
      rw [upd_ne (Nat.ne_of_lt hlt)]; exact (hf c hcm).1
  done := by
    intro X hP hw hK hc i pins s σ H E I hf st hg
    subst hP hw hK
    obtain ⟨hz, hTI, ⟨x0, y0, z0, hTO⟩, h1, h2, h3⟩ := st
    obtain ⟨xs, ys, zs, hqx, hqy, hqz, le1, le2, le3, hend⟩ := hg
    obtain ⟨its, rv, p, _⟩ := I.tuple hqx
    obtain ⟨its2, rv2, p2, _⟩ := I.tuple hqy
    obtain ⟨its3, rv3, p3, _⟩ := I.tuple hqz
    have l1 := rv.length
    have l2 := rv2.length
    have l3 := rv3.length
    exact wpAny_pyNext_zipD3_end D (Draws.tuple (A := X.A.in1) (I.ok.hd hc) i1 a ha its.toArray) (Draws.tuple (A := X.A.in1) (I.ok.hd hc) i2 b hb its2.toArray) (Draws.tuple (A := X.A.in1) (I.ok.hd hc) i3 c hcc its3.toArray) hz hTI hTO ⟨h1, p⟩ ⟨h2, p2⟩ ⟨h3, p3⟩ (by simp; omega) (by simp; omega) (by simp; omega) (by simp; omega) fun h' tk hk => ⟨rfl, I.turnedL (t' := tk) (ch := [z, TI, TO, i1, i2, i3]) (fun c o hb q =>
      hk c o (fun q' => hb (by simp [q'])) (fun q' => hb (by simp [q'])) (fun q' => hb (by simp [q'])) (fun q' => hb (by simp [q'])) (fun q' => hb (by simp [q'])) q) hf⟩
  self := fun A i s Q E st h => wpAny_pyIter_zip st.1 h
section
variable {X : Cx} {G : Gh} {a b c : Expr} {p pos tpos : Pos} {elts : List Expr} {kk : Nat}
theorem vals3 {v1 v2 v3 : V} {us : List Value} (r : Vals [v1, v2, v3] us) : ∃ w1 w2 w3, us = [w1, w2, w3] ∧ RelV v1 w1 ∧ RelV v2 w2 ∧ RelV v3 w3 := by
  cases r with
  | cons a r => cases r with
    | cons b r => cases r with
      | cons c r => cases r; exact ⟨_, _, _, rfl, a, b, c⟩
theorem pi_zip3 {ta : TA} (hg : Gl X "zip") (hm : X.mg "zip" = none) (ha : PA X [a, b, c] ta) (hs : starEach [a, b, c] X.env = (false, eval a X.env) :: starEach [b, c] X.env := by rfl) (hpl : (backTo pos (starEach [b, c] X.env)).any (·.1) = false := by rfl) :
    PI X (.Tuple elts kk tpos) (.Call (.Name "zip" p) [a, b, c] [] pos) (fun σ H R => ta σ H fun vs H1 => ∃ a b c xs ys zs, vs = [.ref a, .ref b, .ref c] ∧ SqT X.K H1 a xs ∧ SqT X.K H1 b ys ∧ SqT X.K H1 c zs ∧ R (Itz3 X.K a b c) H1) := by
  refine ⟨fun pins s σ H R I h => Call_ (ld_blt I hg hm PyProof.Rows.boot_zip (PyProof.Rows.callWith_type1 (thn (ha.run pos pins s σ H _ I h) fun us s1 ⟨vs, H1, I1, r1, q1⟩ => ?_) hs hpl))⟩
  obtain ⟨a, b, c, xs, ys, zs, rfl, hqx, hqy, hqz, q⟩ := q1
  obtain ⟨w1, w2, w3, rfl, e1, e2, e3⟩ := vals3 r1
  obtain rfl : w1 = Value.ref a := e1
  obtain rfl : w2 = Value.ref b := e2
  obtain rfl : w3 = Value.ref c := e3
  obtain ⟨its, rv, p, _⟩ := I1.tuple hqx
  obtain ⟨its2, rv2, p2, _⟩ := I1.tuple hqy
  obtain ⟨its3, rv3, p3, _⟩ := I1.tuple hqz
  have lta : a < s1.heap.objs.size := by obtain ⟨_, ho, _⟩ := p; exact Heap.lt_size ho
  have ltb : b < s1.heap.objs.size := by obtain ⟨_, ho, _⟩ := p2; exact Heap.lt_size ho
  have ltc : c < s1.heap.objs.size := by obtain ⟨_, ho, _⟩ := p3; exact Heap.lt_size ho
  refine zip_begins3 (begins_tuple a its.toArray) (begins_tuple b its2.toArray) (begins_tuple c its3.toArray) p p2 p3 fun h' hz hTI hTO g1 g2 g3 _ hk => wpAny_pyIter_zip hz ?_
  have I2 : Inv X pins σ H1 { s1 with heap := h' } := I1.kept (t' := s1.toks) hk
  refine ⟨s1.heap.objs.size + 5, [s1.heap.objs.size + 5, s1.heap.objs.size + 3, s1.heap.objs.size + 4, s1.heap.objs.size, s1.heap.objs.size + 1, s1.heap.objs.size + 2], _, _, H1, rfl, I2, turn_zip3 (zip_sep3 (fp1 := [a]) (fp2 := [b]) (fp3 := [c]) (fun c hc => by rw [List.mem_singleton.mp hc]; exact lta) (fun c hc => by rw [List.mem_singleton.mp hc]; exact ltb) (fun c hc => by rw [List.mem_singleton.mp hc]; exact ltc)) (Nat.ne_of_lt lta) (Nat.ne_of_lt (Nat.lt_succ_of_lt ltb)) (Nat.ne_of_lt (Nat.lt_succ_of_lt (Nat.lt_succ_of_lt ltc))), ⟨hz, hTI, ⟨_, _, _, hTO⟩, ⟨_, g1, rfl, rfl⟩, ⟨_, g2, rfl, rfl⟩, ⟨_, g3, rfl, rfl⟩⟩, fun c hc => ?_, q⟩
  have hle : s1.heap.objs.size ≤ c := by
    have := (show c = s1.heap.objs.size + 5 ∨ c = s1.heap.objs.size + 3 ∨ c = s1.heap.objs.size + 4 ∨ c = s1.heap.objs.size ∨ c = s1.heap.objs.size + 1 ∨ c = s1.heap.objs.size + 2 by simpa using hc)
    rcases this with z | z | z | z | z | z <;> rw [z]
    all_goals first | exact Nat.le_refl _ | exact Nat.le_add_right _ _
  exact I1.fpOk hle (I1.hok.fresh hle)
def zipD3 (xs ys zs : List D) : List D := (xs.zip (ys.zip zs)).map fun p => .tuple [p.1, p.2.1, p.2.2]
theorem zipD3_len (xs ys zs : List D) : (zipD3 xs ys zs).length = min xs.length (min ys.length zs.length) := by simp [zipD3]
theorem zipD3_get {xs ys zs : List D} {i : Nat} {x y z : D} (h1 : xs[i]? = some x) (h2 : ys[i]? = some y) (h3 : zs[i]? = some z) : (zipD3 xs ys zs)[i]? = some (.tuple [x, y, z]) := by
  unfold zipD3
  rw [List.getElem?_map, (List.getElem?_zip_eq_some (z := (x, (y, z)))).mpr ⟨h1, (List.getElem?_zip_eq_some (z := (y, z))).mpr ⟨h2, h3⟩⟩]; rfl
def iZip3 (ta tb tc : TD) : TDs := fun E Q => ta E fun x E1 => tb E1 fun y E2 => tc E2 fun z E3 => match x, y, z with
  | .tuple xs, .tuple ys, .tuple zs => Q (zipD3 xs ys zs) E3
  | _, _, _ => False
theorem walkD_zip3 {K : PySem.W.Frag} {H : Hp} {a b c : Addr} {vs us ws : List V} {ds es fs : List D} (h : SqT K H a vs) (h' : SqT K H b us) (h'' : SqT K H c ws) (l : RpL K H ds vs) (l' : RpL K H es us) (l'' : RpL K H fs ws) : WalkD true K (Itz3 K a b c) H (zipD3 ds es fs) where
  goes := fun i H' x hi => by
    rw [zipD3_len, l.length, l'.length, l''.length] at hi
    exact ⟨vs, us, ws, vs[i], us[i], ws[i], SqT.ext x h, SqT.ext x h', SqT.ext x h'', List.getElem?_eq_getElem _, List.getElem?_eq_getElem _, List.getElem?_eq_getElem _⟩
  yld := fun i H' v H2 x hi hy => by
    obtain ⟨T, v1, v2, v3, rfl, hT, rfl, e1, e2, e3⟩ := hy
    obtain ⟨d, hd, p⟩ := l.getV (e1 vs (SqT.ext x h))
    obtain ⟨d', hd', p'⟩ := l'.getV (e2 us (SqT.ext x h'))
    obtain ⟨d'', hd'', p''⟩ := l''.getV (e3 ws (SqT.ext x h''))
    have px := PExt.new (o := .tup [v1, v2, v3]) hT
    exact ⟨px, _, zipD3_get hd hd' hd'', .pair (SqT.of upd_same) (.cons ((p.ext x).ext px.ext) (.cons ((p'.ext x).ext px.ext) (.cons ((p''.ext x).ext px.ext) .nil)))⟩
  stops := fun H' x => ⟨vs, us, ws, SqT.ext x h, SqT.ext x h', SqT.ext x h'', by rw [zipD3_len, l.length, l'.length, l''.length]; omega, by rw [zipD3_len, l.length, l'.length, l''.length]; omega, by rw [zipD3_len, l.length, l'.length, l''.length]; omega, by rw [zipD3_len, l.length, l'.length, l''.length]; omega⟩
theorem id_zip3 {ta tb tc : TD} (ha : ED X G a ta) (hb : ED X G b tb) (hc : ED X G c tc) (hg : Gl X "zip") (hm : X.mg "zip" = none)
    (hs : starEach [a, b, c] X.env = (false, eval a X.env) :: starEach [b, c] X.env := by rfl) (hs2 : starEach [b, c] X.env = (false, eval b X.env) :: starEach [c] X.env := by rfl) (hs3 : starEach [c] X.env = (false, eval c X.env) :: starEach [] X.env := by rfl) (hpl : (backTo pos (starEach [b, c] X.env)).any (·.1) = false := by rfl) :
    ID X G true (.Tuple elts kk tpos) (.Call (.Name "zip" p) [a, b, c] [] pos) (iZip3 ta tb tc) := by
  refine ⟨PI.weak (pi_zip3 hg hm (pa_cons ha.pe (pa_cons hb.pe (pa_cons hc.pe pa_nil hs3) hs2) hs) hs hpl) fun σ H R ⟨E, QE, rel, q, k⟩ => ⟨E, _, rel, q, fun x E1 v H1 q1 x1 r1 p1 => ⟨E1, _, r1, q1, fun y E2 u H2 q2 x2 r2 p2 => ⟨E2, _, r2, q2, fun z E3 u3 H3 q3 x3 r3 p3 => ?_⟩⟩⟩⟩
  have p1 := (p1.ext x2).ext x3
  have p2 := p2.ext x3
  cases p1 with
  | tup h1 l1 =>
    cases p2 with
    | tup h2 l2 =>
      cases p3 with
      | tup h3 l3 => exact ⟨_, _, _, _, _, _, rfl, h1.1, h2.1, h3.1, k _ _ _ _ q3 ((x1.trans x2).trans x3) r3 (walkD_zip3 h1.1 h2.1 h3.1 l1 l2 l3)⟩
      | _ => exact q3.elim
    | _ => cases p3 <;> exact q3.elim
  | _ => cases p2 <;> cases p3 <;> exact q3.elim
end
end DL

set_option Elab.async false
set_option linter.all false
set_option maxRecDepth 100000
set_option maxHeartbeats 1000000
/-! DL24: the module's own constants. -/
namespace DL
open PySem PySem.Spec PyProof.Rows L2
def intsV : List Value → List Int → Bool
  | [], [] => true
  | .int i _ :: us, n :: ns => i == n && intsV us ns
  | _, _ => false
theorem intsV_vals : ∀ {us : List Value} {ns : List Int}, intsV us ns = true → Vals (ns.map V.int) us
  | [], [], _ => .nil
  | .int i t :: us, n :: ns, h => by
    have h : (i == n && intsV us ns) = true := h
    rw [Bool.and_eq_true] at h
    have e : i = n := by simpa using h.1
    subst e
    exact .cons ⟨t, rfl⟩ (intsV_vals h.2)
  | [], _ :: _, h => by cases h
  | .int _ _ :: _, [], h => by cases h
theorem const_tup {K : PySem.W.Frag} {a : Addr} {its : Array Value} {n : Nat} {sl : Array (Option Value)} {ns : List Int} (l : K.lookup a = some ⟨.type "tuple", none, .seq its n, sl⟩) (hv : intsV its.toList ns = true) (hz : ns.length ≤ 1000) : ∀ H, Rp K H (.tuple (ns.map PyData.int)) (.ref a) := fun H => by
  have v := intsV_vals hv
  have hl := v.length
  refine .tup ⟨.inr ⟨_, its, n, l, rfl, rfl, ?_, v⟩, .inr ⟨_, l, rfl⟩⟩ (RpL.ofInts ns)
  have hl2 : ns.length = its.size := by simpa using hl
  rw [← hl2, sizeLine_eq]; omega
end DL

set_option Elab.async false
set_option linter.all false
set_option maxRecDepth 100000
set_option maxHeartbeats 1000000
/-! DL25: max of a list of alike data, x < y of alike data. -/
namespace DL
open PySem PySem.Spec PyProof.Rows L2
section
variable {X : Cx}
theorem op_ltD (hu : X.A.units + 65 < cLine) : OpR X (compareOp .Lt) (fun x y H Q => ∃ d e, Dp X.K H x d ∧ Dp X.K H y e ∧ PySem.W.alike d e = true ∧ d ≠ .none ∧ d.depth ≤ 60 ∧ Q (.bl (PySem.W.dataLt d e)) H) := by
  intro pins s σ H x y v u Q I rx ry h
  obtain ⟨d, e, hd, he, al, nn, dp, q⟩ := h
  obtain ⟨as, r1⟩ := Dp.reads I d x v hd rx
  obtain ⟨bs, r2⟩ := Dp.reads I e y u he ry
  have : min d.depth e.depth ≤ d.depth := Nat.min_le_left _ _
  exact PySem.W.lt_data r1 r2 al nn (by omega) ⟨.bl _, H, I, rfl, q⟩
def opLtD : OpT := fun x y Q => (PySem.W.alike x y = true ∧ x ≠ .none ∧ x.depth ≤ 60 ∧ x.canLay0 = true ∧ y.canLay0 = true) ∧ Q (.bool (PySem.W.dataLt x y))
theorem od_ltD (hu : X.A.units + 65 < cLine) : OpD X (compareOp .Lt) opLtD := ⟨_, op_ltD hu, fun x y v u H QD Q hx hy q k => ⟨x, y, hx.dp q.1.2.2.2.1, hy.dp q.1.2.2.2.2, q.1.1, q.1.2.1, q.1.2.2.1, k _ _ _ q.2 (PExt.refl _) (.bl _)⟩⟩
theorem cr_maxD (hc : X.calm = true) (hu : X.A.units + 65 < cLine) : CallR X (.builtin "max") (fun vs H Q => ∃ (a : Addr) (us : List V) (x : D) (xs : List D), vs = [.ref a] ∧ SqL X.K H a us ∧ RpL X.K H (x :: xs) us ∧ PySem.W.AlikeAll (x :: xs) ∧ PyData.depthAll (x :: xs) ≤ 60 ∧ PyData.canLayAll0 (x :: xs) = true ∧ ∀ v, Rp X.K H (PySem.W.maxD x xs) v → Q v H) := by
  intro pins s σ H vs us0 Q I r h
  obtain ⟨a, us, x, xs, rfl, hs, l, ha, hdp, hcl, q⟩ := h
  obtain ⟨its, rv, hl, _⟩ := I.list hs
  rw [Vals.ref1 r]
  obtain ⟨as, hr⟩ := Dp.readsAll I _ _ _ (l.dp hcl) rv
  have hr : ReadsAll s.heap its.toArray.toList (x :: xs) as := hr
  have hn : its.toArray.size = xs.length + 1 := PySem.W.readsAll_len hr
  refine PySem.call_max_walkH (PySem.W.iter_listW (A := X.A.in1) (I.ok.hd hc) hl.isList fun s₂ e W st hfp hw hk => ?_)
  refine ⟨_, _, _, _, _, _, _, s.heap, _, rfl, W, st, hfp, by omega, hw, hk, PySem.W.cmpIn_gt (A := X.A.in1) hr ha (by show X.A.units + 1 + _ < _; omega), fun v s' hP m => ?_⟩
  obtain ⟨h', tk, rfl, hk'⟩ := PySem.W.moved_old e rfl m
  have e1 : its.toArray.size - 1 = xs.length := by omega
  have e2 := (PySem.W.argBest_fold (fun a b => PySem.W.dataLt b a) PyData.none x xs xs.length (Nat.le_refl _)).2
  rw [List.take_length] at e2
  have hP : its.toArray[argBest (fun i j => PySem.W.dataLt ((x :: xs).getD j PyData.none) ((x :: xs).getD i PyData.none)) (its.toArray.size - 1)]? = some v := hP
  rw [e1] at hP
  have hP : its[argBest (fun i j => PySem.W.dataLt ((x :: xs).getD j PyData.none) ((x :: xs).getD i PyData.none)) xs.length]? = some v := by simpa using hP
  generalize hbi : argBest (fun i j => PySem.W.dataLt ((x :: xs).getD j PyData.none) ((x :: xs).getD i PyData.none)) xs.length = bi at hP e2
  have hlt : bi < us.length := by
    have h1 := (List.getElem?_eq_some_iff.mp hP).1
    have h2 := rv.length
    omega
  obtain ⟨d, hd1, rd⟩ := l.getV (List.getElem?_eq_getElem hlt)
  obtain ⟨u, hu1, ru⟩ := rv.get (List.getElem?_eq_getElem hlt)
  rw [hP] at hu1
  cases hu1
  refine ⟨_, H, I.kept hk', ru, q _ ?_⟩
  have : d = PySem.W.maxD x xs := by
    unfold PySem.W.maxD
    rw [← e2, List.getD_eq_getElem?_getD, hd1]; rfl
  rw [← this]; exact rd
def caMaxD : CaT := fun ds Q => match ds with
  | [.list (x :: xs)] => (PySem.W.AlikeAll (x :: xs) ∧ PyData.depthAll (x :: xs) ≤ 60 ∧ PyData.canLayAll0 (x :: xs) = true) ∧ Q (PySem.W.maxD x xs)
  | _ => False
theorem cd_maxD (hc : X.calm = true) (hu : X.A.units + 65 < cLine) : CaD X (.builtin "max") caMaxD := ⟨_, cr_maxD hc hu, fun ds vs H QD Q hd q k => by
  match ds, q, hd with
  | [.list (x :: xs)], q, hd =>
    obtain ⟨v, rfl, h⟩ := hd.one
    obtain ⟨a, us, rfl, hs, l⟩ := h.list
    exact ⟨a, us, x, xs, rfl, hs, l, q.1.1, q.1.2.1, q.1.2.2, fun v hv => k _ _ _ q.2 (PExt.refl _) hv⟩⟩
end
end DL

set_option Elab.async false
set_option linter.all false
set_option maxRecDepth 100000
set_option maxHeartbeats 3200000
/-! DL26: set(t) of a tuple of pairs of ints, len and sorted of it. -/
namespace DL
open PySem PySem.Spec PyProof.Rows L2
section
variable {P : Program} {w : World} {A : Around} {E : Value → Shared → Prop} {s : Shared}
theorem set_of_tuple {l : Addr} {items : Array Value} (ks : List (Addr × List Int)) {Q : Value → Shared → Prop} (hh : A.handled = none) (hl : s.heap.IsTuple l items) (hit : items.toList = ks.map fun p => Value.ref p.1)
    (hk : ∀ p ∈ ks, IsT P w s.heap p.2 p.1) (hfew : ks.length < 64) (hu : A.units + 3 < cLine)
    (fin : ∀ (h' : Heap) (tk : Nat) L es ep t, SetTR P w h' s.heap.objs.size L es ep t → Got ks ks.length L → (∀ b o, s.heap.get? b = some o → h'.get? b = some o) → Q (.ref s.heap.objs.size) { s with heap := h', toks := tk }) :
    wpAny (model P w) A (call (.type "set") [.ref l]) Q E s := by
  have sz : items.size = ks.length := by
    have q := congrArg List.length hit
    rw [Array.length_toList, List.length_map] at q; exact q
  obtain ⟨cm, tlm, _⟩ := F.called_set.mro
  have made := F.called_set.made; have subs := F.called_set.sub
  refine wpAny_call (codeAny_of_tree ?_); show wpAny _ _ (callAny (.type "set") _) _ _ _
  refine wpAny_pure ⟨Code.quiet_builtin _ (by decide +kernel), codeAny_builtin F.entry_type_call ?_⟩; rw [Around.under_plain (weight_type_call_type "set" [.ref l] []) rfl]
  have n1 := F.called_set.notType; have n2 := F.called_set.canCreate; have n3 := F.typeCall_set_1 (.ref l)
  repeat (any_goals (first | assumption | wp_step))
  refine codeAny_mono (code_set_led1 (.ref l) (E := E) (Q₁ := fun ob s₁ => ob = .ref s.heap.objs.size ∧ s₁ = { s with heap := s.heap.push (nSet w) }) ⟨rfl, rfl⟩) fun res s₁ hres => ?_
  cases res with
  | error e => exact hres
  | ok fl =>
    cases fl with
    | ret ob =>
      obtain ⟨rfl, rfl⟩ := hres
      have there : (s.heap.push (nSet w)).get? s.heap.objs.size = some (nSet w) := Heap.get?_push_size _ rfl
      have isS : Shared.TypeIs { s with heap := s.heap.push (nSet w) } (.ref s.heap.objs.size) "set" := ⟨_, there, rfl⟩
      have i1 := F.called_set.init.lookup; have i2 := F.called_set.init.bind (.ref s.heap.objs.size)
      repeat (any_goals (first | assumption | wp_step))
      refine codeAny_mono (codeAny_call_builtin (R := wants (fun r s₂ => r = .none ∧ ∃ h' tk L es ep t, s₂ = { s with heap := h', toks := tk } ∧ SetTR P w h' s.heap.objs.size L es ep t ∧ Got ks ks.length L ∧ (∀ b o, s.heap.get? b = some o → h'.get? b = some o)) E) F.called_set.init.plain F.entry_set_init (check_set_init_1 isS ?_)) fun r₂ s₂ hr₂ => ?_
      · obtain ⟨⟨ocls, odict, odata, oslots⟩, hol, hcl, nl, hdl⟩ := id hl
        simp only at hcl hdl; subst hcl; subst hdl
        have lthere : (s.heap.push (nSet w)).get? l = some { cls := .type "tuple", dict := odict, data := .seq items nl, slots := oslots } := Heap.get?_push_of_some _ hol
        have s1 := F.sub_tuple_set; have s2 := F.sub_tuple_frozenset; have s3 : (Value.type "tuple" == Value.type "dict") = false := by decide
        have isL : (s.heap.push (nSet w)).IsTuple l items := hl.push _
        unfold Builtin.«set.__init__» noKeywords Builtin.Frozenset.updateFrom; generalize ePI : pyIter = PI
        wp_walk
        subst ePI
        refine wpAny_pyIter_tuple isL ?_; refine wpAny_bind (wpAny_runValue ?_)
        have lt : l < s.heap.objs.size := Heap.lt_size hol
        have calm3 : A.in1.in1.in1.handled = none := by simp [hh]
        have neI : l ≠ (s.heap.push (nSet w)).objs.size := by rw [Heap.size_push]; exact Nat.ne_of_lt (Nat.lt_succ_of_lt lt)
        have notin : s.heap.objs.size ∉ [(s.heap.push (nSet w)).objs.size, l] := by
          rw [Heap.size_push]; simp only [List.mem_cons, List.mem_singleton, List.not_mem_nil, or_false, not_or]; exact ⟨Nat.ne_of_lt (Nat.lt_succ_self _), Nat.ne_of_gt lt⟩
        have vals : ∀ (i : Nat) (v : Value), items[i]? = some v → ∃ p, ks[i]? = some p ∧ v = .ref p.1 := fun i v hv => by
          have q : items.toList[i]? = some v := by rw [Array.getElem?_toList]; exact hv
          rw [hit, List.getElem?_map, Option.map_eq_some_iff] at q
          obtain ⟨p, hp, e⟩ := q
          exact ⟨p, hp, e.symm⟩
        have none_of : ∀ b, s.heap.objs.size ≤ b → s.heap.get? b = none := fun b hb => by
          cases q : s.heap.get? b with
          | none => rfl
          | some o => exact absurd (Nat.lt_of_lt_of_le (Heap.lt_size q) hb) (Nat.lt_irrefl _)
        refine set_update_tups ((Walks.tuple calm3 _ l neI items).toS) s.heap.objs.size notin ks sz hfew vals s.heap hk (none_of _ (Nat.le_refl _)) (fun b hb => none_of b (by rw [List.mem_singleton.mp hb, Heap.size_push]; exact Nat.le_succ _)) hu (items.size - 0) 0 _ (by omega) (Nat.zero_le _) ⟨⟨_, Heap.get?_push_size _ rfl, rfl, rfl⟩, (isL.push _)⟩ (fun b o e => Heap.get?_push_of_some _ (Heap.get?_push_of_some _ e)) ⟨[], #[], 0, _, setTR_fresh (Heap.get?_push_of_some _ there), Got.zero ks⟩ fun s' L es ep t hm hS' g' hkp => ?_
        obtain ⟨h', g2, d', tk', os'⟩ := s'
        have eg : g2 = s.gens := hm.gens; have ed : d' = s.drawn := hm.drawn; have eo : os' = s.os := hm.os
        subst eg; subst ed; subst eo
        show wpAny _ _ _ _ _ _
        refine wpAny_pure ?_; show wpAny _ _ (ret Value.none) _ _ _
        rw [sz] at g'; exact wpAny_pure ⟨rfl, h', tk', L, es, ep, t, rfl, hS', g', hkp⟩
      · cases r₂ with
        | error e => exact hr₂
        | ok fl₂ =>
          cases fl₂ with
          | ret r =>
            obtain ⟨rfl, h', tk, L, es, ep, t, rfl, hS', g', hk'⟩ := hr₂
            repeat (any_goals (first | assumption | wp_step))
            exact fin _ _ _ _ _ _ hS' g' hk'
          | _ => exact hr₂.elim
    | _ => exact hres.elim
end
section
variable {X : Cx} {G : Gh} {a : Expr} {pos p p1 p2 p3 : Pos}
theorem cr_setTT (hc : X.calm = true) (hu : X.A.units + 64 < cLine) : CallR X (.type "set") (fun xs H Q => ∃ (l : Addr) (ks : List (Addr × List Int)), xs = [V.ref l] ∧ SqT X.K H l (ks.map fun p => V.ref p.1) ∧ (∀ p ∈ ks, SqT X.K H p.1 (p.2.map V.int)) ∧ ks.length < 64 ∧
    ∀ a L, H a = none → (∀ p ∈ L, p ∈ ks) → (∀ p ∈ ks, p.2 ∈ L.map (·.2)) → Q (.ref a) (upd H a (SetTO X.prog X.w a L))) := by
  intro pins s σ H xs us Q I r h
  obtain ⟨l, ks, rfl, hl, hk, hf, q⟩ := h
  rw [Vals.ref1 r]
  obtain ⟨its, rv, pl, hz⟩ := I.tuple hl
  have hn : H s.heap.objs.size = none := I.hok.fresh (Nat.le_refl _)
  refine set_of_tuple (P := X.prog) (w := X.w) ks (I.ok.hd hc) pl (by simpa using refs_of_vals rv) (fun p hp => I.isT (hk p hp)) hf (by omega) fun h' tk L es ep t R g k => ?_
  refine ⟨.ref s.heap.objs.size, upd H s.heap.objs.size (SetTO X.prog X.w s.heap.objs.size L), I.laid (t' := tk) k (Nat.le_refl _) (setTO_new R.t0), rfl, q _ L hn (fun p hp => ?_) fun p hp => ?_⟩
  · exact List.mem_of_mem_take (g.sub p hp)
  · exact g.all p (by rw [List.take_length]; exact hp)
theorem cr_lenT : CallR X (.builtin "len") (fun vs H Q => ∃ (a : Addr) (L : List (Addr × List Int)), vs = [V.ref a] ∧ H a = some (SetTO X.prog X.w a L) ∧ (∀ p ∈ L, SqT X.K H p.1 (p.2.map V.int)) ∧ ((L.map (·.2)).Nodup → Q (.int L.length) H)) := by
  intro pins s σ H vs us Q I r h
  obtain ⟨a, L, rfl, ha, hk, q⟩ := h
  have R0 : SetT0 X.prog X.w s.heap a L := (I.hok a _ ha).1
  obtain ⟨es, ep, t, R⟩ := R0.full fun p hp => I.isT (hk p hp)
  rw [Vals.ref1 r]
  obtain ⟨o, ho, hex, hd⟩ := R.ob
  have hs := R.size
  have hw := R.few
  exact call_len_set ho hex hd R.fits (by omega) ⟨.int L.length, H, I.tok _, ⟨_, by rw [hs]⟩, q R.nd⟩
end
end DL

set_option Elab.async false
set_option linter.all false
set_option maxRecDepth 100000
set_option maxHeartbeats 3200000
/-! DL27: len(set(t)), sorted(set(t)) of a tuple of pairs of ints. -/
namespace DL
open PySem PySem.Spec PyProof.Rows L2
def pE (c : Int × Int) : D := .tuple [.int c.1, .int c.2]
def prL (c : Int × Int) : List Int := [c.1, c.2]
def dP (l : List Int) : Int × Int := (l.getD 0 0, l.getD 1 0)
theorem dP_prL (c : Int × Int) : dP (prL c) = c := rfl
theorem prL_inj {c d : Int × Int} (h : prL c = prL d) : c = d := by rw [← dP_prL c, h, dP_prL]
def ltC (a b : Int × Int) : Prop := a.1 < b.1 ∨ (a.1 = b.1 ∧ a.2 < b.2)
/-- a row of pairs: where they stand -/
theorem pairs_ks {K : PySem.W.Frag} {H : Hp} : ∀ {cs : List (Int × Int)} {vs : List V}, RpL K H (cs.map pE) vs → ∃ ks : List (Addr × List Int), vs = ks.map (fun p => V.ref p.1) ∧ ks.map (·.2) = cs.map prL ∧ ∀ p ∈ ks, Rp K H (.tuple (p.2.map PyData.int)) (.ref p.1)
  | [], _, .nil => ⟨[], rfl, rfl, fun p hp => by cases hp⟩
  | c :: cs, _, .cons h l => by
    obtain ⟨ks, rfl, e, hk⟩ := pairs_ks l
    have h' : Rp K H (.tuple ((prL c).map PyData.int)) _ := h
    cases h' with
    | tup hs ll =>
      rename_i a vs
      refine ⟨(a, prL c) :: ks, rfl, by rw [List.map_cons, List.map_cons, e], fun p hp => ?_⟩
      rcases List.mem_cons.mp hp with rfl | hp
      · exact .tup hs ll
      · exact hk p hp
theorem Rp.ints_sq {K : PySem.W.Frag} {H : Hp} {ns : List Int} {a : Addr} (h : Rp K H (.tuple (ns.map PyData.int)) (.ref a)) : SqT K H a (ns.map V.int) := by
  generalize e : PyData.tuple (ns.map PyData.int) = d at h
  cases h with
  | tup hs ll =>
    injection e with e
    rw [← e] at ll
    rw [ll.ints] at hs
    exact hs.1
  | lst _ _ => cases e
  | dct _ _ _ _ => cases e
  | hdl _ => cases e
  | dck _ _ _ _ => cases e
section
variable {X : Cx} {G : Gh} {a : Expr} {pos p p1 p2 p3 : Pos}
def tLenSetP (ta : TD) : TD := fun E Q => ta E fun x E1 => match x with
  | .tuple xs => ∃ cs : List (Int × Int), xs = cs.map pE ∧ cs.length < 64 ∧ ∀ zs : List (Int × Int), zs.Nodup → (∀ c, c ∈ zs ↔ c ∈ cs) → Q (.int (zs.length : Nat)) E1
  | _ => False
theorem zs_of {cs : List (Int × Int)} {ks L : List (Addr × List Int)} (e : ks.map (·.2) = cs.map prL) (h1 : ∀ p ∈ L, p ∈ ks) (h2 : ∀ p ∈ ks, p.2 ∈ L.map (·.2)) : (∀ p ∈ L, p.2 = prL (dP p.2)) ∧ (∀ c, c ∈ L.map (fun p => dP p.2) ↔ c ∈ cs) := by
  have k : ∀ p ∈ ks, ∃ c ∈ cs, p.2 = prL c := fun p hp => by
    have : p.2 ∈ cs.map prL := by rw [← e]; exact List.mem_map_of_mem hp
    obtain ⟨c, hc, e⟩ := List.mem_map.mp this
    exact ⟨c, hc, e.symm⟩
  refine ⟨fun p hp => ?_, fun c => ⟨fun h => ?_, fun h => ?_⟩⟩
  · obtain ⟨c, _, e⟩ := k p (h1 p hp)
    rw [e, dP_prL]
  · obtain ⟨p, hp, rfl⟩ := List.mem_map.mp h
    obtain ⟨c, hc, e⟩ := k p (h1 p hp)
    rw [e, dP_prL]; exact hc
  · have : prL c ∈ ks.map (·.2) := by rw [e]; exact List.mem_map_of_mem h
    obtain ⟨p, hp, e2⟩ := List.mem_map.mp this
    obtain ⟨q, hq, e3⟩ := List.mem_map.mp (h2 p hp)
    refine List.mem_map.mpr ⟨q, hq, ?_⟩
    show dP q.2 = c
    rw [show q.2 = p.2 from e3, show p.2 = prL c from e2, dP_prL]
theorem nd_of_zs {L : List (Addr × List Int)} (h : ∀ p ∈ L, p.2 = prL (dP p.2)) (nd : (L.map (·.2)).Nodup) : (L.map (fun p => dP p.2)).Nodup := by
  have e : L.map (·.2) = (L.map (fun p => dP p.2)).map prL := by
    rw [List.map_map]; exact List.map_congr_left fun p hp => h p hp
  rw [e] at nd
  exact nd.of_map _ fun a b hne h => hne (by rw [h])
theorem ed_lenSetP {ta : TD} (ha : ED X G a ta) (hu : X.A.units + 65 < cLine) (hg : Gl X "len") (hm : X.mg "len" = none) (hg2 : Gl X "set") (hm2 : X.mg "set" = none) (hc : X.calm = true := by rfl)
    (hs : starEach [a] X.env = (false, eval a X.env) :: starEach [] X.env := by rfl) : ED X G (.Call (.Name "len" p) [.Call (.Name "set" p1) [a] [] p2] [] pos) (tLenSetP ta) := by
  refine ⟨PE.weak (pe_callB cr_lenT hg hm bb_len (pa_cons (pe_callTy (cr_setTT hc (by omega)) hg2 hm2 PyProof.Rows.boot_set (pa_cons ha.pe pa_nil hs) (by decide) (by decide) hs) pa_nil)) fun σ H Q ⟨E, QE, rel, q, k⟩ => ⟨E, _, rel, q, fun x E1 v H1 q1 x1 r1 p1 => ?_⟩⟩
  cases p1 with
  | tup h1 l1 =>
    obtain ⟨cs, rfl, hl, q1⟩ := q1
    obtain ⟨ks, rfl, e, hk⟩ := pairs_ks l1
    have hlen : ks.length = cs.length := by have := congrArg List.length e; simpa using this
    refine ⟨_, ks, rfl, h1.1, fun p hp => (hk p hp).ints_sq, by omega, fun a L hn m1 m2 => ⟨a, L, rfl, upd_same, fun p hp => SqT.ext (PExt.new hn).ext (hk p (m1 p hp)).ints_sq, fun nd => ?_⟩⟩
    obtain ⟨z1, z2⟩ := zs_of e m1 m2
    have := q1 _ (nd_of_zs z1 nd) z2
    rw [List.length_map] at this
    exact k _ _ _ _ this (x1.trans (PExt.new hn).ext) (r1.pext (PExt.new hn)) (.int _)
  | _ => exact q1.elim
def tSortSetP (ta : TD) : TLd := fun E Q => ta E fun x E1 => match x with
  | .tuple xs => ∃ cs : List (Int × Int), xs = cs.map pE ∧ cs.length < 64 ∧ (∀ c ∈ cs, (0 ≤ c.1 ∧ c.1 < 64) ∧ (0 ≤ c.2 ∧ c.2 < 64)) ∧ ∀ zs : List (Int × Int), zs.Pairwise ltC → (∀ c, c ∈ zs ↔ c ∈ cs) → Q (zs.map pE) E1
  | _ => False
theorem el_sortSetP {ta : TD} (ha : ED X G a ta) (hu : X.A.units + 65 < cLine) (hg : Gl X "sorted") (hm : X.mg "sorted" = none) (hg2 : Gl X "set") (hm2 : X.mg "set" = none) (hc : X.calm = true := by rfl)
    (hs : starEach [a] X.env = (false, eval a X.env) :: starEach [] X.env := by rfl) : EL X G (.Call (.Name "sorted" p) [.Call (.Name "set" p1) [a] [] p2] [] pos) (tSortSetP ta) := by
  refine ⟨PE.weak (pe_callB (cr_sortedT hc) hg hm bb_sorted (pa_cons (pe_callTy (cr_setTT hc (by omega)) hg2 hm2 PyProof.Rows.boot_set (pa_cons ha.pe pa_nil hs) (by decide) (by decide) hs) pa_nil)) fun σ H Q ⟨E, QE, rel, q, k⟩ => ⟨E, _, rel, q, fun x E1 v H1 q1 x1 r1 p1 => ?_⟩⟩
  cases p1 with
  | tup h1 l1 =>
    obtain ⟨cs, rfl, hl, hb, q1⟩ := q1
    obtain ⟨ks, rfl, e, hk⟩ := pairs_ks l1
    have hlen : ks.length = cs.length := by have := congrArg List.length e; simpa using this
    refine ⟨_, ks, rfl, h1.1, fun p hp => (hk p hp).ints_sq, by omega, fun a L hn m1 m2 => ?_⟩
    obtain ⟨z1, z2⟩ := zs_of e m1 m2
    have bd : ∀ p ∈ L, (0 ≤ (dP p.2).1 ∧ (dP p.2).1 < 64) ∧ (0 ≤ (dP p.2).2 ∧ (dP p.2).2 < 64) := fun p hp => hb _ ((z2 _).mp (List.mem_map.mpr ⟨p, hp, rfl⟩))
    refine ⟨a, L, 2, 64, rfl, upd_same, fun p hp => SqT.ext (PExt.new hn).ext (hk p (m1 p hp)).ints_sq, by decide, fun p hp => ⟨by rw [z1 p hp]; rfl, ?_⟩, fun L' p' pm nd _ pw hp' => ?_⟩
    · rw [z1 p hp]
      have := bd p hp
      intro n hn
      rcases List.mem_cons.mp hn with rfl | hn
      · exact this.1
      · rw [List.mem_singleton.mp hn]; exact this.2
    · have z1' : ∀ p ∈ L', p.2 = prL (dP p.2) := fun p hp => z1 p (pm.mem_iff.mp hp)
      have zz : (L'.map fun p => dP p.2).Pairwise ltC := by
        rw [List.pairwise_map]
        have nd2 := nd_of_zs z1' nd
        rw [List.Nodup, List.pairwise_map] at nd2
        refine (pw.and nd2).imp_of_mem fun {a b} ha hb h => ?_
        obtain ⟨hle, hne⟩ := h
        rw [z1' a ha, z1' b hb] at hle
        have ba := bd a (pm.mem_iff.mp ha)
        have bb := bd b (pm.mem_iff.mp hb)
        exact pair_lt hle (fun z => hne (prL_inj z)) ba.1 ba.2 bb.1 bb.2
      have zm : ∀ c, c ∈ L'.map (fun p => dP p.2) ↔ c ∈ cs := fun c => by rw [← z2 c]; exact (pm.map _).mem_iff
      have xx : PExt H1 (upd (upd H1 a (SetTO X.prog X.w a L)) p' (.lst (L'.map fun q => V.ref q.1))) := (PExt.new hn).trans (PExt.new hp')
      obtain ⟨r3, h30, n3⟩ := (r1.pext (PExt.new (o := SetTO X.prog X.w a L) hn)).fresh (o := .lst (L'.map fun q => V.ref q.1)) hp'
      refine k _ _ _ _ _ (q1 _ zz zm) (x1.trans xx.ext) r3 h30 n3 upd_same ?_
      have rp : ∀ (M : List (Addr × List Int)), (∀ p ∈ M, p ∈ L') → RpL X.K (upd (upd H1 a (SetTO X.prog X.w a L)) p' (.lst (L'.map fun q => V.ref q.1))) ((M.map fun p => dP p.2).map pE) (M.map fun q => V.ref q.1) := by
        intro M
        induction M with
        | nil => intro _; exact .nil
        | cons m M ih =>
          intro h
          have hm := h m (List.mem_cons_self ..)
          have r0 := (hk m (m1 m (pm.mem_iff.mp hm))).ext xx.ext
          rw [z1' m hm] at r0
          exact .cons r0 (ih fun p hp => h p (List.mem_cons_of_mem _ hp))
      exact rp L' fun _ h => h
  | _ => exact q1.elim
end
end DL

set_option Elab.async false
set_option linter.all false
set_option maxRecDepth 100000
set_option maxHeartbeats 1000000
/-! DL28: chains of comparisons as tests. -/
namespace DL
open PySem PySem.Spec PyProof.Rows L2
section
variable {X : Cx} {G : Gh} {a b c d e : Expr} {pos p p1 p2 p3 : Pos}
theorem pt_chain3 {ta tb tc td : TE} {op op' op'' : CmpOp} {r r' r'' : R2} (ho : OpR X (compareOp op) r) (ho' : OpR X (compareOp op') r') (ho'' : OpR X (compareOp op'') r'') (ha : PE X a ta) (hb : PE X b tb) (hc : PE X c tc) (hd : PE X d td)
    (hm : lastMarks [op, op', op''] [b, c, d] = false := by with_unfolding_all rfl) : PT X (.Compare a [op, op', op''] [b, c, d] pos) (tTest (tChain3 r r' r'' ta tb tc td)) := by
  refine ⟨fun pins s σ H Q I h => ?_⟩
  refine isTrue_chain (thn (ha.run pins s σ H _ I h) fun v s1 ⟨x, H1, I1, r1, q1⟩ => test_link (thn (hb.run pins s1 σ H1 _ I1 q1) fun u s2 ⟨y, H2, I2, r2, q2⟩ =>
    thn (ho pins s2 σ H2 x y v u _ I2 r1 r2 q2) fun d s3 ⟨z, H3, I3, r3, k, e, q3⟩ => ?_)) hm
  subst e
  cases r3
  refine wpAny_truthy_bool ?_
  cases k with
  | false =>
    obtain ⟨k', e', q'⟩ := q3
    cases e'
    exact ite_ff ⟨H3, I3, q'⟩
  | true =>
    refine ite_tt (test_link (thn (hc.run pins s3 σ H3 _ I3 q3) fun w' s4 ⟨z', H4, I4, r4, q4⟩ => thn (ho' pins s4 σ H4 y z' u w' _ I4 r2 r4 q4) fun d s5 ⟨z, H5, I5, r5, k, e, q5⟩ => ?_))
    subst e
    cases r5
    refine wpAny_truthy_bool ?_
    cases k with
    | false =>
      obtain ⟨k', e', q'⟩ := q5
      cases e'
      exact ite_ff ⟨H5, I5, q'⟩
    | true =>
      refine ite_tt (test_last (thn (hd.run pins s5 σ H5 _ I5 q5) fun w'' s6 ⟨z'', H6, I6, r6, q6⟩ => thn (ho'' pins s6 σ H6 z' z'' w' w'' _ I6 r4 r6 q6) fun d' s7 ⟨z2, H7, I7, r7, k2, e2, q7⟩ => ?_))
      subst e2
      cases r7
      exact wpAny_truthy_bool ⟨H7, I7, q7⟩
theorem tBo_lift {t : TD} {σ : St} {H : Hp} {Q : Bool → Hp → Prop} (h : liftT X.K G (tBo t) σ H Q) : liftE X.K G t σ H fun x H' => ∃ k, x = .bl k ∧ Q k H' := by
  obtain ⟨E, QE, rel, q, k⟩ := h
  refine ⟨E, _, rel, q, fun d E' v H' q1 x1 r1 p1 => ?_⟩
  cases p1 with
  | bl b => exact ⟨b, rfl, k b E' H' q1 x1 r1⟩
  | _ => exact q1.elim
theorem eb_chain3 {op op' op'' : CmpOp} {o o' o'' : OpT} {ta tb tc td : TD} (ho : OpD X (compareOp op) o) (ho' : OpD X (compareOp op') o') (ho'' : OpD X (compareOp op'') o'') (ha : ED X G a ta) (hb : ED X G b tb) (hc : ED X G c tc) (hd : ED X G d td)
    (h1 : lastMarks [op, op', op''] [b, c, d] = false := by with_unfolding_all rfl) : EB X G (.Compare a [op, op', op''] [b, c, d] pos) (tBo (tChain3D o o' o'' ta tb tc td)) := by
  obtain ⟨r, hr, hq⟩ := ho
  obtain ⟨r', hr', hq'⟩ := ho'
  obtain ⟨r'', hr'', hq''⟩ := ho''
  refine ⟨PT.weak (pt_chain3 hr hr' hr'' ha.pe hb.pe hc.pe hd.pe h1) fun σ H Q h => ?_⟩
  obtain ⟨E, QE, rel, q, k⟩ := tBo_lift h
  refine ⟨E, _, rel, q, fun x E1 v H1 q1 x1 r1 p1 => ⟨E1, _, r1, q1, fun y E2 u H2 q2 x2 r2 p2 => ?_⟩⟩
  refine hq x y v u H2 _ _ (.inl (p1.ext x2)) (.inl p2) q2 fun z w H3 q3 px rz => ?_
  cases rz with
  | bl b =>
    refine ⟨b, rfl, ?_⟩
    cases b with
    | true =>
      refine iteT ⟨E2, _, r2.pext px, q3, fun c E3 w H4 q4 x4 r4 p4 => ?_⟩
      refine hq' y c u w H4 _ _ (.inl ((p2.ext px.ext).ext x4)) (.inl p4) q4 fun z w' H5 q5 px5 rz5 => ?_
      cases rz5 with
      | bl b =>
        refine ⟨b, rfl, ?_⟩
        have xx := (((x1.trans x2).trans px.ext).trans x4).trans px5.ext
        cases b with
        | true =>
          refine iteT ⟨E3, _, r4.pext px5, q5, fun d E4 w6 H6 q6 x6 r6 p6 => ?_⟩
          exact hq'' c d w w6 H6 _ _ (.inl ((p4.ext px5.ext).ext x6)) (.inl p6) q6 fun z w7 H7 q7 px7 rz7 => k _ _ _ _ q7 ((xx.trans x6).trans px7.ext) (r6.pext px7) rz7
        | false => exact iteF (k _ _ _ _ q5 xx (r4.pext px5) (.bl false))
      | _ => exact q5.elim
    | false => exact iteF (k _ _ _ _ q3 ((x1.trans x2).trans px.ext) (r2.pext px) (.bl false))
  | _ => exact q3.elim
theorem eb_chain {op op' : CmpOp} {o o' : OpT} {ta tb tc : TD} (ho : OpD X (compareOp op) o) (ho' : OpD X (compareOp op') o') (ha : ED X G a ta) (hb : ED X G b tb) (hc : ED X G c tc)
    (h1 : lastMarks [op, op'] [b, c] = false := by with_unfolding_all rfl) : EB X G (.Compare a [op, op'] [b, c] pos) (tBo (tChainD o o' ta tb tc)) := by
  obtain ⟨r, hr, hq⟩ := ho
  obtain ⟨r', hr', hq'⟩ := ho'
  refine ⟨PT.weak (pt_chain hr hr' ha.pe hb.pe hc.pe h1) fun σ H Q h => ?_⟩
  obtain ⟨E, QE, rel, q, k⟩ := tBo_lift h
  refine ⟨E, _, rel, q, fun x E1 v H1 q1 x1 r1 p1 => ⟨E1, _, r1, q1, fun y E2 u H2 q2 x2 r2 p2 => ?_⟩⟩
  refine hq x y v u H2 _ _ (.inl (p1.ext x2)) (.inl p2) q2 fun z w H3 q3 px rz => ?_
  cases rz with
  | bl b =>
    refine ⟨b, rfl, ?_⟩
    cases b with
    | true =>
      refine iteT ⟨E2, _, r2.pext px, q3, fun c E3 w H4 q4 x4 r4 p4 => ?_⟩
      exact hq' y c u w H4 _ _ (.inl ((p2.ext px.ext).ext x4)) (.inl p4) q4 fun z w H5 q5 px5 rz5 => k _ _ _ _ q5 ((((x1.trans x2).trans px.ext).trans x4).trans px5.ext) (r4.pext px5) rz5
    | false => exact iteF (k _ _ _ _ q3 ((x1.trans x2).trans px.ext) (r2.pext px) (.bl false))
  | _ => exact q3.elim

end
end DL

set_option Elab.async false
set_option linter.all false
set_option maxRecDepth 100000
set_option maxHeartbeats 1000000
/-! DL29: dicts whose keys are tuples of ints (nested): look-up, store, in. -/
namespace DL
open PySem PySem.Spec PyProof.Rows L2
mutual
theorem nk_hash {w w' : World} : ∀ {d : D} {k : NestedKey}, nkOf d = some k → k.hash w = k.hash w'
  | .int i, k, h => by unfold nkOf at h; cases h; rfl
  | .tuple xs, k, h => by
    unfold nkOf at h
    obtain ⟨ks, h1, rfl⟩ := Option.map_eq_some_iff.mp h
    unfold NestedKey.hash; rw [nks_hash (w := w) (w' := w') h1]
  | .none, k, h => by simp [nkOf] at h
  | .bool _, k, h => by simp [nkOf] at h
  | .str _, k, h => by simp [nkOf] at h
  | .list _, k, h => by simp [nkOf] at h
  | .dict _, k, h => by simp [nkOf] at h
theorem nks_hash {w w' : World} : ∀ {ds : List D} {ks : List NestedKey}, nksOf ds = some ks → NestedKey.hashes w ks = NestedKey.hashes w' ks
  | [], ks, h => by unfold nksOf at h; cases h; rfl
  | d :: ds, ks, h => by
    unfold nksOf at h
    split at h
    · rename_i k ks' h1 h2
      cases h
      unfold NestedKey.hashes; rw [nk_hash (w := w) (w' := w') h1, nks_hash (w := w) (w' := w') h2]
    · cases h
end
mutual
theorem nk_inj : ∀ {d e : D} {k : NestedKey}, nkOf d = some k → nkOf e = some k → d = e
  | .int i, e, k, h, h' => by
    unfold nkOf at h; cases h
    cases e with
    | int j => unfold nkOf at h'; cases h'; rfl
    | tuple ys => unfold nkOf at h'; obtain ⟨ks, h1, h2⟩ := Option.map_eq_some_iff.mp h'; cases h2
    | _ => simp [nkOf] at h'
  | .tuple xs, e, k, h, h' => by
    unfold nkOf at h
    obtain ⟨ks, h1, rfl⟩ := Option.map_eq_some_iff.mp h
    cases e with
    | int j => unfold nkOf at h'; cases h'
    | tuple ys => unfold nkOf at h'; obtain ⟨ks', h3, h4⟩ := Option.map_eq_some_iff.mp h'; cases h4; rw [nks_inj h1 h3]
    | _ => simp [nkOf] at h'
  | .none, _, k, h, _ => by simp [nkOf] at h
  | .bool _, _, k, h, _ => by simp [nkOf] at h
  | .str _, _, k, h, _ => by simp [nkOf] at h
  | .list _, _, k, h, _ => by simp [nkOf] at h
  | .dict _, _, k, h, _ => by simp [nkOf] at h
theorem nks_inj : ∀ {ds es : List D} {ks : List NestedKey}, nksOf ds = some ks → nksOf es = some ks → ds = es
  | [], es, ks, h, h' => by
    unfold nksOf at h; cases h
    cases es with
    | nil => rfl
    | cons e es => unfold nksOf at h'; split at h' <;> cases h'
  | d :: ds, es, ks, h, h' => by
    unfold nksOf at h
    split at h
    · rename_i k ks' h1 h2
      cases h
      cases es with
      | nil => unfold nksOf at h'; cases h'
      | cons e es =>
        unfold nksOf at h'
        split at h'
        · rename_i k2 ks2 h3 h4
          cases h'
          rw [nk_inj h1 h3, nks_inj h2 h4]
        · cases h'
    · cases h
end
def valN (kvs : List (D × D)) (k : D) : Option D := (kvs.find? fun p => decide (nkOf p.1 = nkOf k)).map (·.2)
def putN (kvs : List (D × D)) (k v : D) : List (D × D) := if (valN kvs k).isSome then kvs.map (fun p => if nkOf p.1 = nkOf k then (p.1, v) else p) else kvs ++ [(k, v)]
theorem valN_cons (p : D × D) (kvs : List (D × D)) (k : D) : valN (p :: kvs) k = if nkOf p.1 = nkOf k then some p.2 else valN kvs k := by
  unfold valN
  rw [List.find?_cons]
  by_cases h : nkOf p.1 = nkOf k
  · simp [h]
  · simp [h]
theorem paired_app {α β : Type} {F : α → β → Prop} : ∀ {a c : List α} {b d : List β}, Paired F a b → Paired F c d → Paired F (a ++ c) (b ++ d)
  | _, _, _, _, .nil, h => h
  | _, _, _, _, .cons r t, h => .cons r (paired_app t h)
abbrev TR (K : PySem.W.Frag) (H : Hp) : List (D × D) → List (NestedKey × Addr × Value) → Prop :=
  Paired fun p x => (∃ l, p.1 = .tuple l) ∧ nkOf p.1 = some x.1 ∧ x.1.depth ≤ 8 ∧ Rp K H p.1 (.ref x.2.1) ∧ ∃ v, Rp K H p.2 v ∧ RelV v x.2.2
section
variable {K : PySem.W.Frag} {H : Hp} {P : Program} {w : World}
theorem RpD.tr (P : Program) (w : World) : ∀ {kvs : List (D × D)} {es : List DictEntry}, RpD K H kvs es → ∃ xs, TR K H kvs xs ∧ es = xs.map (entryOfKey (nestedKind P w))
  | _, _, .nil => ⟨[], .nil, rfl⟩
  | _, _, .cons (nk := nk) (b := b) (v := v) (e := e) t n1 n2 n3 e1 h g r l => by
    obtain ⟨xs, h1, rfl⟩ := RpD.tr P w l
    refine ⟨(nk, b, e.val) :: xs, .cons ⟨t, n1, n2, h, v, g, r⟩ h1, ?_⟩
    rw [List.map_cons]
    congr 1
    obtain ⟨eh, ek, ev⟩ := e
    have hh : eh = nk.hash w := n3 w
    have hk : ek = Value.ref b := e1
    subst hh hk
    rfl
theorem TR.rpd {kvs : List (D × D)} {xs : List (NestedKey × Addr × Value)} (h : TR K H kvs xs) : RpD K H kvs (xs.map (entryOfKey (nestedKind P w))) := by
  unfold TR at h
  induction h with
  | nil => exact .nil
  | @cons p x ps xs q t ih =>
    obtain ⟨h1, h2, h3, h4, v, h5, h6⟩ := q
    obtain ⟨k, d⟩ := p
    exact .cons h1 h2 h3 (fun w' => nk_hash h2) rfl h4 h5 h6 ih
theorem TR.ext {H' : Hp} (x : Ext H H') {kvs : List (D × D)} {xs : List (NestedKey × Addr × Value)} (h : TR K H kvs xs) : TR K H' kvs xs :=
  Paired.mapP h fun _ _ ⟨h1, h2, h3, h4, v, h5, h6⟩ => ⟨h1, h2, h3, h4.ext x, v, h5.ext x, h6⟩
theorem TR.keys {kvs : List (D × D)} {xs : List (NestedKey × Addr × Value)} (h : TR K H kvs xs) (nd : (kvs.map fun p => nkOf p.1).Nodup) : (xs.map (·.1)).Nodup := by
  have e : kvs.map (fun p => nkOf p.1) = (xs.map (·.1)).map some := by
    unfold TR at h
    induction h with
    | nil => rfl
    | cons q t ih => 
      rw [List.map_cons, List.map_cons, List.map_cons, q.2.1, ih (List.nodup_cons.mp (by simpa using nd)).2]
  rw [e] at nd
  exact (List.pairwise_map.mp nd).imp fun h z => h (by rw [z])
/-- what stands at a key -/
theorem TR.val {kvs : List (D × D)} {xs : List (NestedKey × Addr × Value)} (h : TR K H kvs xs) {k : D} {nk : NestedKey} (e : nkOf k = some nk) :
    (∀ d, valN kvs k = some d → ∃ p v, atKey xs nk = some p ∧ Rp K H d v ∧ RelV v p.2) ∧ (valN kvs k = none → atKey xs nk = none) := by
  unfold TR at h
  induction h with
  | nil => exact ⟨fun d hd => by simp [valN] at hd, fun _ => rfl⟩
  | @cons p x ps xs q t ih =>
    obtain ⟨h1, h2, h3, h4, v, h5, h6⟩ := q
    rw [valN_cons]
    by_cases hk : nkOf p.1 = nkOf k
    · have hx : x.1 = nk := by rw [h2, e] at hk; exact Option.some.inj hk
      rw [if_pos hk]
      refine ⟨fun d hd => ?_, fun z => nomatch z⟩
      cases hd
      exact ⟨x.2, v, by simp [atKey, hx], h5, h6⟩
    · have hx : ¬ x.1 = nk := fun z => hk (by rw [h2, e, z])
      rw [if_neg hk]
      have : atKey (x :: xs) nk = atKey xs nk := by simp [atKey, hx]
      rw [this]; exact ih
theorem TR.isSome {kvs : List (D × D)} {xs : List (NestedKey × Addr × Value)} (h : TR K H kvs xs) {k : D} {nk : NestedKey} (e : nkOf k = some nk) : (atKey xs nk).isSome = (valN kvs k).isSome := by
  obtain ⟨h1, h2⟩ := h.val e
  cases q : valN kvs k with
  | none => rw [h2 q]; rfl
  | some d => obtain ⟨p, v, hp, _⟩ := h1 d q; rw [hp]; rfl
theorem TR.put {kvs : List (D × D)} {xs : List (NestedKey × Addr × Value)} (h : TR K H kvs xs) {k d : D} {nk : NestedKey} {b : Addr} {v : V} {u : Value} (t : ∃ l, k = .tuple l) (e : nkOf k = some nk) (dp : nk.depth ≤ 8) (hk : Rp K H k (.ref b)) (hd : Rp K H d v) (r : RelV v u) :
    TR K H (putN kvs k d) (storedH xs nk b u) := by
  unfold putN storedH
  rw [h.isSome e]
  split
  · rename_i hs
    clear hs
    unfold TR at h ⊢
    induction h with
    | nil => exact .nil
    | @cons p x ps xs q tt ih =>
      obtain ⟨h1, h2, h3, h4, v', h5, h6⟩ := q
      rw [List.map_cons, List.map_cons]
      refine .cons ?_ ih
      by_cases hk' : nkOf p.1 = nkOf k
      · have hx : x.1 = nk := by rw [h2, e] at hk'; exact Option.some.inj hk'
        rw [if_pos hk', putAt, if_pos hx]
        exact ⟨h1, h2, h3, h4, v, hd, r⟩
      · have hx : ¬ x.1 = nk := fun z => hk' (by rw [h2, e, z])
        rw [if_neg hk', putAt, if_neg hx]
        exact ⟨h1, h2, h3, h4, v', h5, h6⟩
  · exact paired_app h (.cons ⟨t, e, dp, hk, v, hd, r⟩ .nil)
theorem putN_nodup {kvs : List (D × D)} {k v : D} (nd : (kvs.map fun p => nkOf p.1).Nodup) : ((putN kvs k v).map fun p => nkOf p.1).Nodup := by
  unfold putN
  split
  · have : (kvs.map (fun p => if nkOf p.1 = nkOf k then (p.1, v) else p)).map (fun p => nkOf p.1) = kvs.map fun p => nkOf p.1 := by
      rw [List.map_map]; refine List.map_congr_left fun p _ => ?_
      show nkOf (if nkOf p.1 = nkOf k then (p.1, v) else p).1 = nkOf p.1
      split <;> rfl
    rw [this]; exact nd
  · rename_i h
    rw [List.map_append, List.nodup_append]
    refine ⟨nd, by simp, fun a ha b hb => ?_⟩
    have hb : b = nkOf k := by simpa using hb
    subst hb
    obtain ⟨p, hp, rfl⟩ := List.mem_map.mp ha
    intro z
    apply h
    unfold valN
    rw [Option.isSome_map, List.find?_isSome]
    exact ⟨p, hp, by simpa using z⟩
theorem putN_len (kvs : List (D × D)) (k v : D) : (putN kvs k v).length ≤ kvs.length + 1 := by
  unfold putN
  split
  · rw [List.length_map]; omega
  · rw [List.length_append]; simp
end
end DL

set_option Elab.async false
set_option linter.all false
set_option maxRecDepth 100000
set_option maxHeartbeats 1000000
/-! DL30: rules for dicts whose keys are tuples of ints. -/
namespace DL
open PySem PySem.Spec PyProof.Rows L2
section
variable {X : Cx} {G : Gh} {pins : List (Addr × Obj)} {σ : St} {H : Hp} {s : Shared}
mutual
theorem nested_of (I : Inv X pins σ H s) : ∀ {d : D} {v : V} {u : Value} {k : NestedKey}, nkOf d = some k → Rp X.K H d v → RelV v u → NestedIs s.heap k u
  | .int i, v, u, k, h, r, q => by
    unfold nkOf at h; cases h; cases r
    obtain ⟨t, rfl⟩ := (show ∃ t, u = Value.int i t from q)
    exact .int i t
  | .tuple xs, v, u, k, h, r, q => by
    unfold nkOf at h
    obtain ⟨ks, h1, rfl⟩ := Option.map_eq_some_iff.mp h
    cases r with
    | tup hs l =>
      rename_i a vs
      obtain rfl : u = Value.ref a := q
      obtain ⟨its, rv, ⟨o, ho, hc, n, hd⟩, hz⟩ := I.tuple hs.1
      exact .tup ho hc hd (by simpa using nested_all I h1 l rv)
  | .none, _, _, k, h, _, _ => by simp [nkOf] at h
  | .bool _, _, _, k, h, _, _ => by simp [nkOf] at h
  | .str _, _, _, k, h, _, _ => by simp [nkOf] at h
  | .list _, _, _, k, h, _, _ => by simp [nkOf] at h
  | .dict _, _, _, k, h, _, _ => by simp [nkOf] at h
theorem nested_all (I : Inv X pins σ H s) : ∀ {ds : List D} {vs : List V} {us : List Value} {ks : List NestedKey}, nksOf ds = some ks → RpL X.K H ds vs → Vals vs us → NestedAll s.heap ks us
  | [], _, _, ks, h, r, q => by unfold nksOf at h; cases h; cases r; cases q; exact .nil
  | d :: ds, _, _, ks, h, r, q => by
    unfold nksOf at h
    split at h
    · rename_i k ks' h1 h2
      cases h
      cases r with
      | cons r1 r2 =>
        cases q with
        | cons q1 q2 => exact .cons (nested_of I h1 r1 q1) (nested_all I h2 r2 q2)
    · cases h
end
/-- a key -/
def keyB (d : D) : Bool := match d with
  | .tuple xs => match nksOf xs with
    | some ks => decide (NestedKey.depthAll ks ≤ 7)
    | none => false
  | _ => false
theorem keyB_ok {d : D} (h : keyB d = true) : (∃ l, d = .tuple l) ∧ ∃ k, nkOf d = some k ∧ k.depth ≤ 8 := by
  cases d with
  | tuple xs =>
    refine ⟨⟨xs, rfl⟩, ?_⟩
    unfold keyB at h
    dsimp only at h
    split at h
    · rename_i ks hk
      refine ⟨.tup ks, by unfold nkOf; rw [hk]; rfl, ?_⟩
      have := of_decide_eq_true h
      unfold NestedKey.depth; omega
    · cases h
  | _ => simp [keyB] at h
/-- a dict that is read -/
def DN (K : PySem.W.Frag) (H : Hp) (a : Addr) (kvs : List (D × D)) : Prop := ∃ es, Rd H a (dO a es) ∧ RpD K H kvs es ∧ (kvs.map fun p => nkOf p.1).Nodup ∧ (a == sysModules) = false
theorem DN.at (I : Inv X pins σ H s) {a : Addr} {kvs : List (D × D)} (h : DN X.K H a kvs) : ∃ xs, TR X.K H kvs xs ∧ s.heap.DictOfH (nestedKind X.prog X.w) a xs ∧ (a == sysModules) = false := by
  obtain ⟨es, e, l, nd, sm⟩ := h
  obtain ⟨xs, tr, rfl⟩ := l.tr X.prog X.w
  obtain ⟨⟨o, ep, h1, h2, h3⟩, _⟩ := e.ok I.hok
  refine ⟨xs, tr, ⟨o, _, ep, h1, h2, h3, by simp, ?_, tr.keys nd⟩, sm⟩
  intro x hx
  have : ∀ (kvs : List (D × D)) (xs : List (NestedKey × Addr × Value)), TR X.K H kvs xs → ∀ x ∈ xs, (nestedKind X.prog X.w).is s.heap x.1 x.2.1 := by
    intro kvs xs t
    unfold TR at t
    induction t with
    | nil => intro x hx; cases hx
    | cons q t ih =>
      intro x hx
      rcases List.mem_cons.mp hx with rfl | hx
      · exact ⟨nested_of I q.2.1 q.2.2.2.1 rfl, q.2.2.1⟩
      · exact ih x hx
  exact this kvs xs tr x hx
theorem key_is (I : Inv X pins σ H s) {d : D} {v : V} {u : Value} (hk : keyB d = true) (r : Rp X.K H d v) (q : RelV v u) : ∃ k b, nkOf d = some k ∧ k.depth ≤ 8 ∧ v = .ref b ∧ u = .ref b ∧ (nestedKind X.prog X.w).is s.heap k b := by
  obtain ⟨⟨l, rfl⟩, k, hk1, hk2⟩ := keyB_ok hk
  cases r with
  | tup hs ll =>
    rename_i b vs
    obtain rfl : u = Value.ref b := q
    exact ⟨k, b, hk1, hk2, rfl, rfl, nested_of I hk1 (.tup hs ll) rfl, hk2⟩
theorem room_n {A : Around} (hu : A.units + 65 < cLine) {P : Program} {w : World} : (nestedKind P w).room A.in1 := by show A.units + 1 + 8 < cLine; omega
theorem dn_type (I : Inv X pins σ H s) {a : Addr} {kvs : List (D × D)} (h : DN X.K H a kvs) : s.TypeIs (.ref a) "dict" ∧ ∀ b, Value.ref a = .ref b → ∃ ob, s.heap.get? b = some ob ∧ ob.dict = none := by
  obtain ⟨xs, tr, dd, sm⟩ := h.at I
  refine ⟨dd.typeIs, fun b q => ?_⟩
  cases q
  obtain ⟨ob, _, _, h1, h2, _⟩ := dd
  exact ⟨ob, h1, h2.2.1⟩

/-! ### expressions -/
variable {o i e f value : Expr} {pos pos' tpos apos cpos : Pos} {td ty tv tx : TE}
theorem pe_dgetN (hu : X.A.units + 65 < cLine) (ho : PE X o td) (hi : PE X i ty) (hs : NoSl i) : PE X (.Subscript o i pos)
    (fun σ H Q => td σ H fun x H1 => ty σ H1 fun y H2 => ∃ a kvs k d, x = .ref a ∧ DN X.K H2 a kvs ∧ keyB k = true ∧ Rp X.K H2 k y ∧ valN kvs k = some d ∧ ∀ v, Rp X.K H2 d v → Q v H2) := by
  refine ⟨fun pins s σ H Q I h => ?_⟩
  refine subD_of PySem.F.slot_dict_getitem.lookup hs (thn (ho.run pins s σ H _ I h) fun u s1 ⟨x, H1, I1, rx, q1⟩ => thn (hi.run pins s1 σ H1 _ I1 q1) fun iv s2 ⟨y, H2, I2, ry, a, kvs, k, d, ex, g, hk, rk, hv, q2⟩ => ?_)
  subst ex
  obtain rfl : u = Value.ref a := rx
  obtain ⟨xs, tr, dd, sm⟩ := g.at I2
  obtain ⟨nk, b, e1, e2, rfl, rfl, ki⟩ := key_is I2 hk rk ry
  obtain ⟨p, v, hp, rv, rl⟩ := (tr.val e1).1 d hv
  exact ⟨(dn_type I2 g).1, wpAny_getItem_heap (room_n hu) ki dd hp ⟨v, H2, I2.tok _, rl, q2 v rv⟩⟩
theorem pc_inN (hu : X.A.units + 65 < cLine) (hi : PE X i ty) (ho : PE X o td) : PC X .In i o
    (fun σ H Q => ty σ H fun y H1 => td σ H1 fun x H2 => ∃ a kvs k, x = .ref a ∧ DN X.K H2 a kvs ∧ keyB k = true ∧ Rp X.K H2 k y ∧ Q (.bl (valN kvs k).isSome) H2) := by
  refine ⟨fun pins s σ H Q I h => ?_⟩
  refine thn (hi.run pins s σ H _ I h) fun iv s1 ⟨y, H1, I1, ry, q1⟩ => thn (ho.run pins s1 σ H1 _ I1 q1) fun u s2 ⟨x, H2, I2, rx, a, kvs, k, ex, g, hk, rk, q2⟩ => ?_
  subst ex
  obtain rfl : u = Value.ref a := rx
  obtain ⟨xs, tr, dd, sm⟩ := g.at I2
  obtain ⟨nk, b, e1, e2, rfl, rfl, ki⟩ := key_is I2 hk rk ry
  refine wpAny_in_heap (room_n hu) ki sm dd ?_
  rw [tr.isSome e1]
  exact ⟨.bl _, H2, I2.tok _, rfl, q2⟩
theorem pc_notInN (hu : X.A.units + 65 < cLine) (hi : PE X i ty) (ho : PE X o td) : PC X .NotIn i o
    (fun σ H Q => ty σ H fun y H1 => td σ H1 fun x H2 => ∃ a kvs k, x = .ref a ∧ DN X.K H2 a kvs ∧ keyB k = true ∧ Rp X.K H2 k y ∧ Q (.bl (!(valN kvs k).isSome)) H2) := by
  refine ⟨fun pins s σ H Q I h => ?_⟩
  refine thn (hi.run pins s σ H _ I h) fun iv s1 ⟨y, H1, I1, ry, q1⟩ => thn (ho.run pins s1 σ H1 _ I1 q1) fun u s2 ⟨x, H2, I2, rx, a, kvs, k, ex, g, hk, rk, q2⟩ => ?_
  subst ex
  obtain rfl : u = Value.ref a := rx
  obtain ⟨xs, tr, dd, sm⟩ := g.at I2
  obtain ⟨nk, b, e1, e2, rfl, rfl, ki⟩ := key_is I2 hk rk ry
  refine wpAny_notIn_heap (room_n hu) ki sm dd ?_
  rw [tr.isSome e1]
  exact ⟨.bl _, H2, I2.tok _, rfl, q2⟩
theorem pe_dget2N (hu : X.A.units + 65 < cLine) (ho : PE X o td) (he : PE X e ty) (hf : PE X f tx) (m : M2 X o "get" apos e f cpos) : PE X (.Call (.Attribute o "get" apos) [e, f] [] cpos)
    (fun σ H Q => td σ H fun x H1 => ∃ a, x = .ref a ∧ (∃ kvs, DN X.K H1 a kvs) ∧ ty σ H1 fun y H2 => tx σ H2 fun z H3 => ∃ kvs k, DN X.K H3 a kvs ∧ keyB k = true ∧ Rp X.K H3 k y ∧ (∀ d v, valN kvs k = some d → Rp X.K H3 d v → Q v H3) ∧ (valN kvs k = none → Q z H3)) := by
  refine ⟨fun pins s σ H Q I h => ?_⟩
  refine wpAny_Call_method m.base m.few m.line PySem.F.plainAttrs_dict PySem.F.slot_dict_get PySem.F.type_dict_get (thn (ho.run pins s σ H _ I h) fun u s1 ⟨x, H1, I1, rx, a, ex, ⟨kvs0, d0⟩, q1⟩ => ?_)
  subst ex
  obtain rfl : u = Value.ref a := rx
  obtain ⟨t1, t2⟩ := dn_type I1 d0
  refine ⟨t1, t2, ?_⟩
  rw [m.trees]
  refine Calls.callWith_builtin rfl (Calls.evalArgs_plain (Calls.spliced_cons (thn (he.run pins s1 σ H1 _ I1 q1) fun iv s2 ⟨y, H2, I2, ry, q2⟩ =>
    Calls.spliced_cons (thn (hf.run pins s2 σ H2 _ I2 q2) fun fv s3 ⟨z, H3, I3, rz, q3⟩ => Calls.spliced_nil ?_))))
  obtain ⟨kvs, k, g, hk, rk, q4, q5⟩ := q3
  have hsome : ∃ xs nk b, TR X.K H3 kvs xs ∧ s3.heap.DictOfH (nestedKind X.prog X.w) a xs ∧ (a == sysModules) = false ∧ nkOf k = some nk ∧ iv = .ref b ∧ (nestedKind X.prog X.w).is s3.heap nk b := by
    obtain ⟨xs, tr, dd, sm⟩ := g.at I3
    obtain ⟨nk, b, e1, e2, e3, e4, ki⟩ := key_is I3 hk rk ry
    exact ⟨xs, nk, b, tr, dd, sm, e1, e4, ki⟩
  obtain ⟨xs, nk, b, tr, dd, sm, e1, rfl, ki⟩ := hsome
  refine getOr_keyed (room_n hu) ki sm ⟨xs, dd, rfl⟩ ?_
  rw [valueAt_pairsH]
  cases hv : valN kvs k with
  | none =>
    rw [(tr.val e1).2 hv]
    exact ⟨z, H3, I3.tok _, rz, q5 hv⟩
  | some d =>
    obtain ⟨p, v, hp, rv, rl⟩ := (tr.val e1).1 d hv
    rw [hp]
    exact ⟨v, H3, I3.tok _, rl, q4 d v hv rv⟩
/-- d[k] = v -/
theorem ps_dputN (hu : X.A.units + 65 < cLine) (ho : PE X o td) (hi : PE X i ty) (hv : PE X value tv) (hs : swapsWith value (some (.Subscript o i pos')) pos.line X.env = pure false) :
    PS X (.Assign [.Subscript o i pos'] value pos) (fun F σ H => tv σ H fun v H1 => td σ H1 fun x H2 => ty σ H2 fun y H3 => ∃ a es kvs k d, x = .ref a ∧ H3 a = some (dO a es) ∧ RpD X.K H3 kvs es ∧ (kvs.map fun p => nkOf p.1).Nodup ∧ (a == sysModules) = false ∧ keyB k = true ∧ Rp X.K H3 k y ∧ Rp X.K H3 d v ∧ kvs.length < sizeLine ∧
      ∀ es', RpD X.K (upd H3 a (dO a es')) (putN kvs k d) es' → F.nx σ (upd H3 a (dO a es'))) := by
  refine ⟨fun pins s σ H D I h => ?_⟩
  refine wpAny_Assign_Subscript (thn (hv.run pins s σ H _ I h) fun r s1 ⟨v, H1, I1, rv, q1⟩ => thn (ho.run pins s1 σ H1 _ I1 q1) fun u s2 ⟨x, H2, I2, rx, q2⟩ => thn (hi.run pins s2 σ H2 _ I2 q2) fun iv s3 ⟨y, H3, I3, ry, a, es, kvs, k, d, ex, ea, l, nd, sm, hk, rk, rd, hz, q3⟩ => ?_) hs
  subst ex
  obtain rfl : u = Value.ref a := rx
  obtain ⟨xs, tr, dd, _⟩ := DN.at I3 (⟨es, .inl ea, l, nd, sm⟩ : DN X.K H3 a kvs)
  have hk2 := hk
  obtain ⟨nk, b, e1, e2, rfl, rfl, ki⟩ := key_is I3 hk rk ry
  have hl : xs.length ≤ sizeLine := by rw [← Paired.length tr]; omega
  refine wpAny_setItem_heap (hsz := hl) (room_n hu) ki dd fun h' dd' hs => ?_
  obtain ⟨q, es', ep, hq, h2, h3, h4, _, h5⟩ := dd'
  have hes : es' = ((storedH xs nk b r).map (entryOfKey (nestedKind X.prog X.w))).toArray := by rw [← h4]
  have x : Ext H3 (upd H3 a (dO a ((storedH xs nk b r).map (entryOfKey (nestedKind X.prog X.w))))) := Ext.putS ea (fun _ z => by cases z) (fun _ _ z => by cases z)
  have tr' : TR X.K H3 (putN kvs k d) (storedH xs nk b r) := tr.put (keyB_ok hk2).1 e1 e2 rk rd rv
  refine ⟨σ, _, d_write I3 (ob := dO a ((storedH xs nk b r).map (entryOfKey (nestedKind X.prog X.w)))) (by rw [ea]; exact True.intro) hs ⟨q, hq⟩ ⟨⟨q, ep, hq, h2, by rw [h3, hes]⟩, ⟨q, hq⟩, fun h1 h2 ⟨o, ep, g1, g2, g3⟩ k => ⟨o, ep, k o g1, g2, g3⟩⟩, q3 _ ((tr'.rpd).ext x)⟩
/-- {}: empty -/
theorem pe_dnewN : PE X (.Dict [] [] pos) (fun _ H Q => ∀ p, H p = none → (p == sysModules) = false → Q (.ref p) (upd H p (dO p []))) := ⟨fun pins s σ H Q I h =>
  wpAny_Dict_empty ⟨.ref s.heap.objs.size, _, I.laid (a := s.heap.objs.size) (o := dO s.heap.objs.size []) (t' := s.toks) (fun _ _ q => Heap.get?_push_of_some _ q) (Nat.le_refl _) ⟨⟨_, 0, Heap.get?_push_size _ rfl, ⟨rfl, rfl, rfl⟩, rfl⟩, ⟨_, Heap.get?_push_size _ rfl⟩, fun h1 h2 ⟨o, ep, g1, g2, g3⟩ k => ⟨o, ep, k o g1, g2, g3⟩⟩, rfl, h _ (I.hok.fresh (Nat.le_refl _)) (beq_eq_false_iff_ne.mpr (Ne.symm (Nat.ne_of_lt I.big)))⟩⟩
end
end DL

set_option Elab.async false
set_option linter.all false
set_option maxRecDepth 100000
set_option maxHeartbeats 1000000
/-! DL31: dicts over data. -/
namespace DL
open PySem PySem.Spec PyProof.Rows L2
theorem keyB_2 (a b : Int) : keyB (.tuple [.int a, .int b]) = true := rfl
theorem keyB_3 (a b c : Int) : keyB (.tuple [.int a, .int b, .int c]) = true := rfl
theorem keyB_4 (a b c d : Int) : keyB (.tuple [.int a, .int b, .int c, .int d]) = true := rfl
def dictAt (E : Env) (i : Nat) : Option (List (D × D)) := match E[i]? with
  | some (.dt kvs) => some kvs
  | some (.d (.dict kvs)) => some kvs
  | _ => none
def tupKeys (kvs : List (D × D)) : Bool := kvs.all fun p => match p.1 with
  | .tuple _ => true
  | _ => false
def optQ {α : Type} (o : Option α) (Q : α → Prop) : Prop := match o with
  | some d => Q d
  | none => False
section
variable {K : PySem.W.Frag} {G : Gh} {H : Hp} {E : Env} {σ : St} {ex : List Addr}
/-- no tuple is a key -/
def NoT (kvs : List (D × D)) : Prop := (∀ k, keyB k = true → valN kvs k = none) ∧ tupKeys kvs = false
theorem valN_hdl {a : Addr} {k : D} (hk : keyB k = true) : valN [(.none, .int a)] k = none := by
  obtain ⟨_, nk, e, _⟩ := keyB_ok hk
  rw [valN_cons, if_neg]
  · rfl
  · rw [e]; simp [nkOf]
theorem noT_keys : ∀ {kvs : List (D × D)} {us : List (Key × V)}, kvs.map (·.1) = us.map (fun u => keyDt u.1) → ∀ k, keyB k = true → valN kvs k = none
  | [], _, _, _, _ => rfl
  | p :: kvs, [], e, _, _ => by cases e
  | p :: kvs, u :: us, e, k, hk => by
    rw [List.map_cons, List.map_cons] at e
    injection e with e1 e2
    obtain ⟨⟨l, rfl⟩, nk, h, _⟩ := keyB_ok hk
    rw [valN_cons, if_neg, noT_keys e2 _ hk]
    rw [e1]
    unfold nkOf at h
    obtain ⟨ks, _, rfl⟩ := Option.map_eq_some_iff.mp h
    cases u.1 with
    | inl i => intro z; rw [show nkOf (.tuple l) = some (.tup ks) from h] at z; simp [keyDt, nkOf] at z
    | inr x => intro z; rw [show nkOf (.tuple l) = some (.tup ks) from h] at z; simp [keyDt, nkOf] at z
theorem dict_of {kvs : List (D × D)} {v : V} (p : Rp K H (.dict kvs) v) : ∃ a, v = .ref a ∧ (DN K H a kvs ∨ NoT kvs) := by
  generalize e : PyData.dict kvs = d at p
  cases p with
  | dct h l n m => cases e; exact ⟨_, rfl, .inl ⟨_, .inr ⟨_, h⟩, l, n, m⟩⟩
  | hdl a => cases e; exact ⟨a, rfl, .inr ⟨fun k hk => valN_hdl hk, rfl⟩⟩
  | dck h e1 l n =>
    cases e
    refine ⟨_, rfl, .inr ⟨noT_keys e1, ?_⟩⟩
    cases kvs with
    | nil => exact absurd rfl n
    | cons p kvs =>
      rename_i us
      cases us with
      | nil => cases e1
      | cons u us =>
        rw [List.map_cons, List.map_cons] at e1
        injection e1 with e1 _
        unfold tupKeys
        rw [List.all_cons, e1]
        cases u.1 <;> rfl
  | _ => cases e
theorem own_dn {kvs : List (D × D)} {a : Addr} (h : RelM K H (.dt kvs) a) : DN K H a kvs := by
  obtain ⟨es, e, l, n, m⟩ := h
  exact ⟨es, .inl e, l, n, m⟩
theorem dict_read {i : Nat} {kvs : List (D × D)} (r : RelX K G ex H E σ) (e : dictAt E i = some kvs) : ∃ a, σ[i]? = some (some (.ref a)) ∧ (DN K H a kvs ∨ NoT kvs) := by
  unfold dictAt at e
  split at e
  · rename_i kvs' he
    cases e
    obtain ⟨a, e1, e2⟩ := r.mutAt he rfl
    exact ⟨a, e1, .inl (own_dn e2)⟩
  · rename_i kvs' he
    cases e
    obtain ⟨v, e1, p⟩ := r.data he
    obtain ⟨a, rfl, h⟩ := dict_of p
    exact ⟨a, e1, h⟩
  · cases e
theorem Rd.pext {H' : Hp} (p : PExt H H') {a : Addr} {u : HO} (h : Rd H a u) : Rd H' a u := by
  rcases h with h | ⟨o, h⟩
  · exact .inl (p _ _ h)
  · exact .inr ⟨o, p _ _ h⟩
end
section
variable {X : Cx} {G : Gh} {a b c e f : Expr} {es : List Expr} {pos pos' p0 apos cpos : Pos} {x : Str} {tk tv tx ta : TD}
/-- d[k], d a name -/
def tDGetV (i : Nat) (tk : TD) : TD := fun E Q => match dictAt E i with
  | some _ => tk E fun k E1 => match dictAt E1 i with
    | some kvs => keyB k = true ∧ optQ (valN kvs k) fun d => Q d E1
    | none => False
  | none => False
theorem ed_dgetV (i : Nat) (hu : X.A.units + 65 < cLine) (hk : ED X G e tk) (hN : X.N[i]? = some x := by rfl) (hv : Vis X.env.scope x := by first | exact Or.inl rfl | exact Or.inr (Or.inl rfl) | exact Or.inr (Or.inr rfl)) (hd : (x == ("__debug__" : Str)) = false := by decide)
    (hcd : (x == ("__classdict__" : Str)) = false := by decide) (hs : NoSl e := by intro _ _; rfl) : ED X G (.Subscript (.Name x p0) e pos) (tDGetV i tk) :=
  ⟨PE.weak (pe_dgetN hu (pe_var hN hv hd hcd) hk.pe hs) fun σ H Q ⟨E, QE, r, q, k⟩ => by
    unfold tDGetV at q
    split at q
    · rename_i kvs0 he0
      obtain ⟨p, e1, e2⟩ := dict_read r he0
      refine ⟨_, e1, E, _, r, q, fun kd E1 v H1 q1 x1 r1 p1 => ?_⟩
      split at q1
      · rename_i kvs he
        obtain ⟨p', f1, f2⟩ := dict_read r1 he
        rw [e1] at f1; cases f1
        obtain ⟨hk, q1⟩ := q1
        rcases f2 with f2 | f2
        · cases hv : valN kvs kd with
          | none => rw [hv] at q1; exact q1.elim
          | some d => rw [hv] at q1; exact ⟨p, kvs, kd, d, rfl, f2, hk, p1, hv, fun v rv => k _ _ _ _ q1 x1 r1 rv⟩
        · rw [f2.1 _ hk] at q1; exact q1.elim
      · exact q1.elim
    · exact q.elim⟩
/-- d[k], d data -/
def tDGetD (ta tk : TD) : TD := fun E Q => ta E fun x E1 => tk E1 fun k E2 => match x with
  | .dict kvs => keyB k = true ∧ optQ (valN kvs k) fun d => Q d E2
  | _ => False
theorem ed_dgetD (hu : X.A.units + 65 < cLine) (ha : ED X G a ta) (hk : ED X G e tk) (hs : NoSl e := by intro _ _; rfl) : ED X G (.Subscript a e pos) (tDGetD ta tk) :=
  ⟨PE.weak (pe_dgetN hu ha.pe hk.pe hs) fun σ H Q ⟨E, QE, r, q, k⟩ => ⟨E, _, r, q, fun x E1 v H1 q1 x1 r1 p1 => ⟨E1, _, r1, q1, fun kd E2 w H2 q2 x2 r2 p2 => by
    split at q2
    · rename_i kvs
      obtain ⟨hk, q2⟩ := q2
      obtain ⟨p, rfl, f2⟩ := dict_of (p1.ext x2)
      rcases f2 with f2 | f2
      · cases hv : valN kvs kd with
        | none => rw [hv] at q2; exact q2.elim
        | some d => rw [hv] at q2; exact ⟨p, kvs, kd, d, rfl, f2, hk, p2, hv, fun v rv => k _ _ _ _ q2 (x1.trans x2) r2 rv⟩
      · rw [f2.1 _ hk] at q2; exact q2.elim
    · exact q2.elim⟩⟩⟩
/-- d.get(k, x), d a name -/
def tDGet2V (i : Nat) (tk tx : TD) : TD := fun E Q => match dictAt E i with
  | some kvs0 => tupKeys kvs0 = true ∧ tk E fun k E1 => tx E1 fun z E2 => match dictAt E2 i with
    | some kvs => keyB k = true ∧ tupKeys kvs = true ∧ Q ((valN kvs k).getD z) E2
    | none => False
  | none => False
theorem ed_dget2V (i : Nat) (hu : X.A.units + 65 < cLine) (hk : ED X G e tk) (hx : ED X G f tx) (hN : X.N[i]? = some x := by rfl) (hv : Vis X.env.scope x := by first | exact Or.inl rfl | exact Or.inr (Or.inl rfl) | exact Or.inr (Or.inr rfl)) (hd : (x == ("__debug__" : Str)) = false := by decide)
    (hcd : (x == ("__classdict__" : Str)) = false := by decide) (m : M2 X (.Name x p0) "get" apos e f cpos := by exact ⟨rfl, rfl, rfl, rfl⟩) : ED X G (.Call (.Attribute (.Name x p0) "get" apos) [e, f] [] cpos) (tDGet2V i tk tx) :=
  ⟨PE.weak (pe_dget2N hu (pe_var hN hv hd hcd) hk.pe hx.pe m) fun σ H Q ⟨E, QE, r, q, k⟩ => by
    unfold tDGet2V at q
    split at q
    · rename_i kvs0 he0
      obtain ⟨p, e1, e2⟩ := dict_read r he0
      obtain ⟨t0, q⟩ := q
      have d0 : DN X.K H p kvs0 := by
        rcases e2 with e2 | e2
        · exact e2
        · rw [e2.2] at t0; cases t0
      refine ⟨_, e1, p, rfl, ⟨kvs0, d0⟩, E, _, r, q, fun kd E1 v H1 q1 x1 r1 p1 => ⟨E1, _, r1, q1, fun z E2 w H2 q2 x2 r2 p2 => ?_⟩⟩
      split at q2
      · rename_i kvs he
        obtain ⟨p', f1, f2⟩ := dict_read r2 he
        rw [e1] at f1; cases f1
        obtain ⟨hk, t2, q2⟩ := q2
        have d2 : DN X.K H2 p kvs := by
          rcases f2 with f2 | f2
          · exact f2
          · rw [f2.2] at t2; cases t2
        refine ⟨kvs, kd, d2, hk, p1.ext x2, fun d v hv rv => ?_, fun hv => ?_⟩
        · rw [hv] at q2; exact k _ _ _ _ q2 (x1.trans x2) r2 rv
        · rw [hv] at q2; exact k _ _ _ _ q2 (x1.trans x2) r2 p2
      · exact q2.elim
    · exact q.elim⟩
/-- k in d, d a name of a dict of one's own -/
def tInN (tk : TD) (i : Nat) : TTd := fun E Q => tk E fun k E1 => match E1[i]? with
  | some (.dt kvs) => keyB k = true ∧ Q (valN kvs k).isSome E1
  | _ => False
def tNotInN (tk : TD) (i : Nat) : TTd := fun E Q => tk E fun k E1 => match E1[i]? with
  | some (.dt kvs) => keyB k = true ∧ Q (!(valN kvs k).isSome) E1
  | _ => False
theorem eb_notInN (i : Nat) (hu : X.A.units + 65 < cLine) (hk : ED X G e tk) (hN : X.N[i]? = some x := by rfl) (hv : Vis X.env.scope x := by first | exact Or.inl rfl | exact Or.inr (Or.inl rfl) | exact Or.inr (Or.inr rfl)) (hd : (x == ("__debug__" : Str)) = false := by decide)
    (hcd : (x == ("__classdict__" : Str)) = false := by decide) : EB X G (.Compare e [.NotIn] [.Name x p0] pos) (tNotInN tk i) :=
  ⟨PT.weak (pt_cmp (pc_notInN hu hk.pe (pe_var hN hv hd hcd))) fun σ H Q ⟨E, QE, r, q, k⟩ => ⟨E, _, r, q, fun kd E1 v H1 q1 x1 r1 p1 => by
    split at q1
    · rename_i kvs he
      obtain ⟨p, e1, e2⟩ := r1.mutAt he rfl
      exact ⟨_, e1, p, kvs, kd, rfl, own_dn e2, q1.1, p1, _, rfl, k _ _ _ q1.2 x1 r1⟩
    · exact q1.elim⟩⟩
/-- d[k] = v -/
def sDPutV (i : Nat) (tk tv : TD) : TSd := fun DE E => tv E fun d E1 => match E1[i]? with
  | some (.dt _) => tk E1 fun k E2 => match E2[i]? with
    | some (.dt kvs) => keyB k = true ∧ kvs.length < sizeLine ∧ DE.nx (E2.set i (.dt (putN kvs k d)))
    | _ => False
  | _ => False
theorem sd_dputV (i : Nat) (hu : X.A.units + 65 < cLine) (hk : ED X G e tk) (hx : ED X G f tv) (hN : X.N[i]? = some x := by rfl) (hv : Vis X.env.scope x := by first | exact Or.inl rfl | exact Or.inr (Or.inl rfl) | exact Or.inr (Or.inr rfl)) (hd : (x == ("__debug__" : Str)) = false := by decide)
    (hcd : (x == ("__classdict__" : Str)) = false := by decide) (hs : swapsWith f (some (.Subscript (.Name x p0) e pos')) pos.line X.env = pure false := by rfl) : SD X G (.Assign [.Subscript (.Name x p0) e pos'] f pos) (sDPutV i tk tv) :=
  ⟨PS.weak (ps_dputN hu (pe_var hN hv hd hcd) hk.pe hx.pe hs) fun F σ H ⟨E, DE, r, q, k1, k2, k3, k4⟩ => ⟨E, _, r, q, fun d E1 v H1 q1 x1 r1 p1 => by
    split at q1
    · rename_i kvs0 he0
      obtain ⟨p, e1, e2⟩ := r1.mutAt he0 rfl
      refine ⟨_, e1, E1, _, r1, q1, fun kd E2 w H2 q2 x2 r2 p2 => ?_⟩
      split at q2
      · rename_i kvs he
        obtain ⟨p', f1, es, f2, l, nd, sm⟩ := r2.mutAt he rfl
        rw [e1] at f1; cases f1
        refine ⟨p, es, kvs, kd, d, rfl, f2, l, nd, sm, q2.1, p2, p1.ext x2, q2.2.1, fun es' l' => ?_⟩
        have x3 : Ext H2 (upd H2 p (dO p es')) := Ext.putS f2 (fun _ z => by cases z) (fun _ _ z => by cases z)
        exact k1 _ _ _ q2.2.2 ((x1.trans x2).trans x3) (r2.putM he rfl e1 (s1 := .dt _) ⟨es', upd_same, l', putN_nodup nd, sm⟩)
      · exact q2.elim
    · exact q1.elim⟩⟩

/-! ### new mutable things -/
abbrev TM := Env → (S → Env → Prop) → Prop
def liftM (K : PySem.W.Frag) (G : Gh) (t : TM) : TE := fun σ H Q => ∃ (E : Env) (QE : S → Env → Prop), RelE K G H E σ ∧ t E QE ∧
  ∀ s E' a H', QE s E' → Ext H H' → RelX K G [a] H' E' σ → G.H0 a = none → a ∉ G.addrs → RelM K H' s a → Q (.ref a) H'
structure EM (X : Cx) (G : Gh) (e : Expr) (t : TM) : Prop where
  pe : PE X e (liftM X.K G t)
def mDt : TM := fun E Q => Q (.dt []) E
theorem em_dt : EM X G (.Dict [] [] pos) mDt := ⟨PE.weak pe_dnewN fun σ H Q ⟨E, QE, r, q, k⟩ p hp sm => by
  obtain ⟨r2, h0, na⟩ := r.fresh (o := dO p []) hp
  exact k _ _ _ _ q (PExt.new hp).ext r2 h0 na ⟨[], upd_same, .nil, List.nodup_nil, sm⟩⟩
def mDk : TM := fun E Q => Q (.dk []) E
theorem em_dk : EM X G (.Dict [] [] pos) mDk := ⟨PE.weak pe_dnewK fun σ H Q ⟨E, QE, r, q, k⟩ p hp => by
  obtain ⟨r2, h0, na⟩ := r.fresh (o := .dK []) hp
  exact k _ _ _ _ q (PExt.new hp).ext r2 h0 na ⟨[], upd_same, rfl, .nil⟩⟩
def sSetM (i : Nat) (t : TM) : TSd := fun DE E => t E fun s E1 => DE.nx (E1.set i s)
theorem sd_setM {i : Nat} {t : TM} (hi : i ∉ G.slots) (hN : X.N.Nodup) (hx : X.N[i]? = some x) (hl : Loc X.env.scope x) (h : EM X G e t) (hs : swapsWith e (some (.Name x pos')) pos.line X.env = pure false := by rfl)
    (hf : X.fn x = true ∨ X.env.scope.names.lookup x = some .local := by first | exact .inl rfl | exact .inr rfl | assumption) : SD X G (.Assign [.Name x pos'] e pos) (sSetM i t) :=
  ⟨PS.weak (ps_set hN hx hl h.pe hs hf) fun F σ H ⟨E, DE, r, q, k1, k2, k3, k4⟩ => ⟨E, _, r, q, fun d E1 a H1 q1 x1 r1 h0 na p1 => k1 _ _ _ q1 x1 (r1.setM (by simp) hi h0 p1)⟩⟩
def pM (t : TM) (u : TPs) : TPs := fun E Q => t E fun s E1 => u E1 fun ss E2 => Q (s :: ss) E2
theorem eps_m {t : TM} {u : TPs} (h : EM X G e t) (hr : ∀ G' : Gh, G'.slots = G.slots → EPs X G' es u) (hs : starEach (e :: es) X.env = (false, eval e X.env) :: starEach es X.env := by rfl) : EPs X G (e :: es) (pM t u) := by
  have hp : PA X es (fun σ H Q => ∃ G' : Gh, G'.slots = G.slots ∧ liftPs X.K G' u σ H Q) := ⟨fun pos pins s σ H Q I ⟨G', hG', q⟩ => (hr G' hG').pa.run pos pins s σ H Q I q⟩
  refine ⟨PA.weak (pa_cons h.pe hp hs) fun σ H Q ⟨E, QE, r, q, k⟩ => ⟨E, _, r, q, fun s0 E1 a H1 q1 x1 r1 h0 na p1 => ?_⟩⟩
  obtain ⟨u0, ha, _⟩ := p1.soft
  refine ⟨pend G a u0, rfl, E1, _, r1.toPend ha na, q1, fun ss E2 vs H2 ex q2 x2 r2 p2 => ?_⟩
  obtain ⟨r3, ha3⟩ := RelX.ofPend r2 h0 na
  obtain ⟨p3, nx⟩ := PVs.ofPend p2
  exact k _ _ _ _ (a :: ex) q2 (x1.trans x2) r3 (.m (p1.move x2 (by rw [ha3, ha])) h0 na nx p3)
end
end DL

set_option Elab.async false
set_option linter.all false
set_option maxRecDepth 100000
set_option maxHeartbeats 1000000
/-! DL32: defs that may raise: raise X(), calls of such defs, try .. except X. -/
namespace DL
open PySem PySem.Spec PyProof.Rows L2
/-- X() -/
theorem pmk_own0 {X : Cx} {C : Addr} {bmB : List Value} {B newId initId : String} {x : Str} {p pos : Pos} (F : ExcBaseFacts B newId initId bmB) (q : PySem.W.excIn X.K C bmB newId = true) (gC : X.mg x = some (.ref C)) (kC : PySem.W.keepIn X.K (.ref C) = true) (r : Raises X (.ref C)) (hg : Gl X x)
    (hdb : (x == ("__debug__" : Str)) = false := by decide) : PMk X (.Call (.Name x p) [] [] pos) (fun _ H Q => Q (.ref C) none H) := by
  intro pins s σ H Q I h
  refine wpAny_Call_Name_kw (ld_glob I hg gC ?_ hdb)
  refine PySem.W.callWith_K0 I.kIn kC ?_
  show wpAny _ _ (call (.ref C) []) _ _ _
  obtain ⟨bm, N, nm, qn, bs, hdct, sn, sub, ab, col, dd, k0, k1, k2, k3, k5, mN, hC, hN, hni, T⟩ := exc_obj I.kIn q
  refine wpAny_call_exc_subT F T hC hN hni (fun h' e hm => ?_) (by show 0 ≤ sizeLine; exact Nat.zero_le _)
  exact mk_of I hm r h (I.hok.gone hm.new)
/-- an own class catches itself, and what stands below it -/
theorem exm_sub {K : PySem.W.Frag} {S T : Addr} {b : Bool} (h1 : PySem.W.subIn K (.ref T) (.type "BaseException") = some true) (h2 : PySem.W.isClsIn K T = true) (h3 : PySem.W.typeIn K (.ref T) = some (.type "type")) (h4 : PySem.W.subIn K (.ref S) (.ref T) = some b) : PySem.W.exmOne K (.ref S) (.ref T) = some b := by
  unfold PySem.W.exmOne
  rw [h1, if_pos (by rfl)]
  have e2 : ((PySem.W.clsIn K T).isSome && PySem.W.typeIn K (.ref T) == some (.type "type")) = true := by
    have h2' : (PySem.W.clsIn K T).isSome = true := h2
    rw [h2', h3] <;> rfl
  show (if ((PySem.W.clsIn K T).isSome && PySem.W.typeIn K (.ref T) == some (.type "type")) = true then PySem.W.subIn K (.ref S) (.ref T) else none) = some b
  rw [if_pos e2]
  exact h4
/-- a def's promise: what it gives, what it raises -/
abbrev SpX := List S → (D → List S → Prop) → (Value → List S → Prop) → Prop
def spLX (K : PySem.W.Frag) (sp : SpX) : Sp := fun vs H Q E => ∃ (ss : List S) (as : List Addr) (QD : D → List S → Prop) (QX : Value → List S → Prop), sp ss QD QX ∧ AR K H ss vs as ∧ as.Nodup ∧
  (∀ d outs v H', QD d outs → (∀ p o, H p = some o → p ∉ as → H' p = some o) → Paired (RelM K H') outs as → Rp K H' d v → Q v H') ∧
  ∀ cls outs H', QX cls outs → (∀ p o, H p = some o → p ∉ as → H' p = some o) → Paired (RelM K H') outs as → E cls none H'
/-- what is wished of an exception, over data -/
abbrev WDt := Value → Env → Prop
def Wish (K : PySem.W.Frag) (G : Gh) (WD : WDt) (W : WX) : Prop := ∀ cls E σ H, WD cls E → RelE K G H E σ → W cls none σ H
section
variable {X : Cx} {G : Gh} {e : Expr} {pos : Pos}
def sRaise (WD : WDt) (c : Value) : TSd := fun _ E => WD c E
theorem sd_raise {W : WX} {WD : WDt} {c : Value} (hc : X.calm = true) (tk : Takes X W) (hW : Wish X.K G WD W) (mk : PMk X e (fun _ H Q => Q c none H)) : SD X G (.Raise (some e) none pos) (sRaise WD c) :=
  ⟨PS.weak (ps_raise hc tk mk) fun F σ H ⟨E, DE, r, q, _⟩ => hW c E σ H q r⟩
theorem SDs.nox {st : List Stmt} {t : TSd} (h : SDs X.nox G st t) : SDs X G st t := ⟨PSs.nox h.pss⟩
theorem SD.nox {st : Stmt} {t : TSd} (h : SD X.nox G st t) : SDs X G [st] t := SDs.nox (sds_one h)
end
/-- THE RULE for a def that may raise -/
theorem fn_okX {P : Program} {w : World} {K : PySem.W.Frag} {mg : Str → Option Value} {base : Heap} {x qual : Str} {st : Stmt} {f : Addr} {fd : FuncData} {N ps : List Str} {k : Nat} {sp : SpX} {slots : List Nat} {tb : WDt → TSd}
    (F : Fun K x qual st f fd) (Sc : FnScope N ps (defScope st)) (shape : ∀ ss QD QX, sp ss QD QX → ss.length = ps.length ∧ mpos 0 ss = slots)
    (body : ∀ (cdv : Value) (A : Around) (outer : List PySem.Env) (s : Shared) (H : Hp) (E : XK), Room k (A.deeper (envOfC qual (defScope st) s.heap.objs.size f cdv)) → ∀ G : Gh, G.slots = slots → ∀ WD : WDt, Wish K G WD (fun cls d _ H' => E cls d H') →
      SDs (cxOf (L2.CX P w) P w K mg base N qual (defScope st) f cdv A outer s H E) G (defBody st) (tb WD))
    (read : ∀ ss QD QX, sp ss QD QX → tb (fun cls E' => finO slots E' (QX cls)) { nx := fun E' => finO slots E' (QD .none), rt := fun d E' => finO slots E' (QD d) } (ss ++ List.replicate (N.length - ps.length) .un)) :
    FnOk P w K mg base (L2.CX P w) (k + 1) f fd ps (spLX K sp) := by
  refine F.okX Sc (fun vs H Q E h => ?_) (fun cdv A outer s H vs Q E hr h => ?_)
  · obtain ⟨ss, as, QD, QX, h1, h2, _⟩ := h
    rw [← h2.length]; exact (shape ss QD QX h1).1
  · obtain ⟨ss, as, QD, QX, h1, h2, nd, h4, h5⟩ := h
    obtain ⟨hl, hm⟩ := shape ss QD QX h1
    have ml := h2.mlen 0
    have hG : (⟨H, (mpos 0 ss).zip as, fun _ => none, []⟩ : Gh).slots = slots := by show ((mpos 0 ss).zip as).map (·.1) = slots; rw [zip_fst ml, hm]
    have hA : (⟨H, (mpos 0 ss).zip as, fun _ => none, []⟩ : Gh).addrs = as := by show ((mpos 0 ss).zip as).map (·.2) ++ [] = as; rw [zip_snd ml, List.append_nil]
    have hW : Wish K ⟨H, (mpos 0 ss).zip as, fun _ => none, []⟩ (fun cls E' => finO slots E' (QX cls)) (fun cls d _ H' => E cls d H') := fun cls E' σ H' q r => by
      obtain ⟨outs, q1, p1⟩ := finO_rel r (as := as) (by rw [← hm]; exact ml) (by rw [← hm]; exact fun p hp => hp) q
      exact h5 cls outs H' q1 (fun p o e ne => r.keep p o e (by rw [hA]; exact ne)) p1
    refine ⟨_, (body cdv A outer s H E hr ⟨H, (mpos 0 ss).zip as, fun _ => none, []⟩ hG _ hW).pss, ?_⟩
    have hst : L2.start N vs = vs.map some ++ List.replicate (N.length - ps.length) none := by unfold L2.start; rw [← h2.length, hl]
    refine ⟨ss ++ List.replicate (N.length - ps.length) .un, { nx := fun E' => finO slots E' (QD .none), rt := fun d E' => finO slots E' (QD d) }, by rw [hst]; exact h2.start nd, read ss QD QX h1, fun E' σ' H' q x r => ?_, fun d E' v σ' H' q x r p => ?_, fun _ _ _ q => False.elim q, fun _ _ _ q => False.elim q⟩
    · obtain ⟨outs, q1, p1⟩ := finO_rel r (as := as) (by rw [← hm]; exact ml) (by rw [← hm]; exact fun p hp => hp) q
      exact h4 .none outs .non H' q1 (fun p o e ne => r.keep p o e (by rw [hA]; exact ne)) p1 .non
    · obtain ⟨outs, q1, p1⟩ := finO_rel r (as := as) (by rw [← hm]; exact ml) (by rw [← hm]; exact fun p hp => hp) q
      exact h4 d outs v H' q1 (fun p o e ne => r.keep p o e (by rw [hA]; exact ne)) p1 p
/-! ### a call of such a def -/
def tCallX (sp : SpX) (ta : TAd) (WD : WDt) : TD := fun E Q => ta E fun as E1 => match argS E1 as with
  | some ss => ndp (oixs as) = true ∧ sp ss (fun r outs => Q r (putO as outs E1)) (fun cls outs => WD cls (putO as outs E1))
  | none => False
section
variable {X : Cx} {G : Gh} {e : Expr} {es : List Expr} {pos p : Pos} {x : Str} {f : Addr} {fd : FuncData} {ps : List Str} {k : Nat} {sp : SpX} {ta : TAd}
theorem ed_callX {W : WX} {WD : WDt} (F : FnOk X.prog X.w X.K X.mg X.base (L2.CX X.prog X.w) k f fd ps (spLX X.K sp)) (tk : Takes X W) (hW : Wish X.K G WD W) (hr : Room k X.A) (hg : Gl X x) (hm : X.mg x = some (.ref f)) (hk : PySem.W.keepIn X.K (.ref f) = true) (hb : Binds X.K fd ps []) (ha : EA X G (e :: es) ta) (hdb : (x == ("__debug__" : Str)) = false := by decide)
    (hs : starEach (e :: es) X.env = (false, eval e X.env) :: starEach es X.env := by rfl) (hplain : (backTo pos (starEach es X.env)).any (·.1) = false := by rfl) : ED X G (.Call (.Name x p) (e :: es) [] pos) (tCallX sp ta WD) := by
  refine ⟨PE.weak (pe_callS (E := WE W) F hr hg hm hk hb (fun σ => passAt tk σ) ha.pa (hdb := hdb) (he := hs) (hpl := hplain)) fun σ H Q ⟨E0, QE, r, q, kk⟩ => ?_⟩
  refine ⟨E0, _, r, q, fun as E1 vs H1 q1 x1 r1 p1 => ?_⟩
  show spLX X.K sp vs H1 Q _
  split at q1
  · rename_i ss hs
    obtain ⟨nd, q1⟩ := q1
    obtain ⟨ad, ar, po⟩ := RelA.args r1 p1 hs
    have adn := addrs_nodup r1 nd po
    have islst : ∀ a ∈ ad, Soft H1 a := fun a ha => by
      obtain ⟨i, hi, e1, s, e2, m⟩ := Paired.mem2 po ha
      obtain ⟨b, f1, f2⟩ := r1.mutAt e2 m
      rw [e1] at f1; cases f1; exact f2.soft
    refine ⟨ss, ad, _, _, q1, ar, adn, fun d outs v H' q2 keep pr pd => ?_, fun cls outs H' q2 keep pr => ?_⟩
    · exact kk d _ v H' q2 (x1.trans (Ext.ofSoft keep islst)) (RelX.puts nd r1 keep islst pr po) pd
    · exact hW _ _ _ _ q2 (RelX.puts nd r1 keep islst pr po)
  · exact q1.elim
end
/-! ### try .. except X -/
section
variable {X : Cx} {G : Gh} {x : Str} {c : Value} {body suite : List Stmt} {b₀ : Stmt} {np pos pos' : Pos}
/-- m tells whether a class is caught -/
def sTry (m : Value → Option Bool) (Wo : WDt) (tb : WDt → TSd) (ts : TSd) : TSd := fun DE E => tb (fun cls E1 => match m cls with
  | some true => ts DE E1
  | some false => Wo cls E1
  | none => False) DE E
theorem RelX.mark {K : PySem.W.Frag} {H : Hp} {E : Env} {σ : St} (r : RelE K G H E σ) : RelE K { G with X0 := H } H E σ := by
  obtain ⟨l, k, pn, dm, x0, A, h1, h2, h3⟩ := r
  exact ⟨l, k, pn, dm, Ext.refl _, A, h1, h2, h3⟩
theorem RelX.unmark {K : PySem.W.Frag} {H0 H H1 : Hp} {E E0 : Env} {σ σ0 : St} (r0 : RelE K G H0 E0 σ0) (r : RelE K { G with X0 := H0 } H E σ) : RelE K G H E σ := by
  obtain ⟨l, k, pn, dm, x0, A, h1, h2, h3⟩ := r
  exact ⟨l, k, pn, dm, r0.ext.trans x0, A, h1, h2, h3⟩
theorem sd_try {m : Value → Option Bool} {Wo : WDt} {Wout : WX} {tb : WDt → TSd} {ts : TSd} (hm : ∀ cls b, m cls = some b → PySem.W.exmOne X.K cls c = some b) (hWo : Wish X.K G Wo Wout) (hs : X.stack = X.env :: X.outer) (hf : X.env.frame = some X.env.locals) (hc : Names X x c) (tk : Takes X Wout)
    (hb : ∀ (W : WX) (pn : List (Addr × Obj)) (xe : Value → Shared → Prop), Takes (X.tr pn xe) W → PassesOwn (model X.prog X.w) X.A X.env xe → ∀ G' : Gh, G'.slots = G.slots → ∀ WD : WDt, Wish X.K G' WD W → SDs (X.tr pn xe) G' body (tb WD))
    (hsu : ∀ (a : Addr) (oe : Obj) (pn : List (Addr × Obj)), SDs (X.suite a ((a, oe) :: pn)) G (b₀ :: suite) ts) :
    SD X G (.Try body [.ExceptHandler (some (.Name x np)) none (b₀ :: suite) pos'] [] [] pos) (sTry m Wo tb ts) := by
  let tB : WX → TS := fun W D σ H => ∃ (G' : Gh) (WD : WDt), G'.slots = G.slots ∧ Wish X.K G' WD W ∧ liftS X.K G' (tb WD) D σ H
  have hb' : ∀ (W : WX) (pn : List (Addr × Obj)) (xe : Value → Shared → Prop), Takes (X.tr pn xe) W → PassesOwn (model X.prog X.w) X.A X.env xe → PSs (X.tr pn xe) body (tB W) := fun W pn xe t p =>
    ⟨fun pins s σ H F I ⟨G', WD, hg, hw, q⟩ => (hb W pn xe t p G' hg WD hw).pss.run pins s σ H F I q⟩
  refine ⟨PS.weak (ps_try_only hs hf hc tk hb' (ts := fun _ _ _ => liftS X.K G ts) fun a oe cls d pn _ _ => (hsu a oe pn).pss) fun F σ H ⟨E, DE, r, q, k1, k2, k3, k4⟩ => ?_⟩
  refine ⟨{ G with X0 := H }, _, rfl, fun cls E1 σ1 H1 q1 r1 => ?_, E, DE, r.mark, q, fun E' σ' H' z x r' => k1 E' σ' H' z x (RelX.unmark (H1 := H) r r'), fun d E' v σ' H' z x r' p => k2 d E' v σ' H' z x (RelX.unmark (H1 := H) r r') p, fun E' σ' H' z x r' => k3 E' σ' H' z x (RelX.unmark (H1 := H) r r'), fun E' σ' H' z x r' => k4 E' σ' H' z x (RelX.unmark (H1 := H) r r')⟩
  have ext : Ext H H1 := r1.ext
  have r2 : RelE X.K G H1 E1 σ1 := RelX.unmark (H1 := H) r r1
  show wOnly X.K c _ Wout F cls none σ1 H1
  cases e : m cls with
  | none => rw [e] at q1; exact q1.elim
  | some b =>
    rw [e] at q1
    refine ⟨b, hm cls b e, fun hb a ha => ?_, fun hb => ?_⟩
    · subst hb
      exact ⟨E1, DE, r2, q1, fun E' σ' H' z x r => k1 E' σ' H' z (ext.trans x) r, fun d E' v σ' H' z x r => k2 d E' v σ' H' z (ext.trans x) r, fun E' σ' H' z x r => k3 E' σ' H' z (ext.trans x) r, fun E' σ' H' z x r => k4 E' σ' H' z (ext.trans x) r⟩
    · subst hb
      exact hWo _ _ _ _ q1 r2
end
end DL

set_option Elab.async false
set_option linter.all false
set_option maxRecDepth 100000
set_option maxHeartbeats 1000000
/-! DL33: a call without arguments. -/
namespace DL
open PySem PySem.Spec PyProof.Rows L2
def tCall0D (sp : SpD) : TD := fun E Q => sp [] fun r _ => Q r E
section
variable {X : Cx} {G : Gh} {pos p : Pos} {x : Str} {f : Addr} {fd : FuncData} {k : Nat} {sp : SpD}
theorem ed_call0 (F : FnOk X.prog X.w X.K X.mg X.base CX0 k f fd [] (spL X.K sp)) (hr : Room k X.A) (hg : Gl X x) (hm : X.mg x = some (.ref f)) (hk : PySem.W.keepIn X.K (.ref f) = true) (hb : Binds X.K fd [] []) (hdb : (x == ("__debug__" : Str)) = false := by decide) : ED X G (.Call (.Name x p) [] [] pos) (tCall0D sp) :=
  ⟨PE.weak (pe_call0 (dvs := []) (E := fun _ _ _ => False) F hr hg hm hk hb .nil pass0 (hdb := hdb)) fun σ H Q ⟨E, QE, r, q, k⟩ => by
    refine ⟨[], [], _, q, .nil, List.nodup_nil, fun d outs v H' q2 keep pr pd => ?_⟩
    have px : PExt H H' := fun p o e => keep p o e (by simp)
    exact k _ _ _ _ q2 px.ext (r.pext px) pd⟩
end
end DL

set_option Elab.async false
set_option linter.all false
set_option maxRecDepth 100000
set_option maxHeartbeats 1000000
/-! DL34: a call whose last argument is a new mutable thing; list(range(n)). -/
namespace DL
open PySem PySem.Spec PyProof.Rows L2
section
variable {K : PySem.W.Frag} {G : Gh} {H H' : Hp} {E : Env} {σ : St} {a : Addr}
theorem RelX.moveEx (r : RelX K G [a] H E σ) (keep : ∀ p o, H p = some o → p ∉ [a] → H' p = some o) (soft : Soft H a) (h0 : G.H0 a = none) (na : a ∉ G.addrs) : Ext H H' ∧ RelE K G H' E σ := by
  have ext : Ext H H' := Ext.ofSoft keep fun b hb => by rw [List.mem_singleton.mp hb]; exact soft
  refine ⟨ext, ?_⟩
  obtain ⟨l, k, pn, dm, x0, A, h1, h2, h3⟩ := r
  refine ⟨l, fun p o e ne => keep p o (k p o e ne) fun z => ?_, pn, fun b hb z => ?_, x0.trans ext, A, h1, fun i b e => ⟨(h2 i b e).1, by simp⟩, fun i s e => (h3 i s e).move ext fun b hb => ?_⟩
  · rw [List.mem_singleton.mp z, h0] at e; cases e
  · cases q : H b with
    | none => exact dm b hb q
    | some o =>
      have := keep b o q fun w => na (by rw [← List.mem_singleton.mp w]; exact hb)
      rw [z] at this; cases this
  · obtain ⟨u, hu, _⟩ := (h3 i s e).indom b hb
    rw [hu]; exact keep b u hu (h2 i b hb).2
end
abbrev TAm := Env → (List D → S → Env → Prop) → Prop
def liftAm (K : PySem.W.Frag) (G : Gh) (t : TAm) : TA := fun σ H Q => ∃ (E : Env) (QE : List D → S → Env → Prop), RelE K G H E σ ∧ t E QE ∧
  ∀ ds s E' vs a H', QE ds s E' → Ext H H' → RelX K G [a] H' E' σ → G.H0 a = none → a ∉ G.addrs → RelM K H' s a → s.isMut = true → RpL K H' ds vs → Q (vs ++ [.ref a]) H'
structure EAm (X : Cx) (G : Gh) (es : List Expr) (t : TAm) : Prop where
  pa : PA X es (liftAm X.K G t)
def amM (t : TM) : TAm := fun E Q => t E fun s E1 => s.isMut = true ∧ Q [] s E1
def amV (t : TD) (u : TAm) : TAm := fun E Q => t E fun d E1 => u E1 fun ds s E2 => Q (d :: ds) s E2
def tCallM (sp : SpD) (ta : TAm) : TD := fun E Q => ta E fun ds s E1 => sp (ds.map S.d ++ [s]) fun r _ => Q r E1
theorem AR.data {K : PySem.W.Frag} {H : Hp} {s : S} {a : Addr} (hm : s.isMut = true) (h : RelM K H s a) : ∀ {ds : List D} {vs : List V}, RpL K H ds vs → AR K H (ds.map S.d ++ [s]) (vs ++ [.ref a]) [a]
  | _, _, .nil => .o hm h .nil
  | _, _, .cons p t => .d p (AR.data hm h t)
section
variable {X : Cx} {G : Gh} {e : Expr} {es : List Expr} {pos p p1 p2 : Pos} {x : Str} {f : Addr} {fd : FuncData} {ps : List Str} {k : Nat} {sp : SpD} {ta : TAm}
theorem eam_m {t : TM} (h : EM X G e t) (hs : starEach [e] X.env = (false, eval e X.env) :: starEach [] X.env := by rfl) : EAm X G [e] (amM t) :=
  ⟨PA.weak (pa_cons h.pe pa_nil hs) fun σ H Q ⟨E, QE, r, q, k⟩ => ⟨E, _, r, q, fun s E1 a H1 q1 x1 r1 h0 na p1 => k [] s E1 [] a H1 q1.2 x1 r1 h0 na p1 q1.1 .nil⟩⟩
theorem eam_v {t : TD} {u : TAm} (h : ED X G e t) (hr : EAm X G es u) (hs : starEach (e :: es) X.env = (false, eval e X.env) :: starEach es X.env := by rfl) : EAm X G (e :: es) (amV t u) :=
  ⟨PA.weak (pa_cons h.pe hr.pa hs) fun σ H Q ⟨E, QE, r, q, k⟩ => ⟨E, _, r, q, fun d E1 v H1 q1 x1 r1 p1 => ⟨E1, _, r1, q1, fun ds s E2 vs a H2 q2 x2 r2 h0 na p2 hm l => k (d :: ds) s E2 (v :: vs) a H2 q2 (x1.trans x2) r2 h0 na p2 hm (.cons (p1.ext x2) l)⟩⟩⟩
theorem ed_callM (F : FnOk X.prog X.w X.K X.mg X.base CX0 k f fd ps (spL X.K sp)) (hr : Room k X.A) (hg : Gl X x) (hm : X.mg x = some (.ref f)) (hk : PySem.W.keepIn X.K (.ref f) = true) (hb : Binds X.K fd ps []) (ha : EAm X G (e :: es) ta) (hdb : (x == ("__debug__" : Str)) = false := by decide)
    (hs : starEach (e :: es) X.env = (false, eval e X.env) :: starEach es X.env := by rfl) (hplain : (backTo pos (starEach es X.env)).any (·.1) = false := by rfl) : ED X G (.Call (.Name x p) (e :: es) [] pos) (tCallM sp ta) :=
  ⟨PE.weak (pe_call (dvs := []) (E := fun _ _ _ => False) F hr hg hm hk hb .nil pass0 ha.pa (hdb := hdb) (he := hs) (hpl := hplain)) fun σ H Q h => by
    obtain ⟨E0, QE, r, q, kk⟩ := h
    refine ⟨E0, _, r, q, fun ds s E1 vs a H1 q1 x1 r1 h0 na p1 hmut l => ?_⟩
    show spL X.K sp ((vs ++ [.ref a]) ++ []) H1 Q _
    rw [List.append_nil]
    refine ⟨_, [a], _, q1, AR.data hmut p1 l, by simp, fun d outs v H' q2 keep pr pd => ?_⟩
    obtain ⟨x2, r2⟩ := r1.moveEx keep p1.soft h0 na
    exact kk d _ v H' q2 (x1.trans x2) r2 pd⟩
/-- list(range(n)) -/
def tListRg (ta : TD) : TLd := fun E Q => ta E fun d E1 => match d with
  | .int n => (0 ≤ n ∧ n ≤ 10000000) ∧ Q (rangeD 0 n.toNat) E1
  | _ => False
theorem rgV_rp {K : PySem.W.Frag} {H : Hp} (n : Int) : RpL K H (rangeD 0 n.toNat) (rgV 0 n) := by
  unfold rangeD rgV
  rw [Int.sub_zero]
  generalize List.range n.toNat = l
  induction l with
  | nil => exact .nil
  | cons i l ih => exact .cons (.int _) ih
theorem el_listRg {ta : TD} (hg : Gl X "list") (hm : X.mg "list" = none) (hg2 : Gl X "range") (hm2 : X.mg "range" = none) (ha : ED X G e ta) (hc : X.calm = true := by rfl) (na : starEach [e] X.env = (false, eval e X.env) :: starEach [] X.env := by rfl)
    (nb : starEach [Expr.Call (.Name "range" p1) [e] [] p2] X.env = (false, eval (Expr.Call (.Name "range" p1) [e] [] p2) X.env) :: starEach [] X.env := by rfl) : EL X G (.Call (.Name "list" p) [.Call (.Name "range" p1) [e] [] p2] [] pos) (tListRg ta) :=
  ⟨PE.weak (pe_listRg hc hg hm (prg_1 hg2 hm2 ha.pe na) nb) fun σ H Q ⟨E, QE, r, q, k⟩ => ⟨E, _, r, q, fun d E1 v H1 q1 x1 r1 p1 => by
    cases p1 with
    | int n =>
      obtain ⟨hn, q1⟩ := q1
      refine ⟨n, rfl, RgOk.of_le (by decide) (by omega) (by decide) hn.1, fun q hq => ?_⟩
      obtain ⟨r2, h0, na⟩ := r1.fresh (o := .lst (rgV 0 n)) hq
      exact k _ _ _ _ _ q1 (x1.trans (PExt.new hq).ext) r2 h0 na upd_same (rgV_rp n)
    | _ => exact q1.elim⟩⟩
end
end DL

set_option Elab.async false
set_option linter.all false
set_option maxRecDepth 100000
set_option maxHeartbeats 1000000
/-! DL35: a, b = a list -/
namespace DL
open PySem PySem.Spec PyProof.Rows L2
section
variable {X : Cx} {G : Gh} {e : Expr} {es : List Expr} {pos : Pos}
def gLstD (n : Nat) (u : TGsd) : TGd := fun d E Q => match d with
  | .list ds => ds.length = n ∧ u ds E Q
  | _ => False
theorem gd_lst {W : Bool} {ms : List Nat} {k n : Nat} {u : TGsd} (hc : X.calm = true) (h : GDs X G ms es u) (hn : (assignEach es X.env).length = n := by rfl) (hst : (assignEach es X.env).findIdx? (·.1) = none := by rfl) : GD X G W ms (.Tuple es k pos) (gLstD n u) :=
  ⟨PG.weak (pg_unl hc h.pg hn hst) fun v σ H Q ⟨E, d, QE, r, p, q, k⟩ => by
    have strong : Rp X.K H d v → gUnl X.K n (liftGs X.K G ms u) v σ H Q := fun p => by
      cases p with
      | lst hs l => exact ⟨_, _, rfl, hs.sq, by rw [← l.length]; exact q.1, E, _, QE, r, l, q.2, k⟩
      | _ => exact q.elim
    unfold RpB at p
    split at p
    · rcases p with p | ⟨ds, a, vs, rfl, rfl, hs, l⟩
      · exact strong p
      · exact q.elim
    · exact strong p⟩
end
end DL

set_option Elab.async false
set_option linter.all false
set_option maxRecDepth 100000
set_option maxHeartbeats 1000000
/-! DL36: dicts as data, walked: keys, values, pairs; list(d), list(d.values()). -/
namespace DL
open PySem PySem.Spec PyProof.Rows L2
/-- what stands in the entries -/
abbrev KVs (ps : List (V × V)) (es : List DictEntry) : Prop := Paired (fun p e => RelV p.1 e.key ∧ RelV p.2 e.val) ps es
theorem RpD.kvs {K : PySem.W.Frag} {H : Hp} : ∀ {kvs : List (D × D)} {es : List DictEntry}, RpD K H kvs es → ∃ ps, KVs ps es ∧ RpL K H (kvs.map (·.1)) (ps.map (·.1)) ∧ RpL K H (kvs.map (·.2)) (ps.map (·.2))
  | _, _, .nil => ⟨[], .nil, .nil, .nil⟩
  | _, _, .cons (b := b) (v := v) t n1 n2 n3 e1 h g r l => by
    obtain ⟨ps, h1, h2, h3⟩ := RpD.kvs l
    exact ⟨(.ref b, v) :: ps, .cons ⟨by rw [e1]; rfl, r⟩ h1, .cons h h2, .cons g h3⟩
section
variable {X : Cx} {pins : List (Addr × Obj)} {σ : St} {H : Hp} {s : Shared} {d : Addr} {o : Obj} {es : List DictEntry}
theorem frz_raw (I : Inv X pins σ H s) (h : H d = some (.frz o (dO d es))) : ∃ ep, o.data = .dict es.toArray ep ∧ s.heap.DictRaw d es.toArray ep ∧ d < s.heap.objs.size := by
  obtain ⟨g, ⟨q, ep, h1, h2, h3⟩, _⟩ := I.hok d _ h
  rw [g] at h1; cases h1
  exact ⟨ep, h3, ⟨o, g, h2, h3⟩, Heap.lt_size g⟩
end
/-- the walks: the dict stays as it is -/
def ItDk (d : Addr) (o : Obj) (es : List DictEntry) (ps : List (V × V)) : It :=
  ⟨fun i H => H d = some (.frz o (dO d es)) ∧ i < ps.length, fun i H x H' => H' = H ∧ ∃ p, ps[i]? = some p ∧ x = p.1, fun i H => H d = some (.frz o (dO d es)) ∧ ps.length ≤ i⟩
def ItDv (d : Addr) (o : Obj) (es : List DictEntry) (ps : List (V × V)) : It :=
  ⟨fun i H => H d = some (.frz o (dO d es)) ∧ i < ps.length, fun i H x H' => H' = H ∧ ∃ p, ps[i]? = some p ∧ x = p.2, fun i H => H d = some (.frz o (dO d es)) ∧ ps.length ≤ i⟩
def ItDi (d : Addr) (o : Obj) (es : List DictEntry) (ps : List (V × V)) : It :=
  ⟨fun i H => H d = some (.frz o (dO d es)) ∧ i < ps.length, fun i H x H' => ∃ T p, ps[i]? = some p ∧ x = .ref T ∧ H T = none ∧ H' = upd H T (.tup [p.1, p.2]), fun i H => H d = some (.frz o (dO d es)) ∧ ps.length ≤ i⟩
section
variable {P : Program} {w : World} {K : PySem.W.Frag} {tg : Expr} {d : Addr} {o : Obj} {es : List DictEntry} {ps : List (V × V)} {ep : Nat}
theorem kv_at (hp : KVs ps es) {i : Nat} (hi : i < ps.length) : ∃ p, ps[i]? = some p ∧ ∃ h : i < es.toArray.size, RelV p.1 (es.toArray[i]'h).key ∧ RelV p.2 (es.toArray[i]'h).val := by
  obtain ⟨e, h1, h2⟩ := paired_get hp (List.getElem?_eq_getElem hi)
  obtain ⟨hl, h3⟩ := List.getElem?_eq_some_iff.mp h1
  refine ⟨_, List.getElem?_eq_getElem hi, by simpa using hl, ?_⟩
  have : (es.toArray[i]'(by simpa using hl)) = e := by simpa using h3
  rw [this]; exact h2
theorem turn_dk (it : Addr) (hp : KVs ps es) (hod : o.data = .dict es.toArray ep) : Turn P w K tg (ItDk d o es ps) [it] it (fun i h => h.IsKeyIter it d i es.toArray.size ep) where
  mem := List.mem_singleton.mpr rfl
  obj := fun i h st b hb => by
    rw [List.mem_singleton.mp hb]
    obtain ⟨q, e, c, z⟩ := st
    exact ⟨q, e, fun v y => by rw [z] at y; cases y⟩
  keep := fun i h h' st k => st.at fun q e => k it (List.mem_singleton.mpr rfl) q e
  item := by
    intro X hP hw hK hc i pins s σ H E I hf st ⟨hd, hi⟩
    subst hP hw hK
    obtain ⟨f0, f1, f2, f3, f4, f5⟩ := hf it (List.mem_singleton.mpr rfl)
    obtain ⟨ep', h1, raw, _⟩ := frz_raw I hd
    have : ep' = ep := by rw [hod] at h1; injection h1 with _ z; exact z.symm
    subst this
    obtain ⟨p, hpi, hl, rk, rv⟩ := kv_at hp hi
    refine wpAny_pyNext_keys_item_raw st raw hl fun h' st' sb => ?_
    have I' : Inv X pins σ H { s with heap := h' } := I.turned (t' := s.toks) (fun b ob hb e => (sb.2 b hb).trans e) f0 f1 f3 f4 f5
    obtain ⟨q, e, c, z⟩ := id st'
    exact ⟨_, rfl, go_of (s := { s with heap := h' }) e c z (by decide) ⟨p.1, H, I', rk, ⟨rfl, p, hpi, rfl⟩, st', fun b hb => (hf b hb).1⟩⟩
  done := by
    intro X hP hw hK hc i pins s σ H E I hf st ⟨hd, hi⟩
    subst hP hw hK
    obtain ⟨f0, f1, f2, f3, f4, f5⟩ := hf it (List.mem_singleton.mpr rfl)
    obtain ⟨ep', h1, raw, _⟩ := frz_raw I hd
    have : ep' = ep := by rw [hod] at h1; injection h1 with _ z; exact z.symm
    subst this
    have hl : ps.length = es.length := Paired.length hp
    exact wpAny_pyNext_keys_end_raw (I.ok.hd hc) st raw (by simp; omega) fun h' eb => ⟨rfl, I.turned (t' := s.toks) (fun b ob hb e => eb b ob hb e) f0 f1 f3 f4 f5⟩
  self := fun A i s Q E st h => by
    refine wpAny_pyIter_slot st.typeIs F.slot_dict_keyiterator_iter (wpAny_call_entry F.slot_dict_keyiterator_iter st.typeIs F.entry_dict_keyiterator_iter ?_ (F.args_dict_keyiterator_iter_1 _))
    show wpAny (model P w) _ (ret (Value.ref it)) _ _ s
    exact wpAny_pure ⟨_, rfl, "dict_keyiterator", _, st.typeIs, F.slot_dict_keyiterator_next.lookup, h⟩
theorem turn_dv (it : Addr) (hp : KVs ps es) (hod : o.data = .dict es.toArray ep) : Turn P w K tg (ItDv d o es ps) [it] it (fun i h => h.IsValIter it d i es.toArray.size ep) where
  mem := List.mem_singleton.mpr rfl
  obj := fun i h st b hb => by
    rw [List.mem_singleton.mp hb]
    obtain ⟨q, e, c, z⟩ := st
    exact ⟨q, e, fun v y => by rw [z] at y; cases y⟩
  keep := fun i h h' st k => st.at fun q e => k it (List.mem_singleton.mpr rfl) q e
  item := by
    intro X hP hw hK hc i pins s σ H E I hf st ⟨hd, hi⟩
    subst hP hw hK
    obtain ⟨f0, f1, f2, f3, f4, f5⟩ := hf it (List.mem_singleton.mpr rfl)
    obtain ⟨ep', h1, raw, _⟩ := frz_raw I hd
    have : ep' = ep := by rw [hod] at h1; injection h1 with _ z; exact z.symm
    subst this
    obtain ⟨p, hpi, hl, rk, rv⟩ := kv_at hp hi
    refine wpAny_pyNext_values_item_raw st raw hl fun h' st' sb => ?_
    have I' : Inv X pins σ H { s with heap := h' } := I.turned (t' := s.toks) (fun b ob hb e => (sb.2 b hb).trans e) f0 f1 f3 f4 f5
    obtain ⟨q, e, c, z⟩ := id st'
    exact ⟨_, rfl, go_of (s := { s with heap := h' }) e c z (by decide) ⟨p.2, H, I', rv, ⟨rfl, p, hpi, rfl⟩, st', fun b hb => (hf b hb).1⟩⟩
  done := by
    intro X hP hw hK hc i pins s σ H E I hf st ⟨hd, hi⟩
    subst hP hw hK
    obtain ⟨f0, f1, f2, f3, f4, f5⟩ := hf it (List.mem_singleton.mpr rfl)
    obtain ⟨ep', h1, raw, _⟩ := frz_raw I hd
    have : ep' = ep := by rw [hod] at h1; injection h1 with _ z; exact z.symm
    subst this
    have hl : ps.length = es.length := Paired.length hp
    exact wpAny_pyNext_values_end_raw (I.ok.hd hc) st raw (by simp; omega) fun h' eb => ⟨rfl, I.turned (t' := s.toks) (fun b ob hb e => eb b ob hb e) f0 f1 f3 f4 f5⟩
  self := fun A i s Q E st h => wpAny_pyIter_valiter st h
theorem turn_di {elts : List Expr} {kk : Nat} {tpos : Pos} (it : Addr) (hp : KVs ps es) (hod : o.data = .dict es.toArray ep) : Turn P w K (.Tuple elts kk tpos) (ItDi d o es ps) [it] it (fun i h => ∃ a b, IsItemIter h it d i es.toArray.size ep a b) where
  mem := List.mem_singleton.mpr rfl
  obj := fun i h st b hb => by
    rw [List.mem_singleton.mp hb]
    obtain ⟨q, r, e⟩ := st
    exact ⟨_, e, fun v y => nomatch y⟩
  keep := fun i h h' st k => let ⟨q, r, e⟩ := st; ⟨q, r, k it (List.mem_singleton.mpr rfl) _ e⟩
  item := by
    intro X hP hw hK hc i pins s σ H E I hf st ⟨hd, hi⟩
    subst hP hw hK
    obtain ⟨ep', h1, raw, _⟩ := frz_raw I hd
    have : ep' = ep := by rw [hod] at h1; injection h1 with _ z; exact z.symm
    subst this
    obtain ⟨p, hpi, hl, rk, rv⟩ := kv_at hp hi
    obtain ⟨ak, av, he⟩ := st
    have ilt : it < s.heap.objs.size := Heap.lt_size he
    refine wpAny_pyNext_items_item_raw he raw hl fun h' ho hT hz hk => ?_
    refine ⟨_, rfl, wpAny_letOwnedTupleGo_items (s := { s with heap := h' }) ho fun h'' he' sb => ?_⟩
    generalize (es.toArray[i]'hl).key = ku at *
    generalize (es.toArray[i]'hl).val = vu at *
    have hT' : h''.get? s.heap.objs.size = some { cls := .type "tuple", data := .seq #[ku, vu] } := (sb.2 _ (Nat.ne_of_gt ilt)).trans hT
    have new : ObjOk X.prog X.w (upd H s.heap.objs.size (.tup [p.1, p.2])) h'' s.heap.objs.size (.tup [p.1, p.2]) := ⟨by show 2 ≤ sizeLine; decide, [ku, vu], .cons rk (.cons rv .nil), ⟨_, hT', rfl, _, rfl⟩⟩
    have I' : Inv X pins σ (upd H s.heap.objs.size (.tup [p.1, p.2])) { s with heap := h'' } :=
      I.turnedNew (t' := s.toks) (ch := [it]) (fun b ob hb e => (sb.2 b (fun z => hb (List.mem_singleton.mpr z))).trans (hk b ob (fun z => hb (List.mem_singleton.mpr z)) e)) hf (Nat.le_refl _) new
    refine ⟨.ref s.heap.objs.size, _, I', rfl, ⟨_, p, hpi, rfl, I.hok.fresh (Nat.le_refl _), rfl⟩, ⟨ku, vu, he'⟩, fun b hb => ?_⟩
    rw [List.mem_singleton.mp hb, upd_ne (Nat.ne_of_lt ilt)]
    exact (hf it (List.mem_singleton.mpr rfl)).1
  done := by
    intro X hP hw hK hc i pins s σ H E I hf st ⟨hd, hi⟩
    subst hP hw hK
    obtain ⟨f0, f1, f2, f3, f4, f5⟩ := hf it (List.mem_singleton.mpr rfl)
    obtain ⟨ep', h1, raw, _⟩ := frz_raw I hd
    have : ep' = ep := by rw [hod] at h1; injection h1 with _ z; exact z.symm
    subst this
    have hl : ps.length = es.length := Paired.length hp
    obtain ⟨ak, av, he⟩ := st
    exact wpAny_pyNext_items_end_raw (I.ok.hd hc) he raw (by simp; omega) fun h' eb => ⟨rfl, I.turned (t' := s.toks) (fun b ob hb e => eb b ob hb e) f0 f1 f3 f4 f5⟩
  self := fun A i s Q E st h => let ⟨_, _, e⟩ := st; PySem.W.kcp_self e h
end
section
variable {X : Cx} {tg e : Expr} {td : TE} {apos cpos : Pos}
theorem pi_dk (he : PE X e td) : PI X tg e (fun σ H R => td σ H fun x H1 => ∃ d o es ps, x = .ref d ∧ H1 d = some (.frz o (dO d es)) ∧ KVs ps es ∧ (d == sysModules) = false ∧ R (ItDk d o es ps) H1) := by
  refine ⟨fun pins s σ H R I h => ?_⟩
  refine thn (he.run pins s σ H _ I h) fun u s1 ⟨x, H1, I1, rx, d, o, es, ps, ex, hd, hp, sm, q⟩ => ?_
  subst ex
  obtain rfl : u = Value.ref d := rx
  obtain ⟨ep, h1, raw, _⟩ := frz_raw I1 hd
  exact wpAny_pyIter_dict_raw sm raw (pi_one (tk := s1.toks) I1 _ (turn_dk _ hp h1) ⟨_, Heap.get?_push_size _ rfl, rfl, rfl⟩ q)
theorem pi_dv (he : PE X e td) (hbase : attributeBase e "values" X.env (eval e X.env) = eval e X.env := by rfl) (hline : (apos.endLine == cpos.line) = true := by rfl) :
    PI X tg (.Call (.Attribute e "values" apos) [] [] cpos) (fun σ H R => td σ H fun x H1 => ∃ d o es ps, x = .ref d ∧ H1 d = some (.frz o (dO d es)) ∧ KVs ps es ∧ (d == sysModules) = false ∧ R (ItDv d o es ps) H1) := by
  refine ⟨fun pins s σ H R I h => ?_⟩
  refine wpAny_Call_method (T := "dict") (id := "dict.values") hbase rfl hline F.plainAttrs_dict F.slot_dict_values F.type_dict_values (thn (he.run pins s σ H _ I h) fun u s1 ⟨x, H1, I1, rx, d, o, es, ps, ex, hd, hp, sm, q⟩ => ?_)
  subst ex
  obtain rfl : u = Value.ref d := rx
  obtain ⟨ep, h1, raw, _⟩ := frz_raw I1 hd
  refine ⟨raw.typeIs, fun b z => ?_, ?_⟩
  · cases z; obtain ⟨q, g1, g2, _⟩ := raw; exact ⟨q, g1, g2.2.1⟩
  have I2 : Inv X pins σ H1 { s1 with heap := s1.heap.push { cls := .type "dict_values", data := .fields #[.ref d] } } := I1.kept (t' := s1.toks) fun b ob z => Heap.get?_push_of_some _ z
  have fin : wpAny (model X.prog X.w) X.A (pyIter (.ref s1.heap.objs.size)) (PIE X pins σ tg R) X.xe { s1 with heap := s1.heap.push { cls := .type "dict_values", data := .fields #[.ref d] } } :=
    wpAny_pyIter_values_raw (d := d) ⟨_, Heap.get?_push_size _ rfl, rfl, rfl⟩ (raw.push _) (pi_one (tk := s1.toks) I2 _ (turn_dv _ hp h1) ⟨_, Heap.get?_push_size _ rfl, rfl, rfl⟩ q)
  show wpAny _ _ (callWith cpos (.builtin "dict.values") [.ref d] [] []) _ X.xe s1
  exact method_meetsIn F.slot_dict_values F.entry_dict_values rfl (PySem.evalArgs_none ⟨rfl, raw.typeIs, F.args_dict_values_1 _, _, meets_dict_values_raw d sm, ⟨_, _, raw⟩, fin⟩)
theorem pi_di {elts : List Expr} {kk : Nat} {tpos : Pos} (he : PE X e td) (hbase : attributeBase e "items" X.env (eval e X.env) = eval e X.env := by rfl) (hline : (apos.endLine == cpos.line) = true := by rfl) :
    PI X (.Tuple elts kk tpos) (.Call (.Attribute e "items" apos) [] [] cpos) (fun σ H R => td σ H fun x H1 => ∃ d o es ps, x = .ref d ∧ H1 d = some (.frz o (dO d es)) ∧ KVs ps es ∧ (d == sysModules) = false ∧ R (ItDi d o es ps) H1) := by
  refine ⟨fun pins s σ H R I h => ?_⟩
  refine wpAny_Call_method (T := "dict") (id := "dict.items") hbase rfl hline F.plainAttrs_dict F.slot_dict_items F.type_dict_items (thn (he.run pins s σ H _ I h) fun u s1 ⟨x, H1, I1, rx, d, o, es, ps, ex, hd, hp, sm, q⟩ => ?_)
  subst ex
  obtain rfl : u = Value.ref d := rx
  obtain ⟨ep, h1, raw, _⟩ := frz_raw I1 hd
  refine ⟨raw.typeIs, fun b z => ?_, ?_⟩
  · cases z; obtain ⟨q, g1, g2, _⟩ := raw; exact ⟨q, g1, g2.2.1⟩
  have I2 : Inv X pins σ H1 { s1 with heap := s1.heap.push { cls := .type "dict_items", data := .fields #[.ref d] } } := I1.kept (t' := s1.toks) fun b ob z => Heap.get?_push_of_some _ z
  have fin : wpAny (model X.prog X.w) X.A (pyIter (.ref s1.heap.objs.size)) (PIE X pins σ (.Tuple elts kk tpos) R) X.xe { s1 with heap := s1.heap.push { cls := .type "dict_items", data := .fields #[.ref d] } } :=
    wpAny_pyIter_items_raw (d := d) ⟨_, Heap.get?_push_size _ rfl, rfl, rfl⟩ (raw.push _) (pi_one (tk := s1.toks) I2 _ (turn_di _ hp h1) ⟨.none, .none, Heap.get?_push_size _ rfl⟩ q)
  show wpAny _ _ (callWith cpos (.builtin "dict.items") [.ref d] [] []) _ X.xe s1
  exact method_meetsIn F.slot_dict_items F.entry_dict_items rfl (PySem.evalArgs_none ⟨rfl, raw.typeIs, F.args_dict_items_1 _, _, meets_dict_items_raw d sm, ⟨_, _, raw⟩, fin⟩)
end
/-! over data -/
section
variable {K : PySem.W.Frag} {H : Hp}
theorem dict_tup {kvs : List (D × D)} {v : V} (p : Rp K H (.dict kvs) v) (ht : tupKeys kvs = true) : ∃ a o es ps, v = .ref a ∧ H a = some (.frz o (dO a es)) ∧ KVs ps es ∧ (a == sysModules) = false ∧ RpL K H (kvs.map (·.1)) (ps.map (·.1)) ∧ RpL K H (kvs.map (·.2)) (ps.map (·.2)) := by
  generalize e : PyData.dict kvs = d at p
  cases p with
  | dct h l n m =>
    cases e
    obtain ⟨ps, h1, h2, h3⟩ := l.kvs
    exact ⟨_, _, _, ps, rfl, h, h1, m, h2, h3⟩
  | hdl a => cases e; cases ht
  | dck h e1 l n =>
    cases e
    cases kvs with
    | nil => exact absurd rfl n
    | cons p kvs =>
      rename_i us
      cases us with
      | nil => cases e1
      | cons u us =>
        rw [List.map_cons, List.map_cons] at e1
        injection e1 with e1 _
        unfold tupKeys at ht
        rw [List.all_cons, e1] at ht
        cases h : u.1 with
        | inl i => rw [h] at ht; simp [keyDt] at ht
        | inr x => rw [h] at ht; simp [keyDt] at ht
  | _ => cases e
theorem rpl_fst {kvs : List (D × D)} {ps : List (V × V)} (l : RpL K H (kvs.map (·.1)) (ps.map (·.1))) {i : Nat} {p : V × V} (h : ps[i]? = some p) : ∃ q, kvs[i]? = some q ∧ Rp K H q.1 p.1 := by
  obtain ⟨d, h1, h2⟩ := l.getV (i := i) (v := p.1) (by rw [List.getElem?_map, h]; rfl)
  rw [List.getElem?_map] at h1
  obtain ⟨q, h3, rfl⟩ := Option.map_eq_some_iff.mp h1
  exact ⟨q, h3, h2⟩
theorem rpl_snd {kvs : List (D × D)} {ps : List (V × V)} (l : RpL K H (kvs.map (·.2)) (ps.map (·.2))) {i : Nat} {p : V × V} (h : ps[i]? = some p) : ∃ q, kvs[i]? = some q ∧ Rp K H q.2 p.2 := by
  obtain ⟨d, h1, h2⟩ := l.getV (i := i) (v := p.2) (by rw [List.getElem?_map, h]; rfl)
  rw [List.getElem?_map] at h1
  obtain ⟨q, h3, rfl⟩ := Option.map_eq_some_iff.mp h1
  exact ⟨q, h3, h2⟩
def pairD (p : D × D) : D := .tuple [p.1, p.2]
variable {d : Addr} {o : Obj} {es : List DictEntry} {ps : List (V × V)} {kvs : List (D × D)}
theorem walk_dk (h : H d = some (.frz o (dO d es))) (l1 : RpL K H (kvs.map (·.1)) (ps.map (·.1))) : WalkD false K (ItDk d o es ps) H (kvs.map (·.1)) where
  goes := fun i H' x hi => ⟨x.frz _ _ _ h, by have := l1.length; simp at this hi; omega⟩
  yld := fun i H' v H2 x hi hy => by
    obtain ⟨rfl, p, hp, rfl⟩ := hy
    obtain ⟨q, h1, h2⟩ := rpl_fst l1 hp
    exact ⟨PExt.refl _, q.1, by rw [List.getElem?_map, h1]; rfl, h2.ext x⟩
  stops := fun H' x => ⟨x.frz _ _ _ h, by have := l1.length; simp at this ⊢; omega⟩
theorem walk_dv (h : H d = some (.frz o (dO d es))) (l2 : RpL K H (kvs.map (·.2)) (ps.map (·.2))) : WalkD false K (ItDv d o es ps) H (kvs.map (·.2)) where
  goes := fun i H' x hi => ⟨x.frz _ _ _ h, by have := l2.length; simp at this hi; omega⟩
  yld := fun i H' v H2 x hi hy => by
    obtain ⟨rfl, p, hp, rfl⟩ := hy
    obtain ⟨q, h1, h2⟩ := rpl_snd l2 hp
    exact ⟨PExt.refl _, q.2, by rw [List.getElem?_map, h1]; rfl, h2.ext x⟩
  stops := fun H' x => ⟨x.frz _ _ _ h, by have := l2.length; simp at this ⊢; omega⟩
theorem walk_di (h : H d = some (.frz o (dO d es))) (l1 : RpL K H (kvs.map (·.1)) (ps.map (·.1))) (l2 : RpL K H (kvs.map (·.2)) (ps.map (·.2))) : WalkD true K (ItDi d o es ps) H (kvs.map pairD) where
  goes := fun i H' x hi => ⟨x.frz _ _ _ h, by have := l1.length; simp at this hi; omega⟩
  yld := fun i H' v H2 x hi hy => by
    obtain ⟨T, p, hp, rfl, hT, rfl⟩ := hy
    obtain ⟨q, h1, h2⟩ := rpl_fst l1 hp
    obtain ⟨q', h1', h2'⟩ := rpl_snd l2 hp
    rw [h1] at h1'; cases h1'
    refine ⟨PExt.new hT, pairD q, by rw [List.getElem?_map, h1]; rfl, ?_⟩
    have x2 := x.trans (PExt.new (o := .tup [p.1, p.2]) hT).ext
    exact .pair (.inl (.inl upd_same)) (.cons (h2.ext x2) (.cons (h2'.ext x2) .nil))
  stops := fun H' x => ⟨x.frz _ _ _ h, by have := l1.length; simp at this ⊢; omega⟩
end
section
variable {X : Cx} {G : Gh} {tg e : Expr} {ta : TD} {apos cpos : Pos}
def iDk (ta : TD) : TDs := fun E Q => ta E fun x E1 => match x with
  | .dict kvs => tupKeys kvs = true ∧ Q (kvs.map (·.1)) E1
  | _ => False
def iDv (ta : TD) : TDs := fun E Q => ta E fun x E1 => match x with
  | .dict kvs => tupKeys kvs = true ∧ Q (kvs.map (·.2)) E1
  | _ => False
def iDi (ta : TD) : TDs := fun E Q => ta E fun x E1 => match x with
  | .dict kvs => tupKeys kvs = true ∧ Q (kvs.map pairD) E1
  | _ => False
theorem id_dk (h : ED X G e ta) : ID X G false tg e (iDk ta) :=
  ⟨PI.weak (pi_dk h.pe) fun σ H R ⟨E, QE, r, q, k⟩ => ⟨E, _, r, q, fun x E1 v H1 q1 x1 r1 p1 => by
    split at q1
    · obtain ⟨a, o, es, ps, rfl, h1, h2, h3, l1, l2⟩ := dict_tup p1 q1.1
      exact ⟨a, o, es, ps, rfl, h1, h2, h3, k _ _ _ _ q1.2 x1 r1 (walk_dk h1 l1)⟩
    · exact q1.elim⟩⟩
theorem id_dv (h : ED X G e ta) (hbase : attributeBase e "values" X.env (eval e X.env) = eval e X.env := by rfl) (hline : (apos.endLine == cpos.line) = true := by rfl) : ID X G false tg (.Call (.Attribute e "values" apos) [] [] cpos) (iDv ta) :=
  ⟨PI.weak (pi_dv h.pe hbase hline) fun σ H R ⟨E, QE, r, q, k⟩ => ⟨E, _, r, q, fun x E1 v H1 q1 x1 r1 p1 => by
    split at q1
    · obtain ⟨a, o, es, ps, rfl, h1, h2, h3, l1, l2⟩ := dict_tup p1 q1.1
      exact ⟨a, o, es, ps, rfl, h1, h2, h3, k _ _ _ _ q1.2 x1 r1 (walk_dv h1 l2)⟩
    · exact q1.elim⟩⟩
theorem id_di {elts : List Expr} {kk : Nat} {tpos : Pos} (h : ED X G e ta) (hbase : attributeBase e "items" X.env (eval e X.env) = eval e X.env := by rfl) (hline : (apos.endLine == cpos.line) = true := by rfl) : ID X G true (.Tuple elts kk tpos) (.Call (.Attribute e "items" apos) [] [] cpos) (iDi ta) :=
  ⟨PI.weak (pi_di h.pe hbase hline) fun σ H R ⟨E, QE, r, q, k⟩ => ⟨E, _, r, q, fun x E1 v H1 q1 x1 r1 p1 => by
    split at q1
    · obtain ⟨a, o, es, ps, rfl, h1, h2, h3, l1, l2⟩ := dict_tup p1 q1.1
      exact ⟨a, o, es, ps, rfl, h1, h2, h3, k _ _ _ _ q1.2 x1 r1 (walk_di h1 l1 l2)⟩
    · exact q1.elim⟩⟩
end
end DL

set_option Elab.async false
set_option linter.all false
set_option maxRecDepth 100000
set_option maxHeartbeats 1000000
/-! DL37: list(d), list(d.values()), if d, {k: v} of dicts with tuple keys; new mutable things frozen. -/
namespace DL
open PySem PySem.Spec PyProof.Rows L2
theorem RelX.putS {K : PySem.W.Frag} {G : Gh} {H : Hp} {E : Env} {σ : St} {a : Addr} {u u' : HO} (r : RelX K G [a] H E σ) (h0 : G.H0 a = none) (na : a ∉ G.addrs) (ha : H a = some u) (s1 : ∀ xs, u ≠ .tup xs) (s2 : ∀ o v, u ≠ .frz o v) : RelX K G [a] (upd H a u') E σ := by
  have x : Ext H (upd H a u') := Ext.putS ha s1 s2
  obtain ⟨l, k, pn, dm, x0, A, h1, h2, h3⟩ := r
  refine ⟨l, fun q w he ne => ?_, pn, fun q hq => ?_, x0.trans x, A, h1, h2, fun i s e => (h3 i s e).move x fun p hp => upd_ne (by rintro rfl; exact (h2 i p hp).2 (List.mem_singleton.mpr rfl))⟩
  · rw [upd_ne (by rintro rfl; rw [h0] at he; cases he)]; exact k q w he ne
  · rw [upd_ne (by rintro rfl; exact na hq)]; exact dm q hq
def vwO (p d : Addr) : HO := .ext fun h => h.IsValuesView p d
section
variable {X : Cx} {G : Gh} {e k v : Expr} {td tk tv : TE} {apos cpos pos : Pos}
theorem items_vals {P : Nat → Value → Prop} {acc : Array Value} {us : List V} (h : ItemsOf P acc us.length) (hp : ∀ i u w, us[i]? = some u → P i w → RelV u w) : Vals us acc.toList := by
  refine vals_of_at (by rw [Array.length_toList]; exact h.1.symm) fun j x u h1 h2 => hp j x u h1 (h.2 j u (by rw [← Array.getElem?_toList]; exact h2))
theorem call_list_dk (hc : X.calm = true) : CallR X (.type "list") (fun xs H Q => ∃ d o es ps, xs = [V.ref d] ∧ H d = some (.frz o (dO d es)) ∧ KVs ps es ∧ (d == sysModules) = false ∧ ps.length ≤ sizeLine ∧ ∀ p, H p = none → Q (.ref p) (upd H p (.lst (ps.map (·.1))))) := by
  intro pins s σ H xs us Q I r h
  obtain ⟨d, o, es, ps, rfl, hd, hp, sm, z, q⟩ := h
  rw [Vals.ref1 r]
  obtain ⟨ep, h1, raw, _⟩ := frz_raw I hd
  have hl : ps.length = es.length := Paired.length hp
  refine PySem.W.kdl_call (KdlSrc.rawDict (ep := ep) sm) (I.ok.hd hc) raw (by simpa [← hl] using z) fun h' tk acc c hk hS hacc => ?_
  refine ⟨.ref s.heap.objs.size, upd H s.heap.objs.size (.lst (ps.map (·.1))), I.laid hk (Nat.le_refl _) (show ObjOk X.prog X.w _ _ _ (.lst (ps.map (·.1))) from ⟨by rw [List.length_map]; exact z, acc.toList, c, ?_, by rw [Array.toArray_toList]; exact hS⟩), rfl, q _ (I.hok.fresh (Nat.le_refl _))⟩
  have hacc' : ItemsOf (fun i v => ∃ hi : i < es.toArray.size, v = es.toArray[i].key) acc (ps.map (·.1)).length := by rw [List.length_map, hl]; simpa using hacc
  refine items_vals hacc' fun i u w hu hw => ?_
  rw [List.getElem?_map] at hu
  obtain ⟨p, hpi, rfl⟩ := Option.map_eq_some_iff.mp hu
  obtain ⟨p', hp', hh, rk, rv⟩ := kv_at hp (List.getElem?_eq_some_iff.mp hpi).1
  rw [hpi] at hp'; cases hp'
  obtain ⟨hi, rfl⟩ := hw
  exact rk
theorem pe_valuesV (he : PE X e td) (hbase : attributeBase e "values" X.env (eval e X.env) = eval e X.env := by rfl) (hline : (apos.endLine == cpos.line) = true := by rfl) :
    PE X (.Call (.Attribute e "values" apos) [] [] cpos) (fun σ H Q => td σ H fun x H1 => ∃ d o es, x = .ref d ∧ H1 d = some (.frz o (dO d es)) ∧ (d == sysModules) = false ∧ ∀ p, H1 p = none → Q (.ref p) (upd H1 p (vwO p d))) := by
  refine ⟨fun pins s σ H Q I h => ?_⟩
  refine wpAny_Call_method (T := "dict") (id := "dict.values") hbase rfl hline F.plainAttrs_dict F.slot_dict_values F.type_dict_values (thn (he.run pins s σ H _ I h) fun u s1 ⟨x, H1, I1, rx, d, o, es, ex, hd, sm, q⟩ => ?_)
  subst ex
  obtain rfl : u = Value.ref d := rx
  obtain ⟨ep, h1, raw, _⟩ := frz_raw I1 hd
  refine ⟨raw.typeIs, fun b z => ?_, ?_⟩
  · cases z; obtain ⟨q, g1, g2, _⟩ := raw; exact ⟨q, g1, g2.2.1⟩
  show wpAny _ _ (callWith cpos (.builtin "dict.values") [.ref d] [] []) _ X.xe s1
  refine method_meetsIn F.slot_dict_values F.entry_dict_values rfl (PySem.evalArgs_none ⟨rfl, raw.typeIs, F.args_dict_values_1 _, _, meets_dict_values_raw d sm, ⟨_, _, raw⟩, ?_⟩)
  exact ⟨.ref s1.heap.objs.size, _, I1.laid (a := s1.heap.objs.size) (o := vwO s1.heap.objs.size d) (t' := s1.toks) (fun b ob z => Heap.get?_push_of_some _ z) (Nat.le_refl _) ⟨⟨_, Heap.get?_push_size _ rfl, rfl, rfl⟩, ⟨_, Heap.get?_push_size _ rfl⟩, fun g1 g2 ⟨ob, y1, y2⟩ kk => ⟨ob, kk ob y1, y2⟩⟩, rfl, q _ (I1.hok.fresh (Nat.le_refl _))⟩
theorem call_list_dv (hc : X.calm = true) : CallR X (.type "list") (fun xs H Q => ∃ r d o es ps, xs = [V.ref r] ∧ H r = some (vwO r d) ∧ H d = some (.frz o (dO d es)) ∧ KVs ps es ∧ (d == sysModules) = false ∧ ps.length ≤ sizeLine ∧ ∀ p, H p = none → Q (.ref p) (upd H p (.lst (ps.map (·.2))))) := by
  intro pins s σ H xs us Q I r h
  obtain ⟨rr, d, o, es, ps, rfl, hr, hd, hp, sm, z, q⟩ := h
  rw [Vals.ref1 r]
  obtain ⟨ep, h1, raw, _⟩ := frz_raw I hd
  have vw : s.heap.IsValuesView rr d := (I.hok rr _ hr).1
  have hl : ps.length = es.length := Paired.length hp
  refine PySem.W.kdl_call (KdlSrc.rawValues (ep := ep)) (I.ok.hd hc) ⟨vw, raw⟩ (by simpa [← hl] using z) fun h' tk acc c hk hS hacc => ?_
  refine ⟨.ref s.heap.objs.size, upd H s.heap.objs.size (.lst (ps.map (·.2))), I.laid hk (Nat.le_refl _) (show ObjOk X.prog X.w _ _ _ (.lst (ps.map (·.2))) from ⟨by rw [List.length_map]; exact z, acc.toList, c, ?_, by rw [Array.toArray_toList]; exact hS⟩), rfl, q _ (I.hok.fresh (Nat.le_refl _))⟩
  have hacc' : ItemsOf (fun i v => ∃ hi : i < es.toArray.size, v = es.toArray[i].val) acc (ps.map (·.2)).length := by rw [List.length_map, hl]; simpa using hacc
  refine items_vals hacc' fun i u w hu hw => ?_
  rw [List.getElem?_map] at hu
  obtain ⟨p, hpi, rfl⟩ := Option.map_eq_some_iff.mp hu
  obtain ⟨p', hp', hh, rk, rv⟩ := kv_at hp (List.getElem?_eq_some_iff.mp hpi).1
  rw [hpi] at hp'; cases hp'
  obtain ⟨hi, rfl⟩ := hw
  exact rv
/-! ### {k: v} -/
theorem pe_disp1N (hu : X.A.units + 65 < cLine) (hk : PE X k tk) (hv : PE X v tv) : PE X (.Dict [some k] [v] pos)
    (fun σ H Q => ∀ p, H p = none → (p == sysModules) = false → tk σ (upd H p (dO p [])) fun y H1 => tv σ H1 fun z H2 => ∃ kd d, keyB kd = true ∧ Rp X.K H2 kd y ∧ Rp X.K H2 d z ∧ H2 p = some (dO p []) ∧ ∀ es, RpD X.K (upd H2 p (dO p es)) [(kd, d)] es → Q (.ref p) (upd H2 p (dO p es))) := by
  refine ⟨fun pins s σ H Q I h => ?_⟩
  have hsm : (s.heap.objs.size == sysModules) = false := beq_eq_false_iff_ne.mpr (Ne.symm (Nat.ne_of_lt I.big))
  have hn := I.hok.fresh (Nat.le_refl s.heap.objs.size)
  have I1 : Inv X pins σ (upd H s.heap.objs.size (dO s.heap.objs.size [])) { s with heap := s.heap.push { cls := .type "dict", data := .dict #[] } } :=
    I.laid (a := s.heap.objs.size) (o := dO s.heap.objs.size []) (t' := s.toks) (fun _ _ q => Heap.get?_push_of_some _ q) (Nat.le_refl _) ⟨⟨_, 0, Heap.get?_push_size _ rfl, ⟨rfl, rfl, rfl⟩, rfl⟩, ⟨_, Heap.get?_push_size _ rfl⟩, fun h1 h2 ⟨o, ep, g1, g2, g3⟩ kk => ⟨o, ep, kk o g1, g2, g3⟩⟩
  rw [arm_eval_Dict, zip_pairTrees [some k] [v] X.env pos rfl rfl, dictDisplay_pairs _ (by simp [pairTrees]) (by simp [pairTrees])]
  refine wpAny_bind (wpAny_standAt (wpAny_bind (wpAny_subDictH (knd := nestedKind X.prog X.w) (show X.A.units + 8 < cLine by omega) (by simp [pairTrees]) ?_)))
  refine thn ((pps_cons hk hv pps_nil).run pins _ σ _ (fun ps H2 => match ps with
    | [(y, z)] => ∃ kd d, keyB kd = true ∧ Rp X.K H2 kd y ∧ Rp X.K H2 d z ∧ H2 s.heap.objs.size = some (dO s.heap.objs.size []) ∧ ∀ es, RpD X.K (upd H2 s.heap.objs.size (dO s.heap.objs.size es)) [(kd, d)] es → Q (.ref s.heap.objs.size) (upd H2 s.heap.objs.size (dO s.heap.objs.size es))
    | _ => False) I1 (h s.heap.objs.size hn hsm)) fun ws s2 ⟨ps, H2, I2, rel, q⟩ => ?_
  match ps, rel, q with
  | [(y, z)], rel, ⟨kd, d, hkb, rk, rd, hp, q⟩ =>
    cases rel with
    | @cons _ w _ _ r1 r2 =>
      cases r2
      obtain ⟨w1, w2⟩ := w
      obtain ⟨xs, tr, dd, _⟩ := DN.at I2 (⟨[], .inl hp, .nil, List.nodup_nil, hsm⟩ : DN X.K H2 s.heap.objs.size [])
      have hx : xs = [] := by cases tr; rfl
      subst hx
      obtain ⟨nk, b, e1, e2, rfl, eb, ki⟩ := key_is I2 hkb rk r1.1
      have eb : w1 = Value.ref b := eb
      subst eb
      refine ⟨[(nk, b, w2)], ⟨rfl, rfl, ki, trivial⟩, dd, fun h' tk2 dk hs => wpAny_pure ?_⟩
      obtain ⟨o', es', ep', g1, g2, g3, g4, g5, g6⟩ := dk
      have tr' : TR X.K H2 (putN [] kd d) (storedH [] nk b w2) := TR.put (kvs := []) .nil (keyB_ok hkb).1 e1 e2 rk rd r1.2
      have hes : es' = ((storedH [] nk b w2).map (entryOfKey (nestedKind X.prog X.w))).toArray := by
        have g4 : es'.toList = (storedH [] nk b w2).map (entryOfKey (nestedKind X.prog X.w)) := g4
        rw [← g4]
      have x2 : Ext H2 (upd H2 s.heap.objs.size (dO s.heap.objs.size ((storedH [] nk b w2).map (entryOfKey (nestedKind X.prog X.w))))) := Ext.putS hp (fun _ z => by cases z) (fun _ _ z => by cases z)
      refine ⟨.ref s.heap.objs.size, _, d_write I2 (ob := dO s.heap.objs.size ((storedH [] nk b w2).map (entryOfKey (nestedKind X.prog X.w)))) (by rw [hp]; exact True.intro) hs ⟨o', g1⟩ ⟨⟨o', ep', g1, g2, by rw [g3, hes]⟩, ⟨o', g1⟩, fun h1 h2 ⟨o, ep, y1, y2, y3⟩ kk => ⟨o, ep, kk o y1, y2, y3⟩⟩, rfl, q _ ((tr'.rpd).ext x2)⟩
end
/-! ### if d -/
section
variable {prog : Program} {w : World} {A : Around} {E : Value → Shared → Prop} {s : Shared} {d : Addr} {es : Array DictEntry} {ep : Nat}
theorem len_raw {Q : Value → Shared → Prop} (sm : (d == sysModules) = false) (hm : s.heap.DictRaw d es ep) (fit : (es.size : Int) < 2 ^ 63) (h : ∀ t s', s' = { s with toks := s.toks + 1 + 1 } → Q (.int es.size t) s') :
    wpAny (model prog w) A (Builtin.«len» ⟨[.ref d], []⟩) (fun fin s' => ∃ r, fin = .done (.ret r) ∧ Q r s') E s := by
  unfold Builtin.«len»
  refine wpAny_bind (m := oneArg "len" _) (wpAny_pure (wpAny_bind (m := callSpecial? (.ref d) (Str.ofString "__len__")) (wpAny_callSpecial?_slot (name := Str.ofString "__len__") hm.typeIs F.slot_dict_len
    (call_meetsIn F.slot_dict_len hm.typeIs F.entry_dict_len (F.args_dict_len_1 _) (meets_dict_len_raw d sm) ⟨es, ep, hm, ?_⟩))))
  show wpAny _ _ _ _ _ { s with toks := s.toks + 1 }
  refine wpAny_bind (wpAny_holding (wpAny_pure (wpAny_bind (wpAny_letGo ?_))))
  have n1 : ¬ ((es.size : Nat) : Int) < 0 := by omega
  have n2 : ¬ ((es.size : Nat) : Int) ≥ 2 ^ 63 := by omega
  show wpAny _ _ (if ((es.size : Nat) : Int) < 0 then _ else _) _ _ _
  rw [if_neg n1]
  show wpAny _ _ (if ((es.size : Nat) : Int) ≥ 2 ^ 63 then _ else _) _ _ _
  rw [if_neg n2]
  exact wpAny_bind (wpAny_mkInt (wpAny_pure ⟨_, rfl, h _ _ rfl⟩))
theorem truthy_raw {Q : Bool → Shared → Prop} (sm : (d == sysModules) = false) (hm : s.heap.DictRaw d es ep) (fit : (es.size : Int) < 2 ^ 63) (h : Q ((es.size : Int) != 0) { s with toks := s.toks + 1 + 1 }) : wpAny (model prog w) A (truthy (.ref d)) Q E s := by
  have key : wpAny (model prog w) A (runValue (.builtin "len" ⟨[.ref d], []⟩)) (fun r s' => (∃ t, r = .int es.size t) ∧ Q ((es.size : Int) != 0) s') E s := by
    refine wpAny_runValue (codeAny_builtin entry_len ?_)
    rw [Around.under_plainId plain_len _]
    refine wpAny_mono (len_raw (Q := fun r s' => (∃ t, r = .int es.size t) ∧ Q ((es.size : Int) != 0) s') sm hm fit fun t s' e => ⟨⟨t, rfl⟩, e ▸ h⟩) (fun fin s' h' => ?_) fun _ _ e => e
    obtain ⟨r, rfl, hq⟩ := h'
    exact hq
  unfold truthy
  first
    | refine wpAny_bind (wpAny_callSpecial?_none (name := Str.ofString "__bool__") hm.typeIs noBool_dict (wpAny_bind (wpAny_specialOf (name := Str.ofString "__len__") hm.typeIs F.slot_dict_len.lookup ?_)))
    | refine wpAny_bind (wpAny_pure (wpAny_bind (wpAny_callSpecial?_none (name := Str.ofString "__bool__") hm.typeIs noBool_dict (wpAny_bind (wpAny_specialOf (name := Str.ofString "__len__") hm.typeIs F.slot_dict_len.lookup ?_)))))
  exact wpAny_bind (wpAny_mono key (fun r s' h' => by obtain ⟨⟨t, rfl⟩, hq⟩ := h'; exact wpAny_pure hq) fun _ _ e => e)
end
section
variable {X : Cx} {G : Gh} {e : Expr} {ta : TD} {p p1 p2 apos cpos pos : Pos}
theorem tru_dk : TruR X (fun x H Q => ∃ d o es, x = .ref d ∧ H d = some (.frz o (dO d es)) ∧ (d == sysModules) = false ∧ es.length ≤ sizeLine ∧ Q (!es.isEmpty) H) := by
  intro pins s σ H x u Q I r h
  obtain ⟨d, o, es, rfl, hd, sm, hz, q⟩ := h
  obtain rfl : u = Value.ref d := r
  obtain ⟨ep, h1, raw, _⟩ := frz_raw I hd
  refine truthy_raw sm raw (by rw [sizeLine_eq] at hz; simp; omega) ⟨H, I.tok _, ?_⟩
  have : ((es.toArray.size : Int) != 0) = !es.isEmpty := by cases es <;> simp <;> omega
  rw [this]; exact q
def tTruDk (ta : TD) : TTd := fun E Q => ta E fun x E1 => match x with
  | .dict kvs => tupKeys kvs = true ∧ kvs.length ≤ sizeLine ∧ Q (!kvs.isEmpty) E1
  | _ => False
theorem eb_truDk (h : ED X G e ta) (he : ∀ whole, isTrue e X.env whole = (do let v ← whole; standAt e.pos; holding [v] (truthy v)) := by intro _; rfl) : EB X G e (tTruDk ta) :=
  ⟨PT.weak (pt_truthR h.pe tru_dk he) fun σ H Q ⟨E, QE, r, q, k⟩ => ⟨E, _, r, q, fun x E1 v H1 q1 x1 r1 p1 => by
    split at q1
    · rename_i kvs
      obtain ⟨a, o, es, ps, rfl, h1, h2, h3, l1, l2⟩ := dict_tup p1 q1.1
      have hl : ps.length = es.length := Paired.length h2
      have hl2 : kvs.length = ps.length := by have := l1.length; simpa using this
      refine ⟨a, o, es, rfl, h1, h3, by omega, ?_⟩
      have : es.isEmpty = kvs.isEmpty := by cases es <;> cases kvs <;> simp_all
      rw [this]
      exact k _ _ _ q1.2.2 x1 r1
    · exact q1.elim⟩⟩
/-! ### list(d), list(d.values()) -/
def tLDk (ta : TD) : TLd := fun E Q => ta E fun x E1 => match x with
  | .dict kvs => tupKeys kvs = true ∧ kvs.length ≤ sizeLine ∧ Q (kvs.map (·.1)) E1
  | _ => False
def tLDv (ta : TD) : TLd := fun E Q => ta E fun x E1 => match x with
  | .dict kvs => tupKeys kvs = true ∧ kvs.length ≤ sizeLine ∧ Q (kvs.map (·.2)) E1
  | _ => False
theorem el_listDk (h : ED X G e ta) (hg : Gl X "list") (hm : X.mg "list" = none) (hc : X.calm = true := by rfl) (hs : starEach [e] X.env = (false, eval e X.env) :: starEach [] X.env := by rfl) : EL X G (.Call (.Name "list" p) [e] [] pos) (tLDk ta) :=
  ⟨PE.weak (pe_callTy (call_list_dk hc) hg hm bb_list (pa_cons h.pe pa_nil hs) (by decide) (by decide) hs) fun σ H Q ⟨E, QE, r, q, k⟩ => ⟨E, _, r, q, fun x E1 v H1 q1 x1 r1 p1 => by
    split at q1
    · obtain ⟨a, o, es, ps, rfl, h1, h2, h3, l1, l2⟩ := dict_tup p1 q1.1
      refine ⟨a, o, es, ps, rfl, h1, h2, h3, by have := l1.length; simp at this; have := q1.2.1; omega, fun p hp => ?_⟩
      obtain ⟨r2, h0, na⟩ := r1.fresh (o := .lst (ps.map (·.1))) hp
      exact k _ _ _ _ _ q1.2.2 (x1.trans (PExt.new hp).ext) r2 h0 na upd_same (l1.ext (PExt.new hp).ext)
    · exact q1.elim⟩⟩
theorem el_listDv (h : ED X G e ta) (hg : Gl X "list") (hm : X.mg "list" = none) (hc : X.calm = true := by rfl) (hbase : attributeBase e "values" X.env (eval e X.env) = eval e X.env := by rfl) (hline : (apos.endLine == cpos.line) = true := by rfl)
    (hs : starEach [.Call (.Attribute e "values" apos) [] [] cpos] X.env = (false, eval (.Call (.Attribute e "values" apos) [] [] cpos) X.env) :: starEach [] X.env := by rfl) : EL X G (.Call (.Name "list" p) [.Call (.Attribute e "values" apos) [] [] cpos] [] pos) (tLDv ta) :=
  ⟨PE.weak (pe_callTy (call_list_dv hc) hg hm bb_list (pa_cons (pe_valuesV h.pe hbase hline) pa_nil hs) (by decide) (by decide) hs) fun σ H Q ⟨E, QE, r, q, k⟩ => ⟨E, _, r, q, fun x E1 v H1 q1 x1 r1 p1 => by
    split at q1
    · obtain ⟨a, o, es, ps, rfl, h1, h2, h3, l1, l2⟩ := dict_tup p1 q1.1
      refine ⟨a, o, es, rfl, h1, h3, fun p hp => ⟨p, a, o, es, ps, rfl, upd_same, by rw [upd_ne (ne_of_none h1 hp)]; exact h1, h2, h3, by have := l2.length; simp at this; have := q1.2.1; omega, fun p' hp' => ?_⟩⟩
      have x2 : PExt H1 (upd H1 p (vwO p a)) := PExt.new hp
      obtain ⟨r2, h0, na⟩ := (r1.pext x2).fresh (o := .lst (ps.map (·.2))) hp'
      exact k _ _ _ _ _ q1.2.2 (x1.trans (x2.trans (PExt.new hp')).ext) r2 h0 na upd_same (l2.ext (x2.trans (PExt.new hp')).ext)
    · exact q1.elim⟩⟩
/-! ### new mutable things: one entry; frozen -/
def mDt1 (tk tv : TD) : TM := fun E Q => tk E fun k E1 => tv E1 fun d E2 => keyB k = true ∧ Q (.dt [(k, d)]) E2
theorem em_dt1 {k v : Expr} {tk tv : TD} (hu : X.A.units + 65 < cLine) (hk : ∀ G' : Gh, G'.slots = G.slots → ED X G' k tk) (hv : ∀ G' : Gh, G'.slots = G.slots → ED X G' v tv) : EM X G (.Dict [some k] [v] pos) (mDt1 tk tv) := by
  have pk : PE X k (fun σ H Q => ∃ G' : Gh, G'.slots = G.slots ∧ liftE X.K G' tk σ H Q) := ⟨fun pins s σ H Q I ⟨G', hG, q⟩ => (hk G' hG).pe.run pins s σ H Q I q⟩
  have pv : PE X v (fun σ H Q => ∃ G' : Gh, G'.slots = G.slots ∧ liftE X.K G' tv σ H Q) := ⟨fun pins s σ H Q I ⟨G', hG, q⟩ => (hv G' hG).pe.run pins s σ H Q I q⟩
  refine ⟨PE.weak (pe_disp1N hu pk pv) fun σ H Q ⟨E, QE, r, q, kk⟩ p hp sm => ?_⟩
  obtain ⟨r2, h0, na⟩ := r.fresh (o := dO p []) hp
  have x0 : Ext H (upd H p (dO p [])) := (PExt.new hp).ext
  refine ⟨pend G p (dO p []), rfl, E, _, r2.toPend upd_same na, q, fun kd E1 y H1 q1 x1 r1 p1 => ⟨pend G p (dO p []), rfl, E1, _, r1, q1, fun d E2 z H2 q2 x2 r3 p2 => ?_⟩⟩
  obtain ⟨r4, hp2⟩ := RelX.ofPend r3 h0 na
  refine ⟨kd, d, q2.1, p1.ext x2, p2, hp2, fun es l => ?_⟩
  have x3 : Ext H2 (upd H2 p (dO p es)) := Ext.putS hp2 (fun _ z => by cases z) (fun _ _ z => by cases z)
  refine kk _ _ _ _ q2.2 (((x0.trans x1).trans x2).trans x3) (r4.putS (u' := dO p es) h0 na hp2 (fun _ z => by cases z) (fun _ _ z => by cases z)) h0 na ⟨es, upd_same, l, by simp, sm⟩
def tFzM (t : TM) : TD := fun E Q => t E fun s E1 => match s with
  | .dt kvs => Q (.dict kvs) E1
  | .ol xs => Q (.list xs) E1
  | _ => False
theorem EM.ed {t : TM} (h : EM X G e t) : ED X G e (tFzM t) :=
  ⟨PE.weak (PE.fzIf h.pe) fun σ H Q ⟨E, QE, r, q, k⟩ => ⟨E, _, r, q, fun s E1 a H1 q1 x1 r1 h0 na m => by
    split at q1
    · rename_i kvs
      obtain ⟨es, e2, l, nd, sm⟩ := m
      refine .inr ⟨a, _, rfl, e2, trivial, fun o => ?_⟩
      have x2 : Ext H1 (upd H1 a (.frz o (dO a es))) := Ext.putS e2 (fun _ z => by cases z) (fun _ _ z => by cases z)
      exact k _ _ _ _ q1 (x1.trans x2) (r1.freezeS h0 na e2 (fun _ z => by cases z) (fun _ _ z => by cases z)) (.dct upd_same (l.ext x2) nd sm)
    · rename_i xs
      obtain ⟨vs, e2, l⟩ := m
      refine .inr ⟨a, _, rfl, e2, trivial, fun o => ?_⟩
      exact k _ _ _ _ q1 (x1.trans (Ext.put e2)) (r1.freeze h0 na e2) (.lst (.of upd_same) (l.ext (Ext.put e2)))
    · exact q1.elim⟩⟩
end
end DL

set_option Elab.async false
set_option linter.all false
set_option maxRecDepth 100000
set_option maxHeartbeats 4000000
/-! FnBase: _law_draw, _law_pick, _law_same -/
namespace DL
open PySem PySem.Spec PyProof.Rows L2
local macro_rules | `(tactic| walk_at "dl") => `(tactic| simp only [tV, tVr, tFzV, turnD, DL.wipeE, tK, tOpD, tUnD, tBo, tAndD, tOrD, tNotD, tIfE, DL.tAndV, DL.tOrV, DL.tNotV, tTru, truD, okLen, sSet, sSetL, sExpr, sRet, sIf, sNx, tTupD, dNil, dCons, tLstD, tFzD, tApp, tExtd, tPopAt, sSetIx, tIxO, tChainD, tChain3D, tRevT, caStr, opRepT, opAdd, opSub, opMul, opDiv, opMod, opPow, DL.opI, DL.opI0, opB0, opLt, opLe, opGt, opGtD, opLtD, opGe, opEq, opNe, opIs, opIsN, isNone, opIn, opNotIn, opIx, atD_0, atD_1, atD_2, atD_3, putD_0, unNeg, tCa1, tCa2, tCaL1, caLen, caAbs, caMax2, caMin2, caSum, caMax, caMin, caSumT, caMaxT, caMinT, caAll, caTuple, caList, caInt, tIsi, isInt, isBool, isStr, isTuple, isList, notDict, sAsg, gSet, gTupD, gsNil, gsCons, sPar, pNil, pD, pL, setAll, tCallD, aNil, aV, aO, argS, oixs, ndp, putO, tOpL, opCat, opRep, tSlD, slD, tSlL, oNo, oE, tRevD, iLstD, iTupD, iRange1, iRange2, iZipD, iZipM, finO, tTrue, Option.map, eqv_int, eqv_bool, eqv_none, shaped_int, shaped_bool, shaped_none, tLenRange, tSortSet, tLenSet, tLenSetP, tSortSetP, tCountL, tCountT, tIndexL, tIndexT, DL.tOrT, DL.tAndT, DL.tNotT, tSortRev, caSorted, iEnumL, iEnumT, decide_eq_true_eq, and_self, List.cons_append, List.nil_append, List.replicate, List.getElem?_cons_zero, List.getElem?_cons_succ, List.set_cons_zero, List.set_cons_succ, List.length_cons, List.length_nil, true_and, and_true, if_true, if_false, Bool.false_eq_true, List.contains_nil, Bool.not_false, Bool.not_true, Bool.and_self, Bool.and_true, Bool.true_and, decide_true, decide_false, beq_self_eq_true])
def tb_law_draw : TSd :=
  sSeq (sIf (tNotD (tTru (tVr 1))) (sExpr (tApp 1 (tCa1 caMax (tFzD (tOpL opCat (tFzD (tComp (iLstD (tV 0)) (gSet 4) (tTrue) (tCa1 caAbs (tV 4)) [4])) (tFzD (tLstD (dCons (tK (.int 0)) (dNil))))))))) (sNx))
      (sSeq (sExpr (tApp 1 (tK (.int 0))))
      (sSeq (sSet 3 (tCa1 caLen (tVr 1)))
      (sSeq (sSet 4 (tIfE (tTru (tV 0)) (tOpD opIx (tV 0) (tOpD opMod (tV 3) (tCa1 caLen (tV 0)))) (tK (.int 0))))
      (sSeq (sSet 5 (tOpD opMod (tIxO 1 (tK (.int 0))) (tK (.int 65536))))
      (sSeq (sSetIx 1 (tK (.int 0)) (tOpD opDiv (tIxO 1 (tK (.int 0))) (tK (.int 65536))))
      (sSeq (sSet 6 (tOpD opMod (tOpD opAdd (tOpD opAdd (tV 4) (tOpD opMul (tK (.int 40503)) (tV 5))) (tOpD opMul (tK (.int 104729)) (tV 3))) (tK (.int 4294967291))))
      (sSeq (sSet 6 (tOpD opMod (tOpD opMul (tOpD opMod (tOpD opMul (tV 6) (tV 6)) (tK (.int 4294967279))) (tK (.int 48271))) (tK (.int 4294967291))))
      (sSeq (sSet 7 (tOpD opMod (tOpD opMul (tOpD opMod (tOpD opMul (tV 6) (tV 6)) (tK (.int 4294967279))) (tK (.int 69621))) (tK (.int 4294967291))))
      (sRet (tOpD opMod (tOpD opAdd (tOpD opMul (tOpD opDiv (tV 6) (tK (.int 64))) (tK (.int 67108864))) (tOpD opDiv (tV 7) (tK (.int 64)))) (tV 2)))))))))))
def tb_law_pick (sp_law_draw : SpD) : TSd :=
  sRet (tOpD opIx (tV 2) (tCallD sp_law_draw (aV (tV 0) (aO 1 (aV (tCa1 caLen (tV 2)) (aNil))))))
def tb_law_same (sp_law_same : SpD) : TSd :=
  sSeq (sIf (tBo (tOpD opIs (tV 1) (tK .none))) (sRet (tOpD opIs (tV 0) (tK .none))) (sNx))
      (sSeq (sIf (tTru (tIsi isBool (tV 1))) (sRet (tAndV (tIsi isBool (tV 0)) (tOpD opEq (tV 0) (tV 1)))) (sNx))
      (sSeq (sIf (tTru (tIsi isTuple (tV 1))) (sSeq (sIf (tOrD (tNotD (tTru (tIsi isTuple (tV 0)))) (tBo (tOpD opNe (tCa1 caLen (tV 0)) (tCa1 caLen (tV 1))))) (sRet (tK (.bool false))) (sNx))
      (sRet (tCa1 caAll (tFzD (tComp (iZipD (tV 0) (tV 1)) (gTupD 2 (gsCons (gSet 2) (gsCons (gSet 3) (gsNil)))) (tTrue) (tCallD sp_law_same (aV (tV 2) (aV (tV 3) (aNil)))) [2, 3]))))) (sNx))
      (sSeq (sIf (tTru (tIsi isStr (tV 1))) (sRet (tAndV (tIsi isStr (tV 0)) (tOpD opEq (tV 0) (tV 1)))) (sNx))
      (sRet (tAndV (tIsi isInt (tV 0)) (tAndV (tNotV (tIsi isBool (tV 0))) (tOpD opEq (tV 0) (tV 1))))))))
def TownOk (t : List D) (b : Nat) : Prop := t.length ≤ b ∧ (t = [] ∨ ∃ (h : Int) (r : List D), t = .int h :: r)
theorem TownOk.mono {t : List D} {b b' : Nat} (h : TownOk t b) (hb : b ≤ b') : TownOk t b' := ⟨Nat.le_trans h.1 hb, h.2⟩
def spDraw : SpD := fun ss Q => ∃ (ns : List Int) (t : List D) (m : Int) (b : Nat), ss = [.d (.list (ns.map PyData.int)), .ol t, .d (.int m)] ∧ 0 < m ∧ ns.length ≤ 63 ∧ TownOk t b ∧ b ≤ 10000000 ∧
  ∀ r t', 0 ≤ r → r < m → TownOk t' (b + 2) → Q (.int r) [.ol t']
theorem small_line {n : Nat} (h : n ≤ 10000010) : n ≤ sizeLine := by rw [sizeLine_eq]; omega
theorem cmul_small {i j : Int} (h1 : i.natAbs < 2 ^ 64) (h2 : j.natAbs < 2 ^ 64) : CMulW i j := wide_mul (a := 64) (b := 64) h1 h2 (by decide) (by decide) (by decide)
theorem cdiv_small {i j : Int} (h0 : 0 < j) (h1 : j < 2 ^ 64) : CDivW i j := wide_div (b := 64) h0 (by omega) (by decide) (by decide)
theorem rd_law_draw : ∀ ss QD, spDraw ss QD → tb_law_draw { nx := fun E' => finO [1] E' (QD .none), rt := fun d E' => finO [1] E' (QD d) } (ss ++ List.replicate 5 .un) := by
  rintro ss QD ⟨ns, t, m, b, rfl, hm, hn, ht, hb, k⟩
  unfold tb_law_draw
  refine seq_step fun R hR => ?_
  have main : ∀ (h : Int) (r : List D), (h' : (PyData.int h :: r).length ≤ b + 1) → R [.d (.list (ns.map PyData.int)), .ol (.int h :: r), .d (.int m), .un, .un, .un, .un, .un] := by
    intro h r h'
    refine hR _ ?_
    rw [List.length_cons] at h'
    refine seq_step fun R hR => ?_
    walk_at "dl"
    refine ⟨Nat.lt_of_lt_of_le (show r.length + 1 < 10000002 by omega) (small_line (by omega)), hR _ ?_⟩
    refine seq_step fun R hR => ?_
    walk_at "dl"
    refine hR _ ?_
    generalize hk : (((r ++ [PyData.int 0]).length + 1 : Nat) : Int) = kk
    have hkk : 0 ≤ kk ∧ kk ≤ 10000003 := by rw [List.length_append, List.length_cons, List.length_nil] at hk; omega
    refine seq_step fun R hR => ?_
    have c4 : ∀ c : Int, R [.d (.list (ns.map PyData.int)), .ol (.int h :: (r ++ [.int 0])), .d (.int m), .d (.int kk), .d (.int c), .un, .un, .un] := by
      intro c
      refine hR _ ?_
      refine seq_step fun R hR => ?_
      walk_at "dl"
      refine ⟨by decide, hR _ ?_⟩
      have hd0 : 0 ≤ h % 65536 := Int.emod_nonneg _ (by decide)
      have hd1 : h % 65536 < 65536 := Int.emod_lt_of_pos _ (by decide)
      generalize h % 65536 = dg at hd0 hd1 ⊢
      refine seq_step fun R hR => ?_
      walk_at "dl"
      refine ⟨cdiv_small (by decide) (by decide), hR _ ?_⟩
      generalize h / 65536 = h2
      refine seq_step fun R hR => ?_
      walk_at "dl"
      refine ⟨cmul_small (by omega) (by omega), cmul_small (by omega) (by omega), by decide, hR _ ?_⟩
      generalize hn1 : (c + 40503 * dg + 104729 * kk) % 4294967291 = n1
      have h10 : 0 ≤ n1 := by rw [← hn1]; exact Int.emod_nonneg _ (by decide)
      have h11 : n1 < 4294967291 := by rw [← hn1]; exact Int.emod_lt_of_pos _ (by decide)
      refine seq_step fun R hR => ?_
      walk_at "dl"
      have g0 : 0 ≤ n1 * n1 % 4294967279 := Int.emod_nonneg _ (by decide)
      have g1 : n1 * n1 % 4294967279 < 4294967279 := Int.emod_lt_of_pos _ (by decide)
      generalize n1 * n1 % 4294967279 = n2 at g0 g1 ⊢
      refine ⟨cmul_small (by omega) (by omega), by decide, cmul_small (by omega) (by omega), by decide, hR _ ?_⟩
      generalize hn3 : n2 * 48271 % 4294967291 = n3
      have h30 : 0 ≤ n3 := by rw [← hn3]; exact Int.emod_nonneg _ (by decide)
      have h31 : n3 < 4294967291 := by rw [← hn3]; exact Int.emod_lt_of_pos _ (by decide)
      refine seq_step fun R hR => ?_
      walk_at "dl"
      have g0 : 0 ≤ n3 * n3 % 4294967279 := Int.emod_nonneg _ (by decide)
      have g1 : n3 * n3 % 4294967279 < 4294967279 := Int.emod_lt_of_pos _ (by decide)
      generalize n3 * n3 % 4294967279 = n4 at g0 g1 ⊢
      refine ⟨cmul_small (by omega) (by omega), by decide, cmul_small (by omega) (by omega), by decide, hR _ ?_⟩
      generalize n4 * 69621 % 4294967291 = n5
      walk_at "dl"
      refine ⟨cdiv_small (by decide) (by decide), cmul_small (by omega) (by omega), cdiv_small (by decide) (by decide), hm, ?_⟩
      refine k _ _ (Int.emod_nonneg _ (by omega)) (Int.emod_lt_of_pos _ hm) ⟨?_, .inr ⟨_, _, rfl⟩⟩
      rw [List.length_cons, List.length_append, List.length_cons, List.length_nil]; omega
    walk_at "dl"
    refine ifB (fun e => ?_) (fun e => c4 0)
    have hp : 0 < ns.length := by
      cases ns with
      | nil => simp at e
      | cons a l => simp
    rw [List.length_map]
    refine ⟨by omega, ?_⟩
    have i0 : 0 ≤ kk % (ns.length : Int) := Int.emod_nonneg _ (by omega)
    have i1 : kk % (ns.length : Int) < ns.length := Int.emod_lt_of_pos _ (by omega)
    exact atD_at i0 (getElem_map_int (by omega)) (c4 _)
  walk_at "dl"
  refine ifB (fun e => ?_) (fun e => ?_)
  · have e0 : t = [] := by
      cases t with
      | nil => rfl
      | cons a l => simp at e
    subst e0
    refine comp_map (E1 := [.d (.list (ns.map PyData.int)), .ol [], .d (.int m), .un, .un, .un, .un, .un]) ns PyData.int (fun i => .int (if i < 0 then -i else i)) (fun R h => h) (un1 rfl) (small_line (by omega)) (fun i _ R hq => hq _ rfl) ?_
    · refine ⟨small_line (by omega), ?_, (ns.map fun i => if i < 0 then -i else i) ++ [0], ?_, ?_, fun mm _ _ => ?_⟩
      · rw [List.length_map]; exact small_line (by omega)
      · rw [List.map_append, List.map_map]; rfl
      · simp
      · refine ⟨small_line (by decide), ?_⟩
        exact main mm [] (by rw [List.length_cons, List.length_nil]; omega)
  · rcases ht.2 with e0 | ⟨h, r, e0⟩
    · subst e0; simp at e
    · subst e0
      exact main h r (by have := ht.1; omega)

theorem sh_law_draw : ∀ ss QD, spDraw ss QD → ss.length = 3 ∧ mpos 0 ss = [1] := by
  rintro ss QD ⟨ns, t, m, b, rfl, _⟩
  exact ⟨rfl, rfl⟩
/-- some[..]: any item -/
def spPick : SpD := fun ss Q => ∃ (ns : List Int) (t : List D) (sm : D) (xs : List D) (b : Nat), ss = [.d (.list (ns.map PyData.int)), .ol t, .d sm] ∧ (sm = .list xs ∨ sm = .tuple xs) ∧ xs ≠ [] ∧ ns.length ≤ 63 ∧ TownOk t b ∧ b ≤ 10000000 ∧
  ∀ x t', x ∈ xs → TownOk t' (b + 2) → Q x [.ol t']
theorem sh_law_pick : ∀ ss QD, spPick ss QD → ss.length = 3 ∧ mpos 0 ss = [1] := by
  rintro ss QD ⟨ns, t, sm, xs, b, rfl, _⟩
  exact ⟨rfl, rfl⟩
theorem rd_law_pick : ∀ ss QD, spPick ss QD → tb_law_pick spDraw { nx := fun E' => finO [1] E' (QD .none), rt := fun d E' => finO [1] E' (QD d) } (ss ++ List.replicate 0 .un) := by
  rintro ss QD ⟨ns, t, sm, xs, b, rfl, hs, hx, hn, ht, hb, k⟩
  unfold tb_law_pick
  have hp : 0 < xs.length := by
    cases xs with
    | nil => exact absurd rfl hx
    | cons a l => simp
  have mem : ∀ (r : Int) (t' : List D), 0 ≤ r → r < xs.length → TownOk t' (b + 2) → atD xs r fun x => QD x [.ol t'] := fun r t' h0 h1 h2 =>
    atD_at (d := xs[r.toNat]) h0 (List.getElem?_eq_getElem (by omega)) (k _ _ (List.getElem_mem _) h2)
  rcases hs with rfl | rfl
  · walk_at "dl"
    exact ⟨ns, t, _, b, rfl, by omega, hn, ht, hb, mem⟩
  · walk_at "dl"
    exact ⟨ns, t, _, b, rfl, by omega, hn, ht, hb, mem⟩
/-- data without lists, n tuples deep at most -/
def sameOk : Nat → D → Bool
  | _, .none => true
  | _, .bool _ => true
  | _, .int _ => true
  | _, .str x => PyData.strOk x
  | n + 1, .tuple ds => ds.all (sameOk n) && decide (ds.length ≤ 10000000)
  | _, _ => false
def spSame (n : Nat) : SpD := fun ss Q => ∃ d, ss = [.d d, .d d] ∧ sameOk n d = true ∧ Q (.bool true) []
theorem sh_law_same (n : Nat) : ∀ ss QD, spSame n ss QD → ss.length = 2 ∧ mpos 0 ss = [] := by
  rintro ss QD ⟨d, rfl, _⟩
  exact ⟨rfl, rfl⟩
def spNo : SpD := fun _ _ => False
theorem eqv_scal {d : D} (h : (match d with | .tuple _ => False | .list _ => False | .dict _ => False | _ => True)) : PyData.eqv d d = true := by
  cases d <;> first | exact h.elim | simp [PyData.eqv]
theorem zip_self {α : Type} : ∀ l : List α, l.zip l = l.map fun x => (x, x)
  | [] => rfl
  | a :: l => by rw [List.zip_cons_cons, zip_self l]; rfl
theorem rd_law_same (n : Nat) (sp : SpD) (hsp : ∀ m, n = m + 1 → sp = spSame m) : ∀ ss QD, spSame n ss QD → tb_law_same sp { nx := fun E' => finO [] E' (QD .none), rt := fun d E' => finO [] E' (QD d) } (ss ++ List.replicate 2 .un) := by
  rintro ss QD ⟨d, rfl, hd, q⟩
  unfold tb_law_same
  cases d with
  | none => exact q
  | bool b =>
    refine seq_step fun R hR => ?_
    walk_at "dl"
    refine hR _ ?_
    refine seq_step fun R hR => ?_
    walk_at "dl"
    exact q
  | int i =>
    refine seq_step fun R hR => ?_
    walk_at "dl"
    refine hR _ ?_
    refine seq_step fun R hR => ?_
    walk_at "dl"
    refine hR _ ?_
    refine seq_step fun R hR => ?_
    walk_at "dl"
    refine hR _ ?_
    refine seq_step fun R hR => ?_
    walk_at "dl"
    refine hR _ ?_
    walk_at "dl"
    exact q
  | str x =>
    refine seq_step fun R hR => ?_
    walk_at "dl"
    refine hR _ ?_
    refine seq_step fun R hR => ?_
    walk_at "dl"
    refine hR _ ?_
    refine seq_step fun R hR => ?_
    walk_at "dl"
    refine hR _ ?_
    refine seq_step fun R hR => ?_
    have hs : SeqAt.shaped (.str x) = true := by
      have : PyData.strOk x = true := by cases n <;> exact hd
      show (PyData.strOk x && decide ((0 : Nat) ≤ 64)) = true
      rw [this]; rfl
    walk_at "dl"
    refine ⟨hs, ?_⟩
    rw [eqv_scal trivial]; exact q
  | list _ => cases n <;> cases hd
  | dict _ => cases n <;> cases hd
  | tuple ds =>
    cases n with
    | zero => cases hd
    | succ m =>
      have hsp := hsp m rfl
      subst hsp
      have hd : (ds.all (sameOk m) && decide (ds.length ≤ 10000000)) = true := hd
      rw [Bool.and_eq_true] at hd
      have hl : ds.length ≤ 10000000 := of_decide_eq_true hd.2
      have ha := List.all_eq_true.mp hd.1
      refine seq_step fun R hR => ?_
      walk_at "dl"
      refine hR _ ?_
      refine seq_step fun R hR => ?_
      walk_at "dl"
      refine hR _ ?_
      refine seq_step fun R hR => ?_
      refine ⟨trivial, trivial, ifT (b := isTuple (.tuple ds)) rfl ?_⟩
      refine seq_step fun R2 hR2 => ?_
      walk_at "dl"
      refine hR2 _ ?_
      show tComp _ _ _ _ _ _ _
      refine comp_map (E1 := [.d (.tuple ds), .d (.tuple ds), .un, .un]) ds (fun x => PyData.tuple [x, x]) (fun _ => PyData.bool true) (fun R h => ?_) (un2 rfl rfl) (small_line (by omega)) (fun x hx R hq => ?_) ?_
      · show R (zipD ds ds) _
        unfold zipD
        rw [zip_self, List.map_map]
        exact h
      · exact ⟨rfl, rfl, x, rfl, ha x hx, hq _ rfl⟩
      · refine ⟨ds.map fun _ => true, by rw [List.map_map]; rfl, ?_⟩
        have : (ds.map fun _ => true).all id = true := by simp
        rw [this]; exact q
end DL

set_option Elab.async false
set_option linter.all false
set_option maxRecDepth 100000
set_option maxHeartbeats 1000000
/-! FnCallsT: rows of calls, plain Lean. -/
namespace DL
open PySem PySem.Spec PyProof.Rows L2
theorem snoc_ind {α : Type} {P : List α → Prop} (h0 : P []) (hs : ∀ l a, P l → P (l ++ [a])) : ∀ l, P l := by
  have : ∀ l : List α, P l.reverse := by
    intro l
    induction l with
    | nil => exact h0
    | cons a l ih => rw [List.reverse_cons]; exact hs _ _ ih
  intro l
  have := this l.reverse
  rwa [List.reverse_reverse] at this
inductive Call where
  | pass
  | dbl
  | rdb
  | bid (l s : Int)
deriving DecidableEq
namespace Call
def enc : Call → D
  | .pass => .str "pass"
  | .dbl => .str "double"
  | .rdb => .str "redouble"
  | .bid l s => .tuple [.int l, .int s]
def isBid : Call → Bool
  | .bid _ _ => true
  | _ => false
def said : Call → Bool
  | .pass => false
  | _ => true
end Call
open Call
theorem enc_isTuple (c : Call) : isTuple c.enc = c.isBid := by cases c <;> rfl
theorem ok_pass : PyData.strOk "pass" = true := by decide +kernel
theorem ok_dbl : PyData.strOk "double" = true := by decide +kernel
theorem ok_rdb : PyData.strOk "redouble" = true := by decide +kernel
theorem enc_eqv (c d : Call) : PyData.eqv c.enc d.enc = decide (c = d) := by
  cases c <;> cases d <;> first | rfl | (simp [enc, PyData.eqv, PyData.eqvAll]; done) | (simp [enc, PyData.eqv]; decide) | skip
  rename_i l s l' s'
  show PyData.eqv (.tuple [.int l, .int s]) (.tuple [.int l', .int s']) = _
  rw [eqv_tup, PyData.eqvAll, PyData.eqvAll, PyData.eqvAll, eqv_int, eqv_int, Bool.and_true]
  by_cases h1 : l = l' <;> by_cases h2 : s = s' <;> simp [h1, h2]
theorem sh_enc (n : Nat) (c : Call) : shOk (n + 1) c.enc = true := by
  cases c with
  | pass => exact ok_pass
  | dbl => exact ok_dbl
  | rdb => exact ok_rdb
  | bid l s => cases n <;> rfl
theorem same_enc (n : Nat) (c : Call) : sameOk (n + 1) c.enc = true := by
  cases c with
  | pass => exact ok_pass
  | dbl => exact ok_dbl
  | rdb => exact ok_rdb
  | bid l s => cases n <;> rfl
/-! ### places -/
def ixOf (p : Call → Bool) (cs : List Call) : List Nat := (cs.zipIdx.filter fun q => p q.1).map (·.2)
theorem ixOf_snoc (p : Call → Bool) (cs : List Call) (c : Call) : ixOf p (cs ++ [c]) = ixOf p cs ++ if p c = true then [cs.length] else [] := by
  unfold ixOf
  rw [List.zipIdx_append, List.filter_append, List.map_append]
  simp
  split <;> simp_all
theorem ixOf_nil (p : Call → Bool) : ixOf p [] = [] := rfl
def lastIx (p : Call → Bool) (cs : List Call) : Option Nat := (ixOf p cs).getLast?
def lastC (p : Call → Bool) (cs : List Call) : Option Call := (cs.filter p).getLast?
theorem lastIx_snoc (p : Call → Bool) (cs : List Call) (c : Call) : lastIx p (cs ++ [c]) = if p c = true then some cs.length else lastIx p cs := by
  unfold lastIx
  rw [ixOf_snoc]
  split <;> simp
theorem lastC_snoc (p : Call → Bool) (cs : List Call) (c : Call) : lastC p (cs ++ [c]) = if p c = true then some c else lastC p cs := by
  unfold lastC
  rw [List.filter_append]
  cases h : p c <;> simp [h]
theorem last_spec (p : Call → Bool) (cs : List Call) : (lastIx p cs = none ∧ lastC p cs = none ∧ ixOf p cs = []) ∨ ∃ j c, lastIx p cs = some j ∧ lastC p cs = some c ∧ cs[j]? = some c ∧ p c = true := by
  induction cs using snoc_ind with
  | h0 => exact .inl ⟨rfl, rfl, rfl⟩
  | hs cs c ih =>
    rw [lastIx_snoc, lastC_snoc, ixOf_snoc]
    by_cases h : p c = true
    · rw [if_pos h, if_pos h]
      exact .inr ⟨_, _, rfl, rfl, by simp, h⟩
    · rw [if_neg h, if_neg h, if_neg h, List.append_nil]
      rcases ih with ih | ⟨j, d, e1, e2, e3, e4⟩
      · exact .inl ih
      · refine .inr ⟨j, d, e1, e2, ?_, e4⟩
        have := (List.getElem?_eq_some_iff.mp e3).1
        rw [List.getElem?_append_left this]; exact e3
theorem ixOf_mem {p : Call → Bool} {cs : List Call} {j : Nat} : j ∈ ixOf p cs ↔ ∃ c, cs[j]? = some c ∧ p c = true := by
  unfold ixOf
  constructor
  · intro h
    obtain ⟨⟨c, k⟩, h1, h2⟩ := List.mem_map.mp h
    have h3 := List.mem_filter.mp h1
    have h4 := List.mem_zipIdx_iff_getElem?.mp h3.1
    simp only at h2 h4
    subst h2
    exact ⟨c, h4, h3.2⟩
  · rintro ⟨c, h1, h2⟩
    exact List.mem_map.mpr ⟨(c, j), List.mem_filter.mpr ⟨List.mem_zipIdx_iff_getElem?.mpr h1, h2⟩, rfl⟩
/-- passes at the end -/
def quiet (cs : List Call) : Int := (cs.length : Int) - 1 - (match lastIx said cs with | some j => (j : Int) | none => -1)
theorem quiet_nil : quiet [] = 0 := rfl
theorem quiet_snoc (cs : List Call) (c : Call) : quiet (cs ++ [c]) = if c = .pass then quiet cs + 1 else 0 := by
  unfold quiet
  rw [lastIx_snoc, List.length_append, List.length_cons, List.length_nil]
  cases c with
  | pass => simp only [said, if_true, Bool.false_eq_true, if_false]; omega
  | _ => simp [said]
theorem quiet_nn (cs : List Call) : 0 ≤ quiet cs := by
  induction cs using snoc_ind with
  | h0 => rw [quiet_nil]; omega
  | hs cs c ih => rw [quiet_snoc]; split <;> omega
theorem quiet_le (cs : List Call) : quiet cs ≤ cs.length := by
  induction cs using snoc_ind with
  | h0 => rw [quiet_nil]; simp
  | hs cs c ih => rw [quiet_snoc, List.length_append]; simp; split <;> omega
theorem said_nil {cs : List Call} : ixOf said cs = [] ↔ quiet cs = cs.length := by
  unfold quiet
  rcases last_spec said cs with ⟨e1, e2, e3⟩ | ⟨j, c, e1, e2, e3, e4⟩
  · rw [e1, e3]; simp
  · rw [e1]
    constructor
    · intro h
      have : j ∈ ixOf said cs := ixOf_mem.mpr ⟨c, e3, e4⟩
      rw [h] at this; cases this
    · intro h
      have h : (cs.length : Int) - 1 - (j : Int) = cs.length := h
      omega
def isOver (cs : List Call) : Bool := decide (4 ≤ cs.length) && decide (cs.drop (cs.length - 3) = [.pass, .pass, .pass])
theorem tail3 (cs : List Call) : 3 ≤ cs.length → (cs.drop (cs.length - 3) = [Call.pass, .pass, .pass] ↔ 3 ≤ quiet cs) := by
  intro h
  obtain ⟨a, x, y, z, rfl⟩ : ∃ a x y z, cs = a ++ [x] ++ [y] ++ [z] := by
    refine ⟨cs.take (cs.length - 3), cs[cs.length - 3], cs[cs.length - 2], cs[cs.length - 1], ?_⟩
    have e : cs.drop (cs.length - 3) = [cs[cs.length - 3], cs[cs.length - 2], cs[cs.length - 1]] := by
      rw [List.drop_eq_getElem_cons (by omega), List.drop_eq_getElem_cons (by omega), List.drop_eq_getElem_cons (by omega), List.drop_eq_nil_of_le (by omega)]
      congr 1
      · congr 1
        · congr 1; omega
        · congr 1
          congr 1; omega
    rw [List.append_assoc, List.append_assoc]
    show cs = _ ++ [cs[cs.length - 3], cs[cs.length - 2], cs[cs.length - 1]]
    rw [← e, List.take_append_drop]
  rw [quiet_snoc, quiet_snoc, quiet_snoc]
  have e : (a ++ [x] ++ [y] ++ [z]).drop ((a ++ [x] ++ [y] ++ [z]).length - 3) = [x, y, z] := by
    rw [show (a ++ [x] ++ [y] ++ [z]).length - 3 = a.length by simp, List.append_assoc, List.append_assoc, List.drop_left]; rfl
  rw [e]
  have := quiet_nn a
  by_cases h1 : z = .pass <;> by_cases h2 : y = .pass <;> by_cases h3 : x = .pass <;> simp [h1, h2, h3] <;> omega
theorem over_iff (cs : List Call) : isOver cs = true ↔ 4 ≤ cs.length ∧ 3 ≤ quiet cs := by
  unfold isOver
  rw [Bool.and_eq_true, decide_eq_true_eq, decide_eq_true_eq]
  constructor
  · rintro ⟨a, b⟩; exact ⟨a, (tail3 cs (by omega)).mp b⟩
  · rintro ⟨a, b⟩; exact ⟨a, (tail3 cs (by omega)).mpr b⟩
/-! ### bids -/
def allB (L : Nat) : List (Int × Int) := (List.range L).flatMap fun l : Nat => (List.range 5).map fun s : Nat => ((l : Int) + 1, (s : Int))
def gtB (x y : Int × Int) : Bool := decide (y.1 < x.1 ∨ (y.1 = x.1 ∧ y.2 < x.2))
def bidOf : Call → Int × Int
  | .bid l s => (l, s)
  | _ => (0, 4)
def lastB (cs : List Call) : Int × Int := match lastC isBid cs with
  | some c => bidOf c
  | none => (0, 4)
def encB (b : Int × Int) : Call := .bid b.1 b.2
/-- what may be said, by the law -/
def mayL (L : Nat) (cs : List Call) : List Call :=
  if quiet cs = 4 ∨ (ixOf said cs ≠ [] ∧ quiet cs = 3) then []
  else [.pass] ++ (if ixOf said cs ≠ [] ∧ quiet cs ≠ 1 ∧ lastC said cs ≠ some .rdb then [if lastC said cs = some .dbl then Call.rdb else .dbl] else [])
    ++ ((allB L).filter fun b => gtB b (lastB cs)).map encB
def dblP (n : Nat) : Option Nat → Option Call → List Call
  | some j, some c => if ((n : Int) - j) % 2 = 1 then (if c.isBid = true then [.dbl] else if c = .dbl then [.rdb] else []) else []
  | _, _ => []
theorem dblP_len (n : Nat) (o : Option Nat) (c : Option Call) : (dblP n o c).length ≤ 1 := by
  unfold dblP
  split
  · split
    · split
      · simp
      · split <;> simp
    · simp
  · simp
/-- what may be said, by the program -/
def mayP (L : Nat) (cs : List Call) : List Call :=
  if isOver cs = true then []
  else [.pass] ++ dblP cs.length (lastIx said cs) (lastC said cs)
    ++ ((allB L).filter fun b => gtB b (lastB cs)).map encB
/-! ### rows that came about by what may be said -/
inductive Reach (L : Nat) : List Call → Prop
  | nil : Reach L []
  | snoc {cs : List Call} {c : Call} : Reach L cs → c ∈ mayL L cs → Reach L (cs ++ [c])
/-- where a row stands: no bid, a bid, doubled, redoubled; 4: none of these -/
def stepS (s : Nat) (c : Call) : Nat := match c with
  | .pass => s
  | .bid _ _ => if s = 4 then 4 else 1
  | .dbl => if s = 1 then 2 else 4
  | .rdb => if s = 2 then 3 else 4
def stand (cs : List Call) : Nat := cs.foldl stepS 0
theorem stand_snoc (cs : List Call) (c : Call) : stand (cs ++ [c]) = stepS (stand cs) c := by unfold stand; rw [List.foldl_append]; rfl
theorem stand_last (cs : List Call) : stand cs ≠ 4 → (stand cs = 0 ∧ lastC said cs = none ∧ lastC isBid cs = none) ∨ (stand cs = 1 ∧ ∃ l s, lastC said cs = some (.bid l s) ∧ lastC isBid cs = some (.bid l s)) ∨ (stand cs = 2 ∧ lastC said cs = some .dbl ∧ lastC isBid cs ≠ none) ∨ (stand cs = 3 ∧ lastC said cs = some .rdb ∧ lastC isBid cs ≠ none) := by
  induction cs using snoc_ind with
  | h0 => intro _; exact .inl ⟨rfl, rfl, rfl⟩
  | hs cs c ih =>
    rw [stand_snoc, lastC_snoc, lastC_snoc]
    cases c with
    | pass => intro h; simpa [stepS, said, isBid] using ih h
    | bid l s =>
      intro h
      have h4 : stand cs ≠ 4 := fun e => h (by simp [stepS, e])
      refine .inr (.inl ⟨by simp [stepS, h4], l, s, by simp [said], by simp [isBid]⟩)
    | dbl =>
      intro h
      have h1 : stand cs = 1 := by
        by_cases e : stand cs = 1
        · exact e
        · exact absurd (by simp [stepS, e]) h
      rcases ih (by omega) with ⟨a, _⟩ | ⟨a, l, s, b, c⟩ | ⟨a, _⟩ | ⟨a, _⟩
      · omega
      · exact .inr (.inr (.inl ⟨by simp [stepS, h1], by simp [said], by simp [isBid, c]⟩))
      · omega
      · omega
    | rdb =>
      intro h
      have h1 : stand cs = 2 := by
        by_cases e : stand cs = 2
        · exact e
        · exact absurd (by simp [stepS, e]) h
      rcases ih (by omega) with ⟨a, _⟩ | ⟨a, l, s, b, c⟩ | ⟨a, b, c⟩ | ⟨a, _⟩
      · omega
      · omega
      · exact .inr (.inr (.inr ⟨by simp [stepS, h1], by simp [said], by simpa [isBid] using c⟩))
      · omega
theorem mem_mayL {L : Nat} {cs : List Call} {c : Call} (h : c ∈ mayL L cs) : ¬ (quiet cs = 4 ∨ (ixOf said cs ≠ [] ∧ quiet cs = 3)) ∧ (c = .pass ∨ (c = .dbl ∧ lastC said cs ≠ some .rdb ∧ lastC said cs ≠ some .dbl ∧ ixOf said cs ≠ []) ∨ (c = .rdb ∧ lastC said cs = some .dbl) ∨ ∃ l s, c = .bid l s) := by
  unfold mayL at h
  split at h
  · cases h
  · rename_i h0
    refine ⟨h0, ?_⟩
    rcases List.mem_append.mp h with h | h
    · rcases List.mem_append.mp h with h | h
      · exact .inl (by simpa using h)
      · split at h
        · rename_i h1
          by_cases e : lastC said cs = some .dbl
          · rw [if_pos e] at h
            exact .inr (.inr (.inl ⟨by simpa using h, e⟩))
          · rw [if_neg e] at h
            exact .inr (.inl ⟨by simpa using h, h1.2.2, e, h1.1⟩)
        · cases h
    · obtain ⟨b, _, rfl⟩ := List.mem_map.mp h
      exact .inr (.inr (.inr ⟨_, _, rfl⟩))
theorem said_last {cs : List Call} : ixOf said cs = [] ↔ lastC said cs = none := by
  rcases last_spec said cs with ⟨e1, e2, e3⟩ | ⟨j, c, e1, e2, e3, e4⟩
  · simp [e2, e3]
  · constructor
    · intro h
      have : j ∈ ixOf said cs := ixOf_mem.mpr ⟨c, e3, e4⟩
      rw [h] at this; cases this
    · intro h; rw [h] at e2; cases e2
structure Good (cs : List Call) : Prop where
  st : stand cs ≠ 4
  q : (ixOf said cs = [] → cs.length ≤ 4) ∧ (ixOf said cs ≠ [] → quiet cs ≤ 3)
theorem Reach.good {L : Nat} {cs : List Call} (h : Reach L cs) : Good cs := by
  induction h with
  | nil => exact ⟨by decide, fun _ => by decide, fun e => absurd rfl e⟩
  | snoc h hc ih =>
    rename_i cs c
    obtain ⟨h0, hc⟩ := mem_mayL hc
    have sl := stand_last cs ih.st
    constructor
    · rw [stand_snoc]
      rcases hc with rfl | ⟨rfl, h1, h2, h3⟩ | ⟨rfl, h1⟩ | ⟨l, s, rfl⟩
      · exact ih.st
      · rcases sl with ⟨a, b, _⟩ | ⟨a, _⟩ | ⟨a, b, _⟩ | ⟨a, b, _⟩
        · exact absurd (said_last.mpr b) h3
        · simp [stepS, a]
        · exact absurd b h2
        · exact absurd b h1
      · rcases sl with ⟨a, b, _⟩ | ⟨a, l, s, b, _⟩ | ⟨a, b, _⟩ | ⟨a, b, _⟩
        · rw [b] at h1; cases h1
        · rw [b] at h1; cases h1
        · simp [stepS, a]
        · rw [b] at h1; cases h1
      · have := ih.st; simp [stepS, this]
    · rw [ixOf_snoc, quiet_snoc, List.length_append, List.length_cons, List.length_nil]
      have qn := quiet_nn cs
      rcases hc with rfl | ⟨rfl, h1⟩ | ⟨rfl, h1⟩ | ⟨l, s, rfl⟩
      · simp only [said, Bool.false_eq_true, if_false, List.append_nil, if_true]
        refine ⟨fun e => ?_, fun e => ?_⟩
        · have h1 := said_nil.mp e
          have h2 := ih.q.1 e
          have h3 : quiet cs ≠ 4 := fun z => h0 (.inl z)
          omega
        · have h1 := ih.q.2 e
          have h3 : quiet cs ≠ 3 := fun z => h0 (.inr ⟨e, z⟩)
          omega
      · simp [said]
      · simp [said]
      · simp [said]
theorem Good.over {cs : List Call} (h : Good cs) : isOver cs = true ↔ (quiet cs = 4 ∨ (ixOf said cs ≠ [] ∧ quiet cs = 3)) := by
  rw [over_iff]
  have qn := quiet_le cs
  by_cases e : ixOf said cs = []
  · have h1 := said_nil.mp e
    have h2 := h.q.1 e
    constructor
    · intro z; exact .inl (by omega)
    · rintro (z | z)
      · exact ⟨by omega, by omega⟩
      · exact absurd e z.1
  · have h1 := h.q.2 e
    have h2 : quiet cs ≠ cs.length := fun z => e (said_nil.mpr z)
    constructor
    · intro z; exact .inr ⟨e, by omega⟩
    · rintro (z | ⟨_, z⟩)
      · exact ⟨by omega, by omega⟩
      · exact ⟨by omega, by omega⟩
theorem may_eq {L : Nat} {cs : List Call} (h : Good cs) : mayP L cs = mayL L cs := by
  unfold mayP mayL
  by_cases ho : isOver cs = true
  · rw [if_pos ho, if_pos (h.over.mp ho)]
  · have ho2 : ¬ (quiet cs = 4 ∨ (ixOf said cs ≠ [] ∧ quiet cs = 3)) := fun z => ho (h.over.mpr z)
    rw [if_neg ho, if_neg ho2]
    congr 2
    have qn := quiet_nn cs
    rcases last_spec said cs with ⟨e1, e2, e3⟩ | ⟨j, c, e1, e2, e3, e4⟩
    · rw [e1, e2, e3]; simp [dblP]
    · have hne : ixOf said cs ≠ [] := fun z => by have := said_last.mp z; rw [e2] at this; cases this
      have hq : quiet cs = (cs.length : Int) - 1 - j := by unfold quiet; rw [e1]
      have h3 := h.q.2 hne
      have h4 : quiet cs ≠ 3 := fun z => ho2 (.inr ⟨hne, z⟩)
      rw [e1, e2]
      unfold dblP
      have par : ((cs.length : Int) - j) % 2 = 1 ↔ quiet cs ≠ 1 := by omega
      by_cases hp : quiet cs ≠ 1
      · simp only [par.mpr hp, if_true, hne, ne_eq, not_false_eq_true, hp, true_and]
        cases c with
        | pass => cases e4
        | bid l s => simp [isBid]
        | dbl => simp [isBid]
        | rdb => simp [isBid]
      · have hp2 : ¬ ((cs.length : Int) - j) % 2 = 1 := fun z => hp (par.mp z)
        simp only [hp2, if_false]
        rw [if_neg (fun z => hp z.2.1)]
/-! ### contracts -/
theorem ixOf_range (p : Call → Bool) (cs : List Call) : ixOf p cs = (List.range cs.length).filter fun k => p (cs.getD k .pass) := by
  induction cs using snoc_ind with
  | h0 => rfl
  | hs cs c ih =>
    rw [ixOf_snoc, ih, List.length_append, List.length_cons, List.length_nil, show List.range (cs.length + (0 + 1)) = List.range cs.length ++ [cs.length] from List.range_succ, List.filter_append]
    congr 1
    · refine List.filter_congr fun k hk => ?_
      have := List.mem_range.mp hk
      rw [List.getD_eq_getElem?_getD, List.getD_eq_getElem?_getD, List.getElem?_append_left this]
    · have e : (cs ++ [c]).getD cs.length .pass = c := by rw [List.getD_eq_getElem?_getD]; simp
      by_cases h : p c = true <;> simp [h, e]
def strAt (cs : List Call) (k : Nat) : Int := (bidOf (cs.getD k .pass)).2
def qual (cs : List Call) (s : Int) (b k : Nat) : Bool := (cs.getD k .pass).isBid && (decide (strAt cs k = s) && decide (k % 2 = b % 2))
def firstIx (cs : List Call) (s : Int) (b : Nat) : Nat := ((List.range cs.length).find? (qual cs s b)).getD 0
theorem first_of {cs : List Call} {s : Int} {b i : Nat} (hi : i < cs.length) (hq : qual cs s b i = true) (hno : ∀ k, k < i → qual cs s b k = false) : firstIx cs s b = i := by
  unfold firstIx
  rw [List.find?_range_eq_some.mpr ⟨hq, List.mem_range.mpr hi, fun j hj => by rw [hno j hj]; rfl⟩]; rfl
theorem qual_last {cs : List Call} {b : Nat} {l s : Int} (h : cs[b]? = some (.bid l s)) : qual cs s b b = true := by
  unfold qual strAt
  rw [List.getD_eq_getElem?_getD, h]; simp [isBid, bidOf]
theorem firsts_head {cs : List Call} {b : Nat} {l s : Int} (h : cs[b]? = some (.bid l s)) : ((ixOf isBid cs).filter fun k => decide (strAt cs k = s) && decide (k % 2 = b % 2)).head? = some (firstIx cs s b) := by
  rw [ixOf_range, List.filter_filter, List.head?_filter]
  unfold firstIx
  have hb := (List.getElem?_eq_some_iff.mp h).1
  have e : (fun k => (decide (strAt cs k = s) && decide (k % 2 = b % 2)) && (cs.getD k .pass).isBid) = qual cs s b := by
    funext k; unfold qual; rw [Bool.and_comm]
  rw [e]
  cases hf : (List.range cs.length).find? (qual cs s b) with
  | some x => rfl
  | none =>
    have := List.find?_eq_none.mp hf b (List.mem_range.mpr hb)
    exact absurd (qual_last h) this
def timesP (cs : List Call) (b : Nat) : Int := if Call.rdb ∈ cs.drop b then 4 else if Call.dbl ∈ cs.drop b then 2 else 1
theorem drop_snoc {cs : List Call} {c : Call} {b : Nat} (h : b ≤ cs.length) : (cs ++ [c]).drop b = cs.drop b ++ [c] := List.drop_append_of_le_length h
theorem after_bid (cs : List Call) : stand cs ≠ 4 → ∀ b, lastIx isBid cs = some b → (cs.drop b).count .dbl = (if stand cs = 2 ∨ stand cs = 3 then 1 else 0) ∧ (cs.drop b).count .rdb = if stand cs = 3 then 1 else 0 := by
  induction cs using snoc_ind with
  | h0 => intro _ b h; cases h
  | hs cs c ih =>
    rw [stand_snoc]
    intro h b hb
    rw [lastIx_snoc] at hb
    cases c with
    | pass =>
      rw [if_neg (by decide)] at hb
      have hl : b ≤ cs.length := by
        rcases last_spec isBid cs with ⟨e1, _⟩ | ⟨j, c, e1, _, e3, _⟩
        · rw [e1] at hb; cases hb
        · rw [e1] at hb; cases hb; exact Nat.le_of_lt (List.getElem?_eq_some_iff.mp e3).1
      have := ih h b hb
      rw [drop_snoc hl, List.count_append, List.count_append, this.1, this.2]
      exact ⟨rfl, rfl⟩
    | bid l s =>
      rw [if_pos (show (Call.bid l s).isBid = true from rfl)] at hb
      cases hb
      have h4 : stand cs ≠ 4 := fun e => h (by simp [stepS, e])
      rw [drop_snoc (Nat.le_refl _), List.drop_length]
      simp [stepS, h4]
    | dbl =>
      rw [if_neg (by decide)] at hb
      have h1 : stand cs = 1 := by
        by_cases e : stand cs = 1
        · exact e
        · exact absurd (by simp [stepS, e]) h
      have hl : b ≤ cs.length := by
        rcases last_spec isBid cs with ⟨e1, _⟩ | ⟨j, c, e1, _, e3, _⟩
        · rw [e1] at hb; cases hb
        · rw [e1] at hb; cases hb; exact Nat.le_of_lt (List.getElem?_eq_some_iff.mp e3).1
      have := ih (by omega) b hb
      rw [drop_snoc hl, List.count_append, List.count_append, this.1, this.2]
      simp [stepS, h1]
    | rdb =>
      rw [if_neg (by decide)] at hb
      have h1 : stand cs = 2 := by
        by_cases e : stand cs = 2
        · exact e
        · exact absurd (by simp [stepS, e]) h
      have hl : b ≤ cs.length := by
        rcases last_spec isBid cs with ⟨e1, _⟩ | ⟨j, c, e1, _, e3, _⟩
        · rw [e1] at hb; cases hb
        · rw [e1] at hb; cases hb; exact Nat.le_of_lt (List.getElem?_eq_some_iff.mp e3).1
      have := ih (by omega) b hb
      rw [drop_snoc hl, List.count_append, List.count_append, this.1, this.2]
      simp [stepS, h1]
theorem times_eq {cs : List Call} (h : stand cs ≠ 4) {b : Nat} (hb : lastIx isBid cs = some b) : 1 + ((cs.drop b).count .dbl : Int) + 2 * ((cs.drop b).count .rdb : Int) = timesP cs b := by
  obtain ⟨h1, h2⟩ := after_bid cs h b hb
  unfold timesP
  have m1 : Call.rdb ∈ cs.drop b ↔ stand cs = 3 := by
    rw [← List.count_pos_iff, h2]; split <;> simp_all
  have m2 : Call.dbl ∈ cs.drop b ↔ (stand cs = 2 ∨ stand cs = 3) := by
    rw [← List.count_pos_iff, h1]; split <;> simp_all
  rw [h1, h2]
  by_cases h3 : stand cs = 3
  · rw [if_pos (m1.mpr h3), if_pos (.inr h3), if_pos h3]; decide
  · rw [if_neg (fun z => h3 (m1.mp z)), if_neg h3]
    by_cases h4 : stand cs = 2
    · rw [if_pos (.inl h4), if_pos (m2.mpr (.inl h4))]; decide
    · rw [if_neg (by omega), if_neg (fun z => by rcases m2.mp z with z | z <;> omega)]; decide
/-- the contract as data -/
def contrD (dealer : Int) (cs : List Call) : D := match lastIx isBid cs, lastC isBid cs with
  | some b, some c => .tuple [.int (bidOf c).1, .int (bidOf c).2, .int (timesP cs b), .int ((dealer + firstIx cs (bidOf c).2 b) % 4)]
  | _, _ => .none
end DL

set_option Elab.async false
set_option linter.all false
set_option maxRecDepth 100000
set_option maxHeartbeats 4000000
namespace DL
open PySem PySem.Spec PyProof.Rows L2
local macro_rules | `(tactic| walk_at "dl") => `(tactic| simp only [tV, tVr, tFzV, turnD, DL.wipeE, tK, tOpD, tUnD, tBo, tAndD, tOrD, tNotD, tIfE, DL.tAndV, DL.tOrV, DL.tNotV, tTru, truD, okLen, sSet, sSetL, sExpr, sRet, sIf, sNx, tTupD, dNil, dCons, tLstD, tFzD, tApp, tExtd, tPopAt, sSetIx, tIxO, tChainD, tChain3D, tRevT, caStr, opRepT, opAdd, opSub, opMul, opDiv, opMod, opPow, DL.opI, DL.opI0, opB0, opLt, opLe, opGt, opGtD, opLtD, opGe, opEq, opNe, opIs, opIsN, isNone, opIn, opNotIn, opIx, atD_0, atD_1, atD_2, atD_3, putD_0, unNeg, tCa1, tCa2, tCaL1, caLen, caAbs, caMax2, caMin2, caSum, caMax, caMin, caSumT, caMaxT, caMinT, caAll, caTuple, caList, caInt, tIsi, isInt, isBool, isStr, isTuple, isList, notDict, sAsg, gSet, gTupD, gsNil, gsCons, sPar, pNil, pD, pL, setAll, tCallD, aNil, aV, aO, argS, oixs, ndp, putO, tOpL, opCat, opRep, tSlD, slD, tSlL, oNo, oE, tRevD, iLstD, iTupD, iRange1, iRange2, iZipD, iZipM, finO, tTrue, Option.map, eqv_int, eqv_bool, eqv_none, shaped_int, shaped_bool, shaped_none, tLenRange, tSortSet, tLenSet, tLenSetP, tSortSetP, tCountL, tCountT, tIndexL, tIndexT, DL.tOrT, DL.tAndT, DL.tNotT, tSortRev, caSorted, iEnumL, iEnumT, decide_eq_true_eq, and_self, List.cons_append, List.nil_append, List.replicate, List.getElem?_cons_zero, List.getElem?_cons_succ, List.set_cons_zero, List.set_cons_succ, List.length_cons, List.length_nil, true_and, and_true, if_true, if_false, Bool.false_eq_true, List.contains_nil, Bool.not_false, Bool.not_true, Bool.and_self, Bool.and_true, Bool.true_and, decide_true, decide_false, beq_self_eq_true])
def tb_is_over : TSd :=
  sRet (tAndV (tOpD opGe (tCa1 caLen (tV 0)) (tK (.int 4))) (tOpD opEq (tSlD (tV 0) (oE (tUnD unNeg (tK (.int 3)))) (oNo)) (tTupD (dCons (tK (.str "pass")) (dCons (tK (.str "pass")) (dCons (tK (.str "pass")) (dNil)))))))
def tb_last_but_pass : TSd :=
  sSeq (sSet 1 (tK .none))
      (sSeq (sFor (iEnumT (tV 0)) (gTupD 2 (gsCons (gSet 2) (gsCons (gSet 3) (gsNil)))) (sIf (tBo (tOpD opNe (tV 3) (tK (.str "pass")))) (sSet 1 (tV 2)) (sNx)))
      (sRet (tV 1)))
def tb_last_bid : TSd :=
  sSeq (sSet 1 (tK .none))
      (sSeq (sFor (iEnumT (tV 0)) (gTupD 2 (gsCons (gSet 2) (gsCons (gSet 3) (gsNil)))) (sIf (tTru (tIsi isTuple (tV 3))) (sSet 1 (tV 2)) (sNx)))
      (sRet (tV 1)))
def tb_all_bids : TSd :=
  sSeq (sSetL 1 (tLstD (dNil)))
      (sSeq (sFor (iRange2 (tK (.int 1)) (tOpD opAdd (tV 0) (tK (.int 1)))) (gSet 2) (sExpr (tExtd 1 (tComp (iRange1 (tK (.int 5))) (gSet 3) (tTrue) (tTupD (dCons (tV 2) (dCons (tV 3) (dNil)))) [3]))))
      (sRet (tFzV 1)))
def tb_may_call (sp_all_bids : SpD) (sp_last_but_pass : SpD) (sp_last_bid : SpD) (sp_is_over : SpD) : TSd :=
  sSeq (sIf (tTru (tCallD sp_is_over (aV (tV 1) (aNil)))) (sRet (tTupD (dNil))) (sNx))
      (sSeq (sSetL 2 (tLstD (dCons (tK (.str "pass")) (dNil))))
      (sSeq (sPar [3, 4] (pD (tCallD sp_last_but_pass (aV (tV 1) (aNil))) (pD (tCallD sp_last_bid (aV (tV 1) (aNil))) (pNil))))
      (sSeq (sIf (tAndD (tBo (tOpD opIsN (tV 3) (tK .none))) (tBo (tOpD opEq (tOpD opMod (tOpD opSub (tCa1 caLen (tV 1)) (tV 3)) (tK (.int 2))) (tK (.int 1))))) (sIf (tTru (tIsi isTuple (tOpD opIx (tV 1) (tV 3)))) (sExpr (tApp 2 (tK (.str "double")))) (sIf (tBo (tOpD opEq (tOpD opIx (tV 1) (tV 3)) (tK (.str "double")))) (sExpr (tApp 2 (tK (.str "redouble")))) (sNx))) (sNx))
      (sRet (tCa1 caTuple (tFzD (tOpL opCat (tFzV 2) (tFzD (tComp (iLstD (tCallD sp_all_bids (aV (tV 0) (aNil)))) (gSet 5) (tOrD (tBo (tOpD opIs (tV 4) (tK .none))) (tBo (tOpD opGtD (tV 5) (tOpD opIx (tV 1) (tV 4))))) (tV 5) [5])))))))))
def tb_contract_of (sp_is_over : SpD) (sp_last_bid : SpD) : TSd :=
  sSeq (sSet 2 (tCallD sp_last_bid (aV (tV 1) (aNil))))
      (sSeq (sIf (tOrD (tBo (tOpD opIs (tV 2) (tK .none))) (tNotD (tTru (tCallD sp_is_over (aV (tV 1) (aNil)))))) (sRet (tK .none)) (sNx))
      (sSeq (sAsg (tOpD opIx (tV 1) (tV 2)) (gTupD 2 (gsCons (gSet 3) (gsCons (gSet 4) (gsNil)))))
      (sSeq (sSet 5 (tK (.int 1)))
      (sSeq (sIf (tBo (tOpD opIn (tK (.str "double")) (tSlD (tV 1) (oE (tV 2)) (oNo)))) (sSet 5 (tK (.int 2))) (sNx))
      (sSeq (sIf (tBo (tOpD opIn (tK (.str "redouble")) (tSlD (tV 1) (oE (tV 2)) (oNo)))) (sSet 5 (tK (.int 4))) (sNx))
      (sSeq (sFor (iEnumT (tV 1)) (gTupD 2 (gsCons (gSet 6) (gsCons (gSet 7) (gsNil)))) (sIf (tAndD (tTru (tIsi isTuple (tV 7))) (tAndD (tBo (tOpD opEq (tOpD opIx (tV 7) (tK (.int 1))) (tV 4))) (tBo (tOpD opEq (tOpD opMod (tOpD opSub (tV 2) (tV 6)) (tK (.int 2))) (tK (.int 0)))))) (sRet (tTupD (dCons (tV 3) (dCons (tV 4) (dCons (tV 5) (dCons (tOpD opMod (tOpD opAdd (tV 0) (tV 6)) (tK (.int 4))) (dNil))))))) (sNx)))
      (sRet (tK .none))))))))
def tb_law_all_bids : TSd :=
  sSeq (sSet 1 (tFzD (tLstD (dNil))))
      (sSeq (sFor (iRange2 (tK (.int 1)) (tOpD opAdd (tV 0) (tK (.int 1)))) (gSet 2) (sSet 1 (tFzD (tOpL opCat (tV 1) (tFzD (tComp (iRange1 (tK (.int 5))) (gSet 3) (tTrue) (tTupD (dCons (tV 2) (dCons (tV 3) (dNil)))) [3]))))))
      (sRet (tV 1)))
def tb_law_may_call (sp_law_all_bids : SpD) : TSd :=
  sSeq (sSet 2 (tFzD (tComp (iEnumT (tV 1)) (gTupD 2 (gsCons (gSet 6) (gsCons (gSet 7) (gsNil)))) (tBo (tOpD opNe (tV 7) (tK (.str "pass")))) (tV 6) [6, 7])))
      (sSeq (sSet 3 (tFzD (tComp (iTupD (tV 1)) (gSet 7) (tTru (tIsi isTuple (tV 7))) (tV 7) [7])))
      (sSeq (sSet 4 (tOpD opSub (tOpD opSub (tCa1 caLen (tV 1)) (tK (.int 1))) (tOpD opIx (tOrT (tV 2) (tFzD (tLstD (dCons (tUnD unNeg (tK (.int 1))) (dNil))))) (tUnD unNeg (tK (.int 1))))))
      (sSeq (sIf (tOrD (tBo (tOpD opEq (tV 4) (tK (.int 4)))) (tAndD (tTru (tV 2)) (tBo (tOpD opEq (tV 4) (tK (.int 3)))))) (sRet (tTupD (dNil))) (sNx))
      (sSeq (sSetL 5 (tLstD (dCons (tK (.str "pass")) (dNil))))
      (sSeq (sIf (tAndD (tTru (tV 2)) (tAndD (tBo (tOpD opNe (tV 4) (tK (.int 1)))) (tBo (tOpD opNe (tOpD opIx (tV 1) (tOpD opIx (tV 2) (tUnD unNeg (tK (.int 1))))) (tK (.str "redouble")))))) (sExpr (tApp 5 (tIfE (tBo (tOpD opEq (tOpD opIx (tV 1) (tOpD opIx (tV 2) (tUnD unNeg (tK (.int 1))))) (tK (.str "double")))) (tK (.str "redouble")) (tK (.str "double"))))) (sNx))
      (sRet (tCa1 caTuple (tFzD (tOpL opCat (tFzV 5) (tFzD (tComp (iLstD (tCallD sp_law_all_bids (aV (tV 0) (aNil)))) (gSet 8) (tBo (tOpD opGtD (tV 8) (tOpD opIx (tOrT (tV 3) (tFzD (tLstD (dCons (tTupD (dCons (tK (.int 0)) (dCons (tK (.int 4)) (dNil)))) (dNil))))) (tUnD unNeg (tK (.int 1)))))) (tV 8) [8])))))))))))
def tb_law_drawn_calls (sp_law_pick : SpD) (sp_law_draw : SpD) (sp_law_may_call : SpD) : TSd :=
  sSeq (sSet 4 (tTupD (dNil)))
      (sSeq (sFor (iRange1 (tV 3)) (gSet 5) (sSeq (sSet 6 (tCallD sp_law_may_call (aV (tV 2) (aV (tV 4) (aNil)))))
      (sIf (tTru (tV 6)) (sSeq (sSet 7 (tCallD sp_law_draw (aV (tV 0) (aO 1 (aV (tK (.int 5)) (aNil))))))
      (sSeq (sSet 8 (tIfE (tBo (tOpD opLt (tV 7) (tK (.int 2)))) (tK (.str "pass")) (tCallD sp_law_pick (aV (tV 0) (aO 1 (aV (tSlD (tV 6) (oNo) (oE (tOpD opAdd (tK (.int 1)) (tOpD opMul (tK (.int 2)) (tV 7))))) (aNil)))))))
      (sSet 4 (tOpD opAdd (tV 4) (tTupD (dCons (tV 8) (dNil))))))) (sNx))))
      (sRet (tV 4)))
def tb_law_contract : TSd :=
  sSeq (sSet 2 (tFzD (tComp (iEnumT (tV 1)) (gTupD 2 (gsCons (gSet 8) (gsCons (gSet 9) (gsNil)))) (tTru (tIsi isTuple (tV 9))) (tV 8) [8, 9])))
      (sSeq (sIf (tOrD (tNotD (tTru (tV 2))) (tBo (tOpD opNe (tSlD (tV 1) (oE (tUnD unNeg (tK (.int 3)))) (oNo)) (tTupD (dCons (tK (.str "pass")) (dCons (tK (.str "pass")) (dCons (tK (.str "pass")) (dNil)))))))) (sRet (tK .none)) (sNx))
      (sSeq (sSet 3 (tOpD opIx (tV 2) (tUnD unNeg (tK (.int 1)))))
      (sSeq (sAsg (tOpD opIx (tV 1) (tV 3)) (gTupD 2 (gsCons (gSet 4) (gsCons (gSet 5) (gsNil)))))
      (sSeq (sSet 6 (tOpD opAdd (tOpD opAdd (tK (.int 1)) (tCountT (tSlD (tV 1) (oE (tV 3)) (oNo)) (tK (.str "double")))) (tOpD opMul (tK (.int 2)) (tCountT (tSlD (tV 1) (oE (tV 3)) (oNo)) (tK (.str "redouble"))))))
      (sSeq (sSet 7 (tFzD (tComp (iLstD (tV 2)) (gSet 8) (tAndD (tBo (tOpD opEq (tOpD opIx (tOpD opIx (tV 1) (tV 8)) (tK (.int 1))) (tV 5))) (tBo (tOpD opEq (tOpD opMod (tV 8) (tK (.int 2))) (tOpD opMod (tV 3) (tK (.int 2)))))) (tV 8) [8])))
      (sRet (tTupD (dCons (tV 4) (dCons (tV 5) (dCons (tV 6) (dCons (tOpD opMod (tOpD opAdd (tV 0) (tOpD opIx (tV 7) (tK (.int 0)))) (tK (.int 4))) (dNil))))))))))))
open Call
theorem cut_neg {xs : List D} {k : Nat} (h : 0 < k) : cutD xs (some (-(k : Int))) none = xs.drop (xs.length - k) := by
  unfold cutD
  rw [HT.sIx_none]
  have e : HT.sIx xs.length 0 (some (-(k : Int))) = xs.length - k := by
    show (if -(k : Int) < 0 then (-(k : Int) + (xs.length : Int)).toNat else _) = _
    rw [if_pos (by omega)]; omega
  rw [e, List.take_of_length_le (by rw [List.length_drop]; omega)]
def rowD (cs : List Call) : D := .tuple (cs.map enc)
theorem sh_row (cs : List Call) : shOk 2 (rowD cs) = true := all_enc (sh_enc 0) cs
theorem sh_map (n : Nat) (cs : List Call) : (cs.map enc).all (shOk (n + 1)) = true := all_enc (sh_enc n) cs
theorem same_row {cs : List Call} (h : cs.length ≤ 10000000) : sameOk 2 (rowD cs) = true := by
  show ((cs.map enc).all (sameOk 1) && decide ((cs.map enc).length ≤ 10000000)) = true
  rw [List.length_map, decide_eq_true h, Bool.and_true, List.all_map]
  exact List.all_eq_true.mpr fun c _ => same_enc 0 c
theorem eqv_rows (a b : List Call) : PyData.eqv (rowD a) (rowD b) = decide (a = b) := by unfold rowD; rw [eqv_tup, eqvAll_enc enc_eqv]
theorem eqv_rows' (a b : List Call) : PyData.eqv (.tuple (a.map enc)) (.tuple (b.map enc)) = decide (a = b) := eqv_rows a b
theorem enum_row (cs : List Call) : enumD (cs.map enc) = cs.zipIdx.map fun p => .tuple [.int ((p.2 : Nat) : Int), p.1.enc] := by
  unfold enumD
  rw [List.zipIdx_map, List.map_map]; rfl
theorem get_row {cs : List Call} {i : Nat} {c : Call} (h : cs[i]? = some c) : (cs.map enc)[i]? = some c.enc := by rw [List.getElem?_map, h]; rfl
def optD : Option Nat → D
  | none => .none
  | some j => .int (j : Int)
/-! ### is_over -/
def spOver : SpD := fun ss Q => ∃ cs, ss = [.d (rowD cs)] ∧ Q (.bool (isOver cs)) []
theorem sh_is_over : ∀ ss QD, spOver ss QD → ss.length = 1 ∧ mpos 0 ss = [] := by rintro ss QD ⟨cs, rfl, _⟩; exact ⟨rfl, rfl⟩
theorem rd_is_over : ∀ ss QD, spOver ss QD → tb_is_over { nx := fun E' => finO [] E' (QD .none), rt := fun d E' => finO [] E' (QD d) } (ss ++ List.replicate 0 .un) := by
  rintro ss QD ⟨cs, rfl, q⟩
  unfold tb_is_over rowD
  walk_at "dl"
  rw [List.length_map]
  unfold isOver at q
  by_cases h : (4 : Int) ≤ cs.length
  · rw [decide_eq_true h]
    rw [decide_eq_true (show 4 ≤ cs.length by omega), Bool.true_and] at q
    refine ⟨small_line (by decide), ⟨shaped_of (n := 2) ?_, shaped_of (n := 2) (sh_row [.pass, .pass, .pass])⟩, ?_⟩
    · rw [show (-3 : Int) = -((3 : Nat) : Int) from rfl, cut_neg (by decide), ← List.map_drop]; exact sh_row _
    · rw [show (-3 : Int) = -((3 : Nat) : Int) from rfl, cut_neg (by decide), ← List.map_drop, List.length_map]
      rw [show (PyData.tuple [.str "pass", .str "pass", .str "pass"]) = rowD [.pass, .pass, .pass] from rfl, show PyData.tuple ((cs.drop (cs.length - 3)).map enc) = rowD (cs.drop (cs.length - 3)) from rfl, eqv_rows]
      exact q
  · rw [decide_eq_false h]
    rw [decide_eq_false (show ¬ 4 ≤ cs.length by omega), Bool.false_and] at q
    exact q
/-! ### last_but_pass, last_bid -/
def spLastP : SpD := fun ss Q => ∃ cs, ss = [.d (rowD cs)] ∧ Q (optD (lastIx said cs)) []
def spLastB : SpD := fun ss Q => ∃ cs, ss = [.d (rowD cs)] ∧ Q (optD (lastIx isBid cs)) []
theorem sh_last_but_pass : ∀ ss QD, spLastP ss QD → ss.length = 1 ∧ mpos 0 ss = [] := by rintro ss QD ⟨cs, rfl, _⟩; exact ⟨rfl, rfl⟩
theorem sh_last_bid : ∀ ss QD, spLastB ss QD → ss.length = 1 ∧ mpos 0 ss = [] := by rintro ss QD ⟨cs, rfl, _⟩; exact ⟨rfl, rfl⟩
theorem take_next {cs : List Call} {i : Nat} {c : Call} (h : cs[i]? = some c) : cs.take (i + 1) = cs.take i ++ [c] := by rw [List.take_add_one, h]; rfl
theorem enum_next {cs : List Call} {i : Nat} {d : D} (h : (enumD (cs.map enc))[i]? = some d) : ∃ c, cs[i]? = some c ∧ d = .tuple [.int (i : Int), c.enc] := by
  have hl : i < cs.length := by have := (List.getElem?_eq_some_iff.mp h).1; rwa [enumD_len, List.length_map] at this
  refine ⟨cs[i], List.getElem?_eq_getElem hl, ?_⟩
  rw [enumD_get (get_row (List.getElem?_eq_getElem hl))] at h
  exact (Option.some.inj h).symm
theorem said_ne (c : Call) : (!PyData.eqv c.enc (.str "pass")) = c.said := by
  rw [show (PyData.str "pass") = Call.pass.enc from rfl, enc_eqv]
  cases c <;> rfl
theorem rd_last_but_pass : ∀ ss QD, spLastP ss QD → tb_last_but_pass { nx := fun E' => finO [] E' (QD .none), rt := fun d E' => finO [] E' (QD d) } (ss ++ List.replicate 3 .un) := by
  rintro ss QD ⟨cs, rfl, q⟩
  unfold tb_last_but_pass rowD
  refine seq_step fun R hR => ?_
  walk_at "dl"
  refine hR _ ?_
  refine seq_step fun R hR => ?_
  refine for_inv (ds := enumD (cs.map enc)) (E1 := [.d (.tuple (cs.map enc)), .d .none, .un, .un]) (fun Q h => h)
    (fun i E => ∃ a2 a3, E = [.d (.tuple (cs.map enc)), .d (optD (lastIx said (cs.take i))), a2, a3]) ⟨_, _, rfl⟩ (fun i d E hd hE R2 hR2 => ?_) (fun E hE => ?_)
  · obtain ⟨a2, a3, rfl⟩ := hE
    obtain ⟨c, hc, rfl⟩ := enum_next hd
    walk_at "dl"
    refine ⟨⟨shaped_of (sh_enc 0 c), shaped_of (n := 1) (sh_enc 0 .pass)⟩, ?_⟩
    rw [said_ne]
    refine ifB (fun e => hR2 _ ⟨.d (.int (i : Int)), .d c.enc, ?_⟩) (fun e => hR2 _ ⟨.d (.int (i : Int)), .d c.enc, ?_⟩)
    · rw [take_next hc, lastIx_snoc, if_pos e, List.length_take, Nat.min_eq_left (by have := (List.getElem?_eq_some_iff.mp hc).1; omega)]; rfl
    · rw [take_next hc, lastIx_snoc, if_neg (by rw [e]; decide)]
  · obtain ⟨a2, a3, rfl⟩ := hE
    rw [enumD_len, List.length_map, List.take_length]
    exact hR _ q
theorem rd_last_bid : ∀ ss QD, spLastB ss QD → tb_last_bid { nx := fun E' => finO [] E' (QD .none), rt := fun d E' => finO [] E' (QD d) } (ss ++ List.replicate 3 .un) := by
  rintro ss QD ⟨cs, rfl, q⟩
  unfold tb_last_bid rowD
  refine seq_step fun R hR => ?_
  walk_at "dl"
  refine hR _ ?_
  refine seq_step fun R hR => ?_
  refine for_inv (ds := enumD (cs.map enc)) (E1 := [.d (.tuple (cs.map enc)), .d .none, .un, .un]) (fun Q h => h)
    (fun i E => ∃ a2 a3, E = [.d (.tuple (cs.map enc)), .d (optD (lastIx isBid (cs.take i))), a2, a3]) ⟨_, _, rfl⟩ (fun i d E hd hE R2 hR2 => ?_) (fun E hE => ?_)
  · obtain ⟨a2, a3, rfl⟩ := hE
    obtain ⟨c, hc, rfl⟩ := enum_next hd
    have fin : ∀ b : Bool, b = c.isBid → if b = true then R2 [.d (.tuple (cs.map enc)), .d (.int (i : Int)), .d (.int (i : Int)), .d c.enc] else R2 [.d (.tuple (cs.map enc)), .d (optD (lastIx isBid (cs.take i))), .d (.int (i : Int)), .d c.enc] := fun b hb => by
      refine ifB (fun e => hR2 _ ⟨.d (.int (i : Int)), .d c.enc, ?_⟩) (fun e => hR2 _ ⟨.d (.int (i : Int)), .d c.enc, ?_⟩)
      · rw [take_next hc, lastIx_snoc, if_pos (by rw [← hb]; exact e), List.length_take, Nat.min_eq_left (by have := (List.getElem?_eq_some_iff.mp hc).1; omega)]; rfl
      · rw [take_next hc, lastIx_snoc, if_neg (by rw [← hb, e]; decide)]
    cases c with
    | bid l s => exact ⟨rfl, trivial, trivial, fin true rfl⟩
    | _ => exact ⟨rfl, trivial, trivial, fin false rfl⟩
  · obtain ⟨a2, a3, rfl⟩ := hE
    rw [enumD_len, List.length_map, List.take_length]
    exact hR _ q
/-! ### all_bids -/
def bE (b : Int × Int) : D := .tuple [.int b.1, .int b.2]
theorem bE_enc (b : Int × Int) : (encB b).enc = bE b := rfl
theorem allB_len (L : Nat) : (allB L).length = 5 * L := by
  unfold allB
  induction L with
  | zero => rfl
  | succ n ih => rw [show List.range (n + 1) = List.range n ++ [n] from List.range_succ, List.flatMap_append, List.length_append, ih]; simp; omega
theorem allB_succ (L : Nat) : allB (L + 1) = allB L ++ (List.range 5).map fun s : Nat => ((L : Int) + 1, (s : Int)) := by
  unfold allB
  rw [show List.range (L + 1) = List.range L ++ [L] from List.range_succ, List.flatMap_append]; simp
theorem allB_pos {L : Nat} {b : Int × Int} (h : b ∈ allB L) : 1 ≤ b.1 ∧ b.1 ≤ L ∧ 0 ≤ b.2 ∧ b.2 ≤ 4 := by
  unfold allB at h
  obtain ⟨l, h1, h2⟩ := List.mem_flatMap.mp h
  obtain ⟨s, h3, rfl⟩ := List.mem_map.mp h2
  have := List.mem_range.mp h1
  have := List.mem_range.mp h3
  dsimp only
  omega
def spBids : SpD := fun ss Q => ∃ L : Nat, ss = [.d (.int L)] ∧ L ≤ 1000 ∧ Q (.list ((allB L).map bE)) []
theorem sh_all_bids : ∀ ss QD, spBids ss QD → ss.length = 1 ∧ mpos 0 ss = [] := by rintro ss QD ⟨L, rfl, _⟩; exact ⟨rfl, rfl⟩
theorem range_0 (n : Nat) : rangeD 0 n = (List.range n).map fun i : Nat => PyData.int (i : Int) := by
  unfold rangeD; exact List.map_congr_left fun i _ => by rw [show (0 : Int) + (i : Int) = i by omega]
theorem rd_all_bids : ∀ ss QD, spBids ss QD → tb_all_bids { nx := fun E' => finO [] E' (QD .none), rt := fun d E' => finO [] E' (QD d) } (ss ++ List.replicate 3 .un) := by
  rintro ss QD ⟨L, rfl, hL, q⟩
  unfold tb_all_bids
  refine seq_step fun R hR => ?_
  walk_at "dl"
  refine ⟨small_line (by decide), hR _ ?_⟩
  refine seq_step fun R hR => ?_
  refine for_inv (ds := rangeD 1 L) (E1 := [.d (.int L), .ol [], .un, .un]) (fun Q h => ⟨⟨by decide, by decide, by omega, by omega⟩, by rw [show ((L : Int) + 1 - 1).toNat = L by omega]; exact h⟩)
    (fun i E => ∃ a2, E = [.d (.int L), .ol ((allB i).map bE), a2, .un]) ⟨_, rfl⟩ (fun i d E hd hE R2 hR2 => ?_) (fun E hE => ?_)
  · obtain ⟨a2, rfl⟩ := hE
    have hi : i < L := by have := (List.getElem?_eq_some_iff.mp hd).1; rwa [rangeD_length] at this
    rw [rangeD_get hi] at hd
    cases hd
    walk_at "dl"
    refine comp_map (E1 := [.d (.int L), .ol ((allB i).map bE), .d (.int (1 + (i : Int))), .un]) (List.range 5) (fun s : Nat => .int (s : Int)) (fun s : Nat => bE (1 + (i : Int), (s : Int))) (fun Q h => ⟨⟨by decide, by decide⟩, by rw [show ((5 : Int)).toNat = 5 from rfl, range_0]; exact h⟩) (un1 rfl) (small_line (by decide)) (fun x hx R hq => ?_) ?_
    · exact ⟨small_line (by simp), hq _ rfl⟩
    · refine ⟨?_, hR2 _ ⟨.d (.int (1 + (i : Int))), ?_⟩⟩
      · rw [List.length_map, allB_len, List.length_map, List.length_range]; exact small_line (by omega)
      · rw [allB_succ, List.map_append, List.map_map, Int.add_comm (i : Int) 1]; rfl
  · obtain ⟨a2, rfl⟩ := hE
    rw [rangeD_length]
    exact hR _ q
theorem sh_law_all_bids : ∀ ss QD, spBids ss QD → ss.length = 1 ∧ mpos 0 ss = [] := sh_all_bids
theorem rd_law_all_bids : ∀ ss QD, spBids ss QD → tb_law_all_bids { nx := fun E' => finO [] E' (QD .none), rt := fun d E' => finO [] E' (QD d) } (ss ++ List.replicate 3 .un) := by
  rintro ss QD ⟨L, rfl, hL, q⟩
  unfold tb_law_all_bids
  refine seq_step fun R hR => ?_
  walk_at "dl"
  refine ⟨small_line (by decide), hR _ ?_⟩
  refine seq_step fun R hR => ?_
  refine for_inv (ds := rangeD 1 L) (E1 := [.d (.int L), .d (.list []), .un, .un]) (fun Q h => ⟨⟨by decide, by decide, by omega, by omega⟩, by rw [show ((L : Int) + 1 - 1).toNat = L by omega]; exact h⟩)
    (fun i E => ∃ a2, E = [.d (.int L), .d (.list ((allB i).map bE)), a2, .un]) ⟨_, rfl⟩ (fun i d E hd hE R2 hR2 => ?_) (fun E hE => ?_)
  · obtain ⟨a2, rfl⟩ := hE
    have hi : i < L := by have := (List.getElem?_eq_some_iff.mp hd).1; rwa [rangeD_length] at this
    rw [rangeD_get hi] at hd
    cases hd
    walk_at "dl"
    refine comp_map (E1 := [.d (.int L), .d (.list ((allB i).map bE)), .d (.int (1 + (i : Int))), .un]) (List.range 5) (fun s : Nat => .int (s : Int)) (fun s : Nat => bE (1 + (i : Int), (s : Int))) (fun Q h => ⟨⟨by decide, by decide⟩, by rw [show ((5 : Int)).toNat = 5 from rfl, range_0]; exact h⟩) (un1 rfl) (small_line (by decide)) (fun x hx R hq => ?_) ?_
    · exact ⟨small_line (by simp), hq _ rfl⟩
    · refine ⟨?_, hR2 _ ⟨.d (.int (1 + (i : Int))), ?_⟩⟩
      · rw [List.length_map, allB_len, List.length_map, List.length_range]; exact small_line (by omega)
      · rw [allB_succ, List.map_append, List.map_map, Int.add_comm (i : Int) 1]; rfl
  · obtain ⟨a2, rfl⟩ := hE
    rw [rangeD_length]
    exact hR _ q
/-! ### may_call -/
theorem row_app (pre : List Call) (bs : List (Int × Int)) : PyData.tuple (pre.map enc ++ bs.map bE) = rowD (pre ++ bs.map encB) := by
  unfold rowD; rw [List.map_append, List.map_map]; rfl
def spMay : SpD := fun ss Q => ∃ (L : Nat) (cs : List Call), ss = [.d (.int L), .d (rowD cs)] ∧ L ≤ 1000 ∧ cs.length ≤ 1000 ∧ Q (rowD (mayP L cs)) []
theorem sh_may_call : ∀ ss QD, spMay ss QD → ss.length = 2 ∧ mpos 0 ss = [] := by rintro ss QD ⟨L, cs, rfl, _⟩; exact ⟨rfl, rfl⟩
theorem lastB_none {cs : List Call} (h : lastC isBid cs = none) {L : Nat} {b : Int × Int} (hb : b ∈ allB L) : gtB b (lastB cs) = true := by
  unfold lastB; rw [h]
  have := allB_pos hb
  unfold gtB
  exact decide_eq_true (.inl (by dsimp only; omega))
theorem gt_bid (b : Int × Int) (l s : Int) : PySem.W.dataLt (.tuple [.int l, .int s]) (bE b) = gtB b (l, s) := by
  unfold bE gtB; rw [PySem.W.dataLt_ii]
theorem alike_bid (b : Int × Int) (l s : Int) : PySem.W.alike (bE b) (.tuple [.int l, .int s]) = true := rfl
theorem bE_ok (b : Int × Int) {l s : Int} : bE b ≠ .none ∧ (bE b).depth ≤ 60 ∧ (bE b).canLay0 = true ∧ (PyData.tuple [.int l, .int s]).canLay0 = true := by
  unfold bE
  exact ⟨(fun h => nomatch h), by simp [PyData.depth, PyData.depthAll], by simp [PyData.canLay0, PyData.canLayAll0], by simp [PyData.canLay0, PyData.canLayAll0]⟩
theorem rd_may_call : ∀ ss QD, spMay ss QD → tb_may_call spBids spLastP spLastB spOver { nx := fun E' => finO [] E' (QD .none), rt := fun d E' => finO [] E' (QD d) } (ss ++ List.replicate 4 .un) := by
  rintro ss QD ⟨L, cs, rfl, hL, hc, q⟩
  unfold tb_may_call
  refine seq_step fun R hR => ?_
  walk_at "dl"
  refine ⟨cs, rfl, ?_⟩
  walk_at "dl"
  refine ifB (fun e => ⟨small_line (by decide), ?_⟩) (fun e => hR _ ?_)
  · unfold mayP at q; rw [if_pos e] at q; exact q
  unfold mayP at q
  rw [if_neg (by rw [e]; decide)] at q
  have hml := dblP_len cs.length (lastIx said cs) (lastC said cs)
  generalize hmid : dblP cs.length (lastIx said cs) (lastC said cs) = mid at q hml
  refine seq_step fun R hR => ?_
  walk_at "dl"
  refine ⟨small_line (by decide), hR _ ?_⟩
  refine seq_step fun R hR => ?_
  walk_at "dl"
  refine ⟨cs, rfl, ?_⟩
  walk_at "dl"
  refine ⟨cs, rfl, ?_⟩
  walk_at "dl"
  refine hR _ ?_
  refine seq_step fun R hR => ?_
  have main : R [.d (.int L), .d (rowD cs), .ol (([Call.pass] ++ mid).map enc), .d (optD (lastIx said cs)), .d (optD (lastIx isBid cs)), .un] := by
    refine hR _ ?_
    unfold rowD
    walk_at "dl"
    refine comp_filter (E1 := [.d (.int L), .d (.tuple (cs.map enc)), .d (.list (([Call.pass] ++ mid).map enc)), .d (optD (lastIx said cs)), .d (optD (lastIx isBid cs)), .un]) (allB L) bE (fun b => gtB b (lastB cs)) bE (fun Q h => ⟨rfl, L, rfl, hL, h⟩) (un1 rfl) (by rw [allB_len]; exact small_line (by omega)) (fun b hb R2 hq => ?_) ?_
    · rcases last_spec isBid cs with ⟨e1, e2, e3⟩ | ⟨j, c, e1, e2, e3, e4⟩
      · rw [lastB_none e2 hb, e1] at hq
        rw [e1]
        exact hq _ rfl
      · rw [e1] at hq ⊢
        have hj := (List.getElem?_eq_some_iff.mp e3).1
        cases c with
        | bid l s =>
          refine atD_at (d := (Call.bid l s).enc) (by omega) (by rw [Int.toNat_natCast]; exact get_row e3) ⟨⟨alike_bid b l s, bE_ok b⟩, ?_⟩
          show if PySem.W.dataLt (.tuple [.int l, .int s]) (bE b) = true then R2 (some (bE b)) _ else R2 none _
          have hlb : lastB cs = (l, s) := by unfold lastB; rw [e2]; rfl
          rw [gt_bid, ← hlb]
          refine ifB (fun g => ?_) (fun g => ?_)
          · rw [g] at hq; exact hq _ rfl
          · rw [g] at hq; exact hq _ rfl
        | _ => cases e4
    · refine ⟨?_, ?_⟩
      · have := List.length_filter_le (fun b => gtB b (lastB cs)) (allB L)
        rw [allB_len] at this
        rw [List.length_map, List.length_map]
        show mid.length + 1 + _ ≤ _
        exact small_line (by omega)
      · rw [row_app]
        exact q
  rcases last_spec said cs with ⟨e1, e2, e3⟩ | ⟨j, c, e1, e2, e3, e4⟩
  · rw [e1, e2] at hmid
    rw [e1] at main ⊢
    rw [← hmid] at main
    walk_at "dl"
    exact main
  · rw [e1, e2] at hmid
    rw [e1] at main ⊢
    have hj := (List.getElem?_eq_some_iff.mp e3).1
    unfold optD
    unfold rowD
    walk_at "dl"
    rw [List.length_map]
    refine ⟨by decide, ?_⟩
    have at_j : ∀ {P : D → Prop}, P c.enc → atD (cs.map enc) (j : Int) P := fun q => atD_at (by omega) (by rw [Int.toNat_natCast]; exact get_row e3) q
    have one : 0 + 1 < sizeLine := Nat.lt_of_lt_of_le (show 0 + 1 < 3 by decide) (small_line (by decide))
    simp only [dblP] at hmid
    by_cases hp : ((cs.length : Int) - j) % 2 = 1
    · rw [if_pos hp] at hmid ⊢
      refine at_j ?_
      cases c with
      | pass => cases e4
      | bid l s => subst hmid; exact ⟨trivial, one, main⟩
      | dbl =>
        subst hmid
        refine ⟨trivial, at_j ⟨⟨shaped_of (n := 1) (sh_enc 0 .dbl), shaped_of (n := 1) (sh_enc 0 .dbl)⟩, ?_⟩⟩
        rw [show PyData.eqv Call.dbl.enc (.str "double") = true from enc_eqv .dbl .dbl]
        exact ⟨one, main⟩
      | rdb =>
        subst hmid
        refine ⟨trivial, at_j ⟨⟨shaped_of (n := 1) (sh_enc 0 .rdb), shaped_of (n := 1) (sh_enc 0 .dbl)⟩, ?_⟩⟩
        rw [show PyData.eqv Call.rdb.enc (.str "double") = false from enc_eqv .rdb .dbl]
        exact main
    · rw [if_neg hp] at hmid ⊢
      subst hmid
      exact main
/-! ### _law_may_call -/
theorem atD_last {xs : List D} {d : D} {Q : D → Prop} (h : xs.getLast? = some d) (q : Q d) : atD xs (-1) Q := by
  have h1 : 0 < xs.length := by
    cases xs with
    | nil => cases h
    | cons a l => simp
  rw [List.getLast?_eq_getElem?] at h
  refine atD_neg (by decide) (by omega) ?_ q
  rw [show ((-1 : Int) + xs.length).toNat = xs.length - 1 by omega]; exact h
def ixD (p : Call → Bool) (cs : List Call) : List D := (ixOf p cs).map fun j : Nat => .int (j : Int)
theorem ixD_last {p : Call → Bool} {cs : List Call} {j : Nat} (h : lastIx p cs = some j) : (ixD p cs).getLast? = some (.int (j : Int)) := by
  unfold ixD; rw [List.getLast?_map]; unfold lastIx at h; rw [h]; rfl
theorem ixD_full {p : Call → Bool} {cs : List Call} {j : Nat} (h : lastIx p cs = some j) : (ixD p cs).isEmpty = false := by
  have := ixD_last h
  cases e : ixD p cs with
  | nil => rw [e] at this; cases this
  | cons a l => rfl
theorem ixOf_len (p : Call → Bool) (cs : List Call) : (ixOf p cs).length ≤ cs.length := by
  unfold ixOf
  rw [List.length_map]
  have := List.length_filter_le (fun q : Call × Nat => p q.1) cs.zipIdx
  rwa [List.length_zipIdx] at this
theorem zip_mem {cs : List Call} {x : Call × Nat} (h : x ∈ cs.zipIdx) : cs[x.2]? = some x.1 := List.mem_zipIdx_iff_getElem?.mp h
theorem isT_enc (c : Call) : (match c.enc with | .dict _ => False | _ => True) ∧ isTuple c.enc = c.isBid := by cases c <;> exact ⟨trivial, rfl⟩
def spLMay : SpD := fun ss Q => ∃ (L : Nat) (cs : List Call), ss = [.d (.int L), .d (rowD cs)] ∧ L ≤ 1000 ∧ cs.length ≤ 1000 ∧ Q (rowD (mayL L cs)) []
theorem sh_law_may_call : ∀ ss QD, spLMay ss QD → ss.length = 2 ∧ mpos 0 ss = [] := by rintro ss QD ⟨L, cs, rfl, _⟩; exact ⟨rfl, rfl⟩
theorem rd_law_may_call : ∀ ss QD, spLMay ss QD → tb_law_may_call spBids { nx := fun E' => finO [] E' (QD .none), rt := fun d E' => finO [] E' (QD d) } (ss ++ List.replicate 7 .un) := by
  rintro ss QD ⟨L, cs, rfl, hL, hc, q⟩
  unfold tb_law_may_call rowD
  refine seq_step fun R hR => ?_
  refine comp_filter (E1 := [.d (.int L), .d (.tuple (cs.map enc)), .un, .un, .un, .un, .un, .un, .un]) cs.zipIdx (fun p => .tuple [.int ((p.2 : Nat) : Int), p.1.enc]) (fun p => p.1.said) (fun p => .int ((p.2 : Nat) : Int)) (fun Q h => by show Q (enumD (cs.map enc)) _; rw [enum_row]; exact h) (un2 rfl rfl) (by rw [List.length_zipIdx]; exact small_line (by omega)) (fun x hx R2 hq => ?_) ?_
  · refine ⟨rfl, ⟨shaped_of (sh_enc 0 x.1), shaped_of (n := 1) (sh_enc 0 .pass)⟩, ?_⟩
    show if (!PyData.eqv x.1.enc (.str "pass")) = true then R2 (some (.int ((x.2 : Nat) : Int))) _ else R2 none _
    rw [said_ne]
    refine ifB (fun g => ?_) (fun g => ?_)
    · rw [g] at hq; exact hq _ rfl
    · rw [g] at hq; exact hq _ rfl
  refine hR _ ?_
  have e0 : (cs.zipIdx.filter fun p => p.1.said).map (fun p : Call × Nat => PyData.int ((p.2 : Nat) : Int)) = ixD said cs := by unfold ixD ixOf; rw [List.map_map]; rfl
  rw [e0]
  refine seq_step fun R hR => ?_
  refine comp_filter (E1 := [.d (.int L), .d (.tuple (cs.map enc)), .d (.list (ixD said cs)), .un, .un, .un, .un, .un, .un]) cs enc isBid enc (fun Q h => h) (un1 rfl) (small_line (by omega)) (fun x hx R2 hq => ?_) ?_
  · cases x with
    | bid l s => exact ⟨trivial, trivial, hq _ rfl⟩
    | _ => exact ⟨trivial, trivial, hq _ rfl⟩
  refine hR _ ?_
  refine seq_step fun R hR => ?_
  have st4 : R [.d (.int L), .d (.tuple (cs.map enc)), .d (.list (ixD said cs)), .d (.list ((cs.filter isBid).map enc)), .d (.int (quiet cs)), .un, .un, .un, .un] := by
    refine hR _ ?_
    -- over
    refine seq_step fun R hR => ?_
    have go : ¬ (quiet cs = 4 ∨ (ixOf said cs ≠ [] ∧ quiet cs = 3)) → R [.d (.int L), .d (.tuple (cs.map enc)), .d (.list (ixD said cs)), .d (.list ((cs.filter isBid).map enc)), .d (.int (quiet cs)), .un, .un, .un, .un] := by
      intro hno
      unfold mayL at q
      rw [if_neg hno] at q
      refine hR _ ?_
      refine seq_step fun R hR => ?_
      walk_at "dl"
      refine ⟨small_line (by decide), hR _ ?_⟩
      refine seq_step fun R hR => ?_
      generalize hmid : (if ixOf said cs ≠ [] ∧ quiet cs ≠ 1 ∧ lastC said cs ≠ some Call.rdb then [if lastC said cs = some Call.dbl then Call.rdb else .dbl] else []) = mid at q
      have hml : mid.length ≤ 1 := by rw [← hmid]; split <;> simp
      have main : R [.d (.int L), .d (.tuple (cs.map enc)), .d (.list (ixD said cs)), .d (.list ((cs.filter isBid).map enc)), .d (.int (quiet cs)), .ol (([Call.pass] ++ mid).map enc), .un, .un, .un] := by
        refine hR _ ?_
        walk_at "dl"
        refine comp_filter (E1 := [.d (.int L), .d (.tuple (cs.map enc)), .d (.list (ixD said cs)), .d (.list ((cs.filter isBid).map enc)), .d (.int (quiet cs)), .d (.list (([Call.pass] ++ mid).map enc)), .un, .un, .un]) (allB L) bE (fun b => gtB b (lastB cs)) bE (fun Q h => ⟨rfl, L, rfl, hL, h⟩) (un1 rfl) (by rw [allB_len]; exact small_line (by omega)) (fun b hb R2 hq => ?_) ?_
        · have fin : ∀ l s : Int, lastB cs = (l, s) → ∀ E', wipeE E' [8] = wipeE [.d (.int L), .d (.tuple (cs.map enc)), .d (.list (ixD said cs)), .d (.list ((cs.filter isBid).map enc)), .d (.int (quiet cs)), .d (.list (([Call.pass] ++ mid).map enc)), .un, .un, .un] [8] → (PySem.W.alike (bE b) (.tuple [.int l, .int s]) = true ∧ bE b ≠ .none ∧ (bE b).depth ≤ 60 ∧ (bE b).canLay0 = true ∧ (PyData.tuple [.int l, .int s]).canLay0 = true) ∧ if PySem.W.dataLt (.tuple [.int l, .int s]) (bE b) = true then R2 (some (bE b)) E' else R2 none E' := by
            intro l s hlb E' hE'
            refine ⟨⟨alike_bid b l s, bE_ok b⟩, ?_⟩
            rw [gt_bid, ← hlb]
            refine ifB (fun g => ?_) (fun g => ?_)
            · rw [g] at hq; exact hq _ hE'
            · rw [g] at hq; exact hq _ hE'
          rcases last_spec isBid cs with ⟨e1, e2, e3⟩ | ⟨j, c, e1, e2, e3, e4⟩
          · have hb0 : cs.filter isBid = [] := by
              cases hf : cs.filter isBid with
              | nil => rfl
              | cons a l => unfold lastC at e2; rw [hf] at e2; simp at e2
            rw [hb0] at fin ⊢
            walk_at "dl"
            refine ⟨small_line (by decide), small_line (by decide), atD_last rfl ?_⟩
            exact fin 0 4 (by unfold lastB; rw [e2]) _ rfl
          · have hb1 : ((cs.filter isBid).map enc).getLast? = some c.enc := by
              rw [List.getLast?_map]; unfold lastC at e2; rw [e2]; rfl
            have hb2 : ((cs.filter isBid).map enc).isEmpty = false := by
              cases hf : (cs.filter isBid).map enc with
              | nil => rw [hf] at hb1; cases hb1
              | cons a l => rfl
            walk_at "dl"
            rw [hb2]
            cases c with
            | bid l s => exact atD_last hb1 (fin l s (by unfold lastB; rw [e2]; rfl) _ rfl)
            | _ => cases e4
        · refine ⟨?_, ?_⟩
          · have := List.length_filter_le (fun b => gtB b (lastB cs)) (allB L)
            rw [allB_len] at this
            rw [List.length_map, List.length_map]
            show mid.length + 1 + _ ≤ _
            exact small_line (by omega)
          · rw [row_app]
            exact q
      have one : 0 + 1 < sizeLine := Nat.lt_of_lt_of_le (show 0 + 1 < 3 by decide) (small_line (by decide))
      rcases last_spec said cs with ⟨e1, e2, e3⟩ | ⟨j, c, e1, e2, e3, e4⟩
      · have h0 : ixD said cs = [] := by unfold ixD; rw [e3]; rfl
        rw [if_neg (fun z => z.1 e3)] at hmid
        subst hmid
        rw [h0] at main ⊢
        walk_at "dl"
        exact main
      · have hne : ixOf said cs ≠ [] := fun z => by have := said_last.mp z; rw [e2] at this; cases this
        have at_j : ∀ {P : D → Prop}, P c.enc → atD (cs.map enc) (j : Int) P := fun q => atD_at (by omega) (by rw [Int.toNat_natCast]; exact get_row e3) q
        walk_at "dl"
        rw [ixD_full e1]
        refine ifT rfl ?_
        by_cases hq1 : quiet cs = 1
        · rw [if_neg (fun z => z.2.1 hq1)] at hmid
          subst hmid
          rw [decide_eq_true hq1]
          exact main
        · rw [decide_eq_false hq1]
          refine ifT rfl (atD_last (ixD_last e1) (at_j ?_))
          cases c with
          | pass => cases e4
          | rdb =>
            rw [if_neg (fun z => z.2.2 e2)] at hmid
            subst hmid
            refine ⟨⟨shaped_of (n := 1) (sh_enc 0 .rdb), shaped_of (n := 1) (sh_enc 0 .rdb)⟩, ?_⟩
            rw [show PyData.eqv Call.rdb.enc (.str "redouble") = true from enc_eqv .rdb .rdb]
            exact main
          | dbl =>
            rw [if_pos ⟨hne, hq1, by rw [e2]; simp⟩, if_pos e2] at hmid
            subst hmid
            refine ⟨⟨shaped_of (n := 1) (sh_enc 0 .dbl), shaped_of (n := 1) (sh_enc 0 .rdb)⟩, ?_⟩
            rw [show PyData.eqv Call.dbl.enc (.str "redouble") = false from enc_eqv .dbl .rdb]
            refine ifT rfl (atD_last (ixD_last e1) (at_j ⟨⟨shaped_of (n := 1) (sh_enc 0 .dbl), shaped_of (n := 1) (sh_enc 0 .dbl)⟩, ?_⟩))
            rw [show PyData.eqv Call.dbl.enc (.str "double") = true from enc_eqv .dbl .dbl]
            exact ⟨one, main⟩
          | bid l s =>
            rw [if_pos ⟨hne, hq1, by rw [e2]; simp⟩, if_neg (by rw [e2]; simp)] at hmid
            subst hmid
            refine ⟨⟨shaped_of (n := 1) (sh_enc 0 (.bid l s)), shaped_of (n := 1) (sh_enc 0 .rdb)⟩, ?_⟩
            rw [show PyData.eqv (Call.bid l s).enc (.str "redouble") = false from enc_eqv (.bid l s) .rdb]
            refine ifT rfl (atD_last (ixD_last e1) (at_j ⟨⟨shaped_of (n := 1) (sh_enc 0 (.bid l s)), shaped_of (n := 1) (sh_enc 0 .dbl)⟩, ?_⟩))
            rw [show PyData.eqv (Call.bid l s).enc (.str "double") = false from enc_eqv (.bid l s) .dbl]
            exact ⟨one, main⟩
    walk_at "dl"
    have stop : (quiet cs = 4 ∨ (ixOf said cs ≠ [] ∧ quiet cs = 3)) → QD (.tuple []) [] := fun z => by
      unfold mayL at q; rw [if_pos z] at q; exact q
    by_cases h4 : quiet cs = 4
    · rw [if_pos h4]; exact ⟨Nat.zero_le _, stop (.inl h4)⟩
    · rw [if_neg h4]
      by_cases he : ixOf said cs = []
      · have h0 : ixD said cs = [] := by unfold ixD; rw [he]; rfl
        refine ifF (by rw [h0]; rfl) (go fun z => ?_)
        rcases z with z | z
        · exact h4 z
        · exact z.1 he
      · have h0 : (!(ixD said cs).isEmpty) = true := by
          unfold ixD
          cases hx : ixOf said cs with
          | nil => exact absurd hx he
          | cons a l => rfl
        refine ifT h0 ?_
        by_cases h3 : quiet cs = 3
        · rw [if_pos h3]; exact ⟨Nat.zero_le _, stop (.inr ⟨he, h3⟩)⟩
        · rw [if_neg h3]
          exact go fun z => by
            rcases z with z | z
            · exact h4 z
            · exact h3 z.2
  rcases last_spec said cs with ⟨e1, e2, e3⟩ | ⟨j, c, e1, e2, e3, e4⟩
  · have : ixD said cs = [] := by unfold ixD; rw [e3]; rfl
    rw [this] at st4 ⊢
    unfold quiet at st4
    rw [e1] at st4
    walk_at "dl"
    rw [List.length_map]
    refine ⟨small_line (by decide), atD_last rfl ?_⟩
    exact st4
  · walk_at "dl"
    rw [List.length_map, ixD_full e1]
    unfold quiet at st4
    rw [e1] at st4
    exact atD_last (ixD_last e1) st4
/-! ### _law_drawn_calls -/
def spDrawnC : SpD := fun ss Q => ∃ (ns : List Int) (t : List D) (L M b : Nat), ss = [.d (.list (ns.map PyData.int)), .ol t, .d (.int L), .d (.int M)] ∧ L ≤ 1000 ∧ M ≤ 1000 ∧ ns.length ≤ 63 ∧ TownOk t b ∧ b ≤ 9000000 ∧
  ∀ cs t', Reach L cs → cs.length ≤ M → TownOk t' (b + 4 * M) → Q (rowD cs) [.ol t']
theorem sh_law_drawn_calls : ∀ ss QD, spDrawnC ss QD → ss.length = 4 ∧ mpos 0 ss = [1] := by rintro ss QD ⟨ns, t, L, M, b, rfl, _⟩; exact ⟨rfl, rfl⟩
theorem may_pass {L : Nat} {cs : List Call} (h : mayL L cs ≠ []) : Call.pass ∈ mayL L cs := by
  unfold mayL at h ⊢
  split
  · rename_i z; rw [if_pos z] at h; exact absurd rfl h
  · simp
theorem rd_law_drawn_calls : ∀ ss QD, spDrawnC ss QD → tb_law_drawn_calls spPick spDraw spLMay { nx := fun E' => finO [1] E' (QD .none), rt := fun d E' => finO [1] E' (QD d) } (ss ++ List.replicate 5 .un) := by
  rintro ss QD ⟨ns, t, L, M, b, rfl, hL, hM, hn, ht, hb, q⟩
  unfold tb_law_drawn_calls
  refine seq_step fun R hR => ?_
  walk_at "dl"
  refine ⟨small_line (by decide), hR _ ?_⟩
  refine seq_step fun R hR => ?_
  refine for_inv (ds := rangeD 0 M) (E1 := [.d (.list (ns.map PyData.int)), .ol t, .d (.int L), .d (.int M), .d (rowD []), .un, .un, .un, .un]) (fun Q h => ⟨⟨by omega, by omega⟩, by rw [show ((M : Int)).toNat = M by omega]; exact h⟩)
    (fun i E => ∃ t cs a5 a6 a7 a8, E = [.d (.list (ns.map PyData.int)), .ol t, .d (.int L), .d (.int M), .d (rowD cs), a5, a6, a7, a8] ∧ Reach L cs ∧ cs.length ≤ i ∧ TownOk t (b + 4 * i)) ⟨_, _, _, _, _, _, rfl, .nil, Nat.le_refl _, ht⟩ (fun i d E hd hE R2 hR2 => ?_) (fun E hE => ?_)
  · obtain ⟨t, cs, a5, a6, a7, a8, rfl, hr, hl, ht⟩ := hE
    have hi : i < M := by have := (List.getElem?_eq_some_iff.mp hd).1; rwa [rangeD_length] at this
    refine seq_step fun R3 hR3 => ?_
    walk_at "dl"
    refine ⟨L, cs, rfl, hL, by omega, ?_⟩
    walk_at "dl"
    refine hR3 _ ?_
    unfold rowD
    by_cases he : mayL L cs = []
    · rw [he]
      walk_at "dl"
      exact hR2 _ ⟨_, _, _, _, _, _, rfl, hr, by omega, ht.mono (by omega)⟩
    · have h0 : (!((mayL L cs).map enc).isEmpty) = true := by
        cases hx : mayL L cs with
        | nil => exact absurd hx he
        | cons a l => rfl
      refine ⟨trivial, ifT h0 ?_⟩
      refine seq_step fun R4 hR4 => ?_
      walk_at "dl"
      refine ⟨ns, t, 5, _, rfl, by decide, hn, ht, by omega, fun way t2 w0 w1 ht2 => ?_⟩
      walk_at "dl"
      refine hR4 _ ?_
      refine seq_step fun R5 hR5 => ?_
      have fin : ∀ (c : Call) (t3 : List D), c ∈ mayL L cs → TownOk t3 (b + 4 * i + 2 + 2) → R5 [.d (.list (ns.map PyData.int)), .ol t3, .d (.int L), .d (.int M), .d (.tuple (cs.map enc)), .d d, .d (.tuple ((mayL L cs).map enc)), .d (.int way), .d c.enc] := by
        intro c t3 hc ht3
        refine hR5 _ ?_
        walk_at "dl"
        have er : PyData.tuple (cs.map enc ++ [c.enc]) = rowD (cs ++ [c]) := by unfold rowD; rw [List.map_append]; rfl
        rw [er]
        refine ⟨small_line (by simp), ?_, hR2 _ ⟨t3, cs ++ [c], _, _, _, _, rfl, .snoc hr hc, by rw [List.length_append]; simp; omega, ht3.mono (by omega)⟩⟩
        rw [List.length_map]; exact small_line (by omega)
      walk_at "dl"
      by_cases hw : way < 2
      · rw [if_pos hw]
        exact fin .pass t2 (may_pass he) (ht2.mono (by omega))
      · rw [if_neg hw]
        refine ⟨cmul_small (by omega) (by omega), ?_⟩
        rw [cut_to (by omega), ← List.map_take]
        refine ⟨ns, t2, _, ((mayL L cs).take (1 + 2 * way).toNat).map enc, _, rfl, .inr rfl, ?_, hn, ht2, by omega, fun x t3 hx ht3 => ?_⟩
        · cases hx : mayL L cs with
          | nil => exact absurd hx he
          | cons a l =>
            rw [show (1 + 2 * way).toNat = ((1 + 2 * way).toNat - 1) + 1 by omega]
            simp
        · obtain ⟨c, hc, rfl⟩ := List.mem_map.mp hx
          exact fin c t3 (List.mem_of_mem_take hc) ht3
  · obtain ⟨t, cs, a5, a6, a7, a8, rfl, hr, hl, ht⟩ := hE
    rw [rangeD_length] at hl ht
    exact hR _ (q cs t hr hl ht)
/-! ### contract_of -/
theorem any_enc (xs : List Call) (c : Call) : ((xs.map enc).any fun z => PyData.eqv z c.enc) = decide (c ∈ xs) := by
  induction xs with
  | nil => rfl
  | cons a l ih =>
    rw [List.map_cons, List.any_cons, ih, enc_eqv]
    by_cases h1 : a = c
    · simp [h1]
    · have h1' : ¬ c = a := fun e => h1 e.symm
      by_cases h2 : c ∈ l <;> simp [h1, h1', h2]
def spContr : SpD := fun ss Q => ∃ (dealer : Int) (cs : List Call), ss = [.d (.int dealer), .d (rowD cs)] ∧ cs.length ≤ 1000 ∧ Q (if isOver cs = true then contrD dealer cs else .none) []
theorem sh_contract_of : ∀ ss QD, spContr ss QD → ss.length = 2 ∧ mpos 0 ss = [] := by rintro ss QD ⟨d, cs, rfl, _⟩; exact ⟨rfl, rfl⟩
theorem rd_contract_of : ∀ ss QD, spContr ss QD → tb_contract_of spOver spLastB { nx := fun E' => finO [] E' (QD .none), rt := fun d E' => finO [] E' (QD d) } (ss ++ List.replicate 6 .un) := by
  rintro ss QD ⟨dealer, cs, rfl, hc, q⟩
  unfold tb_contract_of rowD
  refine seq_step fun R hR => ?_
  walk_at "dl"
  refine ⟨cs, rfl, ?_⟩
  walk_at "dl"
  refine hR _ ?_
  refine seq_step fun R hR => ?_
  rcases last_spec isBid cs with ⟨e1, e2, e3⟩ | ⟨b, c, e1, e2, e3, e4⟩
  · rw [e1]
    walk_at "dl"
    have : (if isOver cs = true then contrD dealer cs else .none) = PyData.none := by
      unfold contrD; rw [e1]; split <;> rfl
    rw [this] at q
    exact q
  · rw [e1]
    unfold optD
    walk_at "dl"
    refine ⟨cs, rfl, ?_⟩
    walk_at "dl"
    by_cases ho : isOver cs = true
    · rw [if_pos ho] at q
      refine ifF (by rw [ho]; rfl) (hR _ ?_)
      have hb := (List.getElem?_eq_some_iff.mp e3).1
      cases c with
      | pass => cases e4
      | dbl => cases e4
      | rdb => cases e4
      | bid l s =>
        have hq : contrD dealer cs = .tuple [.int l, .int s, .int (timesP cs b), .int ((dealer + firstIx cs s b) % 4)] := by unfold contrD; rw [e1, e2]; rfl
        rw [hq] at q
        refine seq_step fun R hR => ?_
        refine atD_at (d := (Call.bid l s).enc) (xs := cs.map enc) (by omega) (by rw [Int.toNat_natCast]; exact get_row e3) ⟨rfl, hR _ ?_⟩
        refine seq_step fun R hR => ?_
        walk_at "dl"
        refine hR _ ?_
        have cut : cutD (cs.map enc) (some (b : Int)) none = (cs.drop b).map enc := by rw [cut_from (by omega), Int.toNat_natCast, List.map_drop]
        refine seq_step fun R hR => ?_
        have st5 : R [.d (.int dealer), .d (.tuple (cs.map enc)), .d (.int (b : Int)), .d (.int l), .d (.int s), .d (.int (if Call.dbl ∈ cs.drop b then 2 else 1)), .un, .un] := by
          refine hR _ ?_
          refine seq_step fun R hR => ?_
          have st6 : R [.d (.int dealer), .d (.tuple (cs.map enc)), .d (.int (b : Int)), .d (.int l), .d (.int s), .d (.int (timesP cs b)), .un, .un] := by
            refine hR _ ?_
            refine seq_step fun R hR => ?_
            refine for_inv (ds := enumD (cs.map enc)) (E1 := [.d (.int dealer), .d (.tuple (cs.map enc)), .d (.int (b : Int)), .d (.int l), .d (.int s), .d (.int (timesP cs b)), .un, .un]) (fun Q h => h)
              (fun i E => ∃ a6 a7, E = [.d (.int dealer), .d (.tuple (cs.map enc)), .d (.int (b : Int)), .d (.int l), .d (.int s), .d (.int (timesP cs b)), a6, a7] ∧ ∀ k, k < i → qual cs s b k = false) ⟨_, _, rfl, fun k hk => absurd hk (Nat.not_lt_zero k)⟩ (fun i d E hd hE R2 hR2 => ?_) (fun E hE => ?_)
            · obtain ⟨a6, a7, rfl, hno⟩ := hE
              obtain ⟨c, hci, rfl⟩ := enum_next hd
              have hi := (List.getElem?_eq_some_iff.mp hci).1
              have gd : cs.getD i .pass = c := by rw [List.getD_eq_getElem?_getD, hci]; rfl
              have next : qual cs s b i = false → ∀ k, k < i + 1 → qual cs s b k = false := fun h k hk => by
                rcases Nat.lt_or_ge k i with z | z
                · exact hno k z
                · rw [show k = i by omega]; exact h
              cases c with
              | bid l2 s2 =>
                have hqi : qual cs s b i = (decide (s2 = s) && decide (i % 2 = b % 2)) := by unfold qual strAt; rw [gd]; rfl
                simp only [Call.enc]
                walk_at "dl"
                by_cases h1 : s2 = s
                · rw [if_pos h1]
                  refine ⟨by decide, ?_⟩
                  by_cases h2 : ((b : Int) - i) % 2 = 0
                  · rw [if_pos h2]
                    have hf : firstIx cs s b = i := first_of hi (by rw [hqi, decide_eq_true h1, decide_eq_true (show i % 2 = b % 2 by omega)]; rfl) hno
                    rw [hf] at q
                    exact ⟨by decide, small_line (by simp), q⟩
                  · rw [if_neg h2]
                    exact hR2 _ ⟨_, _, rfl, next (by rw [hqi, decide_eq_false (show ¬ i % 2 = b % 2 by omega), Bool.and_false])⟩
                · rw [if_neg h1]
                  exact hR2 _ ⟨_, _, rfl, next (by rw [hqi, decide_eq_false h1, Bool.false_and])⟩
              | _ => exact ⟨rfl, trivial, trivial, hR2 _ ⟨_, _, rfl, next (by unfold qual; rw [gd]; rfl)⟩⟩
            · obtain ⟨a6, a7, rfl, hno⟩ := hE
              rw [enumD_len, List.length_map] at hno
              have := hno b hb
              rw [qual_last e3] at this
              cases this
          walk_at "dl"
          rw [cut]
          refine ⟨⟨shaped_of (n := 1) (sh_enc 0 .rdb), shaped_of (n := 2) (sh_row _)⟩, ?_⟩
          rw [show (PyData.str "redouble") = Call.rdb.enc from rfl, any_enc]
          unfold timesP at st6
          by_cases h : Call.rdb ∈ cs.drop b
          · rw [decide_eq_true h]; rw [if_pos h] at st6; exact st6
          · rw [decide_eq_false h]; rw [if_neg h] at st6; exact st6
        walk_at "dl"
        rw [cut]
        refine ⟨⟨shaped_of (n := 1) (sh_enc 0 .dbl), shaped_of (n := 2) (sh_row _)⟩, ?_⟩
        rw [show (PyData.str "double") = Call.dbl.enc from rfl, any_enc]
        by_cases h : Call.dbl ∈ cs.drop b
        · rw [decide_eq_true h]; rw [if_pos h] at st5; exact st5
        · rw [decide_eq_false h]; rw [if_neg h] at st5; exact st5
    · rw [if_neg ho] at q
      exact ifT (by rw [show isOver cs = false by simpa using ho]; rfl) q
/-! ### _law_contract -/
def spLContr : SpD := fun ss Q => ∃ (dealer : Int) (cs : List Call), ss = [.d (.int dealer), .d (rowD cs)] ∧ cs.length ≤ 1000 ∧ stand cs ≠ 4 ∧ isOver cs = true ∧ Q (contrD dealer cs) []
theorem sh_law_contract : ∀ ss QD, spLContr ss QD → ss.length = 2 ∧ mpos 0 ss = [] := by rintro ss QD ⟨d, cs, rfl, _⟩; exact ⟨rfl, rfl⟩
theorem over_tail {cs : List Call} (h : isOver cs = true) : cs.drop (cs.length - 3) = [.pass, .pass, .pass] := by
  unfold isOver at h
  rw [Bool.and_eq_true, decide_eq_true_eq, decide_eq_true_eq] at h
  exact h.2
theorem cnt_enc (xs : List Call) (c : Call) : cntD (xs.map enc) c.enc = xs.count c := by
  unfold cntD
  rw [List.countP_map, List.count_eq_countP]
  refine List.countP_congr fun a _ => ?_
  show (PyData.eqv a.enc c.enc = true) ↔ (a == c) = true
  rw [enc_eqv]; simp
theorem rd_law_contract : ∀ ss QD, spLContr ss QD → tb_law_contract { nx := fun E' => finO [] E' (QD .none), rt := fun d E' => finO [] E' (QD d) } (ss ++ List.replicate 8 .un) := by
  rintro ss QD ⟨dealer, cs, rfl, hc, hst, ho, q⟩
  unfold tb_law_contract rowD
  refine seq_step fun R hR => ?_
  refine comp_filter (E1 := [.d (.int dealer), .d (.tuple (cs.map enc)), .un, .un, .un, .un, .un, .un, .un, .un]) cs.zipIdx (fun p => .tuple [.int ((p.2 : Nat) : Int), p.1.enc]) (fun p => p.1.isBid) (fun p => .int ((p.2 : Nat) : Int)) (fun Q h => by show Q (enumD (cs.map enc)) _; rw [enum_row]; exact h) (un2 rfl rfl) (by rw [List.length_zipIdx]; exact small_line (by omega)) (fun x hx R2 hq => ?_) ?_
  · obtain ⟨c, j⟩ := x
    cases c with
    | bid l s => exact ⟨rfl, trivial, trivial, hq _ rfl⟩
    | _ => exact ⟨rfl, trivial, trivial, hq _ rfl⟩
  refine hR _ ?_
  have e0 : (cs.zipIdx.filter fun p => p.1.isBid).map (fun p : Call × Nat => PyData.int ((p.2 : Nat) : Int)) = ixD isBid cs := by unfold ixD ixOf; rw [List.map_map]; rfl
  rw [e0]
  refine seq_step fun R hR => ?_
  rcases last_spec isBid cs with ⟨e1, e2, e3⟩ | ⟨b, c, e1, e2, e3, e4⟩
  · have h0 : ixD isBid cs = [] := by unfold ixD; rw [e3]; rfl
    rw [h0]
    walk_at "dl"
    unfold contrD at q
    rw [e1] at q
    exact q
  · have hb := (List.getElem?_eq_some_iff.mp e3).1
    walk_at "dl"
    rw [ixD_full e1]
    refine ifF rfl ?_
    rw [show (-3 : Int) = -((3 : Nat) : Int) from rfl, cut_neg (by decide), ← List.map_drop, List.length_map, over_tail ho]
    refine ⟨small_line (by decide), ⟨shaped_of (n := 2) (sh_row [.pass, .pass, .pass]), shaped_of (n := 2) (sh_row [.pass, .pass, .pass])⟩, ?_⟩
    rw [show PyData.eqv (.tuple ([Call.pass, .pass, .pass].map enc)) (.tuple [.str "pass", .str "pass", .str "pass"]) = true from (eqv_rows [.pass, .pass, .pass] [.pass, .pass, .pass]).trans (decide_eq_true rfl)]
    refine ifF rfl (hR _ ?_)
    refine seq_step fun R hR => ?_
    refine atD_last (ixD_last e1) (hR _ ?_)
    cases c with
    | pass => cases e4
    | dbl => cases e4
    | rdb => cases e4
    | bid l s =>
      have hq : contrD dealer cs = .tuple [.int l, .int s, .int (timesP cs b), .int ((dealer + firstIx cs s b) % 4)] := by unfold contrD; rw [e1, e2]; rfl
      rw [hq] at q
      refine seq_step fun R hR => ?_
      refine atD_at (d := (Call.bid l s).enc) (xs := cs.map enc) (by omega) (by rw [Int.toNat_natCast]; exact get_row e3) ⟨rfl, hR _ ?_⟩
      have cut : cutD (cs.map enc) (some (b : Int)) none = (cs.drop b).map enc := by rw [cut_from (by omega), Int.toNat_natCast, List.map_drop]
      refine seq_step fun R hR => ?_
      walk_at "dl"
      rw [cut, show (PyData.str "double") = Call.dbl.enc from rfl, show (PyData.str "redouble") = Call.rdb.enc from rfl, cnt_enc, cnt_enc]
      have hcnt : ∀ x : Call, (cs.drop b).count x ≤ 1000 := fun x => by
        have h1 := List.count_le_length (a := x) (l := cs.drop b)
        rw [List.length_drop] at h1; omega
      refine ⟨⟨sh_map 59 _, sh_enc 59 .dbl⟩, ⟨sh_map 59 _, sh_enc 59 .rdb⟩, cmul_small (by decide) (by have := hcnt .rdb; omega), hR _ ?_⟩
      rw [times_eq hst e1]
      refine seq_step fun R hR => ?_
      refine comp_filter (E1 := [.d (.int dealer), .d (.tuple (cs.map enc)), .d (.list (ixD isBid cs)), .d (.int (b : Int)), .d (.int l), .d (.int s), .d (.int (timesP cs b)), .un, .un, .un]) (ixOf isBid cs) (fun k : Nat => .int (k : Int)) (fun k => decide (strAt cs k = s) && decide (k % 2 = b % 2)) (fun k : Nat => .int (k : Int)) (fun Q h => h) (un1 rfl) (by have := ixOf_len isBid cs; exact small_line (by omega)) (fun k hk R2 hq => ?_) ?_
      · obtain ⟨c, hc1, hc2⟩ := ixOf_mem.mp hk
        cases c with
        | pass => cases hc2
        | dbl => cases hc2
        | rdb => cases hc2
        | bid l2 s2 =>
          have hs : strAt cs k = s2 := by unfold strAt; rw [List.getD_eq_getElem?_getD, hc1]; rfl
          rw [hs] at hq
          refine atD_at (d := (Call.bid l2 s2).enc) (xs := cs.map enc) (by omega) (by rw [Int.toNat_natCast]; exact get_row hc1) ?_
          simp only [Call.enc]
          walk_at "dl"
          by_cases h1 : s2 = s
          · rw [if_pos h1]
            refine ⟨by decide, by decide, ?_⟩
            rw [decide_eq_true h1, Bool.true_and] at hq
            by_cases h2 : (k : Int) % 2 = (b : Int) % 2
            · rw [if_pos h2]
              rw [decide_eq_true (show k % 2 = b % 2 by omega)] at hq
              exact hq _ rfl
            · rw [if_neg h2]
              rw [decide_eq_false (show ¬ k % 2 = b % 2 by omega)] at hq
              exact hq _ rfl
          · rw [if_neg h1]
            rw [decide_eq_false h1, Bool.false_and] at hq
            exact hq _ rfl
      refine hR _ ?_
      walk_at "dl"
      have hh := firsts_head e3
      have hl0 : ∃ r, (ixOf isBid cs).filter (fun k => decide (strAt cs k = s) && decide (k % 2 = b % 2)) = firstIx cs s b :: r := by
        cases hx : (ixOf isBid cs).filter (fun k => decide (strAt cs k = s) && decide (k % 2 = b % 2)) with
        | nil => rw [hx] at hh; cases hh
        | cons a r => rw [hx] at hh; cases hh; exact ⟨r, rfl⟩
      obtain ⟨r, hr⟩ := hl0
      rw [hr, List.map_cons, atD_0]
      exact ⟨by decide, small_line (by simp), q⟩
end DL

set_option Elab.async false
set_option linter.all false
set_option maxRecDepth 100000
set_option maxHeartbeats 4000000
/-! FnRowsT: theory of rows of calls counted -/
namespace DL
open PySem PySem.Spec PyProof.Rows L2 Call
def fr : Nat → Int
  | 0 => 0
  | k + 1 => 22 * fr k + 7
def mu : Nat → Nat → Nat → Int
  | 1, 0, 0 => 2
  | 1, 0, _ => 1
  | 1, _, 2 => 0
  | 1, _, _ => 1
  | 0, 1, 0 => 6
  | 0, 1, _ => 3
  | 0, _, 2 => 0
  | 0, _, _ => 3
  | _, _, _ => 0
/-- how many rows go on: h of greater bids, doubling d, side o, passes p -/
def wv (h : Int) (d o p : Nat) : Int := (3 - (p : Int)) * h + 1 + mu d o p * (3 * h + 1)
theorem fr_nn : ∀ k, 0 ≤ fr k
  | 0 => by decide
  | k + 1 => by have := fr_nn k; unfold fr; omega
theorem fr_step (k : Nat) : fr (k + 1) = fr k + wv (fr k) 0 1 0 := by
  show 22 * fr k + 7 = _
  have : mu 0 1 0 = 6 := rfl
  unfold wv; rw [this]; simp; omega
theorem fr_mono {a b : Nat} (h : a ≤ b) : fr a ≤ fr b := by
  induction h with
  | refl => exact Int.le_refl _
  | @step m h ih => have := fr_nn m; show _ ≤ 22 * fr m + 7; omega
theorem sum_fr : ∀ n, ((List.range n).reverse.map fun k => wv (fr k) 0 1 0).sum = fr n
  | 0 => rfl
  | n + 1 => by
    rw [List.range_succ, List.reverse_append, List.map_append, List.sum_append, sum_fr n, fr_step]
    simp; omega
theorem fr_small : ∀ n, n ≤ 35 → fr n < 2 ^ 170 := by decide +kernel
def leftOf (L : Nat) (b : Int × Int) : Nat := (5 * (L : Int) - 1 - (5 * b.1 - 5 + b.2)).toNat
theorem left_all : ∀ L, L ≤ 7 → ∀ b ∈ ((0, 4) :: allB L : List (Int × Int)), ((allB L).filter fun x => gtB x b).map (leftOf L) = (List.range (leftOf L b)).reverse := by decide +kernel
theorem left_lt : ∀ L, L ≤ 7 → ∀ b ∈ allB L, leftOf L b < 5 * L ∧ ((leftOf L b : Nat) : Int) = 5 * (L : Int) - 1 - (5 * b.1 - 5 + b.2) := by decide +kernel
theorem left_top : ∀ L, L ≤ 7 → leftOf L (0, 4) = 5 * L := by decide +kernel
theorem left_len {L : Nat} (hL : L ≤ 7) {b : Int × Int} (hb : b ∈ ((0, 4) :: allB L : List (Int × Int))) : ((allB L).filter fun x => gtB x b).length = leftOf L b := by
  have := congrArg List.length (left_all L hL b hb)
  rwa [List.length_map, List.length_reverse, List.length_range] at this
theorem sum_left {L : Nat} (hL : L ≤ 7) {b : Int × Int} (hb : b ∈ ((0, 4) :: allB L : List (Int × Int))) : (((allB L).filter fun x => gtB x b).map fun x => wv (fr (leftOf L x)) 0 1 0).sum = fr (leftOf L b) := by
  have := left_all L hL b hb
  rw [← sum_fr, ← this, List.map_map]; rfl
/-- what a row that came about is like -/
structure RI (L : Nat) (cs : List Call) : Prop where
  sm : ∀ j, lastIx isBid cs = some j → (j : Int) < cs.length ∧ (∃ l s, cs[j]? = .some (.bid l s) ∧ lastC isBid cs = .some (.bid l s) ∧ (l, s) ∈ allB L) ∧ (stand cs = 1 → ((cs.length : Int) - j) % 2 = (quiet cs + 1) % 2) ∧ (stand cs = 2 → ((cs.length : Int) - j) % 2 = quiet cs % 2) ∧ 1 ≤ stand cs
  nn : lastIx isBid cs = .none → stand cs = 0 ∧ lastC isBid cs = .none
theorem mem_mayL2 {L : Nat} {cs : List Call} {c : Call} (h : c ∈ mayL L cs) : c = .pass ∨ ((c = .dbl ∨ c = .rdb) ∧ quiet cs ≠ 1) ∨ ∃ l s, c = .bid l s ∧ (l, s) ∈ allB L := by
  unfold mayL at h
  split at h
  · cases h
  · rcases List.mem_append.mp h with h | h
    · rcases List.mem_append.mp h with h | h
      · exact .inl (List.mem_singleton.mp h)
      · split at h
        · rename_i z
          refine .inr (.inl ⟨?_, z.2.1⟩)
          rw [List.mem_singleton.mp h]; split
          · exact .inr rfl
          · exact .inl rfl
        · cases h
    · obtain ⟨b, hb, rfl⟩ := List.mem_map.mp h
      exact .inr (.inr ⟨b.1, b.2, rfl, (List.mem_filter.mp hb).1⟩)
theorem Reach.ri {L : Nat} {cs : List Call} (h : Reach L cs) : RI L cs := by
  induction h with
  | nil => exact ⟨(fun j h => by cases h), fun _ => ⟨rfl, rfl⟩⟩
  | snoc h hc ih =>
    rename_i cs c
    have hg := h.good
    have hm := mem_mayL2 hc
    have h0 := (mem_mayL hc).1
    have qn := quiet_nn cs
    have sl := stand_last cs hg.st
    have hg2 := (Reach.snoc h hc).good
    have st2 := hg2.st
    rw [stand_snoc] at st2
    constructor
    · intro j hj
      rw [lastIx_snoc] at hj
      rw [lastC_snoc, quiet_snoc, stand_snoc, List.length_append, List.length_cons, List.length_nil]
      cases c with
      | pass =>
        rw [if_neg (by decide)] at hj
        obtain ⟨a1, ⟨l, s, a2, a3, a4⟩, a5, a6, a7⟩ := ih.sm j hj
        refine ⟨by omega, ⟨l, s, by rw [List.getElem?_append_left (by omega)]; exact a2, by simpa [isBid] using a3, a4⟩, fun z => ?_, fun z => ?_, a7⟩
        · have := a5 z; simp only [if_true]; omega
        · have := a6 z; simp only [if_true]; omega
      | bid l s =>
        rw [if_pos (show (Call.bid l s).isBid = true from rfl)] at hj
        cases hj
        rcases hm with z | z | ⟨l', s', e, hb⟩
        · cases z
        · rcases z.1 with z | z <;> cases z
        · cases e
          refine ⟨by omega, ⟨l, s, by simp, by simp [isBid], hb⟩, fun z => by simp; omega, fun z => ?_, ?_⟩
          · simp only [stepS] at z; split at z <;> omega
          · simp only [stepS]; split <;> omega
      | dbl =>
        rw [if_neg (by decide)] at hj
        obtain ⟨a1, ⟨l, s, a2, a3, a4⟩, a5, a6, a7⟩ := ih.sm j hj
        have s1 : stand cs = 1 := by
          simp only [stepS] at st2; split at st2
          · assumption
          · exact absurd rfl st2
        have q1 : quiet cs ≠ 1 := by
          rcases hm with z | z | ⟨l', s', e, hb⟩
          · cases z
          · exact z.2
          · cases e
        have q3 : quiet cs ≤ 2 := by
          by_cases e : ixOf said cs = []
          · have := said_last.mp e
            rcases sl with ⟨a, _⟩ | ⟨a, l, s, b, _⟩ | ⟨a, _⟩ | ⟨a, _⟩
            · omega
            · rw [this] at b; cases b
            · omega
            · omega
          · have h1 := hg.q.2 e
            have h2 : quiet cs ≠ 3 := fun z => h0 (.inr ⟨e, z⟩)
            omega
        have := a5 s1
        refine ⟨by omega, ⟨l, s, by rw [List.getElem?_append_left (by omega)]; exact a2, by simpa [isBid] using a3, a4⟩, fun z => ?_, fun z => ?_, ?_⟩
        · simp [stepS, s1] at z
        · simp; omega
        · simp [stepS, s1]
      | rdb =>
        rw [if_neg (by decide)] at hj
        obtain ⟨a1, ⟨l, s, a2, a3, a4⟩, a5, a6, a7⟩ := ih.sm j hj
        have s1 : stand cs = 2 := by
          simp only [stepS] at st2; split at st2
          · assumption
          · exact absurd rfl st2
        refine ⟨by omega, ⟨l, s, by rw [List.getElem?_append_left (by omega)]; exact a2, by simpa [isBid] using a3, a4⟩, fun z => ?_, fun z => ?_, ?_⟩
        · simp [stepS, s1] at z
        · simp [stepS, s1] at z
        · simp [stepS, s1]
    · intro hj
      rw [lastIx_snoc] at hj
      cases c with
      | bid l s => rw [if_pos (show (Call.bid l s).isBid = true from rfl)] at hj; cases hj
      | pass =>
        rw [if_neg (by decide)] at hj
        rw [stand_snoc, lastC_snoc, if_neg (by decide)]
        exact ih.nn hj
      | dbl =>
        rw [if_neg (by decide)] at hj
        have := (ih.nn hj).1
        simp [stepS, this] at st2
      | rdb =>
        rw [if_neg (by decide)] at hj
        have := (ih.nn hj).1
        simp [stepS, this] at st2
/-- how many ended rows begin with cs -/
def wRow (L : Nat) (cs : List Call) : Int :=
  if isOver cs = true then 1
  else match lastIx isBid cs with
    | none => 1 + (4 - (cs.length : Int)) * fr (5 * L)
    | some j => wv (fr (leftOf L (lastB cs))) (stand cs - 1) (((cs.length : Int) - j) % 2).toNat (quiet cs).toNat
theorem bids_said {cs : List Call} (h : lastIx isBid cs ≠ none) : ixOf said cs ≠ [] := by
  rcases last_spec isBid cs with ⟨e1, _⟩ | ⟨j, c, e1, e2, e3, e4⟩
  · exact absurd e1 h
  · intro z
    have : j ∈ ixOf said cs := ixOf_mem.mpr ⟨c, e3, by cases c <;> simp_all [isBid, said]⟩
    rw [z] at this; cases this
theorem over_quiet {L : Nat} {cs : List Call} (h : Reach L cs) {j : Nat} (hj : lastIx isBid cs = some j) : (isOver cs = true ↔ quiet cs = 3) ∧ quiet cs ≤ 3 := by
  have hs : ixOf said cs ≠ [] := bids_said (by rw [hj]; simp)
  have hq := h.good.q.2 hs
  rw [h.good.over]
  refine ⟨⟨fun z => ?_, fun z => .inr ⟨hs, z⟩⟩, hq⟩
  rcases z with z | z
  · omega
  · exact z.2
theorem over_none {L : Nat} {cs : List Call} (h : Reach L cs) (hj : lastIx isBid cs = none) : quiet cs = cs.length ∧ cs.length ≤ 4 ∧ (isOver cs = true ↔ cs.length = 4) ∧ ixOf said cs = [] := by
  have hs : ixOf said cs = [] := by
    rw [said_last]
    have st := (h.ri.nn hj).1
    rcases stand_last cs h.good.st with ⟨_, b, _⟩ | ⟨a, _⟩ | ⟨a, _⟩ | ⟨a, _⟩
    · exact b
    · omega
    · omega
    · omega
  have h1 := said_nil.mp hs
  have h2 := h.good.q.1 hs
  refine ⟨h1, h2, ?_, hs⟩
  rw [h.good.over]
  refine ⟨fun z => ?_, fun z => .inl (by omega)⟩
  rcases z with z | z
  · omega
  · exact absurd hs z.1
/-- step by step -/
theorem w_step {L : Nat} (hL : L ≤ 7) {cs : List Call} (h : Reach L cs) (ho : isOver cs = false) : ((mayL L cs).map fun c => wRow L (cs ++ [c])).sum = wRow L cs := by
  have nov : ¬ (quiet cs = 4 ∨ (ixOf said cs ≠ [] ∧ quiet cs = 3)) := fun z => by rw [h.good.over.mpr z] at ho; cases ho
  have ho' : ¬ isOver cs = true := by rw [ho]; simp
  have em : mayL L cs = [.pass] ++ (if ixOf said cs ≠ [] ∧ quiet cs ≠ 1 ∧ lastC said cs ≠ some .rdb then [if lastC said cs = some .dbl then Call.rdb else .dbl] else []) ++ ((allB L).filter fun b => gtB b (lastB cs)).map encB := by
    unfold mayL; rw [if_neg nov]
  have rc : ∀ c ∈ mayL L cs, Reach L (cs ++ [c]) := fun c hc => .snoc h hc
  -- a bid
  have wb : ∀ b ∈ (allB L).filter (fun b => gtB b (lastB cs)), wRow L (cs ++ [encB b]) = wv (fr (leftOf L b)) 0 1 0 := fun b hb => by
    have hr := rc (encB b) (by rw [em]; exact List.mem_append_right _ (List.mem_map_of_mem hb))
    have hj : lastIx isBid (cs ++ [encB b]) = some cs.length := by rw [lastIx_snoc]; rfl
    have hq : quiet (cs ++ [encB b]) = 0 := by rw [quiet_snoc, if_neg (by intro z; cases z)]
    have hn : isOver (cs ++ [encB b]) ≠ true := fun z => by have := (over_quiet hr hj).1.mp z; omega
    have hl : lastB (cs ++ [encB b]) = b := by unfold lastB; rw [lastC_snoc]; rfl
    have hs : stand (cs ++ [encB b]) = 1 := by
      rw [stand_snoc]
      show (if stand cs = 4 then 4 else 1) = 1
      rw [if_neg h.good.st]
    unfold wRow
    rw [if_neg hn, hj, hl, hq, hs]
    have : (((cs ++ [encB b]).length : Int) - (cs.length : Int)) % 2 = 1 := by rw [List.length_append]; simp; omega
    show wv _ (1 - 1) ((((cs ++ [encB b]).length : Int) - (cs.length : Int)) % 2).toNat _ = _
    rw [this]; rfl
  have lb : lastB cs ∈ ((0, 4) :: allB L : List (Int × Int)) := by
    cases hj : lastIx isBid cs with
    | none => unfold lastB; rw [(h.ri.nn hj).2]; exact List.mem_cons_self ..
    | some j =>
      obtain ⟨_, ⟨l, s, _, a3, a4⟩, _⟩ := h.ri.sm j hj
      unfold lastB; rw [a3]; exact List.mem_cons_of_mem _ a4
  have sb : (((allB L).filter fun b => gtB b (lastB cs)).map encB |>.map fun c => wRow L (cs ++ [c])).sum = fr (leftOf L (lastB cs)) := by
    rw [← sum_left hL lb, List.map_map]
    congr 1
    exact List.map_congr_left fun b hb => wb b hb
  rw [em, List.map_append, List.sum_append, sb, List.map_append, List.sum_append]
  have rp : Reach L (cs ++ [.pass]) := rc _ (by rw [em]; simp)
  have jp : lastIx isBid (cs ++ [.pass]) = lastIx isBid cs := by rw [lastIx_snoc, if_neg (by decide)]
  have qp : quiet (cs ++ [.pass]) = quiet cs + 1 := by rw [quiet_snoc, if_pos rfl]
  have sp : stand (cs ++ [.pass]) = stand cs := by rw [stand_snoc]; rfl
  have bp : lastB (cs ++ [.pass]) = lastB cs := by unfold lastB; rw [lastC_snoc, if_neg (by decide)]
  have lp : (cs ++ [Call.pass]).length = cs.length + 1 := by simp
  cases hj : lastIx isBid cs with
  | none =>
    obtain ⟨h1, h2, h3, h4⟩ := over_none h hj
    obtain ⟨p1, p2, p3, p4⟩ := over_none rp (by rw [jp]; exact hj)
    have e1 : wRow L cs = 1 + (4 - (cs.length : Int)) * fr (5 * L) := by unfold wRow; rw [if_neg ho', hj]
    have n4 : cs.length ≠ 4 := fun z => ho' (h3.mpr z)
    have lbn : leftOf L (lastB cs) = 5 * L := by unfold lastB; rw [(h.ri.nn hj).2]; exact left_top L hL
    rw [if_neg (by simp [h4]), e1, lbn]
    have e2 : wRow L (cs ++ [.pass]) = 1 + (4 - ((cs.length : Int) + 1)) * fr (5 * L) := by
      unfold wRow
      rw [jp, hj]
      split
      · rename_i z; have := p3.mp z; rw [lp] at this; rw [show (4 - ((cs.length : Int) + 1)) = 0 by omega]; omega
      · show 1 + (4 - ((cs ++ [Call.pass]).length : Int)) * fr (5 * L) = _
        rw [lp]; congr 2
    simp only [List.map_cons, List.map_nil, List.sum_cons, List.sum_nil]
    rw [e2, show (4 - (cs.length : Int)) = (4 - ((cs.length : Int) + 1)) + 1 by omega, Int.add_mul]
    omega
  | some j =>
    obtain ⟨o1, o2⟩ := over_quiet h hj
    obtain ⟨p1, p2⟩ := over_quiet rp (by rw [jp]; exact hj)
    obtain ⟨r1, ⟨l, s, r2, r3, r4⟩, r5, r6, r7⟩ := h.ri.sm j hj
    have q0 := quiet_nn cs
    have q3 : quiet cs ≠ 3 := fun z => ho' (o1.mpr z)
    have hsd : ixOf said cs ≠ [] := bids_said (by rw [hj]; simp)
    have e1 : wRow L cs = wv (fr (leftOf L (lastB cs))) (stand cs - 1) (((cs.length : Int) - j) % 2).toNat (quiet cs).toNat := by unfold wRow; rw [if_neg ho', hj]
    have e2 : wRow L (cs ++ [.pass]) = if quiet cs = 2 then 1 else wv (fr (leftOf L (lastB cs))) (stand cs - 1) (((cs.length : Int) + 1 - j) % 2).toNat (quiet cs + 1).toNat := by
      unfold wRow
      rw [jp, hj, bp, sp, qp]
      by_cases z : quiet cs = 2
      · rw [if_pos z, if_pos (p1.mpr (by omega))]
      · rw [if_neg z, if_neg (fun y => by have := p1.mp y; omega)]
        show wv _ _ ((((cs ++ [Call.pass]).length : Int) - j) % 2).toNat _ = _
        rw [lp]; rfl
    have hst := h.good.st
    -- the doubled one
    have ed : ∀ c, (c = .dbl ∧ stand cs = 1 ∨ c = .rdb ∧ stand cs = 2) → c ∈ mayL L cs → quiet cs ≠ 1 → wRow L (cs ++ [c]) = wv (fr (leftOf L (lastB cs))) (stand cs) 0 0 := fun c hc hm hq => by
      have hr := rc c hm
      have hnb : c.isBid = false := by rcases hc with ⟨rfl, _⟩ | ⟨rfl, _⟩ <;> rfl
      have hjj : lastIx isBid (cs ++ [c]) = some j := by rw [lastIx_snoc, if_neg (by rw [hnb]; simp)]; exact hj
      have hqq : quiet (cs ++ [c]) = 0 := by rw [quiet_snoc, if_neg (by rcases hc with ⟨rfl, _⟩ | ⟨rfl, _⟩ <;> (intro z; cases z))]
      have hn : isOver (cs ++ [c]) ≠ true := fun z => by have := (over_quiet hr hjj).1.mp z; omega
      have hbb : lastB (cs ++ [c]) = lastB cs := by unfold lastB; rw [lastC_snoc, if_neg (by rw [hnb]; simp)]
      have hll : (cs ++ [c]).length = cs.length + 1 := by simp
      unfold wRow
      rw [if_neg hn, hjj, hqq, hbb]
      show wv _ (stand (cs ++ [c]) - 1) ((((cs ++ [c]).length : Int) - j) % 2).toNat _ = _
      rw [hll, stand_snoc]
      rcases hc with ⟨rfl, e⟩ | ⟨rfl, e⟩
      · have := r5 e
        rw [show ((((cs.length + 1 : Nat) : Int) - j) % 2).toNat = 0 by omega, e]; rfl
      · rw [e]
        have : ∀ o, wv (fr (leftOf L (lastB cs))) (stepS 2 Call.rdb - 1) o 0 = wv (fr (leftOf L (lastB cs))) 2 0 0 := fun o => rfl
        exact this _
    have s123 : stand cs = 1 ∨ stand cs = 2 ∨ stand cs = 3 := by
      rcases stand_last cs hst with ⟨a, _⟩ | ⟨a, _⟩ | ⟨a, _⟩ | ⟨a, _⟩ <;> omega
    have lsd : (stand cs = 1 → lastC said cs ≠ some .rdb ∧ lastC said cs ≠ some .dbl) ∧ (stand cs = 2 → lastC said cs = some .dbl) ∧ (stand cs = 3 → lastC said cs = some .rdb) := by
      rcases stand_last cs hst with ⟨a, _⟩ | ⟨a, l, s, b, _⟩ | ⟨a, b, _⟩ | ⟨a, b, _⟩
      · exact ⟨fun z => by omega, fun z => by omega, fun z => by omega⟩
      · exact ⟨fun z => by rw [b]; simp, fun z => by omega, fun z => by omega⟩
      · exact ⟨fun z => by omega, fun z => b, fun z => by omega⟩
      · exact ⟨fun z => by omega, fun z => by omega, fun z => b⟩
    generalize hh : fr (leftOf L (lastB cs)) = hv at *
    have q012 : quiet cs = 0 ∨ quiet cs = 1 ∨ quiet cs = 2 := by omega
    generalize hmid : (if ixOf said cs ≠ [] ∧ quiet cs ≠ 1 ∧ lastC said cs ≠ some .rdb then [if lastC said cs = some .dbl then Call.rdb else .dbl] else []) = mid at em
    simp only [List.map_cons, List.map_nil, List.sum_cons, List.sum_nil]
    rw [e1, e2]
    rcases s123 with s1 | s1 | s1
    · have ls := lsd.1 s1
      have par := r5 s1
      by_cases hq1 : quiet cs = 1
      · rw [if_neg (by simp [hq1])] at hmid
        subst hmid
        rw [s1, hq1, if_neg (by decide)]
        rw [show (((cs.length : Int) - j) % 2).toNat = 0 by omega, show (((cs.length : Int) + 1 - j) % 2).toNat = 1 by omega]
        simp only [List.map_nil, List.sum_nil]
        show wv hv 0 1 2 + 0 + 0 + hv = wv hv 0 0 1
        have m1 : mu 0 1 2 = 3 := rfl
        have m2 : mu 0 0 1 = 3 := rfl
        unfold wv; rw [m1, m2]; simp; omega
      · rw [if_pos ⟨hsd, hq1, ls.1⟩, if_neg ls.2] at hmid
        subst hmid
        have hm : Call.dbl ∈ mayL L cs := by rw [em]; simp
        simp only [List.map_cons, List.map_nil, List.sum_cons, List.sum_nil]
        rw [ed .dbl (.inl ⟨rfl, s1⟩) hm hq1, s1]
        have m0 : mu 1 0 0 = 2 := rfl
        rcases q012 with q | q | q
        · rw [q, if_neg (by decide), show (((cs.length : Int) - j) % 2).toNat = 1 by omega, show (((cs.length : Int) + 1 - j) % 2).toNat = 0 by omega]
          show wv hv 0 0 1 + 0 + (wv hv 1 0 0 + 0) + hv = wv hv 0 1 0
          have m1 : mu 0 0 1 = 3 := rfl
          have m2 : mu 0 1 0 = 6 := rfl
          unfold wv; rw [m0, m1, m2]; simp; omega
        · exact absurd q hq1
        · rw [q, if_pos rfl, show (((cs.length : Int) - j) % 2).toNat = 1 by omega]
          show 1 + 0 + (wv hv 1 0 0 + 0) + hv = wv hv 0 1 2
          have m1 : mu 0 1 2 = 3 := rfl
          unfold wv; rw [m0, m1]; simp; omega
    · have ls := lsd.2.1 s1
      have par := r6 s1
      by_cases hq1 : quiet cs = 1
      · rw [if_neg (by simp [hq1])] at hmid
        subst hmid
        rw [s1, hq1, if_neg (by decide)]
        rw [show (((cs.length : Int) - j) % 2).toNat = 1 by omega, show (((cs.length : Int) + 1 - j) % 2).toNat = 0 by omega]
        simp only [List.map_nil, List.sum_nil]
        show wv hv 1 0 2 + 0 + 0 + hv = wv hv 1 1 1
        have m1 : mu 1 0 2 = 1 := rfl
        have m2 : mu 1 1 1 = 1 := rfl
        unfold wv; rw [m1, m2]; simp; omega
      · rw [if_pos ⟨hsd, hq1, by rw [ls]; simp⟩, if_pos ls] at hmid
        subst hmid
        have hm : Call.rdb ∈ mayL L cs := by rw [em]; simp
        simp only [List.map_cons, List.map_nil, List.sum_cons, List.sum_nil]
        rw [ed .rdb (.inr ⟨rfl, s1⟩) hm hq1, s1]
        have m0 : mu 2 0 0 = 0 := rfl
        rcases q012 with q | q | q
        · rw [q, if_neg (by decide), show (((cs.length : Int) - j) % 2).toNat = 0 by omega, show (((cs.length : Int) + 1 - j) % 2).toNat = 1 by omega]
          show wv hv 1 1 1 + 0 + (wv hv 2 0 0 + 0) + hv = wv hv 1 0 0
          have m1 : mu 1 1 1 = 1 := rfl
          have m2 : mu 1 0 0 = 2 := rfl
          unfold wv; rw [m0, m1, m2]; simp; omega
        · exact absurd q hq1
        · rw [q, if_pos rfl, show (((cs.length : Int) - j) % 2).toNat = 0 by omega]
          show 1 + 0 + (wv hv 2 0 0 + 0) + hv = wv hv 1 0 2
          have m1 : mu 1 0 2 = 1 := rfl
          unfold wv; rw [m0, m1]; simp; omega
    · have ls := lsd.2.2 s1
      rw [if_neg (by rw [ls]; simp)] at hmid
      subst hmid
      rw [s1]
      have m0 : ∀ o p, mu (3 - 1) o p = 0 := fun o p => rfl
      simp only [List.map_nil, List.sum_nil]
      rcases q012 with q | q | q
      · rw [q, if_neg (by decide)]; unfold wv; rw [m0, m0]; simp; omega
      · rw [q, if_neg (by decide)]; unfold wv; rw [m0, m0]; simp; omega
      · rw [q, if_pos rfl]; unfold wv; rw [m0]; simp; omega
end DL

set_option Elab.async false
set_option linter.all false
set_option maxRecDepth 100000
set_option maxHeartbeats 4000000
namespace DL
open PySem PySem.Spec PyProof.Rows L2
local macro_rules | `(tactic| walk_at "dl") => `(tactic| simp only [tV, tVr, tFzV, turnD, DL.wipeE, tK, tOpD, tUnD, tBo, tAndD, tOrD, tNotD, tIfE, DL.tAndV, DL.tOrV, DL.tNotV, tTru, truD, okLen, sSet, sSetL, sExpr, sRet, sIf, sNx, tTupD, dNil, dCons, tLstD, tFzD, tApp, tExtd, tPopAt, sSetIx, tIxO, tChainD, tChain3D, tRevT, caStr, opRepT, opAdd, opSub, opMul, opDiv, opMod, opPow, DL.opI, DL.opI0, opB0, opLt, opLe, opGt, opGtD, opLtD, opGe, opEq, opNe, opIs, opIsN, isNone, opIn, opNotIn, opIx, atD_0, atD_1, atD_2, atD_3, putD_0, unNeg, tCa1, tCa2, tCaL1, caLen, caAbs, caMax2, caMin2, caSum, caMax, caMin, caSumT, caMaxT, caMinT, caAll, caTuple, caList, caInt, tIsi, isInt, isBool, isStr, isTuple, isList, notDict, sAsg, gSet, gTupD, gsNil, gsCons, sPar, pNil, pD, pL, setAll, tCallD, aNil, aV, aO, argS, oixs, ndp, putO, tOpL, opCat, opRep, tSlD, slD, tSlL, oNo, oE, tRevD, iLstD, iTupD, iRange1, iRange2, iZipD, iZipM, finO, tTrue, Option.map, eqv_int, eqv_bool, eqv_none, shaped_int, shaped_bool, shaped_none, tLenRange, tSortSet, tLenSet, tLenSetP, tSortSetP, tCountL, tCountT, tIndexL, tIndexT, DL.tOrT, DL.tAndT, DL.tNotT, tSortRev, caSorted, iEnumL, iEnumT, tDGetV, tDGetD, tDGet2V, dictAt, sDPutV, sSetM, mDt, mDk, pM, tInN, tNotInN, keyB_2, keyB_3, keyB_4, decide_eq_true_eq, and_self, List.cons_append, List.nil_append, List.replicate, List.getElem?_cons_zero, List.getElem?_cons_succ, List.set_cons_zero, List.set_cons_succ, List.length_cons, List.length_nil, true_and, and_true, if_true, if_false, Bool.false_eq_true, List.contains_nil, Bool.not_false, Bool.not_true, Bool.and_self, Bool.and_true, Bool.true_and, decide_true, decide_false, beq_self_eq_true])
def tb_ways_behind : TSd :=
  sSeq (sPar [1, 2] (pL (tLstD (dNil)) (pD (tK (.int 0)) (pNil))))
      (sSeq (sFor (iRange1 (tV 0)) (gSet 3) (sSeq (sSetM 4 (mDt))
      (sSeq (sFor (iTupD (tTupD (dCons (tK (.int 2)) (dCons (tK (.int 1)) (dCons (tK (.int 0)) (dNil)))))) (gSet 5) (sFor (iTupD (tTupD (dCons (tK (.int 2)) (dCons (tK (.int 1)) (dCons (tK (.int 0)) (dNil)))))) (gSet 6) (sFor (iTupD (tTupD (dCons (tK (.int 0)) (dCons (tK (.int 1)) (dNil))))) (gSet 7) (sSeq (sSet 8 (tOpD opAdd (tV 2) (tIfE (tBo (tOpD opEq (tV 6) (tK (.int 2)))) (tK (.int 1)) (tDGetV 4 (tTupD (dCons (tV 5) (dCons (tOpD opSub (tK (.int 1)) (tV 7)) (dCons (tOpD opAdd (tV 6) (tK (.int 1))) (dNil)))))))))
      (sSeq (sIf (tAndD (tBo (tOpD opEq (tV 5) (tK (.int 0)))) (tBo (tOpD opEq (tV 7) (tK (.int 1))))) (sSet 8 (tOpD opAdd (tV 8) (tDGetV 4 (tTupD (dCons (tK (.int 1)) (dCons (tK (.int 0)) (dCons (tK (.int 0)) (dNil)))))))) (sNx))
      (sSeq (sIf (tAndD (tBo (tOpD opEq (tV 5) (tK (.int 1)))) (tBo (tOpD opEq (tV 7) (tK (.int 0))))) (sSet 8 (tOpD opAdd (tV 8) (tDGetV 4 (tTupD (dCons (tK (.int 2)) (dCons (tK (.int 1)) (dCons (tK (.int 0)) (dNil)))))))) (sNx))
      (sDPutV 4 (tTupD (dCons (tV 5) (dCons (tV 7) (dCons (tV 6) (dNil))))) (tV 8))))))))
      (sSeq (sExpr (tApp 1 (tFzV 4)))
      (sSet 2 (tOpD opAdd (tV 2) (tDGetV 4 (tTupD (dCons (tK (.int 0)) (dCons (tK (.int 1)) (dCons (tK (.int 0)) (dNil))))))))))))
      (sRet (tFzV 1)))
open Call
def k18 : List (Nat × Nat × Nat) := [(2, 0, 2), (2, 1, 2), (2, 0, 1), (2, 1, 1), (2, 0, 0), (2, 1, 0), (1, 0, 2), (1, 1, 2), (1, 0, 1), (1, 1, 1), (1, 0, 0), (1, 1, 0), (0, 0, 2), (0, 1, 2), (0, 0, 1), (0, 1, 1), (0, 0, 0), (0, 1, 0)]
def kD (k : Nat × Nat × Nat) : D := .tuple [.int (k.1 : Int), .int (k.2.1 : Int), .int (k.2.2 : Int)]
def ents (h : Int) (ks : List (Nat × Nat × Nat)) : List (D × D) := ks.map fun k => (kD k, .int (wv h k.1 k.2.1 k.2.2))
theorem nk_kD (k j : Nat × Nat × Nat) : nkOf (kD k) = nkOf (kD j) ↔ k = j := by
  constructor
  · intro h
    have h : some (NestedKey.tup [.num k.1, .num k.2.1, .num k.2.2]) = some (NestedKey.tup [.num j.1, .num j.2.1, .num j.2.2]) := h
    simp only [Option.some.injEq, NestedKey.tup.injEq, List.cons.injEq, NestedKey.num.injEq, and_true] at h
    obtain ⟨h1, h2, h3⟩ := h
    exact Prod.ext (by omega) (Prod.ext (by omega) (by omega))
  · rintro rfl; rfl
theorem valN_ents (h : Int) (k : Nat × Nat × Nat) : ∀ ks, valN (ents h ks) (kD k) = if k ∈ ks then some (.int (wv h k.1 k.2.1 k.2.2)) else none
  | [] => rfl
  | j :: ks => by
    show valN ((kD j, _) :: ents h ks) (kD k) = _
    rw [valN_cons, valN_ents h k ks]
    by_cases e : k = j
    · subst e; rw [if_pos rfl, if_pos (List.mem_cons_self ..)]
    · rw [if_neg (fun z => e ((nk_kD j k).mp z).symm)]
      simp only [List.mem_cons, e, false_or]
theorem putN_ents (h : Int) (k : Nat × Nat × Nat) (ks : List (Nat × Nat × Nat)) (hk : k ∉ ks) : putN (ents h ks) (kD k) (.int (wv h k.1 k.2.1 k.2.2)) = ents h (ks ++ [k]) := by
  unfold putN
  rw [valN_ents, if_neg hk]
  show ents h ks ++ _ = _
  unfold ents; rw [List.map_append]; rfl
theorem k18_at : ∀ a < 3, ∀ b < 3, ∀ c < 2, k18[6 * a + 2 * b + c]? = some (2 - a, c, 2 - b) ∧ k18.take (6 * a + 2 * b + c + 1) = k18.take (6 * a + 2 * b + c) ++ [(2 - a, c, 2 - b)] ∧ (2 - a, c, 2 - b) ∉ k18.take (6 * a + 2 * b + c) ∧
    (2 - b ≠ 2 → (2 - a, 1 - c, 2 - b + 1) ∈ k18.take (6 * a + 2 * b + c)) ∧ (2 - a = 0 → c = 1 → (1, 0, 0) ∈ k18.take (6 * a + 2 * b + c)) ∧ (2 - a = 1 → c = 0 → (2, 1, 0) ∈ k18.take (6 * a + 2 * b + c)) := by
  intro a ha b hb c hc
  have ha : a = 0 ∨ a = 1 ∨ a = 2 := by omega
  have hb : b = 0 ∨ b = 1 ∨ b = 2 := by omega
  have hc : c = 0 ∨ c = 1 := by omega
  rcases ha with rfl | rfl | rfl <;> rcases hb with rfl | rfl | rfl <;> rcases hc with rfl | rfl <;> simp [k18]
theorem wv_at (h : Int) : ∀ d < 3, ∀ o < 2, ∀ p < 3, wv h d o p = h + (if p = 2 then 1 else wv h d (1 - o) (p + 1)) + (if d = 0 ∧ o = 1 then wv h 1 0 0 else 0) + (if d = 1 ∧ o = 0 then wv h 2 1 0 else 0) := by
  intro d hd o ho p hp
  have hd : d = 0 ∨ d = 1 ∨ d = 2 := by omega
  have ho : o = 0 ∨ o = 1 := by omega
  have hp : p = 0 ∨ p = 1 ∨ p = 2 := by omega
  rcases hd with rfl | rfl | rfl <;> rcases ho with rfl | rfl <;> rcases hp with rfl | rfl | rfl <;> (simp [wv, mu]; try omega)
def waysD (n : Nat) : List D := (List.range n).map fun k => .dict (ents (fr k) k18)
theorem waysD_len (n : Nat) : (waysD n).length = n := by unfold waysD; simp
def spWaysB : SpD := fun ss Q => ∃ n : Nat, ss = [.d (.int (n : Int))] ∧ n ≤ 35 ∧ Q (.list (waysD n)) []
theorem sh_ways_behind : ∀ ss QD, spWaysB ss QD → ss.length = 1 ∧ mpos 0 ss = [] := by rintro ss QD ⟨n, rfl, _⟩; exact ⟨rfl, rfl⟩
theorem three_get {a : Nat} {d : D} (h : ([.int 2, .int 1, .int 0] : List D)[a]? = some d) : a < 3 ∧ d = .int ((2 - a : Nat) : Int) := by
  match a, h with
  | 0, h => cases h; exact ⟨by decide, rfl⟩
  | 1, h => cases h; exact ⟨by decide, rfl⟩
  | 2, h => cases h; exact ⟨by decide, rfl⟩
  | n + 3, h => simp at h
theorem two_get {a : Nat} {d : D} (h : ([.int 0, .int 1] : List D)[a]? = some d) : a < 2 ∧ d = .int ((a : Nat) : Int) := by
  match a, h with
  | 0, h => cases h; exact ⟨by decide, rfl⟩
  | 1, h => cases h; exact ⟨by decide, rfl⟩
  | n + 2, h => simp at h
theorem rd_ways_behind : ∀ ss QD, spWaysB ss QD → tb_ways_behind { nx := fun E' => finO [] E' (QD .none), rt := fun d E' => finO [] E' (QD d) } (ss ++ List.replicate 8 .un) := by
  rintro ss QD ⟨n, rfl, hn, q⟩
  unfold tb_ways_behind
  refine seq_step fun R hR => ?_
  walk_at "dl"
  refine ⟨small_line (by decide), hR _ ?_⟩
  refine seq_step fun R hR => ?_
  refine for_inv (ds := rangeD 0 n) (E1 := [.d (.int (n : Int)), .ol [], .d (.int 0), .un, .un, .un, .un, .un, .un]) (fun Q h => ⟨⟨by omega, by omega⟩, by rw [Int.toNat_natCast]; exact h⟩)
    (fun i E => ∃ a3 a4 a5 a6 a7 a8, E = [.d (.int (n : Int)), .ol (waysD i), .d (.int (fr i)), a3, a4, a5, a6, a7, a8]) ⟨_, _, _, _, _, _, rfl⟩ (fun i d E hd hE R2 hR2 => ?_) (fun E hE => ?_)
  · obtain ⟨a3, a4, a5, a6, a7, a8, rfl⟩ := hE
    have hi : i < n := by have := (List.getElem?_eq_some_iff.mp hd).1; rwa [rangeD_length] at this
    refine seq_step fun R3 hR3 => ?_
    walk_at "dl"
    refine hR3 _ ?_
    refine seq_step fun R4 hR4 => ?_
    refine for_inv (ds := [.int 2, .int 1, .int 0]) (E1 := [.d (.int (n : Int)), .ol (waysD i), .d (.int (fr i)), .d d, .dt [], a5, a6, a7, a8]) (fun Q h => ⟨small_line (by decide), h⟩)
      (fun a E => ∃ a5 a6 a7 a8, E = [.d (.int (n : Int)), .ol (waysD i), .d (.int (fr i)), .d d, .dt (ents (fr i) (k18.take (6 * a))), a5, a6, a7, a8]) ⟨_, _, _, _, rfl⟩ (fun a d5 E hd5 hE R5 hR5 => ?_) (fun E hE => ?_)
    · obtain ⟨b5, b6, b7, b8, rfl⟩ := hE
      obtain ⟨ha, rfl⟩ := three_get hd5
      refine for_inv (ds := [.int 2, .int 1, .int 0]) (E1 := [.d (.int (n : Int)), .ol (waysD i), .d (.int (fr i)), .d d, .dt (ents (fr i) (k18.take (6 * a))), .d (.int ((2 - a : Nat) : Int)), b6, b7, b8]) (fun Q h => ⟨small_line (by decide), h⟩)
        (fun b E => ∃ a6 a7 a8, E = [.d (.int (n : Int)), .ol (waysD i), .d (.int (fr i)), .d d, .dt (ents (fr i) (k18.take (6 * a + 2 * b))), .d (.int ((2 - a : Nat) : Int)), a6, a7, a8]) ⟨_, _, _, rfl⟩ (fun b d6 E hd6 hE R6 hR6 => ?_) (fun E hE => ?_)
      · obtain ⟨c6, c7, c8, rfl⟩ := hE
        obtain ⟨hb, rfl⟩ := three_get hd6
        refine for_inv (ds := [.int 0, .int 1]) (E1 := [.d (.int (n : Int)), .ol (waysD i), .d (.int (fr i)), .d d, .dt (ents (fr i) (k18.take (6 * a + 2 * b))), .d (.int ((2 - a : Nat) : Int)), .d (.int ((2 - b : Nat) : Int)), c7, c8]) (fun Q h => ⟨small_line (by decide), h⟩)
          (fun c E => ∃ a7 a8, E = [.d (.int (n : Int)), .ol (waysD i), .d (.int (fr i)), .d d, .dt (ents (fr i) (k18.take (6 * a + 2 * b + c))), .d (.int ((2 - a : Nat) : Int)), .d (.int ((2 - b : Nat) : Int)), a7, a8]) ⟨_, _, rfl⟩ (fun c d7 E hd7 hE R7 hR7 => ?_) (fun E hE => ?_)
        · obtain ⟨e7, e8, rfl⟩ := hE
          obtain ⟨hc, rfl⟩ := two_get hd7
          obtain ⟨g1, g2, g3, g4, g5, g6⟩ := k18_at a ha b hb c hc
          have gv := wv_at (fr i) (2 - a) (by omega) c hc (2 - b) (by omega)
          generalize hks : k18.take (6 * a + 2 * b + c) = ks at g2 g3 g4 g5 g6
          generalize hD : 2 - a = dd at *
          generalize hP : 2 - b = pp at *
          generalize hW : fr i = h at *
          refine seq_step fun R8 hR8 => ?_
          have step1 : ∀ w : Int, w = h + (if pp = 2 then 1 else wv h dd (1 - c) (pp + 1)) → R8 [.d (.int (n : Int)), .ol (waysD i), .d (.int h), .d d, .dt (ents h ks), .d (.int (dd : Int)), .d (.int (pp : Int)), .d (.int (c : Int)), .d (.int w)] := by
            intro w hw
            refine hR8 _ ?_
            refine seq_step fun R9 hR9 => ?_
            have step2 : ∀ w2 : Int, w2 = w + (if dd = 0 ∧ c = 1 then wv h 1 0 0 else 0) → R9 [.d (.int (n : Int)), .ol (waysD i), .d (.int h), .d d, .dt (ents h ks), .d (.int (dd : Int)), .d (.int (pp : Int)), .d (.int (c : Int)), .d (.int w2)] := by
              intro w2 hw2
              refine hR9 _ ?_
              refine seq_step fun R10 hR10 => ?_
              have step3 : ∀ w3 : Int, w3 = w2 + (if dd = 1 ∧ c = 0 then wv h 2 1 0 else 0) → R10 [.d (.int (n : Int)), .ol (waysD i), .d (.int h), .d d, .dt (ents h ks), .d (.int (dd : Int)), .d (.int (pp : Int)), .d (.int (c : Int)), .d (.int w3)] := by
                intro w3 hw3
                refine hR10 _ ?_
                walk_at "dl"
                have e3 : w3 = wv h dd c pp := by rw [gv, hw3, hw2, hw]
                rw [e3]
                refine ⟨small_line (by decide), ?_, hR7 _ ?_⟩
                · have : ks.length ≤ 18 := by rw [← hks, List.length_take]; exact Nat.min_le_right _ _
                  show (ents h ks).length < sizeLine
                  unfold ents; rw [List.length_map, sizeLine_eq]; omega
                · have := putN_ents h (dd, c, pp) ks g3
                  rw [show 6 * a + 2 * b + (c + 1) = 6 * a + 2 * b + c + 1 by omega, g2, ← this]
                  exact ⟨_, _, rfl⟩
              walk_at "dl"
              by_cases z1 : dd = 1
              · rw [if_pos (by omega)]
                by_cases z2 : c = 0
                · rw [if_pos (by omega)]
                  refine ⟨small_line (by decide), ?_⟩
                  have := valN_ents h (2, 1, 0) ks
                  rw [if_pos (g6 z1 z2)] at this
                  rw [show PyData.tuple [.int 2, .int 1, .int 0] = kD (2, 1, 0) from rfl, this]
                  exact step3 _ (by rw [if_pos ⟨z1, z2⟩])
                · rw [if_neg (by omega)]
                  exact step3 _ (by rw [if_neg (fun z => z2 z.2)]; omega)
              · rw [if_neg (by omega)]
                exact step3 _ (by rw [if_neg (fun z => z1 z.1)]; omega)
            walk_at "dl"
            by_cases z1 : dd = 0
            · rw [if_pos (by omega)]
              by_cases z2 : c = 1
              · rw [if_pos (by omega)]
                refine ⟨small_line (by decide), ?_⟩
                have := valN_ents h (1, 0, 0) ks
                rw [if_pos (g5 z1 z2)] at this
                rw [show PyData.tuple [.int 1, .int 0, .int 0] = kD (1, 0, 0) from rfl, this]
                exact step2 _ (by rw [if_pos ⟨z1, z2⟩])
              · rw [if_neg (by omega)]
                exact step2 _ (by rw [if_neg (fun z => z2 z.2)]; omega)
            · rw [if_neg (by omega)]
              exact step2 _ (by rw [if_neg (fun z => z1 z.1)]; omega)
          walk_at "dl"
          by_cases z : pp = 2
          · rw [if_pos (by omega)]
            exact step1 _ (by rw [if_pos z])
          · rw [if_neg (by omega)]
            refine ⟨small_line (by decide), ?_⟩
            have := valN_ents h (dd, 1 - c, pp + 1) ks
            rw [if_pos (g4 z)] at this
            rw [show PyData.tuple [.int (dd : Int), .int (1 - (c : Int)), .int ((pp : Int) + 1)] = kD (dd, 1 - c, pp + 1) by unfold kD; congr 3 <;> simp <;> omega, this]
            exact step1 _ (by rw [if_neg z])
        · obtain ⟨e7, e8, rfl⟩ := hE
          exact hR6 _ ⟨_, _, _, by rw [show 6 * a + 2 * (b + 1) = 6 * a + 2 * b + 2 by omega]; rfl⟩
      · obtain ⟨c6, c7, c8, rfl⟩ := hE
        exact hR5 _ ⟨_, _, _, _, by rw [show 6 * (a + 1) = 6 * a + 2 * 3 by omega]; rfl⟩
    · obtain ⟨b5, b6, b7, b8, rfl⟩ := hE
      refine hR4 _ ?_
      refine seq_step fun R5 hR5 => ?_
      walk_at "dl"
      refine ⟨by rw [waysD_len, sizeLine_eq]; omega, hR5 _ ?_⟩
      walk_at "dl"
      refine ⟨small_line (by decide), ?_⟩
      have := valN_ents (fr i) (0, 1, 0) k18
      rw [if_pos (by decide)] at this
      rw [show PyData.tuple [.int 0, .int 1, .int 0] = kD (0, 1, 0) from rfl, show List.take (6 * (0 + 1 + 1 + 1)) k18 = k18 from rfl, this]
      have ew : waysD i ++ [PyData.dict (ents (fr i) k18)] = waysD (i + 1) := by unfold waysD; rw [List.range_succ, List.map_append]; rfl
      rw [ew]
      exact hR2 _ ⟨_, _, _, _, _, _, by rw [fr_step]⟩
  · obtain ⟨a3, a4, a5, a6, a7, a8, rfl⟩ := hE
    refine hR _ ?_
    walk_at "dl"
    rw [rangeD_length]; exact q
end DL

set_option Elab.async false
set_option linter.all false
set_option maxRecDepth 100000
set_option maxHeartbeats 4000000
namespace DL
open PySem PySem.Spec PyProof.Rows L2
local macro_rules | `(tactic| walk_at "dl") => `(tactic| simp only [tV, tVr, tFzV, turnD, DL.wipeE, tK, tOpD, tUnD, tBo, tAndD, tOrD, tNotD, tIfE, DL.tAndV, DL.tOrV, DL.tNotV, tTru, truD, okLen, sSet, sSetL, sExpr, sRet, sIf, sNx, tTupD, dNil, dCons, tLstD, tFzD, tApp, tExtd, tPopAt, sSetIx, tIxO, tChainD, tChain3D, tRevT, caStr, opRepT, opAdd, opSub, opMul, opDiv, opMod, opPow, DL.opI, DL.opI0, opB0, opLt, opLe, opGt, opGtD, opLtD, opGe, opEq, opNe, opIs, opIsN, isNone, opIn, opNotIn, opIx, atD_0, atD_1, atD_2, atD_3, putD_0, unNeg, tCa1, tCa2, tCaL1, caLen, caAbs, caMax2, caMin2, caSum, caMax, caMin, caSumT, caMaxT, caMinT, caAll, caTuple, caList, caInt, tIsi, isInt, isBool, isStr, isTuple, isList, notDict, sAsg, gSet, gTupD, gsNil, gsCons, sPar, pNil, pD, pL, setAll, tCallD, aNil, aV, aO, argS, oixs, ndp, putO, tOpL, opCat, opRep, tSlD, slD, tSlL, oNo, oE, tRevD, iLstD, iTupD, iRange1, iRange2, iZipD, iZipM, finO, tTrue, Option.map, eqv_int, eqv_bool, eqv_none, shaped_int, shaped_bool, shaped_none, tLenRange, tSortSet, tLenSet, tLenSetP, tSortSetP, tCountL, tCountT, tIndexL, tIndexT, DL.tOrT, DL.tAndT, DL.tNotT, tSortRev, caSorted, iEnumL, iEnumT, tDGetV, tDGetD, tDGet2V, dictAt, sDPutV, sSetM, mDt, mDk, pM, tInN, tNotInN, keyB_2, keyB_3, keyB_4, decide_eq_true_eq, and_self, List.cons_append, List.nil_append, List.replicate, List.getElem?_cons_zero, List.getElem?_cons_succ, List.set_cons_zero, List.set_cons_succ, List.length_cons, List.length_nil, true_and, and_true, if_true, if_false, Bool.false_eq_true, List.contains_nil, Bool.not_false, Bool.not_true, Bool.and_self, Bool.and_true, Bool.true_and, decide_true, decide_false, beq_self_eq_true])
def tb_ways_from (sp_last_but_pass : SpD) (sp_last_bid : SpD) (sp_is_over : SpD) : TSd :=
  sSeq (sIf (tTru (tCallD sp_is_over (aV (tV 1) (aNil)))) (sRet (tK (.int 1))) (sNx))
      (sSeq (sPar [2, 3] (pD (tCallD sp_last_but_pass (aV (tV 1) (aNil))) (pD (tCallD sp_last_bid (aV (tV 1) (aNil))) (pNil))))
      (sSeq (sIf (tBo (tOpD opIs (tV 3) (tK .none))) (sRet (tOpD opAdd (tK (.int 1)) (tOpD opMul (tOpD opSub (tK (.int 4)) (tCa1 caLen (tV 1))) (tCa1 caSum (tFzD (tComp (iLstD (tV 0)) (gSet 6) (tTrue) (tDGetV 6 (tTupD (dCons (tK (.int 0)) (dCons (tK (.int 1)) (dCons (tK (.int 0)) (dNil)))))) [6])))))) (sNx))
      (sSeq (sSet 4 (tOpD opAdd (tCountT (tSlD (tV 1) (oE (tV 3)) (oNo)) (tK (.str "double"))) (tCountT (tSlD (tV 1) (oE (tV 3)) (oNo)) (tK (.str "redouble")))))
      (sSeq (sSet 5 (tOpD opSub (tOpD opSub (tCa1 caLen (tV 0)) (tK (.int 1))) (tOpD opAdd (tOpD opSub (tOpD opMul (tK (.int 5)) (tOpD opIx (tOpD opIx (tV 1) (tV 3)) (tK (.int 0)))) (tK (.int 5))) (tOpD opIx (tOpD opIx (tV 1) (tV 3)) (tK (.int 1))))))
      (sRet (tDGetD (tOpD opIx (tV 0) (tV 5)) (tTupD (dCons (tV 4) (dCons (tOpD opMod (tOpD opSub (tCa1 caLen (tV 1)) (tV 3)) (tK (.int 2))) (dCons (tOpD opSub (tOpD opSub (tCa1 caLen (tV 1)) (tK (.int 1))) (tV 2)) (dNil)))))))))))
def tb_rows_from (sp_ways_behind : SpD) (sp_ways_from : SpD) : TSd :=
  sRet (tCallD sp_ways_from (aV (tCallD sp_ways_behind (aV (tOpD opMul (tK (.int 5)) (tV 0)) (aNil))) (aV (tV 1) (aNil))))
def tb_rows_in_all (sp_rows_from : SpD) : TSd :=
  sRet (tCallD sp_rows_from (aV (tV 0) (aV (tTupD (dNil)) (aNil))))
open Call
theorem cmul_wide {i j : Int} (h1 : i.natAbs < 2 ^ 64) (h2 : j.natAbs < 2 ^ 180) : CMulW i j := wide_mul (a := 64) (b := 180) h1 h2 (by decide) (by decide) (by decide)
theorem fr_abs {n : Nat} (h : n ≤ 35) : (fr n).natAbs < 2 ^ 180 := by
  have h1 := fr_small n h
  have h2 := fr_nn n
  have : ((2 : Int) ^ 170) < 2 ^ 180 := by decide
  omega
theorem waysD_get {n k : Nat} (h : k < n) : (waysD n)[k]? = some (.dict (ents (fr k) k18)) := by
  unfold waysD; rw [List.getElem?_map, List.getElem?_range h]; rfl
theorem k18_mem : ∀ d < 3, ∀ o < 2, ∀ p < 3, (d, o, p) ∈ k18 := by
  intro d hd o ho p hp
  have hd : d = 0 ∨ d = 1 ∨ d = 2 := by omega
  have ho : o = 0 ∨ o = 1 := by omega
  have hp : p = 0 ∨ p = 1 ∨ p = 2 := by omega
  rcases hd with rfl | rfl | rfl <;> rcases ho with rfl | rfl <;> rcases hp with rfl | rfl | rfl <;> simp [k18]
def spWaysF : SpD := fun ss Q => ∃ (L : Nat) (cs : List Call), ss = [.d (.list (waysD (5 * L))), .d (rowD cs)] ∧ L ≤ 7 ∧ cs.length ≤ 1000 ∧ Reach L cs ∧ Q (.int (wRow L cs)) []
theorem sh_ways_from : ∀ ss QD, spWaysF ss QD → ss.length = 2 ∧ mpos 0 ss = [] := by rintro ss QD ⟨L, cs, rfl, _⟩; exact ⟨rfl, rfl⟩
theorem sum_ways (n : Nat) : ((List.range n).map fun k => wv (fr k) 0 1 0).sum = fr n := by
  rw [← sum_fr n, List.map_reverse, List.sum_reverse]
theorem rd_ways_from : ∀ ss QD, spWaysF ss QD → tb_ways_from spLastP spLastB spOver { nx := fun E' => finO [] E' (QD .none), rt := fun d E' => finO [] E' (QD d) } (ss ++ List.replicate 5 .un) := by
  rintro ss QD ⟨L, cs, rfl, hL, hc, hr, q⟩
  unfold tb_ways_from rowD
  refine seq_step fun R hR => ?_
  walk_at "dl"
  refine ⟨cs, rfl, ?_⟩
  walk_at "dl"
  by_cases ho : isOver cs = true
  · rw [if_pos ho]
    unfold wRow at q
    rw [if_pos ho] at q
    exact q
  · rw [if_neg ho]
    refine hR _ ?_
    refine seq_step fun R hR => ?_
    walk_at "dl"
    refine ⟨cs, rfl, ?_⟩
    walk_at "dl"
    refine ⟨cs, rfl, ?_⟩
    walk_at "dl"
    refine hR _ ?_
    refine seq_step fun R hR => ?_
    cases hj : lastIx isBid cs with
    | none =>
      have hw : wRow L cs = 1 + (4 - (cs.length : Int)) * fr (5 * L) := by unfold wRow; rw [if_neg ho, hj]
      rw [hw] at q
      simp only [optD]
      walk_at "dl"
      refine comp_map (E1 := [.d (.list (waysD (5 * L))), .d (.tuple (cs.map enc)), .d (optD (lastIx said cs)), .d .none, .un, .un, .un]) (List.range (5 * L)) (fun k => .dict (ents (fr k) k18)) (fun k => .int (wv (fr k) 0 1 0)) (fun Q h => h) (un1 rfl) (by rw [List.length_range]; exact small_line (by omega)) (fun k hk R2 hq => ?_) ?_
      · walk_at "dl"
        refine ⟨small_line (by decide), ?_⟩
        have := valN_ents (fr k) (0, 1, 0) k18
        rw [if_pos (k18_mem 0 (by decide) 1 (by decide) 0 (by decide))] at this
        rw [show PyData.tuple [.int 0, .int 1, .int 0] = kD (0, 1, 0) from rfl, this]
        exact hq _ rfl
      · refine ⟨(List.range (5 * L)).map fun k => wv (fr k) 0 1 0, by rw [List.map_map]; rfl, ?_⟩
        rw [sum_ways, List.length_map]
        have h5 : 5 * L ≤ 35 := by omega
        exact ⟨cmul_wide (by omega) (fr_abs h5), q⟩
    | some j =>
      have hw : wRow L cs = wv (fr (leftOf L (lastB cs))) (stand cs - 1) (((cs.length : Int) - j) % 2).toNat (quiet cs).toNat := by unfold wRow; rw [if_neg ho, hj]
      rw [hw] at q
      obtain ⟨r1, ⟨l, s, r2, r3, r4⟩, r5, r6, r7⟩ := hr.ri.sm j hj
      obtain ⟨o1, o2⟩ := over_quiet hr hj
      have q3 : quiet cs ≠ 3 := fun z => ho (o1.mpr z)
      have q0 := quiet_nn cs
      have hst := hr.good.st
      have s3 : stand cs ≤ 3 := by rcases stand_last cs hst with ⟨a, _⟩ | ⟨a, _⟩ | ⟨a, _⟩ | ⟨a, _⟩ <;> omega
      have hlb : lastB cs = (l, s) := by unfold lastB; rw [r3]; rfl
      rw [hlb] at q
      obtain ⟨l1, l2⟩ := left_lt L hL (l, s) r4
      obtain ⟨i2, hi2⟩ : ∃ i, lastIx said cs = some i := by
        cases e : lastIx said cs with
        | some i => exact ⟨i, rfl⟩
        | none =>
          have hs : ixOf said cs ≠ [] := bids_said (by rw [hj]; simp)
          rcases last_spec said cs with ⟨_, _, e3⟩ | ⟨i, c, e1, _⟩
          · exact absurd e3 hs
          · rw [e] at e1; cases e1
      have hq2 : quiet cs = (cs.length : Int) - 1 - (i2 : Int) := by unfold quiet; rw [hi2]
      have hab := after_bid cs hst j hj
      have hbd := allB_pos r4
      simp only [optD, hi2]
      walk_at "dl"
      refine hR _ ?_
      have cut : cutD (cs.map enc) (some (j : Int)) none = (cs.drop j).map enc := by rw [cut_from (by omega), Int.toNat_natCast, List.map_drop]
      refine seq_step fun R hR => ?_
      walk_at "dl"
      rw [cut, show (PyData.str "double") = Call.dbl.enc from rfl, show (PyData.str "redouble") = Call.rdb.enc from rfl, cnt_enc, cnt_enc]
      refine ⟨⟨sh_map 59 _, sh_enc 59 .dbl⟩, ⟨sh_map 59 _, sh_enc 59 .rdb⟩, hR _ ?_⟩
      have hd : (((cs.drop j).count .dbl : Nat) : Int) + (((cs.drop j).count .rdb : Nat) : Int) = ((stand cs - 1 : Nat) : Int) := by
        rw [hab.1, hab.2]
        have : stand cs = 1 ∨ stand cs = 2 ∨ stand cs = 3 := by omega
        rcases this with e | e | e <;> rw [e] <;> rfl
      rw [hd]
      refine seq_step fun R hR => ?_
      walk_at "dl"
      rw [waysD_len]
      refine atD_at (d := (Call.bid l s).enc) (xs := cs.map enc) (by omega) (by rw [Int.toNat_natCast]; exact get_row r2) ?_
      simp only [Call.enc]
      walk_at "dl"
      refine ⟨cmul_small (by decide) (by omega), ?_⟩
      refine atD_at (d := (Call.bid l s).enc) (xs := cs.map enc) (by omega) (by rw [Int.toNat_natCast]; exact get_row r2) ?_
      simp only [Call.enc]
      walk_at "dl"
      refine hR _ ?_
      have hl3 : ((5 * L : Nat) : Int) - 1 - (5 * l - 5 + s) = ((leftOf L (l, s) : Nat) : Int) := by rw [l2]; simp
      rw [hl3]
      walk_at "dl"
      refine atD_at (d := .dict (ents (fr (leftOf L (l, s))) k18)) (by omega) (by rw [Int.toNat_natCast]; exact waysD_get l1) ?_
      walk_at "dl"
      rw [List.length_map]
      refine ⟨by decide, small_line (by decide), ?_⟩
      have hm : (((cs.length : Int) - j) % 2).toNat < 2 := by omega
      have := valN_ents (fr (leftOf L (l, s))) (stand cs - 1, (((cs.length : Int) - j) % 2).toNat, (quiet cs).toNat) k18
      rw [if_pos (k18_mem _ (by omega) _ hm _ (by omega))] at this
      rw [show PyData.tuple [.int ((stand cs - 1 : Nat) : Int), .int (((cs.length : Int) - j) % 2), .int ((cs.length : Int) - 1 - (i2 : Int))] = kD (stand cs - 1, (((cs.length : Int) - j) % 2).toNat, (quiet cs).toNat) by
        have e1 : ((((cs.length : Int) - j) % 2).toNat : Int) = ((cs.length : Int) - j) % 2 := by omega
        have e2 : ((quiet cs).toNat : Int) = (cs.length : Int) - 1 - (i2 : Int) := by omega
        show _ = PyData.tuple [.int ((stand cs - 1 : Nat) : Int), .int ((((cs.length : Int) - j) % 2).toNat : Int), .int ((quiet cs).toNat : Int)]
        rw [e1, e2], this]
      exact q
def spRowsF : SpD := fun ss Q => ∃ (L : Nat) (cs : List Call), ss = [.d (.int (L : Int)), .d (rowD cs)] ∧ L ≤ 7 ∧ cs.length ≤ 1000 ∧ Reach L cs ∧ Q (.int (wRow L cs)) []
theorem sh_rows_from : ∀ ss QD, spRowsF ss QD → ss.length = 2 ∧ mpos 0 ss = [] := by rintro ss QD ⟨L, cs, rfl, _⟩; exact ⟨rfl, rfl⟩
theorem rd_rows_from : ∀ ss QD, spRowsF ss QD → tb_rows_from spWaysB spWaysF { nx := fun E' => finO [] E' (QD .none), rt := fun d E' => finO [] E' (QD d) } (ss ++ List.replicate 0 .un) := by
  rintro ss QD ⟨L, cs, rfl, hL, hc, hr, q⟩
  unfold tb_rows_from
  walk_at "dl"
  refine ⟨cmul_small (by decide) (by omega), 5 * L, by simp, by omega, ?_⟩
  walk_at "dl"
  exact ⟨L, cs, rfl, hL, hc, hr, q⟩
def spRowsA : SpD := fun ss Q => ∃ (L : Nat), ss = [.d (.int (L : Int))] ∧ L ≤ 7 ∧ Q (.int (wRow L [])) []
theorem sh_rows_in_all : ∀ ss QD, spRowsA ss QD → ss.length = 1 ∧ mpos 0 ss = [] := by rintro ss QD ⟨L, rfl, _⟩; exact ⟨rfl, rfl⟩
theorem rd_rows_in_all : ∀ ss QD, spRowsA ss QD → tb_rows_in_all spRowsF { nx := fun E' => finO [] E' (QD .none), rt := fun d E' => finO [] E' (QD d) } (ss ++ List.replicate 0 .un) := by
  rintro ss QD ⟨L, rfl, hL, q⟩
  unfold tb_rows_in_all
  walk_at "dl"
  exact ⟨small_line (by decide), L, [], rfl, hL, by simp, .nil, q⟩
end DL

set_option Elab.async false
set_option linter.all false
set_option maxRecDepth 100000
set_option maxHeartbeats 4000000
/-! FnDictT: dicts of counts by typed keys (plain) -/
namespace DL
open PySem PySem.Spec PyProof.Rows L2
section
variable {κ : Type} [DecidableEq κ]
def encL (enc : κ → D) (l : List (κ × Int)) : List (D × D) := l.map fun p => (enc p.1, .int p.2)
def getL (l : List (κ × Int)) (k : κ) : Option Int := (l.find? fun p => decide (p.1 = k)).map (·.2)
def addL (l : List (κ × Int)) (k : κ) (w : Int) : List (κ × Int) := if k ∈ l.map (·.1) then l.map (fun p => if p.1 = k then (p.1, p.2 + w) else p) else l ++ [(k, w)]
def wtL (V : κ → Int) (l : List (κ × Int)) : Int := (l.map fun p => p.2 * V p.1).sum
theorem getL_cons (p : κ × Int) (l : List (κ × Int)) (k : κ) : getL (p :: l) k = if p.1 = k then some p.2 else getL l k := by
  unfold getL
  rw [List.find?_cons]
  by_cases h : p.1 = k
  · rw [if_pos h, decide_eq_true h]; rfl
  · rw [if_neg h, decide_eq_false h]
theorem getL_none {l : List (κ × Int)} {k : κ} : getL l k = none ↔ k ∉ l.map (·.1) := by
  induction l with
  | nil => exact ⟨(fun _ h => nomatch h), fun _ => rfl⟩
  | cons p l ih =>
    rw [getL_cons, List.map_cons, List.mem_cons, not_or]
    by_cases h : p.1 = k
    · rw [if_pos h]; exact ⟨(fun z => nomatch z), fun z => absurd h.symm z.1⟩
    · rw [if_neg h, ih]; exact ⟨fun z => ⟨fun y => h y.symm, z⟩, fun z => z.2⟩
theorem wtL_cons (V : κ → Int) (p : κ × Int) (l : List (κ × Int)) : wtL V (p :: l) = p.2 * V p.1 + wtL V l := by unfold wtL; rw [List.map_cons, List.sum_cons]
theorem wtL_nil (V : κ → Int) : wtL V ([] : List (κ × Int)) = 0 := rfl
theorem wtL_app (V : κ → Int) (a b : List (κ × Int)) : wtL V (a ++ b) = wtL V a + wtL V b := by unfold wtL; rw [List.map_append, List.sum_append]
theorem bump_off {l : List (κ × Int)} {k : κ} {w : Int} (h : k ∉ l.map (·.1)) : l.map (fun p => if p.1 = k then (p.1, p.2 + w) else p) = l := by
  have : l.map (fun p => if p.1 = k then (p.1, p.2 + w) else p) = l.map id := List.map_congr_left fun p hp => by
    rw [if_neg (fun z => h (by rw [← z]; exact List.mem_map.mpr ⟨p, hp, rfl⟩))]; rfl
  rw [this, List.map_id]
theorem wtL_add (V : κ → Int) {l : List (κ × Int)} (nd : (l.map (·.1)).Nodup) (k : κ) (w : Int) : wtL V (addL l k w) = wtL V l + w * V k := by
  unfold addL
  split
  · rename_i h
    induction l with
    | nil => cases h
    | cons p l ih =>
      obtain ⟨n1, n2⟩ := List.nodup_cons.mp nd
      rw [List.map_cons, wtL_cons, wtL_cons]
      by_cases e : p.1 = k
      · rw [if_pos e, bump_off (by rw [← e]; exact n1), e]
        show (p.2 + w) * V k + _ = _
        rw [Int.add_mul]; omega
      · rw [if_neg e, ih n2 (by rcases List.mem_cons.mp h with z | z; exact absurd z.symm e; exact z)]
        omega
  · rw [wtL_app, wtL_cons, wtL_nil]
    show _ + (w * V k + 0) = _
    omega
theorem addL_keys (l : List (κ × Int)) (k : κ) (w : Int) : (addL l k w).map (·.1) = if k ∈ l.map (·.1) then l.map (·.1) else l.map (·.1) ++ [k] := by
  unfold addL
  split
  · rw [List.map_map]; refine List.map_congr_left fun p _ => ?_
    show (if p.1 = k then (p.1, p.2 + w) else p).1 = p.1
    split <;> rfl
  · rw [List.map_append]; rfl
theorem addL_nodup {l : List (κ × Int)} (nd : (l.map (·.1)).Nodup) (k : κ) (w : Int) : ((addL l k w).map (·.1)).Nodup := by
  rw [addL_keys]
  split
  · exact nd
  · rename_i h
    exact List.nodup_append.mpr ⟨nd, by simp, fun a ha b hb e => by rw [List.mem_singleton.mp hb] at e; subst e; exact h ha⟩
theorem addL_mem {l : List (κ × Int)} {k x : κ} {w : Int} : x ∈ (addL l k w).map (·.1) ↔ x ∈ l.map (·.1) ∨ x = k := by
  rw [addL_keys]
  split
  · rename_i h; exact ⟨.inl, fun z => z.elim id fun e => by rw [e]; exact h⟩
  · rw [List.mem_append, List.mem_singleton]
theorem addL_len (l : List (κ × Int)) (k : κ) (w : Int) : (addL l k w).length ≤ l.length + 1 := by
  unfold addL
  split
  · rw [List.length_map]; omega
  · rw [List.length_append]; simp
variable {enc : κ → D}
theorem valN_encL (inj : ∀ a b, nkOf (enc a) = nkOf (enc b) ↔ a = b) (l : List (κ × Int)) (k : κ) : valN (encL enc l) (enc k) = (getL l k).map PyData.int := by
  induction l with
  | nil => rfl
  | cons p l ih =>
    show valN ((enc p.1, .int p.2) :: encL enc l) (enc k) = _
    rw [valN_cons, getL_cons, ih]
    by_cases e : p.1 = k
    · rw [if_pos ((inj _ _).mpr e), if_pos e]; rfl
    · rw [if_neg (fun z => e ((inj _ _).mp z)), if_neg e]
/-- d[k] = d.get(k, 0) + w -/
theorem putN_encL (inj : ∀ a b, nkOf (enc a) = nkOf (enc b) ↔ a = b) {l : List (κ × Int)} (nd : (l.map (·.1)).Nodup) (k : κ) (w : Int) : putN (encL enc l) (enc k) (.int ((getL l k).getD 0 + w)) = encL enc (addL l k w) := by
  unfold putN addL
  rw [valN_encL inj]
  by_cases h : k ∈ l.map (·.1)
  · rw [if_pos h]
    have hs : ((getL l k).map PyData.int).isSome = true := by
      cases g : getL l k with
      | none => exact absurd h (getL_none.mp g)
      | some v => rfl
    rw [if_pos hs]
    clear hs
    induction l with
    | nil => cases h
    | cons p l ih =>
      obtain ⟨n1, n2⟩ := List.nodup_cons.mp nd
      rw [getL_cons]
      show (if nkOf (enc p.1) = nkOf (enc k) then (enc p.1, PyData.int _) else (enc p.1, PyData.int p.2)) :: (encL enc l).map _ = (enc (if p.1 = k then (p.1, p.2 + w) else p).1, PyData.int (if p.1 = k then (p.1, p.2 + w) else p).2) :: encL enc (l.map _)
      by_cases e : p.1 = k
      · rw [if_pos e, if_pos ((inj _ _).mpr e), if_pos e, bump_off (by rw [← e]; exact n1)]
        congr 1
        have : (encL enc l).map (fun q => if nkOf q.1 = nkOf (enc k) then (q.1, PyData.int ((some p.2 : Option Int).getD 0 + w)) else q) = (encL enc l).map id := List.map_congr_left fun q hq => by
          obtain ⟨r, hr, rfl⟩ := List.mem_map.mp hq
          rw [if_neg fun z => n1 (List.mem_map.mpr ⟨r, hr, ((inj _ _).mp z).trans e.symm⟩)]; rfl
        rw [this, List.map_id]
      · have hk : k ∈ l.map (·.1) := by rcases List.mem_cons.mp h with z | z; exact absurd z.symm e; exact z
        rw [if_neg e, if_neg (fun z => e ((inj _ _).mp z)), if_neg e, ih n2 hk]
  · have hg := getL_none.mpr h
    rw [hg, if_neg h]
    show encL enc l ++ [(enc k, PyData.int (0 + w))] = encL enc (l ++ [(k, w)])
    unfold encL
    rw [List.map_append, Int.zero_add]; rfl
theorem tupKeys_encL (ht : ∀ k, ∃ xs, enc k = .tuple xs) (l : List (κ × Int)) : tupKeys (encL enc l) = true := by
  unfold tupKeys encL
  rw [List.all_map, List.all_eq_true]
  intro p _
  obtain ⟨xs, e⟩ := ht p.1
  show (match enc p.1 with | .tuple _ => true | _ => false) = true
  rw [e]
theorem encL_len (l : List (κ × Int)) : (encL enc l).length = l.length := List.length_map ..
end
end DL

set_option Elab.async false
set_option linter.all false
set_option maxRecDepth 100000
set_option maxHeartbeats 4000000
/-! FnStepT: all rows of calls at once, by what they can still come to (plain) -/
namespace DL
open PySem PySem.Spec PyProof.Rows L2
abbrev K3 := Int × Int × Int
abbrev K2 := Int × Int
def e3 (k : K3) : D := .tuple [.int k.1, .int k.2.1, .int k.2.2]
def e2 (k : K2) : D := .tuple [.int k.1, .int k.2]
theorem e3_inj (a b : K3) : nkOf (e3 a) = nkOf (e3 b) ↔ a = b := by
  constructor
  · intro h
    have : e3 a = e3 b := nk_inj (k := .tup [.num a.1, .num a.2.1, .num a.2.2]) rfl (by rw [← h]; rfl)
    unfold e3 at this
    simp only [PyData.tuple.injEq, List.cons.injEq, PyData.int.injEq, and_true] at this
    exact Prod.ext this.1 (Prod.ext this.2.1 this.2.2)
  · intro h; rw [h]
theorem e2_inj (a b : K2) : nkOf (e2 a) = nkOf (e2 b) ↔ a = b := by
  constructor
  · intro h
    have : e2 a = e2 b := nk_inj (k := .tup [.num a.1, .num a.2]) rfl (by rw [← h]; rfl)
    unfold e2 at this
    simp only [PyData.tuple.injEq, List.cons.injEq, PyData.int.injEq, and_true] at this
    exact Prod.ext this.1 this.2
  · intro h; rw [h]
/-! ### one step -/
def bidsN (n : Nat) (a : Int) : List K3 := (List.range ((n : Int) - (a + 1)).toNat).map fun i : Nat => (a + 1 + (i : Int), 0, 0)
def passG (k : K3) : Prop := k.2.2 < 2 ∨ (k.1 < 0 ∧ k.2.2 < 3)
instance (k : K3) : Decidable (passG k) := inferInstanceAs (Decidable (_ ∨ _))
def dblG (k : K3) : Prop := 0 ≤ k.1 ∧ k.2.1 < 2 ∧ k.2.2 ≠ 1
instance (k : K3) : Decidable (dblG k) := inferInstanceAs (Decidable (_ ∧ _))
def nextsN (n : Nat) (k : K3) : List K3 := bidsN n k.1 ++ (if passG k then [(k.1, k.2.1, k.2.2 + 1)] else []) ++ (if dblG k then [(k.1, k.2.1 + 1, 0)] else [])
def addsL (acc : List (K3 × Int)) (ks : List K3) (w : Int) : List (K3 × Int) := ks.foldl (fun a k => addL a k w) acc
def foundTo (n : Nat) (st : List (K3 × Int)) : List (K3 × Int) := st.foldl (fun acc p => addsL acc (nextsN n p.1) p.2) []
def endsTo (st : List (K3 × Int)) (en : List (K2 × Int)) : List (K2 × Int) := st.foldl (fun e p => if passG p.1 then e else addL e (p.1.1, p.1.2.1) p.2) en
structure NdL {κ : Type} [DecidableEq κ] (l : List (κ × Int)) : Prop where
  nd : (l.map (·.1)).Nodup
theorem adds_nd : ∀ (ks : List K3) (w : Int) (acc : List (K3 × Int)), (acc.map (·.1)).Nodup → ((addsL acc ks w).map (·.1)).Nodup
  | [], _, _, h => h
  | k :: ks, w, acc, h => adds_nd ks w (addL acc k w) (addL_nodup h k w)
theorem adds_wt (V : K3 → Int) : ∀ (ks : List K3) (w : Int) (acc : List (K3 × Int)), (acc.map (·.1)).Nodup → wtL V (addsL acc ks w) = wtL V acc + w * (ks.map V).sum
  | [], w, acc, _ => by show wtL V acc = wtL V acc + w * 0; omega
  | k :: ks, w, acc, h => by
    show wtL V (addsL (addL acc k w) ks w) = _
    rw [adds_wt V ks w _ (addL_nodup h k w), wtL_add V h, List.map_cons, List.sum_cons, Int.mul_add]; omega
theorem adds_mem {x : K3} : ∀ (ks : List K3) (w : Int) (acc : List (K3 × Int)), x ∈ (addsL acc ks w).map (·.1) ↔ x ∈ acc.map (·.1) ∨ x ∈ ks
  | [], w, acc => ⟨.inl, fun z => z.elim id fun y => nomatch y⟩
  | k :: ks, w, acc => by
    show x ∈ (addsL (addL acc k w) ks w).map (·.1) ↔ _
    rw [adds_mem ks w, addL_mem, List.mem_cons]
    constructor
    · rintro ((h | h) | h)
      · exact .inl h
      · exact .inr (.inl h)
      · exact .inr (.inr h)
    · rintro (h | h | h)
      · exact .inl (.inl h)
      · exact .inl (.inr h)
      · exact .inr h
theorem found_nd (n : Nat) : ∀ (st acc : List (K3 × Int)), (acc.map (·.1)).Nodup → ((st.foldl (fun acc p => addsL acc (nextsN n p.1) p.2) acc).map (·.1)).Nodup
  | [], _, h => h
  | p :: st, acc, h => found_nd n st _ (adds_nd _ _ _ h)
theorem found_mem (n : Nat) {x : K3} : ∀ (st acc : List (K3 × Int)), x ∈ (st.foldl (fun acc p => addsL acc (nextsN n p.1) p.2) acc).map (·.1) → x ∈ acc.map (·.1) ∨ ∃ p ∈ st, x ∈ nextsN n p.1
  | [], _, h => .inl h
  | p :: st, acc, h => by
    rcases found_mem n st _ h with z | ⟨q, hq, z⟩
    · rcases (adds_mem _ _ _).mp z with z | z
      · exact .inl z
      · exact .inr ⟨p, List.mem_cons_self .., z⟩
    · exact .inr ⟨q, List.mem_cons_of_mem _ hq, z⟩
theorem ends_nd : ∀ (st : List (K3 × Int)) (en : List (K2 × Int)), (en.map (·.1)).Nodup → ((endsTo st en).map (·.1)).Nodup
  | [], _, h => h
  | p :: st, en, h => by
    show ((endsTo st (if passG p.1 then en else addL en (p.1.1, p.1.2.1) p.2)).map (·.1)).Nodup
    refine ends_nd st _ ?_
    split
    · exact h
    · exact addL_nodup h _ _
/-- what is kept: V of the states and W of the ends -/
theorem step_wt (n : Nat) (V : K3 → Int) (W : K2 → Int) (ok : K3 → Prop) (hV : ∀ k, ok k → V k = ((nextsN n k).map V).sum + if passG k then 0 else W (k.1, k.2.1)) :
    ∀ (st acc : List (K3 × Int)) (en : List (K2 × Int)), (∀ p ∈ st, ok p.1) → (acc.map (·.1)).Nodup → (en.map (·.1)).Nodup →
      wtL V (st.foldl (fun acc p => addsL acc (nextsN n p.1) p.2) acc) + wtL W (endsTo st en) = wtL V acc + wtL V st + wtL W en
  | [], acc, en, _, _, _ => by show wtL V acc + wtL W en = wtL V acc + 0 + wtL W en; omega
  | p :: st, acc, en, h, h1, h2 => by
    show wtL V (st.foldl _ (addsL acc (nextsN n p.1) p.2)) + wtL W (endsTo st (if passG p.1 then en else addL en (p.1.1, p.1.2.1) p.2)) = _
    rw [step_wt n V W ok hV st _ _ (fun q hq => h q (List.mem_cons_of_mem _ hq)) (adds_nd _ _ _ h1) (by split; exact h2; exact addL_nodup h2 _ _), adds_wt V _ _ _ h1, wtL_cons, hV p.1 (h p (List.mem_cons_self ..)), Int.mul_add]
    split
    · omega
    · rw [wtL_add W h2]; omega
/-! ### which states there are -/
structure Ok3 (n : Nat) (k : K3) : Prop where
  a0 : -1 ≤ k.1
  a1 : k.1 < n
  d0 : 0 ≤ k.2.1
  d2 : k.2.1 ≤ 2
  q0 : 0 ≤ k.2.2
  q3 : k.2.2 ≤ 3
  no : k.1 = -1 → k.2.1 = 0
  yes : 0 ≤ k.1 → k.2.2 ≤ 2
def rk3 (k : K3) : Int := 9 * (k.1 + 1) + 3 * k.2.1 + k.2.2
theorem nexts_ok {n : Nat} {k x : K3} (h : Ok3 n k) (hx : x ∈ nextsN n k) : Ok3 n x ∧ rk3 k < rk3 x := by
  obtain ⟨a0, a1, d0, d2, q0, q3, no, yes⟩ := h
  unfold nextsN at hx
  rcases List.mem_append.mp hx with hx | hx
  · rcases List.mem_append.mp hx with hx | hx
    · unfold bidsN at hx
      obtain ⟨i, hi, rfl⟩ := List.mem_map.mp hx
      have hi := List.mem_range.mp hi
      refine ⟨⟨?_, ?_, ?_, ?_, ?_, ?_, ?_, ?_⟩, ?_⟩ <;> simp only [rk3] <;> omega
    · split at hx
      · rename_i g
        unfold passG at g
        rw [List.mem_singleton.mp hx]
        refine ⟨⟨?_, ?_, ?_, ?_, ?_, ?_, ?_, ?_⟩, ?_⟩ <;> simp only [rk3] <;> omega
      · cases hx
  · split at hx
    · rename_i g
      obtain ⟨g1, g2, g3⟩ := g
      rw [List.mem_singleton.mp hx]
      refine ⟨⟨?_, ?_, ?_, ?_, ?_, ?_, ?_, ?_⟩, ?_⟩ <;> simp only [rk3] <;> omega
    · cases hx
theorem rk_lt {n : Nat} {k : K3} (h : Ok3 n k) : rk3 k < 9 * (n : Int) + 9 := by
  obtain ⟨a0, a1, d0, d2, q0, q3, no, yes⟩ := h
  unfold rk3
  omega
/-! ### what they come to -/
def g3 : Int → Int → Int
  | 2, q => 3 - q
  | 1, 0 => 9
  | 1, q => 6 - q
  | 0, 0 => 21
  | 0, q => 12 - q
  | _, _ => 0
def gA (k : K3) : Int := if k.1 < 0 then 4 - k.2.2 else g3 k.2.1 k.2.2
/-- ends with times 1, 2, 4 of one bid, without a further one: (x0, x1, x2) the weights of the three -/
def f3 (x0 x1 x2 : Int) : Int → Int → Int
  | 2, _ => x2
  | 1, 0 => x1 + 2 * x2
  | 1, _ => x1 + x2
  | 0, 0 => x0 + 2 * x1 + 4 * x2
  | 0, _ => x0 + x1 + 2 * x2
  | _, _ => 0
theorem small3 {d q : Int} (d0 : 0 ≤ d) (d2 : d ≤ 2) (q0 : 0 ≤ q) (q2 : q ≤ 2) : (d = 0 ∨ d = 1 ∨ d = 2) ∧ (q = 0 ∨ q = 1 ∨ q = 2) := by omega
theorem g_step {n : Nat} {k : K3} (h : Ok3 n k) : gA k = 1 + (if passG k then gA (k.1, k.2.1, k.2.2 + 1) else 0) + (if dblG k then gA (k.1, k.2.1 + 1, 0) else 0) := by
  obtain ⟨a0, a1, d0, d2, q0, q3, no, yes⟩ := h
  obtain ⟨a, d, q⟩ := k
  by_cases ha : a < 0
  · have hd : d = 0 := no (by show a = -1; have : -1 ≤ a := a0; omega)
    subst hd
    have hq : q = 0 ∨ q = 1 ∨ q = 2 ∨ q = 3 := by have : 0 ≤ q := q0; have : q ≤ 3 := q3; omega
    have nd : ¬ dblG (a, 0, q) := fun z => by have := z.1; simp only at this; omega
    rw [if_neg nd]
    unfold gA passG
    simp only [if_pos ha]
    rcases hq with rfl | rfl | rfl | rfl <;> simp [ha]
  · obtain ⟨hd, hq⟩ := small3 d0 d2 q0 (yes (by show 0 ≤ a; omega))
    have ha' : 0 ≤ a := by omega
    unfold gA passG dblG
    simp only [if_neg ha]
    rcases hd with rfl | rfl | rfl <;> rcases hq with rfl | rfl | rfl <;> simp [ha, ha', g3]
theorem f_step {n : Nat} {x0 x1 x2 : Int} {k : K3} (h : Ok3 n k) (ha : 0 ≤ k.1) : f3 x0 x1 x2 k.2.1 k.2.2 = (if passG k then f3 x0 x1 x2 k.2.1 (k.2.2 + 1) else (if k.2.1 = 0 then x0 else if k.2.1 = 1 then x1 else x2)) + (if dblG k then f3 x0 x1 x2 (k.2.1 + 1) 0 else 0) := by
  obtain ⟨a0, a1, d0, d2, q0, q3, no, yes⟩ := h
  obtain ⟨a, d, q⟩ := k
  obtain ⟨hd, hq⟩ := small3 d0 d2 q0 (yes ha)
  have ha' : ¬ a < 0 := by have : 0 ≤ a := ha; omega
  have ha : 0 ≤ a := ha
  unfold passG dblG
  rcases hd with rfl | rfl | rfl <;> rcases hq with rfl | rfl | rfl <;> simp [ha, ha', f3] <;> omega
theorem sum_next (n : Nat) (V : K3 → Int) (k : K3) : ((nextsN n k).map V).sum = ((bidsN n k.1).map V).sum + (if passG k then V (k.1, k.2.1, k.2.2 + 1) else 0) + (if dblG k then V (k.1, k.2.1 + 1, 0) else 0) := by
  unfold nextsN
  rw [List.map_append, List.map_append, List.sum_append, List.sum_append]
  congr 1
  · congr 1
    split <;> simp
  · split <;> simp
/-- over all greater bids -/
theorem sum_bids (n : Nat) (V : K3 → Int) (S : Int → Int) (h0 : S ((n : Int) - 1) = 0) (hs : ∀ a, -1 ≤ a → a < (n : Int) - 1 → S a = V (a + 1, 0, 0) + S (a + 1)) : ∀ (m : Nat) (a : Int), -1 ≤ a → (n : Int) - (a + 1) = m → ((bidsN n a).map V).sum = S a
  | 0, a, _, e => by
    have : a = (n : Int) - 1 := by omega
    unfold bidsN
    rw [show ((n : Int) - (a + 1)).toNat = 0 by omega]
    show 0 = S a
    rw [this, h0]
  | m + 1, a, ha, e => by
    have ih := sum_bids n V S h0 hs m (a + 1) (by omega) (by omega)
    unfold bidsN at ih ⊢
    rw [show ((n : Int) - (a + 1)).toNat = ((n : Int) - (a + 1 + 1)).toNat + 1 by omega, List.range_succ_eq_map, List.map_cons, List.map_cons, List.sum_cons, List.map_map, hs a ha (by omega), ← ih]
    congr 1
    · show V (a + 1 + ((0 : Nat) : Int), 0, 0) = _
      rw [show a + 1 + ((0 : Nat) : Int) = a + 1 by omega]
    · rw [List.map_map, List.map_map]
      refine congrArg List.sum (List.map_congr_left fun i _ => ?_)
      show V (a + 1 + ((i + 1 : Nat) : Int), 0, 0) = V (a + 1 + 1 + (i : Int), 0, 0)
      rw [show a + 1 + ((i + 1 : Nat) : Int) = a + 1 + 1 + (i : Int) by omega]
/-! the three targets -/
def VN (k : K3) : Int := if k.1 < 0 then 1 else 0
def WN (k : K2) : Int := if k.1 < 0 then 1 else 0
def VA (n : Nat) (k : K3) : Int := (if k.1 < 0 then 1 else f3 1 1 1 k.2.1 k.2.2) + gA k * fr ((n : Int) - 1 - k.1).toNat
def xT (t i : Int) : Int := if t = i then 1 else 0
def VB (b t : Int) (k : K3) : Int := if k.1 = b then f3 (xT t 0) (xT t 1) (xT t 2) k.2.1 k.2.2 else if k.1 < b then gA k * (f3 (xT t 0) (xT t 1) (xT t 2) 0 0 * 22 ^ (b - 1 - k.1).toNat) else 0
def WB (b t : Int) (k : K2) : Int := if k.1 = b ∧ k.2 = t then 1 else 0
theorem VN_step (n : Nat) (k : K3) (h : Ok3 n k) : VN k = ((nextsN n k).map VN).sum + if passG k then 0 else WN (k.1, k.2.1) := by
  have ha := h.a0
  have ha1 := h.a1
  rw [sum_next, sum_bids n VN (fun _ => 0) rfl (fun a h1 h2 => by show 0 = VN (a + 1, 0, 0) + 0; unfold VN; rw [if_neg (by show ¬ a + 1 < 0; omega)]; rfl) ((n : Int) - (k.1 + 1)).toNat k.1 ha (by omega)]
  have hq := h.q3
  by_cases z : k.1 < 0
  · have nd : ¬ dblG k := fun y => by have := y.1; omega
    rw [if_neg nd]
    unfold VN WN
    rw [if_pos z]
    by_cases p : passG k
    · rw [if_pos p, if_pos p]; rfl
    · rw [if_neg p, if_neg p]; rfl
  · unfold VN WN
    rw [if_neg z]
    split <;> split <;> rfl
theorem fr_S (n : Nat) : ∀ a : Int, -1 ≤ a → a < (n : Int) - 1 → fr ((n : Int) - 1 - a).toNat = VA n (a + 1, 0, 0) + fr ((n : Int) - 1 - (a + 1)).toNat := fun a h1 h2 => by
  obtain ⟨m, hm⟩ : ∃ m : Nat, ((n : Int) - 1 - a).toNat = m + 1 := ⟨((n : Int) - 1 - a).toNat - 1, by omega⟩
  have e : ((n : Int) - 1 - (a + 1)).toNat = m := by omega
  unfold VA gA
  rw [if_neg (by show ¬ a + 1 < 0; omega), if_neg (by show ¬ a + 1 < 0; omega), hm, e]
  show 22 * fr m + 7 = 7 + 21 * fr m + fr m
  omega
theorem VA_step (n : Nat) (k : K3) (h : Ok3 n k) : VA n k = ((nextsN n k).map (VA n)).sum + if passG k then 0 else 1 := by
  have ha := h.a0
  have ha1 := h.a1
  have g := g_step h
  rw [sum_next, sum_bids n (VA n) (fun a => fr ((n : Int) - 1 - a).toNat) (by show fr ((n : Int) - 1 - ((n : Int) - 1)).toNat = 0; rw [show ((n : Int) - 1 - ((n : Int) - 1)).toNat = 0 by omega]; rfl) (fr_S n) ((n : Int) - (k.1 + 1)).toNat k.1 ha (by omega)]
  unfold VA
  rw [g]
  generalize fr ((n : Int) - 1 - k.1).toNat = F
  by_cases z : k.1 < 0
  · have nd : ¬ dblG k := fun y => by have := y.1; omega
    rw [if_pos z, if_neg nd, if_neg nd]
    dsimp only
    by_cases p : passG k
    · rw [if_pos p, if_pos p, if_pos p, if_pos z]; simp only [Int.add_mul]; omega
    · rw [if_neg p, if_neg p, if_neg p]; simp only [Int.add_mul]; omega
  · have fs := f_step (x0 := 1) (x1 := 1) (x2 := 1) h (by omega)
    rw [if_neg z]
    dsimp only
    rw [if_neg z, if_neg z, fs]
    have e1 : (if k.2.1 = 0 then (1 : Int) else if k.2.1 = 1 then 1 else 1) = 1 := by split <;> (try split) <;> rfl
    rw [e1]
    by_cases p : passG k
    · by_cases q : dblG k
      · simp only [if_pos p, if_pos q, Int.add_mul]; omega
      · simp only [if_pos p, if_neg q, Int.add_mul]; omega
    · by_cases q : dblG k
      · simp only [if_neg p, if_pos q, Int.add_mul]; omega
      · simp only [if_neg p, if_neg q, Int.add_mul]; omega
theorem VB_S (n : Nat) (b t : Int) (b0 : 0 ≤ b) (bn : b < n) : ∀ a : Int, -1 ≤ a → a < (n : Int) - 1 → (if a < b then f3 (xT t 0) (xT t 1) (xT t 2) 0 0 * 22 ^ (b - 1 - a).toNat else 0) = VB b t (a + 1, 0, 0) + (if a + 1 < b then f3 (xT t 0) (xT t 1) (xT t 2) 0 0 * 22 ^ (b - 1 - (a + 1)).toNat else 0) := fun a h1 h2 => by
  unfold VB
  dsimp only
  generalize f3 (xT t 0) (xT t 1) (xT t 2) 0 0 = T
  rcases Int.lt_trichotomy (a + 1) b with z | z | z
  · rw [if_pos (by omega), if_neg (by omega), if_pos z, if_pos z]
    obtain ⟨m, hm⟩ : ∃ m : Nat, (b - 1 - a).toNat = m + 1 := ⟨(b - 1 - a).toNat - 1, by omega⟩
    rw [hm, show (b - 1 - (a + 1)).toNat = m by omega]
    unfold gA
    dsimp only
    rw [if_neg (by omega), Int.pow_succ]
    show T * (22 ^ m * 22) = 21 * (T * 22 ^ m) + T * 22 ^ m
    have : T * (22 ^ m * 22) = 22 * (T * 22 ^ m) := by rw [← Int.mul_assoc, Int.mul_comm]
    omega
  · rw [if_pos (by omega), if_pos z, if_neg (by omega), show (b - 1 - a).toNat = 0 by omega]
    show T * 1 = T + 0
    omega
  · rw [if_neg (by omega), if_neg (by omega), if_neg (by omega), if_neg (by omega)]; rfl
theorem VB_step (n : Nat) (b t : Int) (b0 : 0 ≤ b) (bn : b < n) (t0 : 0 ≤ t) (t2 : t ≤ 2) (k : K3) (h : Ok3 n k) : VB b t k = ((nextsN n k).map (VB b t)).sum + if passG k then 0 else WB b t (k.1, k.2.1) := by
  have ha := h.a0
  have ha1 := h.a1
  have hd0 := h.d0
  have hd2 := h.d2
  have g := g_step h
  rw [sum_next, sum_bids n (VB b t) (fun a => if a < b then f3 (xT t 0) (xT t 1) (xT t 2) 0 0 * 22 ^ (b - 1 - a).toNat else 0) (by show (if (n : Int) - 1 < b then _ else (0 : Int)) = 0; rw [if_neg (by omega)]) (VB_S n b t b0 bn) ((n : Int) - (k.1 + 1)).toNat k.1 ha (by omega)]
  unfold VB WB
  rcases Int.lt_trichotomy k.1 b with z | z | z
  · have ne : ¬ k.1 = b := by omega
    simp only [if_neg ne, if_pos z]
    rw [if_neg (fun y : k.1 = b ∧ k.2.1 = t => ne y.1), g]
    generalize f3 (xT t 0) (xT t 1) (xT t 2) 0 0 * 22 ^ (b - 1 - k.1).toNat = T
    by_cases p : passG k
    · by_cases q : dblG k
      · simp only [if_pos p, if_pos q, Int.add_mul]; omega
      · simp only [if_pos p, if_neg q, Int.add_mul]; omega
    · by_cases q : dblG k
      · simp only [if_neg p, if_pos q, Int.add_mul]; omega
      · simp only [if_neg p, if_neg q, Int.add_mul]; omega
  · have fs := f_step (x0 := xT t 0) (x1 := xT t 1) (x2 := xT t 2) h (by omega)
    have nl : ¬ k.1 < b := by omega
    simp only [if_pos z, if_neg nl]
    rw [fs]
    have e1 : (if k.2.1 = 0 then xT t 0 else if k.2.1 = 1 then xT t 1 else xT t 2) = if k.1 = b ∧ k.2.1 = t then 1 else 0 := by
      unfold xT
      have hd : k.2.1 = 0 ∨ k.2.1 = 1 ∨ k.2.1 = 2 := by omega
      rcases hd with y | y | y <;> rw [y] <;> simp [z] <;> (by_cases w : t = 0 <;> by_cases w1 : t = 1 <;> by_cases w2 : t = 2 <;> simp [w, w1, w2, eq_comm] <;> omega)
    rw [e1]
    by_cases p : passG k
    · simp only [if_pos p]; omega
    · simp only [if_neg p]; omega
  · have ne : ¬ k.1 = b := by omega
    have nl : ¬ k.1 < b := by omega
    simp only [if_neg ne, if_neg nl]
    rw [if_neg (fun y : k.1 = b ∧ k.2.1 = t => ne y.1)]
    split <;> split <;> rfl
end DL

set_option Elab.async false
set_option linter.all false
set_option maxRecDepth 100000
set_option maxHeartbeats 4000000
namespace DL
open PySem PySem.Spec PyProof.Rows L2
local macro_rules | `(tactic| walk_at "dl") => `(tactic| simp only [tV, tVr, tFzV, turnD, DL.wipeE, tK, tOpD, tUnD, tBo, tAndD, tOrD, tNotD, tIfE, DL.tAndV, DL.tOrV, DL.tNotV, tTru, truD, okLen, sSet, sSetL, sExpr, sRet, sIf, sNx, tTupD, dNil, dCons, tLstD, tFzD, tApp, tExtd, tPopAt, sSetIx, tIxO, tChainD, tChain3D, tRevT, caStr, opRepT, opAdd, opSub, opMul, opDiv, opMod, opPow, DL.opI, DL.opI0, opB0, opLt, opLe, opGt, opGtD, opLtD, opGe, opEq, opNe, opIs, opIsN, isNone, opIn, opNotIn, opIx, atD_0, atD_1, atD_2, atD_3, putD_0, unNeg, tCa1, tCa2, tCaL1, caLen, caAbs, caMax2, caMin2, caSum, caMax, caMin, caSumT, caMaxT, caMinT, caAll, caTuple, caList, caInt, tIsi, isInt, isBool, isStr, isTuple, isList, notDict, sAsg, gSet, gTupD, gLstD, gsNil, gsCons, sPar, pNil, pD, pL, setAll, tCallD, aNil, aV, aO, argS, oixs, ndp, putO, tOpL, opCat, opRep, tSlD, slD, tSlL, oNo, oE, tRevD, iLstD, iTupD, iRange1, iRange2, iZipD, iZipM, finO, tTrue, Option.map, eqv_int, eqv_bool, eqv_none, shaped_int, shaped_bool, shaped_none, tLenRange, tSortSet, tLenSet, tLenSetP, tSortSetP, tCountL, tCountT, tIndexL, tIndexT, DL.tOrT, DL.tAndT, DL.tNotT, tSortRev, caSorted, iEnumL, iEnumT, tDGetV, tDGetD, tDGet2V, dictAt, sDPutV, sSetM, mDt, mDk, pM, tInN, tNotInN, tCallM, amM, amV, tListRg, iDk, iDv, iDi, tLDk, tLDv, tTruDk, mDt1, tFzM, tCall0D, keyB_2, keyB_3, keyB_4, decide_eq_true_eq, and_self, List.cons_append, List.nil_append, List.replicate, List.getElem?_cons_zero, List.getElem?_cons_succ, List.set_cons_zero, List.set_cons_succ, List.length_cons, List.length_nil, true_and, and_true, if_true, if_false, Bool.false_eq_true, List.contains_nil, Bool.not_false, Bool.not_true, Bool.and_self, Bool.and_true, Bool.true_and, decide_true, decide_false, beq_self_eq_true])
def tb_law_step : TSd :=
  sSeq (sSetM 3 (mDt))
      (sSeq (sFor (iDi (tV 0)) (gTupD 2 (gsCons (gTupD 3 (gsCons (gSet 4) (gsCons (gSet 5) (gsCons (gSet 6) (gsNil))))) (gsCons (gSet 7) (gsNil)))) (sSeq (sSetL 8 (tComp (iRange2 (tOpD opAdd (tV 4) (tK (.int 1))) (tV 2)) (gSet 10) (tTrue) (tTupD (dCons (tV 10) (dCons (tK (.int 0)) (dCons (tK (.int 0)) (dNil))))) [10]))
      (sSeq (sIf (tOrD (tBo (tOpD opLt (tV 6) (tK (.int 2)))) (tAndD (tBo (tOpD opLt (tV 4) (tK (.int 0)))) (tBo (tOpD opLt (tV 6) (tK (.int 3)))))) (sExpr (tApp 8 (tTupD (dCons (tV 4) (dCons (tV 5) (dCons (tOpD opAdd (tV 6) (tK (.int 1))) (dNil))))))) (sDPutV 1 (tTupD (dCons (tV 4) (dCons (tV 5) (dNil)))) (tOpD opAdd (tDGet2V 1 (tTupD (dCons (tV 4) (dCons (tV 5) (dNil)))) (tK (.int 0))) (tV 7))))
      (sSeq (sIf (tAndD (tBo (tOpD opGe (tV 4) (tK (.int 0)))) (tAndD (tBo (tOpD opLt (tV 5) (tK (.int 2)))) (tBo (tOpD opNe (tV 6) (tK (.int 1)))))) (sExpr (tApp 8 (tTupD (dCons (tV 4) (dCons (tOpD opAdd (tV 5) (tK (.int 1))) (dCons (tK (.int 0)) (dNil))))))) (sNx))
      (sFor (iLstD (tFzV 8)) (gSet 9) (sDPutV 3 (tV 9) (tOpD opAdd (tDGet2V 3 (tV 9) (tK (.int 0))) (tV 7))))))))
      (sRet (tFzV 3)))
theorem sSetL_c {i : Nat} {tl : TLd} {DE : EndsD} {E : Env} (h : tl E fun xs E1 => DE.nx (E1.set i (.ol xs))) : sSetL i tl DE E := h
theorem addsL_snoc (acc : List (K3 × Int)) (ks : List K3) (k : K3) (w : Int) : addsL acc (ks ++ [k]) w = addL (addsL acc ks w) k w := by unfold addsL; rw [List.foldl_append]; rfl
theorem adds_len : ∀ (ks : List K3) (w : Int) (acc : List (K3 × Int)), (addsL acc ks w).length ≤ acc.length + ks.length
  | [], _, _ => Nat.le_refl _
  | k :: ks, w, acc => by
    have h1 := adds_len ks w (addL acc k w)
    have h2 := addL_len acc k w
    show (addsL (addL acc k w) ks w).length ≤ _
    rw [List.length_cons]; omega
theorem nexts_len {n : Nat} {k : K3} (h : Ok3 n k) : (nextsN n k).length ≤ n + 2 := by
  have := h.a0
  unfold nextsN bidsN
  rw [List.length_append, List.length_append, List.length_map, List.length_range]
  split <;> split <;> simp <;> omega
def foundI (n : Nat) (st : List (K3 × Int)) : List (K3 × Int) := st.foldl (fun acc p => addsL acc (nextsN n p.1) p.2) []
theorem found_snoc (n : Nat) (st : List (K3 × Int)) (p : K3 × Int) : foundTo n (st ++ [p]) = addsL (foundTo n st) (nextsN n p.1) p.2 := by unfold foundTo; rw [List.foldl_append]; rfl
theorem ends_snoc (st : List (K3 × Int)) (p : K3 × Int) (en : List (K2 × Int)) : endsTo (st ++ [p]) en = if passG p.1 then endsTo st en else addL (endsTo st en) (p.1.1, p.1.2.1) p.2 := by unfold endsTo; rw [List.foldl_append]; rfl
theorem found_len (n : Nat) : ∀ (st acc : List (K3 × Int)), (∀ p ∈ st, Ok3 n p.1) → (st.foldl (fun acc p => addsL acc (nextsN n p.1) p.2) acc).length ≤ acc.length + st.length * (n + 2)
  | [], acc, _ => by show acc.length ≤ acc.length + 0 * (n + 2); omega
  | p :: st, acc, h => by
    have h1 := found_len n st (addsL acc (nextsN n p.1) p.2) fun q hq => h q (List.mem_cons_of_mem _ hq)
    have h2 := adds_len (nextsN n p.1) p.2 acc
    have h3 := nexts_len (h p (List.mem_cons_self ..))
    rw [List.length_cons, Nat.succ_mul]
    show (st.foldl _ (addsL acc (nextsN n p.1) p.2)).length ≤ _
    omega
theorem ends_len : ∀ (st : List (K3 × Int)) (en : List (K2 × Int)), (endsTo st en).length ≤ en.length + st.length
  | [], _ => Nat.le_refl _
  | p :: st, en => by
    have h1 := ends_len st (if passG p.1 then en else addL en (p.1.1, p.1.2.1) p.2)
    have h2 := addL_len en (p.1.1, p.1.2.1) p.2
    show (endsTo st (if passG p.1 then en else addL en (p.1.1, p.1.2.1) p.2)).length ≤ _
    rw [List.length_cons]
    split at h1 <;> rename_i g
    · rw [if_pos g]; omega
    · rw [if_neg g]; omega
def spStep : SpD := fun ss Q => ∃ (n : Nat) (st : List (K3 × Int)) (en : List (K2 × Int)), ss = [.d (.dict (encL e3 st)), .dt (encL e2 en), .d (.int (n : Int))] ∧ n ≤ 10 ∧ (∀ p ∈ st, Ok3 n p.1) ∧ (en.map (·.1)).Nodup ∧ st.length ≤ 1000 ∧ en.length ≤ 1000000 ∧
  Q (.dict (encL e3 (foundTo n st))) [.dt (encL e2 (endsTo st en))]
theorem sh_law_step : ∀ ss QD, spStep ss QD → ss.length = 3 ∧ mpos 0 ss = [1] := by rintro ss QD ⟨_, _, _, rfl, _⟩; exact ⟨rfl, rfl⟩
theorem tk3 (l : List (K3 × Int)) : tupKeys (encL e3 l) = true := tupKeys_encL (fun k => ⟨_, rfl⟩) l
theorem tk2 (l : List (K2 × Int)) : tupKeys (encL e2 l) = true := tupKeys_encL (fun k => ⟨_, rfl⟩) l
theorem getD_map {o : Option Int} : (o.map PyData.int).getD (.int 0) = .int (o.getD 0) := by cases o <;> rfl
theorem rd_law_step : ∀ ss QD, spStep ss QD → tb_law_step { nx := fun E' => finO [1] E' (QD .none), rt := fun d E' => finO [1] E' (QD d) } (ss ++ List.replicate 8 .un) := by
  rintro ss QD ⟨n, st, en, rfl, hn, ok, nde, hst, hen, q⟩
  unfold tb_law_step
  refine seq_step fun R hR => ?_
  walk_at "dl"
  refine hR _ ?_
  clear hR
  refine seq_step fun R hR => ?_
  refine for_inv (ds := st.map fun p => .tuple [e3 p.1, .int p.2]) (E1 := [.d (.dict (encL e3 st)), .dt (encL e2 en), .d (.int (n : Int)), .dt [], .un, .un, .un, .un, .un, .un, .un]) (fun Q h => ⟨tk3 st, by unfold encL; rw [List.map_map]; exact h⟩)
    (fun i E => ∃ a4 a5 a6 a7 a8 a9, E = [.d (.dict (encL e3 st)), .dt (encL e2 (endsTo (st.take i) en)), .d (.int (n : Int)), .dt (encL e3 (foundTo n (st.take i))), a4, a5, a6, a7, a8, a9, .un]) ⟨_, _, _, _, _, _, rfl⟩ (fun i d E hd hE R2 hR2 => ?_) (fun E hE => ?_)
  · obtain ⟨a4, a5, a6, a7, a8, a9, rfl⟩ := hE
    rw [List.getElem?_map] at hd
    obtain ⟨p, hp, rfl⟩ := Option.map_eq_some_iff.mp hd
    have hpm := List.mem_of_getElem? hp
    have hok := ok p hpm
    have htk : st.take (i + 1) = st.take i ++ [p] := by rw [List.take_add_one, hp]; rfl
    have okt : ∀ q ∈ st.take i, Ok3 n q.1 := fun q hq => ok q (List.mem_of_mem_take hq)
    have fl := found_len n (st.take i) [] okt
    have el := ends_len (st.take i) en
    have ltk : (st.take i).length ≤ st.length := by rw [List.length_take]; omega
    have fl2 : (foundTo n (st.take i)).length ≤ 12000 := by
      have : (st.take i).length * (n + 2) ≤ 1000 * 12 := Nat.mul_le_mul (by omega) (by omega)
      unfold foundTo
      simp only [List.length_nil] at fl
      omega
    have ndf : ((foundTo n (st.take i)).map (·.1)).Nodup := found_nd n _ [] List.nodup_nil
    have nde2 := ends_nd (st.take i) en nde
    rw [htk, found_snoc, ends_snoc] at hR2
    generalize foundTo n (st.take i) = fo at *
    generalize endsTo (st.take i) en = es at *
    obtain ⟨⟨a, dd, qq⟩, w⟩ := p
    have a0 := hok.a0
    have a1 := hok.a1
    have nl := nexts_len hok
    simp only at a0 a1
    refine ⟨rfl, ⟨rfl, ?_⟩⟩
    walk_at "dl"
    refine seq_step fun R3 hR3 => ?_
    refine sSetL_c (comp_map (E1 := [.d (.dict (encL e3 st)), .dt (encL e2 es), .d (.int (n : Int)), .dt (encL e3 fo), .d (.int a), .d (.int dd), .d (.int qq), .d (.int w), a8, a9, .un]) (List.range ((n : Int) - (a + 1)).toNat) (fun i : Nat => .int (a + 1 + (i : Int))) (fun i : Nat => e3 (a + 1 + (i : Int), 0, 0)) (fun Q h => ?_) (un1 rfl) (small_line (by rw [List.length_range]; omega)) (fun j hj R8 hq8 => ?_) ?_)
    · walk_at "dl"
      exact ⟨⟨by omega, by omega, by omega, by omega⟩, h⟩
    · walk_at "dl"
      exact ⟨small_line (by decide), hq8 _ rfl⟩
    refine hR3 _ ?_
    clear hR3
    have e0 : (List.range ((n : Int) - (a + 1)).toNat).map (fun i : Nat => e3 (a + 1 + (i : Int), 0, 0)) = (bidsN n a).map e3 := by unfold bidsN; rw [List.map_map]; rfl
    rw [e0]
    have bl : (bidsN n a).length ≤ 10 := by unfold bidsN; rw [List.length_map, List.length_range]; omega
    refine seq_step fun R3 hR3 => ?_
    have k2 : R3 [.d (.dict (encL e3 st)), .dt (encL e2 (if passG (a, dd, qq) then es else addL es (a, dd) w)), .d (.int (n : Int)), .dt (encL e3 fo), .d (.int a), .d (.int dd), .d (.int qq), .d (.int w), .ol ((bidsN n a ++ if passG (a, dd, qq) then [(a, dd, qq + 1)] else []).map e3), a9, .un] := by
      refine hR3 _ ?_
      clear hR3
      refine seq_step fun R3 hR3 => ?_
      have k3 : R3 [.d (.dict (encL e3 st)), .dt (encL e2 (if passG (a, dd, qq) then es else addL es (a, dd) w)), .d (.int (n : Int)), .dt (encL e3 fo), .d (.int a), .d (.int dd), .d (.int qq), .d (.int w), .ol ((nextsN n (a, dd, qq)).map e3), a9, .un] := by
        refine hR3 _ ?_
        clear hR3
        generalize hN : nextsN n (a, dd, qq) = N at nl hR2 ⊢
        generalize (if passG (a, dd, qq) then es else addL es (a, dd) w) = es' at hR2 ⊢
        refine for_inv (ds := N.map e3) (E1 := [.d (.dict (encL e3 st)), .dt (encL e2 es'), .d (.int (n : Int)), .dt (encL e3 fo), .d (.int a), .d (.int dd), .d (.int qq), .d (.int w), .d (.list (N.map e3)), a9, .un]) (fun Q h => h)
          (fun j E => ∃ b9, E = [.d (.dict (encL e3 st)), .dt (encL e2 es'), .d (.int (n : Int)), .dt (encL e3 (addsL fo (N.take j) w)), .d (.int a), .d (.int dd), .d (.int qq), .d (.int w), .d (.list (N.map e3)), b9, .un]) ⟨_, rfl⟩ (fun j d E hd hE R5 hR5 => ?_) (fun E hE => ?_)
        · obtain ⟨b9, rfl⟩ := hE
          rw [List.getElem?_map] at hd
          obtain ⟨k, hk, rfl⟩ := Option.map_eq_some_iff.mp hd
          have htk2 : N.take (j + 1) = N.take j ++ [k] := by rw [List.take_add_one, hk]; rfl
          have al := adds_len (N.take j) w fo
          have al2 : (N.take j).length ≤ N.length := by rw [List.length_take]; omega
          have nda := adds_nd (N.take j) w fo ndf
          rw [htk2, addsL_snoc] at hR5
          generalize addsL fo (N.take j) w = ac at *
          have pe := putN_encL e3_inj nda k w
          have ve := valN_encL e3_inj ac k
          walk_at "dl"
          refine ⟨tk3 ac, keyB_3 _ _ _, tk3 ac, ?_⟩
          rw [ve, getD_map]
          refine ⟨keyB_3 _ _ _, by rw [encL_len]; exact Nat.lt_of_lt_of_le (show _ < 100000 by omega) (small_line (by omega)), ?_⟩
          rw [pe]
          exact hR5 _ ⟨_, rfl⟩
        · obtain ⟨b9, rfl⟩ := hE
          rw [List.length_map, List.take_of_length_le (Nat.le_refl _)]
          exact hR2 _ ⟨_, _, _, _, _, _, rfl⟩
      have bl2 : (bidsN n a ++ if passG (a, dd, qq) then [(a, dd, qq + 1)] else []).length ≤ 11 := by
        rw [List.length_append]; split <;> simp <;> omega
      unfold nextsN at k3
      dsimp only at k3
      generalize (if passG (a, dd, qq) then es else addL es (a, dd) w) = es' at k3 ⊢
      generalize (bidsN n a ++ if passG (a, dd, qq) then [(a, dd, qq + 1)] else []) = B at k3 bl2 ⊢
      walk_at "dl"
      by_cases g : dblG (a, dd, qq)
      · obtain ⟨g1, g2, g3⟩ := id g
        simp only at g1 g2 g3
        rw [if_pos g, List.map_append] at k3
        rw [if_pos (show a ≥ 0 from g1), if_pos g2]
        refine ifT (by rw [decide_eq_false g3]; rfl) ?_
        exact ⟨small_line (by decide), by rw [List.length_map]; exact Nat.lt_of_lt_of_le (show _ < 100000 by omega) (small_line (by omega)), k3⟩
      · rw [if_neg g, List.append_nil] at k3
        by_cases g1 : a ≥ 0
        · rw [if_pos g1]
          by_cases g2 : dd < 2
          · rw [if_pos g2]
            by_cases g3 : qq = 1
            · exact ifF (by rw [decide_eq_true g3]; rfl) k3
            · exact absurd ⟨g1, g2, g3⟩ g
          · rw [if_neg g2]; exact k3
        · rw [if_neg g1]; exact k3
    walk_at "dl"
    have yes : passG (a, dd, qq) → _ := fun g => by
      rw [if_pos g, if_pos g, List.map_append] at k2
      exact k2
    have no : ¬ passG (a, dd, qq) → _ := fun g => by
      rw [if_neg g, if_neg g, List.append_nil] at k2
      exact k2
    have pe := putN_encL e2_inj nde2 (a, dd) w
    have ve := valN_encL e2_inj es (a, dd)
    have hz := small_line (n := 100) (by omega)
    have ve' : (valN (encL e2 es) (.tuple [.int a, .int dd])).getD (.int 0) = .int ((getL es (a, dd)).getD 0) := by
      have : valN (encL e2 es) (.tuple [.int a, .int dd]) = _ := ve
      rw [this, getD_map]
    have hle : (encL e2 es).length < sizeLine := by rw [encL_len]; exact Nat.lt_of_lt_of_le (show _ < 2000000 by omega) (small_line (by omega))
    have en1 : ((bidsN n a).map e3).length < sizeLine := by rw [List.length_map]; omega
    have pe' : putN (encL e2 es) (.tuple [.int a, .int dd]) (.int ((getL es (a, dd)).getD 0 + w)) = encL e2 (addL es (a, dd) w) := pe
    rw [ve']
    dsimp only
    rw [pe']
    by_cases g1 : qq < 2
    · rw [if_pos g1]
      exact ⟨small_line (by decide), en1, yes (.inl g1)⟩
    · rw [if_neg g1]
      by_cases g2 : a < 0
      · rw [if_pos g2]
        by_cases g3 : qq < 3
        · rw [if_pos g3]
          exact ⟨small_line (by decide), en1, yes (.inr ⟨g2, g3⟩)⟩
        · rw [if_neg g3]
          exact ⟨tk2 es, small_line (by decide), tk2 es, small_line (by decide), hle, no (by rintro (z | z); exact g1 z; exact g3 z.2)⟩
      · rw [if_neg g2]
        exact ⟨tk2 es, small_line (by decide), tk2 es, small_line (by decide), hle, no (by rintro (z | z); exact g1 z; exact g2 z.1)⟩
  · obtain ⟨a4, a5, a6, a7, a8, a9, rfl⟩ := hE
    rw [List.length_map, List.take_of_length_le (Nat.le_refl _)]
    refine hR _ ?_
    walk_at "dl"
    exact q
end DL

set_option Elab.async false
set_option linter.all false
set_option maxRecDepth 100000
set_option maxHeartbeats 4000000
namespace DL
open PySem PySem.Spec PyProof.Rows L2
local macro_rules | `(tactic| walk_at "dl") => `(tactic| simp only [tV, tVr, tFzV, turnD, DL.wipeE, tK, tOpD, tUnD, tBo, tAndD, tOrD, tNotD, tIfE, DL.tAndV, DL.tOrV, DL.tNotV, tTru, truD, okLen, sSet, sSetL, sExpr, sRet, sIf, sNx, tTupD, dNil, dCons, tLstD, tFzD, tApp, tExtd, tPopAt, sSetIx, tIxO, tChainD, tChain3D, tRevT, caStr, opRepT, opAdd, opSub, opMul, opDiv, opMod, opPow, DL.opI, DL.opI0, opB0, opLt, opLe, opGt, opGtD, opLtD, opGe, opEq, opNe, opIs, opIsN, isNone, opIn, opNotIn, opIx, atD_0, atD_1, atD_2, atD_3, putD_0, unNeg, tCa1, tCa2, tCaL1, caLen, caAbs, caMax2, caMin2, caSum, caMax, caMin, caSumT, caMaxT, caMinT, caAll, caTuple, caList, caInt, tIsi, isInt, isBool, isStr, isTuple, isList, notDict, sAsg, gSet, gTupD, gLstD, gsNil, gsCons, sPar, pNil, pD, pL, setAll, tCallD, aNil, aV, aO, argS, oixs, ndp, putO, tOpL, opCat, opRep, tSlD, slD, tSlL, oNo, oE, tRevD, iLstD, iTupD, iRange1, iRange2, iZipD, iZipM, finO, tTrue, Option.map, eqv_int, eqv_bool, eqv_none, shaped_int, shaped_bool, shaped_none, tLenRange, tSortSet, tLenSet, tLenSetP, tSortSetP, tCountL, tCountT, tIndexL, tIndexT, DL.tOrT, DL.tAndT, DL.tNotT, tSortRev, caSorted, iEnumL, iEnumT, tDGetV, tDGetD, tDGet2V, dictAt, sDPutV, sSetM, mDt, mDk, pM, tInN, tNotInN, tCallM, amM, amV, tListRg, iDk, iDv, iDi, tLDk, tLDv, tTruDk, mDt1, tFzM, tCall0D, keyB_2, keyB_3, keyB_4, decide_eq_true_eq, and_self, List.cons_append, List.nil_append, List.replicate, List.getElem?_cons_zero, List.getElem?_cons_succ, List.set_cons_zero, List.set_cons_succ, List.length_cons, List.length_nil, true_and, and_true, if_true, if_false, Bool.false_eq_true, List.contains_nil, Bool.not_false, Bool.not_true, Bool.and_self, Bool.and_true, Bool.true_and, decide_true, decide_false, beq_self_eq_true])
def tb_rows_ending_k11 : TSd :=
  sSeq (sIf (tBo (tOpD opIs (tV 1) (tK .none))) (sRet (tCa1 caInt (tOpD opEq (tV 2) (tK (.int 1))))) (sNx))
      (sSeq (sIf (tBo (tOpD opNotIn (tV 2) (tTupD (dCons (tK (.int 1)) (dCons (tK (.int 2)) (dCons (tK (.int 4)) (dNil))))))) (sRet (tK (.int 0))) (sNx))
      (sSeq (sSet 3 (tOpD opMul (tK (.int 4)) (tV 2)))
      (sSeq (sFor (iRange1 (tOpD opAdd (tOpD opSub (tOpD opMul (tK (.int 5)) (tOpD opIx (tV 1) (tK (.int 0)))) (tK (.int 5))) (tOpD opIx (tV 1) (tK (.int 1))))) (gSet 4) (sSet 3 (tOpD opMul (tV 3) (tK (.int 22)))))
      (sRet (tV 3)))))
def tb_law_k11 (sp_rows_in_all : SpD) (sp_law_all_bids : SpD) (sp_rows_ending : SpD) (sp_law_pick : SpD) (sp_law_same : SpD) (sp_law_step : SpD) : TSd :=
  sSeq (sSetL 1 (tLstD (dNil)))
      (sSeq (sSet 2 (tCallD sp_law_pick (aV (tV 0) (aO 1 (aV (tFzD (tLstD (dCons (tK (.int 1)) (dCons (tK (.int 1)) (dCons (tK (.int 2)) (dNil)))))) (aNil))))))
      (sSeq (sPar [3, 4] (pD (tFzM (mDt1 (tTupD (dCons (tUnD unNeg (tK (.int 1))) (dCons (tK (.int 0)) (dCons (tK (.int 0)) (dNil))))) (tK (.int 1)))) (pM (mDt) (pNil))))
      (sSeq (sWhile (tTruDk (tV 3)) (sSet 3 (tCallD sp_law_step (aV (tV 3) (aO 4 (aV (tOpD opMul (tK (.int 5)) (tV 2)) (aNil)))))))
      (sSeq (sFor (iEnumL (tCallD sp_law_all_bids (aV (tV 2) (aNil)))) (gTupD 2 (gsCons (gSet 5) (gsCons (gSet 6) (gsNil)))) (sFor (iRange1 (tK (.int 6))) (gSet 7) (sSeq (sSet 8 (tIfE (tBo (tOpD opIn (tV 7) (tTupD (dCons (tK (.int 1)) (dCons (tK (.int 2)) (dCons (tK (.int 4)) (dNil))))))) (tDGet2V 4 (tTupD (dCons (tV 5) (dCons (tOpD opIx (tFzD (tLstD (dCons (tK (.int 0)) (dCons (tK (.int 0)) (dCons (tK (.int 1)) (dCons (tK (.int 2)) (dCons (tK (.int 2)) (dCons (tK (.int 2)) (dNil))))))))) (tV 7)) (dNil)))) (tK (.int 0))) (tK (.int 0))))
      (sIf (tNotD (tTru (tCallD sp_law_same (aV (tCallD sp_rows_ending (aV (tV 2) (aV (tV 6) (aV (tV 7) (aNil))))) (aV (tV 8) (aNil)))))) (sRet (tK (.bool false))) (sNx)))))
      (sSeq (sIf (tNotD (tTru (tCallD sp_law_same (aV (tTupD (dCons (tCallD sp_rows_ending (aV (tV 2) (aV (tK .none) (aV (tK (.int 1)) (aNil))))) (dCons (tCallD sp_rows_ending (aV (tV 2) (aV (tK .none) (aV (tK (.int 2)) (aNil))))) (dNil)))) (aV (tTupD (dCons (tDGetV 4 (tTupD (dCons (tUnD unNeg (tK (.int 1))) (dCons (tK (.int 0)) (dNil))))) (dCons (tK (.int 0)) (dNil)))) (aNil)))))) (sRet (tK (.bool false))) (sNx))
      (sSeq (sIf (tNotD (tTru (tCallD sp_law_same (aV (tCallD sp_rows_in_all (aV (tV 2) (aNil))) (aV (tCa1 caSum (tFzD (tLDv (tFzV 4)))) (aNil)))))) (sRet (tK (.bool false))) (sNx))
      (sSeq (sSet 9 (tCallD sp_law_pick (aV (tV 0) (aO 1 (aV (tFzD (tLstD (dCons (tK (.int 3)) (dCons (tK (.int 4)) (dCons (tK (.int 5)) (dCons (tK (.int 6)) (dCons (tK (.int 7)) (dNil)))))))) (aNil))))))
      (sSeq (sPar [10, 11] (pD (tCallD sp_rows_ending (aV (tV 9) (aV (tK .none) (aV (tK (.int 1)) (aNil))))) (pD (tK (.int 1)) (pNil))))
      (sSeq (sFor (iLstD (tCallD sp_law_all_bids (aV (tV 9) (aNil)))) (gSet 6) (sSeq (sSet 11 (tOpD opMul (tK (.int 22)) (tV 11)))
      (sSet 10 (tOpD opAdd (tV 10) (tCa1 caSum (tFzD (tComp (iRange1 (tK (.int 6))) (gSet 7) (tTrue) (tCallD sp_rows_ending (aV (tV 9) (aV (tV 6) (aV (tV 7) (aNil))))) [7])))))))
      (sRet (tAndV (tOpD opEq (tV 10) (tCallD sp_rows_in_all (aV (tV 9) (aNil)))) (tOpD opEq (tOpD opAdd (tOpD opMul (tK (.int 3)) (tV 10)) (tK (.int 1))) (tOpD opMul (tK (.int 4)) (tV 11))))))))))))))
def spLaw : SpD := fun ss Q => ∃ ns : List Int, ss = [.d (.list (ns.map PyData.int))] ∧ ns.length ≤ 63 ∧ Q (.bool true) []
theorem sh_law : ∀ ss QD, spLaw ss QD → ss.length = 1 ∧ mpos 0 ss = [] := by rintro ss QD ⟨ns, rfl, _⟩; exact ⟨rfl, rfl⟩
/-! ### rows_ending -/
def endV (i : Nat) (t : Int) : Int := if t = 1 ∨ t = 2 ∨ t = 4 then 4 * t * 22 ^ i else 0
def spEndN : SpD := fun ss Q => (∃ (L t : Int), ss = [.d (.int L), .d .none, .d (.int t)] ∧ Q (.int (if t = 1 then 1 else 0)) []) ∨
  ∃ (L t : Int) (b : Int × Int) (i : Nat), ss = [.d (.int L), .d (bE b), .d (.int t)] ∧ 5 * b.1 - 5 + b.2 = (i : Int) ∧ i ≤ 34 ∧ b.1.natAbs ≤ 1000 ∧ 0 ≤ t ∧ t ≤ 10 ∧ Q (.int (endV i t)) []
theorem sh_rows_ending : ∀ ss QD, spEndN ss QD → ss.length = 3 ∧ mpos 0 ss = [] := by
  rintro ss QD (⟨_, _, rfl, _⟩ | ⟨_, _, _, _, rfl, _⟩) <;> exact ⟨rfl, rfl⟩
theorem any124 (t : Int) : ([PyData.int 1, PyData.int 2, PyData.int 4].any fun z => z.eqv (PyData.int t)) = decide (t = 1 ∨ t = 2 ∨ t = 4) := by
  simp only [List.any_cons, List.any_nil, eqv_int, Bool.or_false]
  rw [← Bool.decide_or, ← Bool.decide_or]
  exact decide_eq_decide.mpr ⟨fun h => by omega, fun h => by omega⟩
theorem pow22 : ∀ i ≤ 35, (22 : Int) ^ i < 2 ^ 160 := by decide +kernel
theorem pow22_pos (i : Nat) : 0 < (22 : Int) ^ i := Int.pow_pos (by decide)
theorem rd_rows_ending : ∀ ss QD, spEndN ss QD → tb_rows_ending_k11 { nx := fun E' => finO [] E' (QD .none), rt := fun d E' => finO [] E' (QD d) } (ss ++ List.replicate 2 .un) := by
  rintro ss QD (⟨L, t, rfl, q⟩ | ⟨L, t, b, i, rfl, hi, hi2, hb, t0, t1, q⟩)
  · unfold tb_rows_ending_k11
    refine seq_step fun R hR => ?_
    walk_at "dl"
    exact q
  · unfold tb_rows_ending_k11
    rw [show bE b = .tuple [.int b.1, .int b.2] from rfl]
    refine seq_step fun R hR => ?_
    walk_at "dl"
    refine hR _ ?_
    clear hR
    refine seq_step fun R hR => ?_
    walk_at "dl"
    have key : (t = 1 ∨ t = 2 ∨ t = 4) → R [.d (.int L), .d (.tuple [.int b.1, .int b.2]), .d (.int t), .un, .un] := fun ht => by
      refine hR _ ?_
      clear hR
      refine seq_step fun R hR => ?_
      walk_at "dl"
      refine ⟨cmul_small (by decide) (by omega), hR _ ?_⟩
      clear hR
      refine seq_step fun R hR => ?_
      refine for_inv (ds := rangeD 0 i) (E1 := [.d (.int L), .d (.tuple [.int b.1, .int b.2]), .d (.int t), .d (.int (4 * t)), .un]) (fun Q h => ?_)
        (fun j E => ∃ a4, E = [.d (.int L), .d (.tuple [.int b.1, .int b.2]), .d (.int t), .d (.int (4 * t * 22 ^ j)), a4]) ⟨_, by rw [Int.pow_zero, Int.mul_one]⟩ (fun j d E hd hE R2 hR2 => ?_) (fun E hE => ?_)
      · walk_at "dl"
        refine ⟨cmul_small (by decide) (by omega), ⟨by omega, by omega⟩, ?_⟩
        rw [hi, Int.toNat_natCast]; exact h
      · obtain ⟨a4, rfl⟩ := hE
        have hj : j < i := by have := (List.getElem?_eq_some_iff.mp hd).1; rwa [rangeD_length] at this
        have p1 := pow22 j (by omega)
        have p0 := pow22_pos j
        walk_at "dl"
        refine ⟨?_, hR2 _ ⟨.d d, ?_⟩⟩
        · have : (4 * t * 22 ^ j).natAbs < 2 ^ 180 := by
            have : 4 * t * 22 ^ j ≤ 40 * 22 ^ j := Int.mul_le_mul_of_nonneg_right (by omega) (by omega)
            have : 0 ≤ 4 * t * 22 ^ j := Int.mul_nonneg (by omega) (by omega)
            omega
          exact wide_mul (a := 180) (b := 64) this (by decide) (by decide) (by decide) (by decide)
        · rw [Int.pow_succ, Int.mul_assoc]
      · obtain ⟨a4, rfl⟩ := hE
        rw [rangeD_length]
        refine hR _ ?_
        walk_at "dl"
        unfold endV at q
        rw [if_pos ht] at q
        exact q
    refine ⟨small_line (by decide), rfl, ?_⟩
    rw [any124]
    by_cases ht : t = 1 ∨ t = 2 ∨ t = 4
    · rw [decide_eq_true ht]
      exact key ht
    · rw [decide_eq_false ht]
      unfold endV at q
      rw [if_neg ht] at q
      exact q
/-! ### what the walk comes to -/
theorem wt_one {κ : Type} [DecidableEq κ] (l : List (κ × Int)) : wtL (fun _ => 1) l = (l.map (·.2)).sum := by
  unfold wtL
  congr 1
  exact List.map_congr_left fun p _ => by rw [Int.mul_one]
theorem wt_off {κ : Type} [DecidableEq κ] {k : κ} : ∀ {l : List (κ × Int)}, k ∉ l.map (·.1) → wtL (fun x => if x = k then 1 else 0) l = 0
  | [], _ => rfl
  | p :: l, h => by
    rw [List.map_cons, List.mem_cons, not_or] at h
    rw [wtL_cons, wt_off h.2, if_neg (fun z => h.1 z.symm), Int.mul_zero]; rfl
theorem wt_at {κ : Type} [DecidableEq κ] {k : κ} : ∀ {l : List (κ × Int)}, (l.map (·.1)).Nodup → wtL (fun x => if x = k then 1 else 0) l = (getL l k).getD 0
  | [], _ => rfl
  | p :: l, h => by
    obtain ⟨n1, n2⟩ := List.nodup_cons.mp h
    rw [wtL_cons, getL_cons]
    by_cases e : p.1 = k
    · rw [if_pos e, if_pos e, wt_off (by rw [← e]; exact n1)]
      show p.2 * 1 + 0 = p.2
      omega
    · rw [if_neg e, if_neg e, wt_at n2]
      omega
theorem WB_is (b t : Int) : WB b t = fun x => if x = (b, t) then 1 else 0 := by
  funext x
  unfold WB
  by_cases h : x = (b, t)
  · rw [if_pos h, h, if_pos ⟨rfl, rfl⟩]
  · rw [if_neg h, if_neg fun z => h (Prod.ext z.1 z.2)]
def WI (k : K2) : Int := if k = (-1, 0) then 1 else 0
theorem VI_step (n : Nat) (k : K3) (h : Ok3 n k) : VN k = ((nextsN n k).map VN).sum + if passG k then 0 else WI (k.1, k.2.1) := by
  rw [VN_step n k h]
  congr 1
  by_cases p : passG k
  · rw [if_pos p, if_pos p]
  · rw [if_neg p, if_neg p]
    unfold WN WI
    by_cases z : k.1 < 0
    · have e1 : k.1 = -1 := by have := h.a0; omega
      rw [if_pos z, if_pos (by rw [e1, h.no e1])]
    · rw [if_neg z, if_neg fun y => z (by have := congrArg Prod.fst y; simp only at this; omega)]
structure WalkI (n : Nat) (T : Nat) (st : List (K3 × Int)) (en : List (K2 × Int)) : Prop where
  ok : ∀ p ∈ st, Ok3 n p.1 ∧ (T : Int) ≤ rk3 p.1
  ns : (st.map (·.1)).Nodup
  ne : (en.map (·.1)).Nodup
  le : en.length ≤ 1000 * T
  w0 : wtL VN st + wtL WI en = 1
  wa : wtL (VA n) st + wtL (fun _ => 1) en = 1 + 4 * fr n
  wb : ∀ b t : Int, 0 ≤ b → b < n → 0 ≤ t → t ≤ 2 → wtL (VB b t) st + wtL (WB b t) en = VB b t (-1, 0, 0)
def code3 (k : K3) : Nat := (12 * (k.1 + 1) + 4 * k.2.1 + k.2.2).toNat
theorem st_len {n T : Nat} {st : List (K3 × Int)} {en : List (K2 × Int)} (h : WalkI n T st en) : st.length ≤ 12 * (n + 1) := by
  have nd : ((st.map (·.1)).map code3).Nodup := by
    have hok : ∀ k ∈ st.map (·.1), Ok3 n k := fun k hk => by obtain ⟨p, hp, rfl⟩ := List.mem_map.mp hk; exact (h.ok p hp).1
    have hn := h.ns
    generalize st.map (·.1) = l at hok hn
    induction l with
    | nil => exact List.nodup_nil
    | cons a l ih =>
      obtain ⟨n1, n2⟩ := List.nodup_cons.mp hn
      rw [List.map_cons, List.nodup_cons]
      refine ⟨fun z => ?_, ih (fun k hk => hok k (List.mem_cons_of_mem _ hk)) n2⟩
      obtain ⟨b, hb, e⟩ := List.mem_map.mp z
      have oa := hok a (List.mem_cons_self ..)
      have ob := hok b (List.mem_cons_of_mem _ hb)
      obtain ⟨a0, a1, d0, d2, q0, q3, no, yes⟩ := oa
      obtain ⟨a0', a1', d0', d2', q0', q3', no', yes'⟩ := ob
      unfold code3 at e
      have e1 : b.1 = a.1 := by omega
      have e2 : b.2.1 = a.2.1 := by omega
      have e3 : b.2.2 = a.2.2 := by omega
      have : b = a := Prod.ext e1 (Prod.ext e2 e3)
      rw [this] at hb
      exact n1 hb
  have := nat_nodup_len _ (List.range (12 * (n + 1))) nd fun x hx => by
    obtain ⟨k, hk, rfl⟩ := List.mem_map.mp hx
    obtain ⟨p, hp, rfl⟩ := List.mem_map.mp hk
    obtain ⟨a0, a1, d0, d2, q0, q3, no, yes⟩ := (h.ok p hp).1
    rw [List.mem_range]
    unfold code3
    omega
  rw [List.length_map, List.length_map, List.length_range] at this
  exact this
theorem walk_init (n : Nat) (hn : 1 ≤ n) : WalkI n 0 [((-1, 0, 0), 1)] [] := by
  refine ⟨fun p hp => ?_, by simp, by simp, by simp, rfl, ?_, fun b t _ _ _ _ => ?_⟩
  · rw [List.mem_singleton.mp hp]
    exact ⟨⟨by decide, by show (-1 : Int) < n; omega, by decide, by decide, by decide, by decide, fun _ => rfl, fun z => absurd z (by decide)⟩, by decide⟩
  · rw [wtL_cons, wtL_nil, wtL_nil]
    unfold VA gA
    show (1 : Int) * (1 + (4 - 0) * fr ((n : Int) - 1 - -1).toNat) + 0 + 0 = _
    rw [show ((n : Int) - 1 - -1).toNat = n by omega]
    omega
  · rw [wtL_cons, wtL_nil, wtL_nil]
    show (1 : Int) * VB b t (-1, 0, 0) + 0 + 0 = _
    omega
theorem walk_step {n T : Nat} {st : List (K3 × Int)} {en : List (K2 × Int)} (hn : n ≤ 10) (h : WalkI n T st en) : WalkI n (T + 1) (foundTo n st) (endsTo st en) := by
  have sl := st_len h
  have el := ends_len st en
  have hl := h.le
  refine ⟨fun p hp => ?_, found_nd n st [] List.nodup_nil, ends_nd st en h.ne, by omega, ?_, ?_, fun b t b0 bn t0 t2 => ?_⟩
  · have : p.1 ∈ (foundTo n st).map (·.1) := List.mem_map.mpr ⟨p, hp, rfl⟩
    rcases found_mem n st [] this with z | ⟨q, hq, z⟩
    · cases z
    · obtain ⟨o1, o2⟩ := nexts_ok (h.ok q hq).1 z
      exact ⟨o1, by have := (h.ok q hq).2; omega⟩
  · have := step_wt n VN WI (Ok3 n) (VI_step n) st [] en (fun p hp => (h.ok p hp).1) List.nodup_nil h.ne
    rw [wtL_nil] at this
    have := h.w0
    show wtL VN (st.foldl _ []) + _ = _
    omega
  · have := step_wt n (VA n) (fun _ => 1) (Ok3 n) (VA_step n) st [] en (fun p hp => (h.ok p hp).1) List.nodup_nil h.ne
    rw [wtL_nil] at this
    have := h.wa
    show wtL (VA n) (st.foldl _ []) + _ = _
    omega
  · have := step_wt n (VB b t) (WB b t) (Ok3 n) (VB_step n b t b0 bn t0 t2) st [] en (fun p hp => (h.ok p hp).1) List.nodup_nil h.ne
    rw [wtL_nil] at this
    have := h.wb b t b0 bn t0 t2
    show wtL (VB b t) (st.foldl _ []) + _ = _
    omega
theorem walk_end {n T : Nat} {st : List (K3 × Int)} {en : List (K2 × Int)} (h : WalkI n T st en) : T ≤ 9 * n + 9 ∨ st = [] := by
  cases st with
  | nil => exact .inr rfl
  | cons p st =>
    have := h.ok p (List.mem_cons_self ..)
    have := rk_lt this.1
    exact .inl (by omega)
theorem fr_pow : ∀ i : Nat, 3 * fr i + 1 = 22 ^ i
  | 0 => rfl
  | i + 1 => by
    have := fr_pow i
    rw [Int.pow_succ, ← this]
    show 3 * (22 * fr i + 7) + 1 = _
    omega
theorem allB_ix0 : ∀ L, L ≤ 7 → ∀ i : Nat, i < 5 * L → 5 * ((allB L).getD i (0, 0)).1 - 5 + ((allB L).getD i (0, 0)).2 = (i : Int) ∧ ((allB L).getD i (0, 0)).1.natAbs ≤ 1000 := by decide +kernel
theorem allB_ix {L : Nat} (hL : L ≤ 7) {i : Nat} {b : Int × Int} (h : (allB L)[i]? = some b) : i < 5 * L ∧ 5 * b.1 - 5 + b.2 = (i : Int) ∧ b.1.natAbs ≤ 1000 := by
  have hi : i < (allB L).length := (List.getElem?_eq_some_iff.mp h).1
  rw [allB_len] at hi
  have := allB_ix0 L hL i hi
  rw [List.getD_eq_getElem?_getD, h] at this
  exact ⟨hi, this⟩
def DMk (a : S) : Prop := a = .un ∨ ∃ x, a = .d x
theorem un1k {E : Env} {i : Nat} {s : S} (h : E[i]? = some s) (d : DMk s) : ∀ j ∈ [i], E[j]? = some .un ∨ (∃ x, E[j]? = some (.d x)) := fun j hj => by
  rw [List.mem_singleton.mp hj]
  rcases d with rfl | ⟨x, rfl⟩
  · exact .inl h
  · exact .inr ⟨x, h⟩
theorem gs2K {i j : Nat} {a b : D} {E : Env} {Q : Env → Prop} (h : Q ((E.set i (.d a)).set j (.d b))) : gTupD 2 (gsCons (gSet i) (gsCons (gSet j) gsNil)) (.tuple [a, b]) E Q := ⟨rfl, h⟩
theorem sSet_op {i : Nat} {k : Nat} {tb : TD} {DE : EndsD} {E : Env} {x : Int} (hE : E[k]? = some (.d (.int x))) (h : tb E fun y E2 => opAdd (.int x) y fun z => DE.nx (E2.set i (.d z))) : sSet i (tOpD opAdd (tV k) tb) DE E := by
  show (tV k) E fun x E1 => tb E1 fun y E2 => opAdd x y fun z => DE.nx (E2.set i (.d z))
  unfold tV
  rw [hE]
  exact h
theorem tSumC {tl : TLd} {E : Env} {Q : D → Env → Prop} (h : tl E fun xs E1 => ∃ ns : List Int, xs = ns.map PyData.int ∧ Q (.int ns.sum) E1) : tCa1 caSum (tFzD tl) E Q := h
theorem VB_init (i : Nat) (t : Int) : VB (i : Int) t (-1, 0, 0) = 4 * f3 (xT t 0) (xT t 1) (xT t 2) 0 0 * 22 ^ i := by
  unfold VB gA
  rw [if_neg (by show ¬ (-1 : Int) = i; omega), if_pos (by show (-1 : Int) < i; omega)]
  show (4 - 0) * (f3 (xT t 0) (xT t 1) (xT t 2) 0 0 * 22 ^ ((i : Int) - 1 - -1).toNat) = _
  rw [show ((i : Int) - 1 - -1).toNat = i by omega, ← Int.mul_assoc]
  rfl
theorem rd_law_k11 : ∀ ss QD, spLaw ss QD → tb_law_k11 spRowsA spBids spEndN spPick (spSame 2) spStep { nx := fun E' => finO [] E' (QD .none), rt := fun d E' => finO [] E' (QD d) } (ss ++ List.replicate 11 .un) := by
  rintro ss QD ⟨ns, rfl, hns, q⟩
  unfold tb_law_k11
  refine seq_step fun R hR => ?_
  walk_at "dl"
  refine ⟨small_line (by decide), hR _ ?_⟩
  clear hR
  refine seq_step fun R hR => ?_
  walk_at "dl"
  refine ⟨small_line (by decide), ns, [], _, _, 0, rfl, .inl rfl, List.cons_ne_nil _ _, hns, ⟨by decide, .inl rfl⟩, by omega, fun x t1 hx ht1 => ?_⟩
  have hx : x ∈ ([1, 1, 2] : List Nat).map (fun n : Nat => PyData.int (n : Int)) := hx
  obtain ⟨L, hg, rfl⟩ := List.mem_map.mp hx
  have hL := (by decide : ∀ z ∈ ([1, 1, 2] : List Nat), 1 ≤ z ∧ z ≤ 2) L hg
  walk_at "dl"
  refine hR _ ?_
  clear hR
  refine seq_step fun R hR => ?_
  walk_at "dl"
  refine ⟨small_line (by decide), hR _ ?_⟩
  clear hR
  refine seq_step fun R hR => ?_
  refine ⟨fun m E => ∃ st en T, E = [.d (.list (ns.map PyData.int)), .ol t1, .d (.int (L : Int)), .d (.dict (encL e3 st)), .dt (encL e2 en), .un, .un, .un, .un, .un, .un, .un] ∧ WalkI (5 * L) T st en ∧ (m : Int) = 9 * (5 * (L : Int)) + 100 - T ∧ T ≤ 9 * (5 * L) + 50, ⟨9 * (5 * L) + 100, [((-1, 0, 0), 1)], [], 0, rfl, walk_init _ (by omega), by omega, by omega⟩, fun m E hE => ?_⟩
  obtain ⟨st, en, T, rfl, hw, hm, hT⟩ := hE
  have sl := st_len hw
  have el := hw.le
  walk_at "dl"
  refine ⟨tk3 st, by rw [encL_len]; exact small_line (by omega), ?_⟩
  cases st with
  | cons p st' =>
    refine ifT rfl ?_
    have hne : p :: st' ≠ [] := List.cons_ne_nil _ _
    generalize p :: st' = st at *
    have hTE : T ≤ 9 * (5 * L) + 9 := by
      rcases walk_end hw with z | z
      · exact z
      · exact absurd z hne
    refine ⟨cmul_small (by decide) (by omega), ?_⟩
    refine ⟨5 * L, st, en, by rw [show ((5 * L : Nat) : Int) = 5 * (L : Int) by omega], by omega, fun p hp => (hw.ok p hp).1, hw.ne, by omega, by omega, ?_⟩
    walk_at "dl"
    exact ⟨9 * (5 * L) + 99 - T, by omega, _, _, T + 1, rfl, walk_step (by omega) hw, by omega, by omega⟩
  | nil =>
    refine ifF rfl (hR _ ?_)
    clear hR
    obtain ⟨ok, ns1, nde, _, w0, wa, wb⟩ := hw
    rw [wtL_nil, Int.zero_add] at w0 wa
    have wb : ∀ b t : Int, 0 ≤ b → b < (5 * L : Nat) → 0 ≤ t → t ≤ 2 → (getL en (b, t)).getD 0 = VB b t (-1, 0, 0) := fun b t h1 h2 h3 h4 => by
      have := wb b t h1 h2 h3 h4
      rw [wtL_nil, Int.zero_add, WB_is, wt_at nde] at this
      exact this
    have w0 : (getL en (-1, 0)).getD 0 = 1 := by
      have e : WI = fun x => if x = ((-1, 0) : K2) then 1 else 0 := rfl
      rw [e, wt_at nde] at w0
      exact w0
    rw [wt_one] at wa
    have hel : en.length ≤ 1000000 := by omega
    clear el sl hm hT ok ns1
    refine seq_step fun R hR => ?_
    refine for_inv (ds := enumD ((allB L).map bE)) (E1 := [.d (.list (ns.map PyData.int)), .ol t1, .d (.int (L : Int)), .d (.dict (encL e3 [])), .dt (encL e2 en), .un, .un, .un, .un, .un, .un, .un]) (fun Q h => ?_)
      (fun i E => ∃ a5 a6 a7 a8, E = [.d (.list (ns.map PyData.int)), .ol t1, .d (.int (L : Int)), .d (.dict (encL e3 [])), .dt (encL e2 en), a5, a6, a7, a8, .un, .un, .un] ∧ DMk a7) ⟨_, _, _, _, rfl, .inl rfl⟩ (fun i d E hd hE R2 hR2 => ?_) (fun E hE => ?_)
    · walk_at "dl"
      exact ⟨L, rfl, by omega, h⟩
    · obtain ⟨a5, a6, a7, a8, rfl, d7⟩ := hE
      have hi : i < (allB L).length := by have := (List.getElem?_eq_some_iff.mp hd).1; rwa [enumD_len, List.length_map] at this
      obtain ⟨b, hb⟩ : ∃ b, (allB L)[i]? = some b := ⟨_, List.getElem?_eq_getElem hi⟩
      rw [enumD_get (xs := (allB L).map bE) (d := bE b) (by rw [List.getElem?_map, hb]; rfl)] at hd
      cases hd
      obtain ⟨hi5, hix, hbn⟩ := allB_ix (by omega) hb
      refine gs2K ?_
      refine for_inv (ds := rangeD 0 6) (E1 := [.d (.list (ns.map PyData.int)), .ol t1, .d (.int (L : Int)), .d (.dict (encL e3 [])), .dt (encL e2 en), .d (.int (i : Int)), .d (bE b), a7, a8, .un, .un, .un]) (fun Q h => ⟨⟨by decide, by decide⟩, h⟩)
        (fun j E => ∃ b7 b8, E = [.d (.list (ns.map PyData.int)), .ol t1, .d (.int (L : Int)), .d (.dict (encL e3 [])), .dt (encL e2 en), .d (.int (i : Int)), .d (bE b), b7, b8, .un, .un, .un] ∧ DMk b7) ⟨_, _, rfl, d7⟩ (fun j d E hd hE R3 hR3 => ?_) (fun E hE => ?_)
      · obtain ⟨b7, b8, rfl, _⟩ := hE
        have hj : j < 6 := by have := (List.getElem?_eq_some_iff.mp hd).1; rwa [rangeD_length] at this
        rw [rangeD_get hj, Int.zero_add] at hd
        cases hd
        have key : ∀ R4 : Env → Prop, (∀ E', R4 E' ↔ R4 E') → True := fun _ _ => trivial
        refine seq_step fun R4 hR4 => ?_
        have k2 : R4 [.d (.list (ns.map PyData.int)), .ol t1, .d (.int (L : Int)), .d (.dict (encL e3 [])), .dt (encL e2 en), .d (.int (i : Int)), .d (bE b), .d (.int (j : Int)), .d (.int (endV i (j : Int))), .un, .un, .un] := by
          refine hR4 _ ?_
          clear hR4
          walk_at "dl"
          refine .inr ⟨_, _, b, i, rfl, hix, by omega, hbn, by omega, by omega, ?_⟩
          walk_at "dl"
          refine ⟨_, rfl, rfl, ?_⟩
          walk_at "dl"
          exact hR3 _ ⟨_, _, rfl, .inr ⟨_, rfl⟩⟩
        have val : ∀ t : Int, 0 ≤ t → t ≤ 2 → (valN (encL e2 en) (.tuple [.int (i : Int), .int t])).getD (.int 0) = .int (4 * f3 (xT t 0) (xT t 1) (xT t 2) 0 0 * 22 ^ i) := fun t h0 h2 => by
          have : valN (encL e2 en) (.tuple [.int (i : Int), .int t]) = _ := valN_encL e2_inj en ((i : Int), t)
          rw [this, getD_map, wb _ _ (by omega) (by omega) h0 h2, VB_init]
        have hj6 : j = 0 ∨ j = 1 ∨ j = 2 ∨ j = 3 ∨ j = 4 ∨ j = 5 := by omega
        clear hR4 hR3 key
        rcases hj6 with rfl | rfl | rfl | rfl | rfl | rfl
        · walk_at "dl"
          exact ⟨small_line (by decide), rfl, k2⟩
        · walk_at "dl"
          refine ⟨small_line (by decide), rfl, ?_⟩
          rw [any124]
          refine ifT rfl ⟨tk2 en, small_line (by decide), atD_at (d := .int 0) (by decide) rfl ⟨small_line (by decide), rfl, tk2 en, ?_⟩⟩
          rw [val 0 (by decide) (by decide)]
          exact k2
        · walk_at "dl"
          refine ⟨small_line (by decide), rfl, ?_⟩
          rw [any124]
          refine ifT rfl ⟨tk2 en, small_line (by decide), atD_at (d := .int 1) (by decide) rfl ⟨small_line (by decide), rfl, tk2 en, ?_⟩⟩
          rw [val 1 (by decide) (by decide)]
          exact k2
        · walk_at "dl"
          exact ⟨small_line (by decide), rfl, k2⟩
        · walk_at "dl"
          refine ⟨small_line (by decide), rfl, ?_⟩
          rw [any124]
          refine ifT rfl ⟨tk2 en, small_line (by decide), atD_at (d := .int 2) (by decide) rfl ⟨small_line (by decide), rfl, tk2 en, ?_⟩⟩
          rw [val 2 (by decide) (by decide)]
          exact k2
        · walk_at "dl"
          exact ⟨small_line (by decide), rfl, k2⟩
      · obtain ⟨b7, b8, rfl, d8⟩ := hE
        exact hR2 _ ⟨_, _, _, _, rfl, d8⟩
    · obtain ⟨a5, a6, a7, a8, rfl, d7⟩ := hE
      refine hR _ ?_
      clear hR
      refine seq_step fun R hR => ?_
      walk_at "dl"
      refine .inl ⟨_, _, rfl, .inl ⟨_, _, rfl, ?_⟩⟩
      have hv : valN (encL e2 en) (.tuple [.int (-1), .int 0]) = some (.int 1) := by
        have : valN (encL e2 en) (.tuple [.int (-1), .int 0]) = _ := valN_encL e2_inj en (-1, 0)
        rw [this]
        cases g : getL en (-1, 0) with
        | none => rw [g] at w0; cases w0
        | some v => rw [g] at w0; rw [show v = 1 from w0]; rfl
      rw [hv]
      refine ⟨small_line (by decide), small_line (by decide), small_line (by decide), _, rfl, rfl, ?_⟩
      walk_at "dl"
      refine hR _ ?_
      clear hR
      refine seq_step fun R hR => ?_
      walk_at "dl"
      refine ⟨L, rfl, by omega, ?_⟩
      walk_at "dl"
      refine ⟨tk2 en, by rw [encL_len]; exact small_line (by omega), en.map (·.2), by unfold encL; rw [List.map_map, List.map_map]; rfl, ?_⟩
      rw [wa]
      have hwr : ∀ L : Nat, wRow L [] = 1 + 4 * fr (5 * L) := fun _ => rfl
      rw [hwr]
      refine ⟨_, rfl, rfl, ?_⟩
      walk_at "dl"
      refine hR _ ?_
      clear hR
      refine seq_step fun R hR => ?_
      walk_at "dl"
      refine ⟨small_line (by decide), ns, t1, _, _, _, rfl, .inl rfl, List.cons_ne_nil _ _, hns, ht1, by omega, fun x t2 hx ht2 => ?_⟩
      have hx : x ∈ ([3, 4, 5, 6, 7] : List Nat).map (fun n : Nat => PyData.int (n : Int)) := hx
      obtain ⟨M, hg, rfl⟩ := List.mem_map.mp hx
      have hM := (by decide : ∀ z ∈ ([3, 4, 5, 6, 7] : List Nat), 3 ≤ z ∧ z ≤ 7) M hg
      walk_at "dl"
      refine hR _ ?_
      clear hR
      refine seq_step fun R hR => ?_
      walk_at "dl"
      refine .inl ⟨_, _, rfl, ?_⟩
      walk_at "dl"
      refine hR _ ?_
      clear hR
      refine seq_step fun R hR => ?_
      generalize hE4 : S.d (PyData.dict (encL e2 en)) = s4
      generalize hE3 : S.d (PyData.dict (encL e3 [])) = s3
      refine for_inv (ds := (allB M).map bE) (E1 := [.d (.list (ns.map PyData.int)), .ol t2, .d (.int (L : Int)), s3, s4, a5, a6, a7, a8, .d (.int (M : Int)), .d (.int 1), .d (.int 1)]) (fun Q h => ?_)
        (fun i E => ∃ b6, E = [.d (.list (ns.map PyData.int)), .ol t2, .d (.int (L : Int)), s3, s4, a5, b6, a7, a8, .d (.int (M : Int)), .d (.int (1 + 4 * fr i)), .d (.int (22 ^ i))]) ⟨_, rfl⟩ (fun i d E hd hE R2 hR2 => ?_) (fun E hE => ?_)
      · walk_at "dl"
        exact ⟨M, rfl, by omega, h⟩
      · obtain ⟨b6, rfl⟩ := hE
        rw [List.getElem?_map] at hd
        obtain ⟨b, hb, rfl⟩ := Option.map_eq_some_iff.mp hd
        obtain ⟨hi5, hix, hbn⟩ := allB_ix (by omega) hb
        have p1 := pow22 i (by omega)
        have p0 := pow22_pos i
        refine seq_step fun R3 hR3 => ?_
        walk_at "dl"
        refine ⟨wide_mul (a := 64) (b := 180) (by decide) (by omega) (by decide) (by decide) (by decide), hR3 _ ?_⟩
        clear hR3
        refine sSet_op rfl (tSumC (comp_map (E1 := [.d (.list (ns.map PyData.int)), .ol t2, .d (.int (L : Int)), s3, s4, a5, .d (bE b), a7, a8, .d (.int (M : Int)), .d (.int (1 + 4 * fr i)), .d (.int (22 * 22 ^ i))]) (List.range 6) (fun j : Nat => .int (j : Int)) (fun j : Nat => .int (endV i (j : Int))) (fun Q h => ⟨⟨by decide, by decide⟩, by rw [show (6 : Int).toNat = 6 from rfl, show rangeD 0 6 = (List.range 6).map fun i : Nat => PyData.int (i : Int) from rfl]; exact h⟩) (un1k rfl d7) (small_line (by decide)) (fun j hj R8 hq8 => ?_) ?_))
        · have hj := List.mem_range.mp hj
          walk_at "dl"
          refine .inr ⟨_, _, b, i, rfl, hix, by omega, hbn, by omega, by omega, ?_⟩
          walk_at "dl"
          exact hq8 _ rfl
        · refine ⟨(List.range 6).map fun j : Nat => endV i (j : Int), by rw [List.map_map]; rfl, ?_⟩
          have hs : ((List.range 6).map fun j : Nat => endV i (j : Int)).sum = 28 * 22 ^ i := by
            show endV i 0 + (endV i 1 + (endV i 2 + (endV i 3 + (endV i 4 + (endV i 5 + 0))))) = _
            unfold endV
            simp
            omega
          have hf : 1 + 4 * fr i + 28 * 22 ^ i = 1 + 4 * fr (i + 1) := by
            have := fr_pow i
            show _ = 1 + 4 * (22 * fr i + 7)
            omega
          rw [hs]
          refine hR2 _ ⟨.d (bE b), ?_⟩
          rw [← hf, Int.pow_succ, Int.mul_comm (22 ^ i) 22]
          rfl
      · obtain ⟨b6, rfl⟩ := hE
        rw [List.length_map, allB_len]
        refine hR _ ?_
        walk_at "dl"
        refine ⟨M, rfl, by omega, ?_⟩
        rw [hwr]
        have hp := fr_pow (5 * M)
        have fl := fr_small (5 * M) (by omega)
        have fn := fr_nn (5 * M)
        have p1 := pow22 (5 * M) (by omega)
        have p0 := pow22_pos (5 * M)
        walk_at "dl"
        refine ⟨wide_mul (a := 64) (b := 180) (by decide) (by omega) (by decide) (by decide) (by decide), wide_mul (a := 64) (b := 180) (by decide) (by omega) (by decide) (by decide) (by decide), ?_⟩
        rw [decide_eq_true (by omega)]
        exact q
end DL

set_option Elab.async false
set_option linter.all false
set_option maxRecDepth 100000
set_option maxHeartbeats 4000000
namespace LW
open PySem PySem.Spec PyProof.Rows L2 DL
def topS (i : Nat) : Stmt := PySem.Challenge.pw_boardcalls_k11_whole_rows_by_their_ends.main.body.getD i (.Pass ⟨0, 0, 0, 0⟩)
section
variable {P : Program} {w : World} {K : PySem.W.Frag} {mg : Str → Option Value} {base : Heap}
abbrev s_ways_behind : Stmt := topS 5
abbrev N_ways_behind : List Str := ["bids", "table", "higher", "left", "found", "doubling", "passes", "other", "ways"]
theorem sc_ways_behind : FnScope N_ways_behind ["bids"] (defScope s_ways_behind) := ⟨rfl, rfl, rfl, by decide +kernel, rfl, by decide +kernel, by decide +kernel⟩
theorem dv_ways_behind {f : Addr} {k : Nat} (b_range : mg "range" = none) (cdv : Value) (A : Around) (outer : List PySem.Env) (s : Shared) (H : Hp) (E : XK) (hr : Room k (A.deeper (envOfC "ways_behind" (defScope s_ways_behind) s.heap.objs.size f cdv))) (G : Gh) (hG : G.slots = []) :
    SDs (cxOf CX0 P w K mg base N_ways_behind "ways_behind" (defScope s_ways_behind) f cdv A outer s H E).nox G (defBody s_ways_behind) (tb_ways_behind) := by
  unfold tb_ways_behind
  exact sds_cons (sd_par2 (nsA hG (by decide)) rfl sc_ways_behind.nd rfl rfl (by decide) rfl rfl (eps_l (el_lst (eds_nil)) (fun _ q1 => eps_d (ed_int) (eps_nil))))
      (sds_cons (sd_for (ms := [3]) PassesOwn.never rfl (id_range1 rfl b_range (ed_var 0)) (gd_name (ns hG (by decide)) (by decide) sc_ways_behind.nd rfl (by first | exact Or.inl rfl | exact Or.inr rfl)) (sds_cons (sd_setM (ns hG (by decide)) sc_ways_behind.nd rfl (by first | exact Or.inl rfl | exact Or.inr rfl) (em_dt))
      (sds_cons (sd_for (ms := [5]) PassesOwn.never rfl (id_tup (ed_tup (eds_cons (ed_int) (eds_cons (ed_int) (eds_cons (ed_int) (eds_nil)))))) (gd_name (ns hG (by decide)) (by decide) sc_ways_behind.nd rfl (by first | exact Or.inl rfl | exact Or.inr rfl)) (sds_one (sd_for (ms := [6]) PassesOwn.never rfl (id_tup (ed_tup (eds_cons (ed_int) (eds_cons (ed_int) (eds_cons (ed_int) (eds_nil)))))) (gd_name (ns hG (by decide)) (by decide) sc_ways_behind.nd rfl (by first | exact Or.inl rfl | exact Or.inr rfl)) (sds_one (sd_for (ms := [7]) PassesOwn.never rfl (id_tup (ed_tup (eds_cons (ed_int) (eds_cons (ed_int) (eds_nil))))) (gd_name (ns hG (by decide)) (by decide) sc_ways_behind.nd rfl (by first | exact Or.inl rfl | exact Or.inr rfl)) (sds_cons (sd_set (ns hG (by decide)) sc_ways_behind.nd rfl (by first | exact Or.inl rfl | exact Or.inr rfl) (ed_op od_add (ed_var 2) (ED.er (ed_if (eb_cmp (od_eq hr.units) (ed_var 6) (ED.er (ed_int)) (nomark _)) (ed_int) (ed_dgetV 4 (u65 hr) (ed_tup (eds_cons (ed_var 5) (eds_cons (ed_op od_sub (ed_int) (ED.er (ed_var 7))) (eds_cons (ed_op od_add (ed_var 6) (ED.er (ed_int))) (eds_nil))))))))))
      (sds_cons (sd_if (EW.eb (ew_and (eb_cmp (od_eq hr.units) (ed_var 5) (ED.er (ed_int)) (nomark _)) (ew_and1 (eb_cmp (od_eq hr.units) (ed_var 7) (ED.er (ed_int)) (nomark _))))) (sds_one (sd_set (ns hG (by decide)) sc_ways_behind.nd rfl (by first | exact Or.inl rfl | exact Or.inr rfl) (ed_op od_add (ed_var 8) (ED.er (ed_dgetV 4 (u65 hr) (ed_tup (eds_cons (ed_int) (eds_cons (ed_int) (eds_cons (ed_int) (eds_nil)))))))))) (sds_nil))
      (sds_cons (sd_if (EW.eb (ew_and (eb_cmp (od_eq hr.units) (ed_var 5) (ED.er (ed_int)) (nomark _)) (ew_and1 (eb_cmp (od_eq hr.units) (ed_var 7) (ED.er (ed_int)) (nomark _))))) (sds_one (sd_set (ns hG (by decide)) sc_ways_behind.nd rfl (by first | exact Or.inl rfl | exact Or.inr rfl) (ed_op od_add (ed_var 8) (ED.er (ed_dgetV 4 (u65 hr) (ed_tup (eds_cons (ed_int) (eds_cons (ed_int) (eds_cons (ed_int) (eds_nil)))))))))) (sds_nil))
      (sds_one (sd_dputV 4 (u65 hr) (ed_tup (eds_cons (ed_var 5) (eds_cons (ed_var 7) (eds_cons (ed_var 6) (eds_nil))))) (ed_var 8)))))))))))
      (sds_cons (sd_expr (ed_app 1 (ed_fzv 4)))
      (sds_one (sd_set (ns hG (by decide)) sc_ways_behind.nd rfl (by first | exact Or.inl rfl | exact Or.inr rfl) (ed_op od_add (ed_var 2) (ED.er (ed_dgetV 4 (u65 hr) (ed_tup (eds_cons (ed_int) (eds_cons (ed_int) (eds_cons (ed_int) (eds_nil))))))))))))))
      (sds_one (sd_ret (ed_fzv 1))))
abbrev s_last_but_pass : Stmt := topS 2
abbrev N_last_but_pass : List Str := ["calls", "found", "number", "call"]
theorem sc_last_but_pass : FnScope N_last_but_pass ["calls"] (defScope s_last_but_pass) := ⟨rfl, rfl, rfl, by decide +kernel, rfl, by decide +kernel, by decide +kernel⟩
theorem dv_last_but_pass {f : Addr} {k : Nat} (b_enumerate : mg "enumerate" = none) (cdv : Value) (A : Around) (outer : List PySem.Env) (s : Shared) (H : Hp) (E : XK) (hr : Room k (A.deeper (envOfC "last_but_pass" (defScope s_last_but_pass) s.heap.objs.size f cdv))) (G : Gh) (hG : G.slots = []) :
    SDs (cxOf CX0 P w K mg base N_last_but_pass "last_but_pass" (defScope s_last_but_pass) f cdv A outer s H E).nox G (defBody s_last_but_pass) (tb_last_but_pass) := by
  unfold tb_last_but_pass
  exact sds_cons (sd_set (ns hG (by decide)) sc_last_but_pass.nd rfl (by first | exact Or.inl rfl | exact Or.inr rfl) (ed_non))
      (sds_cons (sd_for (ms := [2, 3]) PassesOwn.never rfl (id_enumT (ed_var 0) rfl b_enumerate) (gd_tup rfl (gds_cons (gd_name (ns hG (by decide)) (by decide) sc_last_but_pass.nd rfl (by first | exact Or.inl rfl | exact Or.inr rfl)) (gds_cons (gd_name (ns hG (by decide)) (by decide) sc_last_but_pass.nd rfl (by first | exact Or.inl rfl | exact Or.inr rfl)) (gds_nil)))) (sds_one (sd_if (eb_cmp (od_ne hr.units) (ed_var 3) (ED.er (ed_str)) (nomark _)) (sds_one (sd_set (ns hG (by decide)) sc_last_but_pass.nd rfl (by first | exact Or.inl rfl | exact Or.inr rfl) (ed_var 2))) (sds_nil))))
      (sds_one (sd_ret (ed_var 1))))
abbrev s_last_bid : Stmt := topS 3
abbrev N_last_bid : List Str := ["calls", "found", "number", "call"]
theorem sc_last_bid : FnScope N_last_bid ["calls"] (defScope s_last_bid) := ⟨rfl, rfl, rfl, by decide +kernel, rfl, by decide +kernel, by decide +kernel⟩
theorem dv_last_bid {f : Addr} {k : Nat} (b_enumerate : mg "enumerate" = none) (b_isinstance : mg "isinstance" = none) (b_tuple : mg "tuple" = none) (cdv : Value) (A : Around) (outer : List PySem.Env) (s : Shared) (H : Hp) (E : XK) (hr : Room k (A.deeper (envOfC "last_bid" (defScope s_last_bid) s.heap.objs.size f cdv))) (G : Gh) (hG : G.slots = []) :
    SDs (cxOf CX0 P w K mg base N_last_bid "last_bid" (defScope s_last_bid) f cdv A outer s H E).nox G (defBody s_last_bid) (tb_last_bid) := by
  unfold tb_last_bid
  exact sds_cons (sd_set (ns hG (by decide)) sc_last_bid.nd rfl (by first | exact Or.inl rfl | exact Or.inr rfl) (ed_non))
      (sds_cons (sd_for (ms := [2, 3]) PassesOwn.never rfl (id_enumT (ed_var 0) rfl b_enumerate) (gd_tup rfl (gds_cons (gd_name (ns hG (by decide)) (by decide) sc_last_bid.nd rfl (by first | exact Or.inl rfl | exact Or.inr rfl)) (gds_cons (gd_name (ns hG (by decide)) (by decide) sc_last_bid.nd rfl (by first | exact Or.inl rfl | exact Or.inr rfl)) (gds_nil)))) (sds_one (sd_if (eb_tru (ED.er (ed_isi isi_tuple (ed_var 3) rfl b_isinstance rfl b_tuple bb_tuple))) (sds_one (sd_set (ns hG (by decide)) sc_last_bid.nd rfl (by first | exact Or.inl rfl | exact Or.inr rfl) (ed_var 2))) (sds_nil))))
      (sds_one (sd_ret (ed_var 1))))
abbrev s_is_over : Stmt := topS 1
abbrev N_is_over : List Str := ["calls"]
theorem sc_is_over : FnScope N_is_over ["calls"] (defScope s_is_over) := ⟨rfl, rfl, rfl, by decide +kernel, rfl, by decide +kernel, by decide +kernel⟩
theorem dv_is_over {f : Addr} {k : Nat} (b_len : mg "len" = none) (cdv : Value) (A : Around) (outer : List PySem.Env) (s : Shared) (H : Hp) (E : XK) (hr : Room k (A.deeper (envOfC "is_over" (defScope s_is_over) s.heap.objs.size f cdv))) (G : Gh) (hG : G.slots = []) :
    SDs (cxOf CX0 P w K mg base N_is_over "is_over" (defScope s_is_over) f cdv A outer s H E).nox G (defBody s_is_over) (tb_is_over) := by
  unfold tb_is_over
  exact sds_one (sd_ret (ed_and (ed_cmp od_ge (ed_ca1 cd_len (ED.er (ed_var 0)) rfl b_len bb_len) (ED.er (ed_int)) (nomark _)) (ed_one (ed_cmp (od_eq hr.units) (ed_sl (ed_var 0) (eo_e (ed_un ud_neg (ED.er (ed_int)))) (eo_no)) (ED.er (ed_tup (eds_cons (ed_str) (eds_cons (ed_str) (eds_cons (ed_str) (eds_nil)))))) (nomark _)))))
abbrev s_ways_from : Stmt := topS 6
abbrev N_ways_from : List Str := ["table", "calls", "last", "bid", "doubling", "left", "found"]
theorem sc_ways_from : FnScope N_ways_from ["table", "calls"] (defScope s_ways_from) := ⟨rfl, rfl, rfl, by decide +kernel, rfl, by decide +kernel, by decide +kernel⟩
theorem dv_ways_from {f : Addr} {k : Nat} (b_len : mg "len" = none) (b_sum : mg "sum" = none) {sp_last_but_pass : SpD} {f_last_but_pass : Addr} {fd_last_but_pass : FuncData} {k_last_but_pass : Nat} (C_last_but_pass : FnOk P w K mg base CX0 k_last_but_pass f_last_but_pass fd_last_but_pass ["calls"] (spL K sp_last_but_pass)) (h_last_but_pass : k_last_but_pass ≤ k) (C_last_but_pass_g : mg "last_but_pass" = some (.ref f_last_but_pass)) (C_last_but_pass_k : PySem.W.keepIn K (.ref f_last_but_pass) = true) (C_last_but_pass_b : Binds K fd_last_but_pass ["calls"] []) {sp_last_bid : SpD} {f_last_bid : Addr} {fd_last_bid : FuncData} {k_last_bid : Nat} (C_last_bid : FnOk P w K mg base CX0 k_last_bid f_last_bid fd_last_bid ["calls"] (spL K sp_last_bid)) (h_last_bid : k_last_bid ≤ k) (C_last_bid_g : mg "last_bid" = some (.ref f_last_bid)) (C_last_bid_k : PySem.W.keepIn K (.ref f_last_bid) = true) (C_last_bid_b : Binds K fd_last_bid ["calls"] []) {sp_is_over : SpD} {f_is_over : Addr} {fd_is_over : FuncData} {k_is_over : Nat} (C_is_over : FnOk P w K mg base CX0 k_is_over f_is_over fd_is_over ["calls"] (spL K sp_is_over)) (h_is_over : k_is_over ≤ k) (C_is_over_g : mg "is_over" = some (.ref f_is_over)) (C_is_over_k : PySem.W.keepIn K (.ref f_is_over) = true) (C_is_over_b : Binds K fd_is_over ["calls"] []) (cdv : Value) (A : Around) (outer : List PySem.Env) (s : Shared) (H : Hp) (E : XK) (hr : Room k (A.deeper (envOfC "ways_from" (defScope s_ways_from) s.heap.objs.size f cdv))) (G : Gh) (hG : G.slots = []) :
    SDs (cxOf CX0 P w K mg base N_ways_from "ways_from" (defScope s_ways_from) f cdv A outer s H E).nox G (defBody s_ways_from) (tb_ways_from sp_last_but_pass sp_last_bid sp_is_over) := by
  unfold tb_ways_from
  exact sds_cons (sd_if (eb_tru (ED.er (ed_call C_is_over (hr.mono h_is_over) rfl C_is_over_g C_is_over_k C_is_over_b (ea_v (ed_var 1) (ea_nil))))) (sds_one (sd_ret (ed_int))) (sds_nil))
      (sds_cons (sd_par2 (nsA hG (by decide)) rfl sc_ways_from.nd rfl rfl (by decide) rfl rfl (eps_d (ed_call C_last_but_pass (hr.mono h_last_but_pass) rfl C_last_but_pass_g C_last_but_pass_k C_last_but_pass_b (ea_v (ed_var 1) (ea_nil))) (eps_d (ed_call C_last_bid (hr.mono h_last_bid) rfl C_last_bid_g C_last_bid_k C_last_bid_b (ea_v (ed_var 1) (ea_nil))) (eps_nil))))
      (sds_cons (sd_if (eb_cmp od_is (ed_var 3) (ED.er (ed_non)) (nomark _)) (sds_one (sd_ret (ed_op od_add (ed_int) (ED.er (ed_op od_mul (ed_op od_sub (ed_int) (ED.er (ed_ca1 cd_len (ED.er (ed_var 1)) rfl b_len bb_len))) (ED.er (ed_ca1 (cd_sum rfl) (ED.er (EL.ed (el_comp [("found", 6)] rfl sc_ways_from.nd rfl (nsA hG (by decide)) (id_lst (ed_var 0)) (blkOk_by (N := N_ways_from) (sc := defScope s_ways_from) (by decide +kernel)) (fun _ q1 _ _ _ _ _ => gd_name (ns (q1.trans hG) (by decide)) (by decide) sc_ways_from.nd rfl (by first | exact Or.inl rfl | exact Or.inr rfl)) (fun _ q1 _ _ _ _ _ => ebs_nil) (fun _ q1 _ _ _ _ _ => ed_dgetV 6 (u65 hr) (ed_tup (eds_cons (ed_int) (eds_cons (ed_int) (eds_cons (ed_int) (eds_nil))))))))) rfl b_sum bb_sum))))))) (sds_nil))
      (sds_cons (sd_set (ns hG (by decide)) sc_ways_from.nd rfl (by first | exact Or.inl rfl | exact Or.inr rfl) (ed_op od_add (ed_countT (u65 hr) (ed_sl (ed_var 1) (eo_e (ed_var 3)) (eo_no)) (ed_str)) (ED.er (ed_countT (u65 hr) (ed_sl (ed_var 1) (eo_e (ed_var 3)) (eo_no)) (ed_str)))))
      (sds_cons (sd_set (ns hG (by decide)) sc_ways_from.nd rfl (by first | exact Or.inl rfl | exact Or.inr rfl) (ed_op od_sub (ed_op od_sub (ed_ca1 cd_len (ED.er (ed_var 0)) rfl b_len bb_len) (ED.er (ed_int))) (ED.er (ed_op od_add (ed_op od_sub (ed_op od_mul (ed_int) (ED.er (ed_ix (ed_ix (ed_var 1) (ed_var 3)) (ed_int)))) (ED.er (ed_int))) (ED.er (ed_ix (ed_ix (ed_var 1) (ed_var 3)) (ed_int)))))))
      (sds_one (sd_ret (ed_dgetD (u65 hr) (ed_ix (ed_var 0) (ed_var 5)) (ed_tup (eds_cons (ed_var 4) (eds_cons (ed_op od_mod (ed_op od_sub (ed_ca1 cd_len (ED.er (ed_var 1)) rfl b_len bb_len) (ED.er (ed_var 3))) (ED.er (ed_int))) (eds_cons (ed_op od_sub (ed_op od_sub (ed_ca1 cd_len (ED.er (ed_var 1)) rfl b_len bb_len) (ED.er (ed_int))) (ED.er (ed_var 2))) (eds_nil))))))))))))
abbrev s_rows_from : Stmt := topS 7
abbrev N_rows_from : List Str := ["levels", "calls"]
theorem sc_rows_from : FnScope N_rows_from ["levels", "calls"] (defScope s_rows_from) := ⟨rfl, rfl, rfl, by decide +kernel, rfl, by decide +kernel, by decide +kernel⟩
theorem dv_rows_from {f : Addr} {k : Nat} {sp_ways_behind : SpD} {f_ways_behind : Addr} {fd_ways_behind : FuncData} {k_ways_behind : Nat} (C_ways_behind : FnOk P w K mg base CX0 k_ways_behind f_ways_behind fd_ways_behind ["bids"] (spL K sp_ways_behind)) (h_ways_behind : k_ways_behind ≤ k) (C_ways_behind_g : mg "ways_behind" = some (.ref f_ways_behind)) (C_ways_behind_k : PySem.W.keepIn K (.ref f_ways_behind) = true) (C_ways_behind_b : Binds K fd_ways_behind ["bids"] []) {sp_ways_from : SpD} {f_ways_from : Addr} {fd_ways_from : FuncData} {k_ways_from : Nat} (C_ways_from : FnOk P w K mg base CX0 k_ways_from f_ways_from fd_ways_from ["table", "calls"] (spL K sp_ways_from)) (h_ways_from : k_ways_from ≤ k) (C_ways_from_g : mg "ways_from" = some (.ref f_ways_from)) (C_ways_from_k : PySem.W.keepIn K (.ref f_ways_from) = true) (C_ways_from_b : Binds K fd_ways_from ["table", "calls"] []) (cdv : Value) (A : Around) (outer : List PySem.Env) (s : Shared) (H : Hp) (E : XK) (hr : Room k (A.deeper (envOfC "rows_from" (defScope s_rows_from) s.heap.objs.size f cdv))) (G : Gh) (hG : G.slots = []) :
    SDs (cxOf CX0 P w K mg base N_rows_from "rows_from" (defScope s_rows_from) f cdv A outer s H E).nox G (defBody s_rows_from) (tb_rows_from sp_ways_behind sp_ways_from) := by
  unfold tb_rows_from
  exact sds_one (sd_ret (ed_call C_ways_from (hr.mono h_ways_from) rfl C_ways_from_g C_ways_from_k C_ways_from_b (ea_v (ed_call C_ways_behind (hr.mono h_ways_behind) rfl C_ways_behind_g C_ways_behind_k C_ways_behind_b (ea_v (ed_op od_mul (ed_int) (ED.er (ed_var 0))) (ea_nil))) (ea_v (ed_var 1) (ea_nil)))))
abbrev s_rows_in_all : Stmt := topS 8
abbrev N_rows_in_all : List Str := ["levels"]
theorem sc_rows_in_all : FnScope N_rows_in_all ["levels"] (defScope s_rows_in_all) := ⟨rfl, rfl, rfl, by decide +kernel, rfl, by decide +kernel, by decide +kernel⟩
theorem dv_rows_in_all {f : Addr} {k : Nat} {sp_rows_from : SpD} {f_rows_from : Addr} {fd_rows_from : FuncData} {k_rows_from : Nat} (C_rows_from : FnOk P w K mg base CX0 k_rows_from f_rows_from fd_rows_from ["levels", "calls"] (spL K sp_rows_from)) (h_rows_from : k_rows_from ≤ k) (C_rows_from_g : mg "rows_from" = some (.ref f_rows_from)) (C_rows_from_k : PySem.W.keepIn K (.ref f_rows_from) = true) (C_rows_from_b : Binds K fd_rows_from ["levels", "calls"] []) (cdv : Value) (A : Around) (outer : List PySem.Env) (s : Shared) (H : Hp) (E : XK) (hr : Room k (A.deeper (envOfC "rows_in_all" (defScope s_rows_in_all) s.heap.objs.size f cdv))) (G : Gh) (hG : G.slots = []) :
    SDs (cxOf CX0 P w K mg base N_rows_in_all "rows_in_all" (defScope s_rows_in_all) f cdv A outer s H E).nox G (defBody s_rows_in_all) (tb_rows_in_all sp_rows_from) := by
  unfold tb_rows_in_all
  exact sds_one (sd_ret (ed_call C_rows_from (hr.mono h_rows_from) rfl C_rows_from_g C_rows_from_k C_rows_from_b (ea_v (ed_var 0) (ea_v (ed_tup (eds_nil)) (ea_nil)))))
abbrev s_law_all_bids : Stmt := topS 14
abbrev N_law_all_bids : List Str := ["levels", "found", "level", "strain"]
theorem sc_law_all_bids : FnScope N_law_all_bids ["levels"] (defScope s_law_all_bids) := ⟨rfl, rfl, rfl, by decide +kernel, rfl, by decide +kernel, by decide +kernel⟩
theorem dv_law_all_bids {f : Addr} {k : Nat} (b_range : mg "range" = none) (cdv : Value) (A : Around) (outer : List PySem.Env) (s : Shared) (H : Hp) (E : XK) (hr : Room k (A.deeper (envOfC "_law_all_bids" (defScope s_law_all_bids) s.heap.objs.size f cdv))) (G : Gh) (hG : G.slots = []) :
    SDs (cxOf CX0 P w K mg base N_law_all_bids "_law_all_bids" (defScope s_law_all_bids) f cdv A outer s H E).nox G (defBody s_law_all_bids) (tb_law_all_bids) := by
  unfold tb_law_all_bids
  exact sds_cons (sd_set (ns hG (by decide)) sc_law_all_bids.nd rfl (by first | exact Or.inl rfl | exact Or.inr rfl) (EL.ed (el_lst (eds_nil))))
      (sds_cons (sd_for (ms := [2]) PassesOwn.never rfl (id_range2 rfl b_range (ed_int) (ed_op od_add (ed_var 0) (ED.er (ed_int)))) (gd_name (ns hG (by decide)) (by decide) sc_law_all_bids.nd rfl (by first | exact Or.inl rfl | exact Or.inr rfl)) (sds_one (sd_set (ns hG (by decide)) sc_law_all_bids.nd rfl (by first | exact Or.inl rfl | exact Or.inr rfl) (EL.ed (el_op od_cat (ed_var 1) (ED.er (EL.ed (el_comp [("strain", 3)] rfl sc_law_all_bids.nd rfl (nsA hG (by decide)) (id_range1 rfl b_range (ed_int)) (blkOk_by (N := N_law_all_bids) (sc := defScope s_law_all_bids) (by decide +kernel)) (fun _ q1 _ _ _ _ _ => gd_name (ns (q1.trans hG) (by decide)) (by decide) sc_law_all_bids.nd rfl (by first | exact Or.inl rfl | exact Or.inr rfl)) (fun _ q1 _ _ _ _ _ => ebs_nil) (fun _ q1 _ _ _ _ _ => ed_tup (eds_cons (ed_var 2) (eds_cons (ed_var 3) (eds_nil))))))))))))
      (sds_one (sd_ret (ed_var 1))))
abbrev s_rows_ending : Stmt := topS 9
abbrev N_rows_ending : List Str := ["levels", "bid", "times", "found", "less"]
theorem sc_rows_ending : FnScope N_rows_ending ["levels", "bid", "times"] (defScope s_rows_ending) := ⟨rfl, rfl, rfl, by decide +kernel, rfl, by decide +kernel, by decide +kernel⟩
theorem dv_rows_ending {f : Addr} {k : Nat} (b_range : mg "range" = none) (b_int : mg "int" = none) (cdv : Value) (A : Around) (outer : List PySem.Env) (s : Shared) (H : Hp) (E : XK) (hr : Room k (A.deeper (envOfC "rows_ending" (defScope s_rows_ending) s.heap.objs.size f cdv))) (G : Gh) (hG : G.slots = []) :
    SDs (cxOf CX0 P w K mg base N_rows_ending "rows_ending" (defScope s_rows_ending) f cdv A outer s H E).nox G (defBody s_rows_ending) (tb_rows_ending_k11) := by
  unfold tb_rows_ending_k11
  exact sds_cons (sd_if (eb_cmp od_is (ed_var 1) (ED.er (ed_non)) (nomark _)) (sds_one (sd_ret (ed_caT1 cd_int (ED.er (ed_cmp (od_eq hr.units) (ed_var 2) (ED.er (ed_int)) (nomark _))) rfl b_int bb_int))) (sds_nil))
      (sds_cons (sd_if (eb_cmp (od_notIn (u65 hr)) (ed_var 2) (ED.er (ed_tup (eds_cons (ed_int) (eds_cons (ed_int) (eds_cons (ed_int) (eds_nil)))))) rfl) (sds_one (sd_ret (ed_int))) (sds_nil))
      (sds_cons (sd_set (ns hG (by decide)) sc_rows_ending.nd rfl (by first | exact Or.inl rfl | exact Or.inr rfl) (ed_op od_mul (ed_int) (ED.er (ed_var 2))))
      (sds_cons (sd_for (ms := [4]) PassesOwn.never rfl (id_range1 rfl b_range (ed_op od_add (ed_op od_sub (ed_op od_mul (ed_int) (ED.er (ed_ix (ed_var 1) (ed_int)))) (ED.er (ed_int))) (ED.er (ed_ix (ed_var 1) (ed_int))))) (gd_name (ns hG (by decide)) (by decide) sc_rows_ending.nd rfl (by first | exact Or.inl rfl | exact Or.inr rfl)) (sds_one (sd_set (ns hG (by decide)) sc_rows_ending.nd rfl (by first | exact Or.inl rfl | exact Or.inr rfl) (ed_op od_mul (ed_var 3) (ED.er (ed_int))))))
      (sds_one (sd_ret (ed_var 3))))))
abbrev s_law_draw : Stmt := topS 12
abbrev N_law_draw : List Str := ["script", "town", "many", "k", "cell", "digits", "number", "more"]
theorem sc_law_draw : FnScope N_law_draw ["script", "town", "many"] (defScope s_law_draw) := ⟨rfl, rfl, rfl, by decide +kernel, rfl, by decide +kernel, by decide +kernel⟩
theorem dv_law_draw {f : Addr} {k : Nat} (b_len : mg "len" = none) (b_abs : mg "abs" = none) (b_max : mg "max" = none) (cdv : Value) (A : Around) (outer : List PySem.Env) (s : Shared) (H : Hp) (E : XK) (hr : Room k (A.deeper (envOfC "_law_draw" (defScope s_law_draw) s.heap.objs.size f cdv))) (G : Gh) (hG : G.slots = [1]) :
    SDs (cxOf CX0 P w K mg base N_law_draw "_law_draw" (defScope s_law_draw) f cdv A outer s H E).nox G (defBody s_law_draw) (tb_law_draw) := by
  unfold tb_law_draw
  exact sds_cons (sd_if (eb_not (eb_tru (er_var 1))) (sds_one (sd_expr (ed_app 1 (ed_ca1 (cd_max rfl) (ED.er (EL.ed (el_op od_cat (EL.ed (el_comp [("cell", 4)] rfl sc_law_draw.nd rfl (nsA hG (by decide)) (id_lst (ed_var 0)) (blkOk_by (N := N_law_draw) (sc := defScope s_law_draw) (by decide +kernel)) (fun _ q1 _ _ _ _ _ => gd_name (ns (q1.trans hG) (by decide)) (by decide) sc_law_draw.nd rfl (by first | exact Or.inl rfl | exact Or.inr rfl)) (fun _ q1 _ _ _ _ _ => ebs_nil) (fun _ q1 _ _ _ _ _ => ed_ca1 cd_abs (ED.er (ed_var 4)) rfl b_abs bb_abs))) (ED.er (EL.ed (el_lst (eds_cons (ed_int) (eds_nil)))))))) rfl b_max bb_max)))) (sds_nil))
      (sds_cons (sd_expr (ed_app 1 (ed_int)))
      (sds_cons (sd_set (ns hG (by decide)) sc_law_draw.nd rfl (by first | exact Or.inl rfl | exact Or.inr rfl) (ed_ca1 cd_len (er_var 1) rfl b_len bb_len))
      (sds_cons (sd_set (ns hG (by decide)) sc_law_draw.nd rfl (by first | exact Or.inl rfl | exact Or.inr rfl) (ed_if (eb_tru (ED.er (ed_var 0))) (ed_ix (ed_var 0) (ed_op od_mod (ed_var 3) (ED.er (ed_ca1 cd_len (ED.er (ed_var 0)) rfl b_len bb_len)))) (ed_int)))
      (sds_cons (sd_set (ns hG (by decide)) sc_law_draw.nd rfl (by first | exact Or.inl rfl | exact Or.inr rfl) (ed_op od_mod (ed_ixO 1 (ed_int)) (ED.er (ed_int))))
      (sds_cons (sd_setIx 1 (ed_int) (ed_op od_div (ed_ixO 1 (ed_int)) (ED.er (ed_int))))
      (sds_cons (sd_set (ns hG (by decide)) sc_law_draw.nd rfl (by first | exact Or.inl rfl | exact Or.inr rfl) (ed_op od_mod (ed_op od_add (ed_op od_add (ed_var 4) (ED.er (ed_op od_mul (ed_int) (ED.er (ed_var 5))))) (ED.er (ed_op od_mul (ed_int) (ED.er (ed_var 3))))) (ED.er (ed_int))))
      (sds_cons (sd_set (ns hG (by decide)) sc_law_draw.nd rfl (by first | exact Or.inl rfl | exact Or.inr rfl) (ed_op od_mod (ed_op od_mul (ed_op od_mod (ed_op od_mul (ed_var 6) (ED.er (ed_var 6))) (ED.er (ed_int))) (ED.er (ed_int))) (ED.er (ed_int))))
      (sds_cons (sd_set (ns hG (by decide)) sc_law_draw.nd rfl (by first | exact Or.inl rfl | exact Or.inr rfl) (ed_op od_mod (ed_op od_mul (ed_op od_mod (ed_op od_mul (ed_var 6) (ED.er (ed_var 6))) (ED.er (ed_int))) (ED.er (ed_int))) (ED.er (ed_int))))
      (sds_one (sd_ret (ed_op od_mod (ed_op od_add (ed_op od_mul (ed_op od_div (ed_var 6) (ED.er (ed_int))) (ED.er (ed_int))) (ED.er (ed_op od_div (ed_var 7) (ED.er (ed_int))))) (ED.er (ed_var 2)))))))))))))
abbrev s_law_pick : Stmt := topS 13
abbrev N_law_pick : List Str := ["script", "town", "some"]
theorem sc_law_pick : FnScope N_law_pick ["script", "town", "some"] (defScope s_law_pick) := ⟨rfl, rfl, rfl, by decide +kernel, rfl, by decide +kernel, by decide +kernel⟩
theorem dv_law_pick {f : Addr} {k : Nat} (b_len : mg "len" = none) {sp_law_draw : SpD} {f_law_draw : Addr} {fd_law_draw : FuncData} {k_law_draw : Nat} (C_law_draw : FnOk P w K mg base CX0 k_law_draw f_law_draw fd_law_draw ["script", "town", "many"] (spL K sp_law_draw)) (h_law_draw : k_law_draw ≤ k) (C_law_draw_g : mg "_law_draw" = some (.ref f_law_draw)) (C_law_draw_k : PySem.W.keepIn K (.ref f_law_draw) = true) (C_law_draw_b : Binds K fd_law_draw ["script", "town", "many"] []) (cdv : Value) (A : Around) (outer : List PySem.Env) (s : Shared) (H : Hp) (E : XK) (hr : Room k (A.deeper (envOfC "_law_pick" (defScope s_law_pick) s.heap.objs.size f cdv))) (G : Gh) (hG : G.slots = [1]) :
    SDs (cxOf CX0 P w K mg base N_law_pick "_law_pick" (defScope s_law_pick) f cdv A outer s H E).nox G (defBody s_law_pick) (tb_law_pick sp_law_draw) := by
  unfold tb_law_pick
  exact sds_one (sd_ret (ed_ix (ed_var 2) (ed_call C_law_draw (hr.mono h_law_draw) rfl C_law_draw_g C_law_draw_k C_law_draw_b (ea_v (ed_var 0) (ea_o 1 (ea_v (ed_ca1 cd_len (ED.er (ed_var 2)) rfl b_len bb_len) (ea_nil)))))))
abbrev s_law_same : Stmt := topS 11
abbrev N_law_same : List Str := ["got", "due", "one", "other"]
theorem sc_law_same : FnScope N_law_same ["got", "due"] (defScope s_law_same) := ⟨rfl, rfl, rfl, by decide +kernel, rfl, by decide +kernel, by decide +kernel⟩
theorem dv_law_same {f : Addr} {k : Nat} (b_isinstance : mg "isinstance" = none) (b_int : mg "int" = none) (b_bool : mg "bool" = none) (b_str : mg "str" = none) (b_tuple : mg "tuple" = none) (b_zip : mg "zip" = none) (b_all : mg "all" = none) (b_len : mg "len" = none) {sp_law_same : SpD} {f_law_same : Addr} {fd_law_same : FuncData} {k_law_same : Nat} (C_law_same : FnOk P w K mg base CX0 k_law_same f_law_same fd_law_same ["got", "due"] (spL K sp_law_same)) (h_law_same : k_law_same ≤ k) (C_law_same_g : mg "_law_same" = some (.ref f_law_same)) (C_law_same_k : PySem.W.keepIn K (.ref f_law_same) = true) (C_law_same_b : Binds K fd_law_same ["got", "due"] []) (cdv : Value) (A : Around) (outer : List PySem.Env) (s : Shared) (H : Hp) (E : XK) (hr : Room k (A.deeper (envOfC "_law_same" (defScope s_law_same) s.heap.objs.size f cdv))) (G : Gh) (hG : G.slots = []) :
    SDs (cxOf CX0 P w K mg base N_law_same "_law_same" (defScope s_law_same) f cdv A outer s H E).nox G (defBody s_law_same) (tb_law_same sp_law_same) := by
  unfold tb_law_same
  exact sds_cons (sd_if (eb_cmp od_is (ed_var 1) (ED.er (ed_non)) (nomark _)) (sds_one (sd_ret (ed_cmp od_is (ed_var 0) (ED.er (ed_non)) (nomark _)))) (sds_nil))
      (sds_cons (sd_if (eb_tru (ED.er (ed_isi isi_bool (ed_var 1) rfl b_isinstance rfl b_bool bb_bool))) (sds_one (sd_ret (ed_and (ed_isi isi_bool (ed_var 0) rfl b_isinstance rfl b_bool bb_bool) (ed_one (ed_cmp (od_eq hr.units) (ed_var 0) (ED.er (ed_var 1)) (nomark _)))))) (sds_nil))
      (sds_cons (sd_if (eb_tru (ED.er (ed_isi isi_tuple (ed_var 1) rfl b_isinstance rfl b_tuple bb_tuple))) (sds_cons (sd_if (EW.eb (ew_or (eb_not (eb_tru (ED.er (ed_isi isi_tuple (ed_var 0) rfl b_isinstance rfl b_tuple bb_tuple)))) (ew_or1 (eb_cmp (od_ne hr.units) (ed_ca1 cd_len (ED.er (ed_var 0)) rfl b_len bb_len) (ED.er (ed_ca1 cd_len (ED.er (ed_var 1)) rfl b_len bb_len)) (nomark _))))) (sds_one (sd_ret (ed_bl))) (sds_nil))
      (sds_one (sd_ret (ed_ca1 (cd_all rfl) (ED.er (EL.ed (el_comp [("one", 2), ("other", 3)] rfl sc_law_same.nd rfl (nsA hG (by decide)) (id_zip (ed_var 0) (ed_var 1) rfl b_zip) (blkOk_by (N := N_law_same) (sc := defScope s_law_same) (by decide +kernel)) (fun _ q1 _ _ _ _ _ => gd_tup rfl (gds_cons (gd_name (ns (q1.trans hG) (by decide)) (by decide) sc_law_same.nd rfl (by first | exact Or.inl rfl | exact Or.inr rfl)) (gds_cons (gd_name (ns (q1.trans hG) (by decide)) (by decide) sc_law_same.nd rfl (by first | exact Or.inl rfl | exact Or.inr rfl)) (gds_nil)))) (fun _ q1 _ _ _ _ _ => ebs_nil) (fun _ q1 _ _ _ _ _ => ed_call C_law_same (hr.mono h_law_same) rfl C_law_same_g C_law_same_k C_law_same_b (ea_v (ed_var 2) (ea_v (ed_var 3) (ea_nil))))))) rfl b_all bb_all)))) (sds_nil))
      (sds_cons (sd_if (eb_tru (ED.er (ed_isi isi_str (ed_var 1) rfl b_isinstance rfl b_str bb_str))) (sds_one (sd_ret (ed_and (ed_isi isi_str (ed_var 0) rfl b_isinstance rfl b_str bb_str) (ed_one (ed_cmp (od_eq hr.units) (ed_var 0) (ED.er (ed_var 1)) (nomark _)))))) (sds_nil))
      (sds_one (sd_ret (ed_and (ed_isi isi_int (ed_var 0) rfl b_isinstance rfl b_int bb_int) (ed_and (ed_not (ed_isi isi_bool (ed_var 0) rfl b_isinstance rfl b_bool bb_bool)) (ed_one (ed_cmp (od_eq hr.units) (ed_var 0) (ED.er (ed_var 1)) (nomark _))))))))))
abbrev s_law_step : Stmt := topS 15
abbrev N_law_step : List Str := ["states", "ends", "bids", "found", "at", "doubled", "quiet", "ways", "nexts", "key", "bid"]
theorem sc_law_step : FnScope N_law_step ["states", "ends", "bids"] (defScope s_law_step) := ⟨rfl, rfl, rfl, by decide +kernel, rfl, by decide +kernel, by decide +kernel⟩
theorem dv_law_step {f : Addr} {k : Nat} (b_range : mg "range" = none) (cdv : Value) (A : Around) (outer : List PySem.Env) (s : Shared) (H : Hp) (E : XK) (hr : Room k (A.deeper (envOfC "_law_step" (defScope s_law_step) s.heap.objs.size f cdv))) (G : Gh) (hG : G.slots = [1]) :
    SDs (cxOf CX0 P w K mg base N_law_step "_law_step" (defScope s_law_step) f cdv A outer s H E).nox G (defBody s_law_step) (tb_law_step) := by
  unfold tb_law_step
  exact sds_cons (sd_setM (ns hG (by decide)) sc_law_step.nd rfl (by first | exact Or.inl rfl | exact Or.inr rfl) (em_dt))
      (sds_cons (sd_for (ms := [4, 5, 6, 7]) PassesOwn.never rfl (id_di (ed_var 0)) (gd_tup rfl (gds_cons (gd_tup rfl (gds_cons (gd_name (ns hG (by decide)) (by decide) sc_law_step.nd rfl (by first | exact Or.inl rfl | exact Or.inr rfl)) (gds_cons (gd_name (ns hG (by decide)) (by decide) sc_law_step.nd rfl (by first | exact Or.inl rfl | exact Or.inr rfl)) (gds_cons (gd_name (ns hG (by decide)) (by decide) sc_law_step.nd rfl (by first | exact Or.inl rfl | exact Or.inr rfl)) (gds_nil))))) (gds_cons (gd_name (ns hG (by decide)) (by decide) sc_law_step.nd rfl (by first | exact Or.inl rfl | exact Or.inr rfl)) (gds_nil)))) (sds_cons (sd_setLC [("bid", 10)] (ns hG (by decide)) rfl sc_law_step.nd rfl rfl (sw_true rfl rfl rfl (by decide +kernel)) rfl (nsA hG (by decide)) (id_range2 rfl b_range (ed_op od_add (ed_var 4) (ED.er (ed_int))) (ed_var 2)) (blkOk_by (N := N_law_step) (sc := defScope s_law_step) (by decide +kernel)) (fun _ q1 _ _ _ _ _ => gd_name (ns (q1.trans hG) (by decide)) (by decide) sc_law_step.nd rfl (by first | exact Or.inl rfl | exact Or.inr rfl)) (fun _ q1 _ _ _ _ _ => ebs_nil) (fun _ q1 _ _ _ _ _ => ed_tup (eds_cons (ed_var 10) (eds_cons (ed_int) (eds_cons (ed_int) (eds_nil))))))
      (sds_cons (sd_if (EW.eb (ew_or (eb_cmp od_lt (ed_var 6) (ED.er (ed_int)) (nomark _)) (ew_or1 (EW.eb (ew_and (eb_cmp od_lt (ed_var 4) (ED.er (ed_int)) (nomark _)) (ew_and1 (eb_cmp od_lt (ed_var 6) (ED.er (ed_int)) (nomark _)))))))) (sds_one (sd_expr (ed_app 8 (ed_tup (eds_cons (ed_var 4) (eds_cons (ed_var 5) (eds_cons (ed_op od_add (ed_var 6) (ED.er (ed_int))) (eds_nil)))))))) (sds_one (sd_dputV 1 (u65 hr) (ed_tup (eds_cons (ed_var 4) (eds_cons (ed_var 5) (eds_nil)))) (ed_op od_add (ed_dget2V 1 (u65 hr) (ed_tup (eds_cons (ed_var 4) (eds_cons (ed_var 5) (eds_nil)))) (ed_int)) (ED.er (ed_var 7))))))
      (sds_cons (sd_if (EW.eb (ew_and (eb_cmp od_ge (ed_var 4) (ED.er (ed_int)) (nomark _)) (ew_and (eb_cmp od_lt (ed_var 5) (ED.er (ed_int)) (nomark _)) (ew_and1 (eb_cmp (od_ne hr.units) (ed_var 6) (ED.er (ed_int)) (nomark _)))))) (sds_one (sd_expr (ed_app 8 (ed_tup (eds_cons (ed_var 4) (eds_cons (ed_op od_add (ed_var 5) (ED.er (ed_int))) (eds_cons (ed_int) (eds_nil)))))))) (sds_nil))
      (sds_one (sd_for (ms := [9]) PassesOwn.never rfl (id_lst (ed_fzv 8)) (gd_name (ns hG (by decide)) (by decide) sc_law_step.nd rfl (by first | exact Or.inl rfl | exact Or.inr rfl)) (sds_one (sd_dputV 3 (u65 hr) (ed_var 9) (ed_op od_add (ed_dget2V 3 (u65 hr) (ed_var 9) (ed_int)) (ED.er (ed_var 7)))))))))))
      (sds_one (sd_ret (ed_fzv 3))))
abbrev s_law : Stmt := topS 16
abbrev N_law : List Str := ["script", "town", "levels", "states", "ends", "at", "bid", "times", "due", "many", "whole", "power"]
theorem sc_law : FnScope N_law ["script"] (defScope s_law) := ⟨rfl, rfl, rfl, by decide +kernel, rfl, by decide +kernel, by decide +kernel⟩
theorem dv_law {f : Addr} {k : Nat} (b_range : mg "range" = none) (b_sum : mg "sum" = none) (b_list : mg "list" = none) (b_enumerate : mg "enumerate" = none) {sp_rows_in_all : SpD} {f_rows_in_all : Addr} {fd_rows_in_all : FuncData} {k_rows_in_all : Nat} (C_rows_in_all : FnOk P w K mg base CX0 k_rows_in_all f_rows_in_all fd_rows_in_all ["levels"] (spL K sp_rows_in_all)) (h_rows_in_all : k_rows_in_all ≤ k) (C_rows_in_all_g : mg "rows_in_all" = some (.ref f_rows_in_all)) (C_rows_in_all_k : PySem.W.keepIn K (.ref f_rows_in_all) = true) (C_rows_in_all_b : Binds K fd_rows_in_all ["levels"] []) {sp_law_all_bids : SpD} {f_law_all_bids : Addr} {fd_law_all_bids : FuncData} {k_law_all_bids : Nat} (C_law_all_bids : FnOk P w K mg base CX0 k_law_all_bids f_law_all_bids fd_law_all_bids ["levels"] (spL K sp_law_all_bids)) (h_law_all_bids : k_law_all_bids ≤ k) (C_law_all_bids_g : mg "_law_all_bids" = some (.ref f_law_all_bids)) (C_law_all_bids_k : PySem.W.keepIn K (.ref f_law_all_bids) = true) (C_law_all_bids_b : Binds K fd_law_all_bids ["levels"] []) {sp_rows_ending : SpD} {f_rows_ending : Addr} {fd_rows_ending : FuncData} {k_rows_ending : Nat} (C_rows_ending : FnOk P w K mg base CX0 k_rows_ending f_rows_ending fd_rows_ending ["levels", "bid", "times"] (spL K sp_rows_ending)) (h_rows_ending : k_rows_ending ≤ k) (C_rows_ending_g : mg "rows_ending" = some (.ref f_rows_ending)) (C_rows_ending_k : PySem.W.keepIn K (.ref f_rows_ending) = true) (C_rows_ending_b : Binds K fd_rows_ending ["levels", "bid", "times"] []) {sp_law_pick : SpD} {f_law_pick : Addr} {fd_law_pick : FuncData} {k_law_pick : Nat} (C_law_pick : FnOk P w K mg base CX0 k_law_pick f_law_pick fd_law_pick ["script", "town", "some"] (spL K sp_law_pick)) (h_law_pick : k_law_pick ≤ k) (C_law_pick_g : mg "_law_pick" = some (.ref f_law_pick)) (C_law_pick_k : PySem.W.keepIn K (.ref f_law_pick) = true) (C_law_pick_b : Binds K fd_law_pick ["script", "town", "some"] []) {sp_law_same : SpD} {f_law_same : Addr} {fd_law_same : FuncData} {k_law_same : Nat} (C_law_same : FnOk P w K mg base CX0 k_law_same f_law_same fd_law_same ["got", "due"] (spL K sp_law_same)) (h_law_same : k_law_same ≤ k) (C_law_same_g : mg "_law_same" = some (.ref f_law_same)) (C_law_same_k : PySem.W.keepIn K (.ref f_law_same) = true) (C_law_same_b : Binds K fd_law_same ["got", "due"] []) {sp_law_step : SpD} {f_law_step : Addr} {fd_law_step : FuncData} {k_law_step : Nat} (C_law_step : FnOk P w K mg base CX0 k_law_step f_law_step fd_law_step ["states", "ends", "bids"] (spL K sp_law_step)) (h_law_step : k_law_step ≤ k) (C_law_step_g : mg "_law_step" = some (.ref f_law_step)) (C_law_step_k : PySem.W.keepIn K (.ref f_law_step) = true) (C_law_step_b : Binds K fd_law_step ["states", "ends", "bids"] []) (cdv : Value) (A : Around) (outer : List PySem.Env) (s : Shared) (H : Hp) (E : XK) (hr : Room k (A.deeper (envOfC "law" (defScope s_law) s.heap.objs.size f cdv))) (G : Gh) (hG : G.slots = []) :
    SDs (cxOf CX0 P w K mg base N_law "law" (defScope s_law) f cdv A outer s H E).nox G (defBody s_law) (tb_law_k11 sp_rows_in_all sp_law_all_bids sp_rows_ending sp_law_pick sp_law_same sp_law_step) := by
  unfold tb_law_k11
  exact sds_cons (sd_setL (ns hG (by decide)) sc_law.nd rfl (by first | exact Or.inl rfl | exact Or.inr rfl) (el_lst (eds_nil)))
      (sds_cons (sd_set (ns hG (by decide)) sc_law.nd rfl (by first | exact Or.inl rfl | exact Or.inr rfl) (ed_call C_law_pick (hr.mono h_law_pick) rfl C_law_pick_g C_law_pick_k C_law_pick_b (ea_v (ed_var 0) (ea_o 1 (ea_v (EL.ed (el_lst (eds_cons (ed_int) (eds_cons (ed_int) (eds_cons (ed_int) (eds_nil)))))) (ea_nil))))))
      (sds_cons (sd_par2 (nsA hG (by decide)) rfl sc_law.nd rfl rfl (by decide) rfl rfl (eps_d (EM.ed (em_dt1 (u65 hr) (fun _ q2 => ed_tup (eds_cons (ed_un ud_neg (ED.er (ed_int))) (eds_cons (ed_int) (eds_cons (ed_int) (eds_nil))))) (fun _ q2 => ed_int))) (eps_m (em_dt) (fun _ q3 => eps_nil))))
      (sds_cons (sd_while PassesOwn.never (eb_truDk (ed_var 3)) (sds_one (sd_set (ns hG (by decide)) sc_law.nd rfl (by first | exact Or.inl rfl | exact Or.inr rfl) (ed_call C_law_step (hr.mono h_law_step) rfl C_law_step_g C_law_step_k C_law_step_b (ea_v (ed_var 3) (ea_o 4 (ea_v (ed_op od_mul (ed_int) (ED.er (ed_var 2))) (ea_nil))))))))
      (sds_cons (sd_for (ms := [5, 6]) PassesOwn.never rfl (id_enumL (ed_call C_law_all_bids (hr.mono h_law_all_bids) rfl C_law_all_bids_g C_law_all_bids_k C_law_all_bids_b (ea_v (ed_var 2) (ea_nil))) rfl b_enumerate) (gd_tup rfl (gds_cons (gd_name (ns hG (by decide)) (by decide) sc_law.nd rfl (by first | exact Or.inl rfl | exact Or.inr rfl)) (gds_cons (gd_name (ns hG (by decide)) (by decide) sc_law.nd rfl (by first | exact Or.inl rfl | exact Or.inr rfl)) (gds_nil)))) (sds_one (sd_for (ms := [7]) PassesOwn.never rfl (id_range1 rfl b_range (ed_int)) (gd_name (ns hG (by decide)) (by decide) sc_law.nd rfl (by first | exact Or.inl rfl | exact Or.inr rfl)) (sds_cons (sd_set (ns hG (by decide)) sc_law.nd rfl (by first | exact Or.inl rfl | exact Or.inr rfl) (ed_if (eb_cmp (od_in (u65 hr)) (ed_var 7) (ED.er (ed_tup (eds_cons (ed_int) (eds_cons (ed_int) (eds_cons (ed_int) (eds_nil)))))) rfl) (ed_dget2V 4 (u65 hr) (ed_tup (eds_cons (ed_var 5) (eds_cons (ed_ix (EL.ed (el_lst (eds_cons (ed_int) (eds_cons (ed_int) (eds_cons (ed_int) (eds_cons (ed_int) (eds_cons (ed_int) (eds_cons (ed_int) (eds_nil))))))))) (ed_var 7)) (eds_nil)))) (ed_int)) (ed_int)))
      (sds_one (sd_if (eb_not (eb_tru (ED.er (ed_call C_law_same (hr.mono h_law_same) rfl C_law_same_g C_law_same_k C_law_same_b (ea_v (ed_call C_rows_ending (hr.mono h_rows_ending) rfl C_rows_ending_g C_rows_ending_k C_rows_ending_b (ea_v (ed_var 2) (ea_v (ed_var 6) (ea_v (ed_var 7) (ea_nil))))) (ea_v (ed_var 8) (ea_nil))))))) (sds_one (sd_ret (ed_bl))) (sds_nil)))))))
      (sds_cons (sd_if (eb_not (eb_tru (ED.er (ed_call C_law_same (hr.mono h_law_same) rfl C_law_same_g C_law_same_k C_law_same_b (ea_v (ed_tup (eds_cons (ed_call C_rows_ending (hr.mono h_rows_ending) rfl C_rows_ending_g C_rows_ending_k C_rows_ending_b (ea_v (ed_var 2) (ea_v (ed_non) (ea_v (ed_int) (ea_nil))))) (eds_cons (ed_call C_rows_ending (hr.mono h_rows_ending) rfl C_rows_ending_g C_rows_ending_k C_rows_ending_b (ea_v (ed_var 2) (ea_v (ed_non) (ea_v (ed_int) (ea_nil))))) (eds_nil)))) (ea_v (ed_tup (eds_cons (ed_dgetV 4 (u65 hr) (ed_tup (eds_cons (ed_un ud_neg (ED.er (ed_int))) (eds_cons (ed_int) (eds_nil))))) (eds_cons (ed_int) (eds_nil)))) (ea_nil))))))) (sds_one (sd_ret (ed_bl))) (sds_nil))
      (sds_cons (sd_if (eb_not (eb_tru (ED.er (ed_call C_law_same (hr.mono h_law_same) rfl C_law_same_g C_law_same_k C_law_same_b (ea_v (ed_call C_rows_in_all (hr.mono h_rows_in_all) rfl C_rows_in_all_g C_rows_in_all_k C_rows_in_all_b (ea_v (ed_var 2) (ea_nil))) (ea_v (ed_ca1 (cd_sum rfl) (ED.er (EL.ed (el_listDv (ed_fzv 4) rfl b_list))) rfl b_sum bb_sum) (ea_nil))))))) (sds_one (sd_ret (ed_bl))) (sds_nil))
      (sds_cons (sd_set (ns hG (by decide)) sc_law.nd rfl (by first | exact Or.inl rfl | exact Or.inr rfl) (ed_call C_law_pick (hr.mono h_law_pick) rfl C_law_pick_g C_law_pick_k C_law_pick_b (ea_v (ed_var 0) (ea_o 1 (ea_v (EL.ed (el_lst (eds_cons (ed_int) (eds_cons (ed_int) (eds_cons (ed_int) (eds_cons (ed_int) (eds_cons (ed_int) (eds_nil)))))))) (ea_nil))))))
      (sds_cons (sd_par2 (nsA hG (by decide)) rfl sc_law.nd rfl rfl (by decide) rfl rfl (eps_d (ed_call C_rows_ending (hr.mono h_rows_ending) rfl C_rows_ending_g C_rows_ending_k C_rows_ending_b (ea_v (ed_var 9) (ea_v (ed_non) (ea_v (ed_int) (ea_nil))))) (eps_d (ed_int) (eps_nil))))
      (sds_cons (sd_for (ms := [6]) PassesOwn.never rfl (id_lst (ed_call C_law_all_bids (hr.mono h_law_all_bids) rfl C_law_all_bids_g C_law_all_bids_k C_law_all_bids_b (ea_v (ed_var 9) (ea_nil)))) (gd_name (ns hG (by decide)) (by decide) sc_law.nd rfl (by first | exact Or.inl rfl | exact Or.inr rfl)) (sds_cons (sd_set (ns hG (by decide)) sc_law.nd rfl (by first | exact Or.inl rfl | exact Or.inr rfl) (ed_op od_mul (ed_int) (ED.er (ed_var 11))))
      (sds_one (sd_set (ns hG (by decide)) sc_law.nd rfl (by first | exact Or.inl rfl | exact Or.inr rfl) (ed_op od_add (ed_var 10) (ED.er (ed_ca1 (cd_sum rfl) (ED.er (EL.ed (el_comp [("times", 7)] rfl sc_law.nd rfl (nsA hG (by decide)) (id_range1 rfl b_range (ed_int)) (blkOk_by (N := N_law) (sc := defScope s_law) (by decide +kernel)) (fun _ q1 _ _ _ _ _ => gd_name (ns (q1.trans hG) (by decide)) (by decide) sc_law.nd rfl (by first | exact Or.inl rfl | exact Or.inr rfl)) (fun _ q1 _ _ _ _ _ => ebs_nil) (fun _ q1 _ _ _ _ _ => ed_call C_rows_ending (hr.mono h_rows_ending) rfl C_rows_ending_g C_rows_ending_k C_rows_ending_b (ea_v (ed_var 9) (ea_v (ed_var 6) (ea_v (ed_var 7) (ea_nil)))))))) rfl b_sum bb_sum)))))))
      (sds_one (sd_ret (ed_and (ed_cmp (od_eq hr.units) (ed_var 10) (ED.er (ed_call C_rows_in_all (hr.mono h_rows_in_all) rfl C_rows_in_all_g C_rows_in_all_k C_rows_in_all_b (ea_v (ed_var 9) (ea_nil)))) (nomark _)) (ed_one (ed_cmp (od_eq hr.units) (ed_op od_add (ed_op od_mul (ed_int) (ED.er (ed_var 10))) (ED.er (ed_int))) (ED.er (ed_op od_mul (ed_int) (ED.er (ed_var 11)))) (nomark _)))))))))))))))
end
theorem all_mk {l : PySem.W.OpenLaw} {w : World} {K : PySem.W.Frag} {h : Heap} {mg : Str → Option Value} {fa : Addr} {f_ways_behind : Addr} {od_ways_behind an_ways_behind : Option Addr} {sl_ways_behind : Array (Option Value)} {oc_ways_behind kV_ways_behind dc_ways_behind pm_ways_behind cd_ways_behind ct_ways_behind : Value} {f_last_but_pass : Addr} {od_last_but_pass an_last_but_pass : Option Addr} {sl_last_but_pass : Array (Option Value)} {oc_last_but_pass kV_last_but_pass dc_last_but_pass pm_last_but_pass cd_last_but_pass ct_last_but_pass : Value} {f_last_bid : Addr} {od_last_bid an_last_bid : Option Addr} {sl_last_bid : Array (Option Value)} {oc_last_bid kV_last_bid dc_last_bid pm_last_bid cd_last_bid ct_last_bid : Value} {f_is_over : Addr} {od_is_over an_is_over : Option Addr} {sl_is_over : Array (Option Value)} {oc_is_over kV_is_over dc_is_over pm_is_over cd_is_over ct_is_over : Value} {f_ways_from : Addr} {od_ways_from an_ways_from : Option Addr} {sl_ways_from : Array (Option Value)} {oc_ways_from kV_ways_from dc_ways_from pm_ways_from cd_ways_from ct_ways_from : Value} {f_rows_from : Addr} {od_rows_from an_rows_from : Option Addr} {sl_rows_from : Array (Option Value)} {oc_rows_from kV_rows_from dc_rows_from pm_rows_from cd_rows_from ct_rows_from : Value} {f_rows_in_all : Addr} {od_rows_in_all an_rows_in_all : Option Addr} {sl_rows_in_all : Array (Option Value)} {oc_rows_in_all kV_rows_in_all dc_rows_in_all pm_rows_in_all cd_rows_in_all ct_rows_in_all : Value} {f_law_all_bids : Addr} {od_law_all_bids an_law_all_bids : Option Addr} {sl_law_all_bids : Array (Option Value)} {oc_law_all_bids kV_law_all_bids dc_law_all_bids pm_law_all_bids cd_law_all_bids ct_law_all_bids : Value} {f_rows_ending : Addr} {od_rows_ending an_rows_ending : Option Addr} {sl_rows_ending : Array (Option Value)} {oc_rows_ending kV_rows_ending dc_rows_ending pm_rows_ending cd_rows_ending ct_rows_ending : Value} {f_law_draw : Addr} {od_law_draw an_law_draw : Option Addr} {sl_law_draw : Array (Option Value)} {oc_law_draw kV_law_draw dc_law_draw pm_law_draw cd_law_draw ct_law_draw : Value} {f_law_pick : Addr} {od_law_pick an_law_pick : Option Addr} {sl_law_pick : Array (Option Value)} {oc_law_pick kV_law_pick dc_law_pick pm_law_pick cd_law_pick ct_law_pick : Value} {f_law_same : Addr} {od_law_same an_law_same : Option Addr} {sl_law_same : Array (Option Value)} {oc_law_same kV_law_same dc_law_same pm_law_same cd_law_same ct_law_same : Value} {f_law_step : Addr} {od_law_step an_law_step : Option Addr} {sl_law_step : Array (Option Value)} {oc_law_step kV_law_step dc_law_step pm_law_step cd_law_step ct_law_step : Value} {f_law : Addr} {od_law an_law : Option Addr} {sl_law : Array (Option Value)} {oc_law kV_law dc_law pm_law cd_law ct_law : Value} (X : K.In h) (G : h.Ns mainGlobals mg) (hfa : mg "law" = some (.ref fa))
    (a_ways_behind : PySem.W.nsIn K mainGlobals "ways_behind" = some (some (.ref f_ways_behind))) (l_ways_behind : K.lookup f_ways_behind = some ⟨oc_ways_behind, od_ways_behind, .func (PySem.W.fnOf "ways_behind" "ways_behind" (defArgs s_ways_behind) (defBody s_ways_behind) (defScope s_ways_behind) .none kV_ways_behind dc_ways_behind pm_ways_behind an_ways_behind cd_ways_behind ct_ways_behind), sl_ways_behind⟩) (c_ways_behind : PySem.W.codeIn K cd_ways_behind "ways_behind" = true) (k_ways_behind : PySem.W.keepIn K (.ref f_ways_behind) = true)
    (a_last_but_pass : PySem.W.nsIn K mainGlobals "last_but_pass" = some (some (.ref f_last_but_pass))) (l_last_but_pass : K.lookup f_last_but_pass = some ⟨oc_last_but_pass, od_last_but_pass, .func (PySem.W.fnOf "last_but_pass" "last_but_pass" (defArgs s_last_but_pass) (defBody s_last_but_pass) (defScope s_last_but_pass) .none kV_last_but_pass dc_last_but_pass pm_last_but_pass an_last_but_pass cd_last_but_pass ct_last_but_pass), sl_last_but_pass⟩) (c_last_but_pass : PySem.W.codeIn K cd_last_but_pass "last_but_pass" = true) (k_last_but_pass : PySem.W.keepIn K (.ref f_last_but_pass) = true)
    (a_last_bid : PySem.W.nsIn K mainGlobals "last_bid" = some (some (.ref f_last_bid))) (l_last_bid : K.lookup f_last_bid = some ⟨oc_last_bid, od_last_bid, .func (PySem.W.fnOf "last_bid" "last_bid" (defArgs s_last_bid) (defBody s_last_bid) (defScope s_last_bid) .none kV_last_bid dc_last_bid pm_last_bid an_last_bid cd_last_bid ct_last_bid), sl_last_bid⟩) (c_last_bid : PySem.W.codeIn K cd_last_bid "last_bid" = true) (k_last_bid : PySem.W.keepIn K (.ref f_last_bid) = true)
    (a_is_over : PySem.W.nsIn K mainGlobals "is_over" = some (some (.ref f_is_over))) (l_is_over : K.lookup f_is_over = some ⟨oc_is_over, od_is_over, .func (PySem.W.fnOf "is_over" "is_over" (defArgs s_is_over) (defBody s_is_over) (defScope s_is_over) .none kV_is_over dc_is_over pm_is_over an_is_over cd_is_over ct_is_over), sl_is_over⟩) (c_is_over : PySem.W.codeIn K cd_is_over "is_over" = true) (k_is_over : PySem.W.keepIn K (.ref f_is_over) = true)
    (a_ways_from : PySem.W.nsIn K mainGlobals "ways_from" = some (some (.ref f_ways_from))) (l_ways_from : K.lookup f_ways_from = some ⟨oc_ways_from, od_ways_from, .func (PySem.W.fnOf "ways_from" "ways_from" (defArgs s_ways_from) (defBody s_ways_from) (defScope s_ways_from) .none kV_ways_from dc_ways_from pm_ways_from an_ways_from cd_ways_from ct_ways_from), sl_ways_from⟩) (c_ways_from : PySem.W.codeIn K cd_ways_from "ways_from" = true) (k_ways_from : PySem.W.keepIn K (.ref f_ways_from) = true)
    (a_rows_from : PySem.W.nsIn K mainGlobals "rows_from" = some (some (.ref f_rows_from))) (l_rows_from : K.lookup f_rows_from = some ⟨oc_rows_from, od_rows_from, .func (PySem.W.fnOf "rows_from" "rows_from" (defArgs s_rows_from) (defBody s_rows_from) (defScope s_rows_from) .none kV_rows_from dc_rows_from pm_rows_from an_rows_from cd_rows_from ct_rows_from), sl_rows_from⟩) (c_rows_from : PySem.W.codeIn K cd_rows_from "rows_from" = true) (k_rows_from : PySem.W.keepIn K (.ref f_rows_from) = true)
    (a_rows_in_all : PySem.W.nsIn K mainGlobals "rows_in_all" = some (some (.ref f_rows_in_all))) (l_rows_in_all : K.lookup f_rows_in_all = some ⟨oc_rows_in_all, od_rows_in_all, .func (PySem.W.fnOf "rows_in_all" "rows_in_all" (defArgs s_rows_in_all) (defBody s_rows_in_all) (defScope s_rows_in_all) .none kV_rows_in_all dc_rows_in_all pm_rows_in_all an_rows_in_all cd_rows_in_all ct_rows_in_all), sl_rows_in_all⟩) (c_rows_in_all : PySem.W.codeIn K cd_rows_in_all "rows_in_all" = true) (k_rows_in_all : PySem.W.keepIn K (.ref f_rows_in_all) = true)
    (a_law_all_bids : PySem.W.nsIn K mainGlobals "_law_all_bids" = some (some (.ref f_law_all_bids))) (l_law_all_bids : K.lookup f_law_all_bids = some ⟨oc_law_all_bids, od_law_all_bids, .func (PySem.W.fnOf "_law_all_bids" "_law_all_bids" (defArgs s_law_all_bids) (defBody s_law_all_bids) (defScope s_law_all_bids) .none kV_law_all_bids dc_law_all_bids pm_law_all_bids an_law_all_bids cd_law_all_bids ct_law_all_bids), sl_law_all_bids⟩) (c_law_all_bids : PySem.W.codeIn K cd_law_all_bids "_law_all_bids" = true) (k_law_all_bids : PySem.W.keepIn K (.ref f_law_all_bids) = true)
    (a_rows_ending : PySem.W.nsIn K mainGlobals "rows_ending" = some (some (.ref f_rows_ending))) (l_rows_ending : K.lookup f_rows_ending = some ⟨oc_rows_ending, od_rows_ending, .func (PySem.W.fnOf "rows_ending" "rows_ending" (defArgs s_rows_ending) (defBody s_rows_ending) (defScope s_rows_ending) .none kV_rows_ending dc_rows_ending pm_rows_ending an_rows_ending cd_rows_ending ct_rows_ending), sl_rows_ending⟩) (c_rows_ending : PySem.W.codeIn K cd_rows_ending "rows_ending" = true) (k_rows_ending : PySem.W.keepIn K (.ref f_rows_ending) = true)
    (a_law_draw : PySem.W.nsIn K mainGlobals "_law_draw" = some (some (.ref f_law_draw))) (l_law_draw : K.lookup f_law_draw = some ⟨oc_law_draw, od_law_draw, .func (PySem.W.fnOf "_law_draw" "_law_draw" (defArgs s_law_draw) (defBody s_law_draw) (defScope s_law_draw) .none kV_law_draw dc_law_draw pm_law_draw an_law_draw cd_law_draw ct_law_draw), sl_law_draw⟩) (c_law_draw : PySem.W.codeIn K cd_law_draw "_law_draw" = true) (k_law_draw : PySem.W.keepIn K (.ref f_law_draw) = true)
    (a_law_pick : PySem.W.nsIn K mainGlobals "_law_pick" = some (some (.ref f_law_pick))) (l_law_pick : K.lookup f_law_pick = some ⟨oc_law_pick, od_law_pick, .func (PySem.W.fnOf "_law_pick" "_law_pick" (defArgs s_law_pick) (defBody s_law_pick) (defScope s_law_pick) .none kV_law_pick dc_law_pick pm_law_pick an_law_pick cd_law_pick ct_law_pick), sl_law_pick⟩) (c_law_pick : PySem.W.codeIn K cd_law_pick "_law_pick" = true) (k_law_pick : PySem.W.keepIn K (.ref f_law_pick) = true)
    (a_law_same : PySem.W.nsIn K mainGlobals "_law_same" = some (some (.ref f_law_same))) (l_law_same : K.lookup f_law_same = some ⟨oc_law_same, od_law_same, .func (PySem.W.fnOf "_law_same" "_law_same" (defArgs s_law_same) (defBody s_law_same) (defScope s_law_same) .none kV_law_same dc_law_same pm_law_same an_law_same cd_law_same ct_law_same), sl_law_same⟩) (c_law_same : PySem.W.codeIn K cd_law_same "_law_same" = true) (k_law_same : PySem.W.keepIn K (.ref f_law_same) = true)
    (a_law_step : PySem.W.nsIn K mainGlobals "_law_step" = some (some (.ref f_law_step))) (l_law_step : K.lookup f_law_step = some ⟨oc_law_step, od_law_step, .func (PySem.W.fnOf "_law_step" "_law_step" (defArgs s_law_step) (defBody s_law_step) (defScope s_law_step) .none kV_law_step dc_law_step pm_law_step an_law_step cd_law_step ct_law_step), sl_law_step⟩) (c_law_step : PySem.W.codeIn K cd_law_step "_law_step" = true) (k_law_step : PySem.W.keepIn K (.ref f_law_step) = true)
    (a_law : PySem.W.nsIn K mainGlobals "law" = some (some (.ref f_law))) (l_law : K.lookup f_law = some ⟨oc_law, od_law, .func (PySem.W.fnOf "law" "law" (defArgs s_law) (defBody s_law) (defScope s_law) .none kV_law dc_law pm_law an_law cd_law ct_law), sl_law⟩) (c_law : PySem.W.codeIn K cd_law "law" = true) (k_law : PySem.W.keepIn K (.ref f_law) = true)
    (z_range : PySem.W.nsIn K mainGlobals "range" = some none)
    (z_enumerate : PySem.W.nsIn K mainGlobals "enumerate" = some none)
    (z_isinstance : PySem.W.nsIn K mainGlobals "isinstance" = some none)
    (z_tuple : PySem.W.nsIn K mainGlobals "tuple" = some none)
    (z_len : PySem.W.nsIn K mainGlobals "len" = some none)
    (z_sum : PySem.W.nsIn K mainGlobals "sum" = some none)
    (z_int : PySem.W.nsIn K mainGlobals "int" = some none)
    (z_abs : PySem.W.nsIn K mainGlobals "abs" = some none)
    (z_max : PySem.W.nsIn K mainGlobals "max" = some none)
    (z_bool : PySem.W.nsIn K mainGlobals "bool" = some none)
    (z_str : PySem.W.nsIn K mainGlobals "str" = some none)
    (z_zip : PySem.W.nsIn K mainGlobals "zip" = some none)
    (z_all : PySem.W.nsIn K mainGlobals "all" = some none)
    (z_list : PySem.W.nsIn K mainGlobals "list" = some none) :
    ∃ fd : FuncData, (∀ (s : Shared) (v : Value), BindsTo s fd ⟨[v], []⟩ [("script", v)]) ∧ ∀ base : Heap, K.In base → base.Ns mainGlobals mg → FnOk l.prog w K mg base CX0 5 fa fd ["script"] (spL K spLaw) := by
  cases hfa.symm.trans (PySem.W.mg_of X G a_law)
  have F_ways_behind := fun_mk (st := s_ways_behind) l_ways_behind c_ways_behind k_ways_behind
  have B_ways_behind := F_ways_behind.binds (ps := ["bids"]) fun _ _ _ _ _ _ us hl => match us, hl with | [_], _ => rfl
  have g_ways_behind := PySem.W.mg_of X G a_ways_behind
  have F_last_but_pass := fun_mk (st := s_last_but_pass) l_last_but_pass c_last_but_pass k_last_but_pass
  have B_last_but_pass := F_last_but_pass.binds (ps := ["calls"]) fun _ _ _ _ _ _ us hl => match us, hl with | [_], _ => rfl
  have g_last_but_pass := PySem.W.mg_of X G a_last_but_pass
  have F_last_bid := fun_mk (st := s_last_bid) l_last_bid c_last_bid k_last_bid
  have B_last_bid := F_last_bid.binds (ps := ["calls"]) fun _ _ _ _ _ _ us hl => match us, hl with | [_], _ => rfl
  have g_last_bid := PySem.W.mg_of X G a_last_bid
  have F_is_over := fun_mk (st := s_is_over) l_is_over c_is_over k_is_over
  have B_is_over := F_is_over.binds (ps := ["calls"]) fun _ _ _ _ _ _ us hl => match us, hl with | [_], _ => rfl
  have g_is_over := PySem.W.mg_of X G a_is_over
  have F_ways_from := fun_mk (st := s_ways_from) l_ways_from c_ways_from k_ways_from
  have B_ways_from := F_ways_from.binds (ps := ["table", "calls"]) fun _ _ _ _ _ _ us hl => match us, hl with | [_, _], _ => rfl
  have g_ways_from := PySem.W.mg_of X G a_ways_from
  have F_rows_from := fun_mk (st := s_rows_from) l_rows_from c_rows_from k_rows_from
  have B_rows_from := F_rows_from.binds (ps := ["levels", "calls"]) fun _ _ _ _ _ _ us hl => match us, hl with | [_, _], _ => rfl
  have g_rows_from := PySem.W.mg_of X G a_rows_from
  have F_rows_in_all := fun_mk (st := s_rows_in_all) l_rows_in_all c_rows_in_all k_rows_in_all
  have B_rows_in_all := F_rows_in_all.binds (ps := ["levels"]) fun _ _ _ _ _ _ us hl => match us, hl with | [_], _ => rfl
  have g_rows_in_all := PySem.W.mg_of X G a_rows_in_all
  have F_law_all_bids := fun_mk (st := s_law_all_bids) l_law_all_bids c_law_all_bids k_law_all_bids
  have B_law_all_bids := F_law_all_bids.binds (ps := ["levels"]) fun _ _ _ _ _ _ us hl => match us, hl with | [_], _ => rfl
  have g_law_all_bids := PySem.W.mg_of X G a_law_all_bids
  have F_rows_ending := fun_mk (st := s_rows_ending) l_rows_ending c_rows_ending k_rows_ending
  have B_rows_ending := F_rows_ending.binds (ps := ["levels", "bid", "times"]) fun _ _ _ _ _ _ us hl => match us, hl with | [_, _, _], _ => rfl
  have g_rows_ending := PySem.W.mg_of X G a_rows_ending
  have F_law_draw := fun_mk (st := s_law_draw) l_law_draw c_law_draw k_law_draw
  have B_law_draw := F_law_draw.binds (ps := ["script", "town", "many"]) fun _ _ _ _ _ _ us hl => match us, hl with | [_, _, _], _ => rfl
  have g_law_draw := PySem.W.mg_of X G a_law_draw
  have F_law_pick := fun_mk (st := s_law_pick) l_law_pick c_law_pick k_law_pick
  have B_law_pick := F_law_pick.binds (ps := ["script", "town", "some"]) fun _ _ _ _ _ _ us hl => match us, hl with | [_, _, _], _ => rfl
  have g_law_pick := PySem.W.mg_of X G a_law_pick
  have F_law_same := fun_mk (st := s_law_same) l_law_same c_law_same k_law_same
  have B_law_same := F_law_same.binds (ps := ["got", "due"]) fun _ _ _ _ _ _ us hl => match us, hl with | [_, _], _ => rfl
  have g_law_same := PySem.W.mg_of X G a_law_same
  have F_law_step := fun_mk (st := s_law_step) l_law_step c_law_step k_law_step
  have B_law_step := F_law_step.binds (ps := ["states", "ends", "bids"]) fun _ _ _ _ _ _ us hl => match us, hl with | [_, _, _], _ => rfl
  have g_law_step := PySem.W.mg_of X G a_law_step
  have F_law := fun_mk (st := s_law) l_law c_law k_law
  have b_range := PySem.W.mg_none_of X G z_range
  have b_enumerate := PySem.W.mg_none_of X G z_enumerate
  have b_isinstance := PySem.W.mg_none_of X G z_isinstance
  have b_tuple := PySem.W.mg_none_of X G z_tuple
  have b_len := PySem.W.mg_none_of X G z_len
  have b_sum := PySem.W.mg_none_of X G z_sum
  have b_int := PySem.W.mg_none_of X G z_int
  have b_abs := PySem.W.mg_none_of X G z_abs
  have b_max := PySem.W.mg_none_of X G z_max
  have b_bool := PySem.W.mg_none_of X G z_bool
  have b_str := PySem.W.mg_none_of X G z_str
  have b_zip := PySem.W.mg_none_of X G z_zip
  have b_all := PySem.W.mg_none_of X G z_all
  have b_list := PySem.W.mg_none_of X G z_list
  refine ⟨PySem.W.fnOf "law" "law" (defArgs s_law) (defBody s_law) (defScope s_law) .none kV_law dc_law pm_law an_law cd_law ct_law, fun s v => .of_eq rfl, fun base _ _ => ?_⟩
  have ok_ways_behind : FnOk l.prog w K mg base CX0 1 f_ways_behind _ ["bids"] (spL K spWaysB) := fn_okD F_ways_behind sc_ways_behind sh_ways_behind (fun cdv A outer s H E hr G hG => dv_ways_behind b_range cdv A outer s H E hr G hG) rd_ways_behind
  have ok_last_but_pass : FnOk l.prog w K mg base CX0 1 f_last_but_pass _ ["calls"] (spL K spLastP) := fn_okD F_last_but_pass sc_last_but_pass sh_last_but_pass (fun cdv A outer s H E hr G hG => dv_last_but_pass b_enumerate cdv A outer s H E hr G hG) rd_last_but_pass
  have ok_last_bid : FnOk l.prog w K mg base CX0 1 f_last_bid _ ["calls"] (spL K spLastB) := fn_okD F_last_bid sc_last_bid sh_last_bid (fun cdv A outer s H E hr G hG => dv_last_bid b_enumerate b_isinstance b_tuple cdv A outer s H E hr G hG) rd_last_bid
  have ok_is_over : FnOk l.prog w K mg base CX0 1 f_is_over _ ["calls"] (spL K spOver) := fn_okD F_is_over sc_is_over sh_is_over (fun cdv A outer s H E hr G hG => dv_is_over b_len cdv A outer s H E hr G hG) rd_is_over
  have ok_ways_from : FnOk l.prog w K mg base CX0 2 f_ways_from _ ["table", "calls"] (spL K spWaysF) := fn_okD F_ways_from sc_ways_from sh_ways_from (fun cdv A outer s H E hr G hG => dv_ways_from b_len b_sum ok_last_but_pass (by decide) g_last_but_pass F_last_but_pass.kp B_last_but_pass ok_last_bid (by decide) g_last_bid F_last_bid.kp B_last_bid ok_is_over (by decide) g_is_over F_is_over.kp B_is_over cdv A outer s H E hr G hG) rd_ways_from
  have ok_rows_from : FnOk l.prog w K mg base CX0 3 f_rows_from _ ["levels", "calls"] (spL K spRowsF) := fn_okD F_rows_from sc_rows_from sh_rows_from (fun cdv A outer s H E hr G hG => dv_rows_from ok_ways_behind (by decide) g_ways_behind F_ways_behind.kp B_ways_behind ok_ways_from (by decide) g_ways_from F_ways_from.kp B_ways_from cdv A outer s H E hr G hG) rd_rows_from
  have ok_rows_in_all : FnOk l.prog w K mg base CX0 4 f_rows_in_all _ ["levels"] (spL K spRowsA) := fn_okD F_rows_in_all sc_rows_in_all sh_rows_in_all (fun cdv A outer s H E hr G hG => dv_rows_in_all ok_rows_from (by decide) g_rows_from F_rows_from.kp B_rows_from cdv A outer s H E hr G hG) rd_rows_in_all
  have ok_law_all_bids : FnOk l.prog w K mg base CX0 1 f_law_all_bids _ ["levels"] (spL K spBids) := fn_okD F_law_all_bids sc_law_all_bids sh_law_all_bids (fun cdv A outer s H E hr G hG => dv_law_all_bids b_range cdv A outer s H E hr G hG) rd_law_all_bids
  have ok_rows_ending : FnOk l.prog w K mg base CX0 1 f_rows_ending _ ["levels", "bid", "times"] (spL K spEndN) := fn_okD F_rows_ending sc_rows_ending sh_rows_ending (fun cdv A outer s H E hr G hG => dv_rows_ending b_range b_int cdv A outer s H E hr G hG) rd_rows_ending
  have ok_law_draw : FnOk l.prog w K mg base CX0 1 f_law_draw _ ["script", "town", "many"] (spL K spDraw) := fn_okD F_law_draw sc_law_draw sh_law_draw (fun cdv A outer s H E hr G hG => dv_law_draw b_len b_abs b_max cdv A outer s H E hr G hG) rd_law_draw
  have ok_law_pick : FnOk l.prog w K mg base CX0 2 f_law_pick _ ["script", "town", "some"] (spL K spPick) := fn_okD F_law_pick sc_law_pick sh_law_pick (fun cdv A outer s H E hr G hG => dv_law_pick b_len ok_law_draw (by decide) g_law_draw F_law_draw.kp B_law_draw cdv A outer s H E hr G hG) rd_law_pick
  have ok_law_same_z : FnOk l.prog w K mg base CX0 1 f_law_same _ ["got", "due"] (spL K spNo) := no_ok F_law_same sc_law_same
  have ok_law_same_0 : FnOk l.prog w K mg base CX0 2 f_law_same _ ["got", "due"] (spL K (spSame 0)) := fn_okD F_law_same sc_law_same (sh_law_same 0) (fun cdv A outer s H E hr G hG => dv_law_same b_isinstance b_int b_bool b_str b_tuple b_zip b_all b_len ok_law_same_z (by decide) g_law_same F_law_same.kp B_law_same cdv A outer s H E hr G hG) (rd_law_same 0 spNo (fun m e => nomatch e))
  have ok_law_same_1 : FnOk l.prog w K mg base CX0 3 f_law_same _ ["got", "due"] (spL K (spSame 1)) := fn_okD F_law_same sc_law_same (sh_law_same 1) (fun cdv A outer s H E hr G hG => dv_law_same b_isinstance b_int b_bool b_str b_tuple b_zip b_all b_len ok_law_same_0 (by decide) g_law_same F_law_same.kp B_law_same cdv A outer s H E hr G hG) (rd_law_same 1 (spSame 0) (fun m e => by cases e; rfl))
  have ok_law_same : FnOk l.prog w K mg base CX0 4 f_law_same _ ["got", "due"] (spL K (spSame 2)) := fn_okD F_law_same sc_law_same (sh_law_same 2) (fun cdv A outer s H E hr G hG => dv_law_same b_isinstance b_int b_bool b_str b_tuple b_zip b_all b_len ok_law_same_1 (by decide) g_law_same F_law_same.kp B_law_same cdv A outer s H E hr G hG) (rd_law_same 2 (spSame 1) (fun m e => by cases e; rfl))
  have ok_law_step : FnOk l.prog w K mg base CX0 1 f_law_step _ ["states", "ends", "bids"] (spL K spStep) := fn_okD F_law_step sc_law_step sh_law_step (fun cdv A outer s H E hr G hG => dv_law_step b_range cdv A outer s H E hr G hG) rd_law_step
  have ok_law : FnOk l.prog w K mg base CX0 5 _ _ ["script"] (spL K spLaw) := fn_okD F_law sc_law sh_law (fun cdv A outer s H E hr G hG => dv_law b_range b_sum b_list b_enumerate ok_rows_in_all (by decide) g_rows_in_all F_rows_in_all.kp B_rows_in_all ok_law_all_bids (by decide) g_law_all_bids F_law_all_bids.kp B_law_all_bids ok_rows_ending (by decide) g_rows_ending F_rows_ending.kp B_rows_ending ok_law_pick (by decide) g_law_pick F_law_pick.kp B_law_pick ok_law_same (by decide) g_law_same F_law_same.kp B_law_same ok_law_step (by decide) g_law_step F_law_step.kp B_law_step cdv A outer s H E hr G hG) rd_law_k11
  exact ok_law
end LW
open PySem PySem.W PyProof.Rows
set_option maxHeartbeats 0 in
theorem PySem.Challenge.cw_boardcalls_k11_whole_rows_by_their_ends_holds : PySem.Challenge.rw_boardcalls_k11_whole_rows_by_their_ends.Holds := by
  w_on; o_law; k_head; (case hw => w_witness2)
  k_fill
  refine DL.law_walk (l := PySem.Challenge.rw_boardcalls_k11_whole_rows_by_their_ends) (n := 63) (k := 5) (x := "script") (sp := DL.spLaw) rfl (by decide) rfl ⟨rfl, by decide, by decide⟩ (fun w h Y => PySem.W.kIn_of Y) ?F (fun ns Q hl _ q => ⟨ns, rfl, hl, q⟩)
  case F =>
    intro w mg fa h KX G hmg
    refine' LW.all_mk KX G hmg ?a_ways_behind ?l_ways_behind ?c_ways_behind ?k_ways_behind ?a_last_but_pass ?l_last_but_pass ?c_last_but_pass ?k_last_but_pass ?a_last_bid ?l_last_bid ?c_last_bid ?k_last_bid ?a_is_over ?l_is_over ?c_is_over ?k_is_over ?a_ways_from ?l_ways_from ?c_ways_from ?k_ways_from ?a_rows_from ?l_rows_from ?c_rows_from ?k_rows_from ?a_rows_in_all ?l_rows_in_all ?c_rows_in_all ?k_rows_in_all ?a_law_all_bids ?l_law_all_bids ?c_law_all_bids ?k_law_all_bids ?a_rows_ending ?l_rows_ending ?c_rows_ending ?k_rows_ending ?a_law_draw ?l_law_draw ?c_law_draw ?k_law_draw ?a_law_pick ?l_law_pick ?c_law_pick ?k_law_pick ?a_law_same ?l_law_same ?c_law_same ?k_law_same ?a_law_step ?l_law_step ?c_law_step ?k_law_step ?a_law ?l_law ?c_law ?k_law ?z_range ?z_enumerate ?z_isinstance ?z_tuple ?z_len ?z_sum ?z_int ?z_abs ?z_max ?z_bool ?z_str ?z_zip ?z_all ?z_list
    (case a_ways_behind => k_is); (case l_ways_behind => k_is); (case c_ways_behind => k_is); (case k_ways_behind => k_is); (case a_last_but_pass => k_is); (case l_last_but_pass => k_is); (case c_last_but_pass => k_is); (case k_last_but_pass => k_is); (case a_last_bid => k_is); (case l_last_bid => k_is); (case c_last_bid => k_is); (case k_last_bid => k_is); (case a_is_over => k_is); (case l_is_over => k_is); (case c_is_over => k_is); (case k_is_over => k_is); (case a_ways_from => k_is); (case l_ways_from => k_is); (case c_ways_from => k_is); (case k_ways_from => k_is); (case a_rows_from => k_is); (case l_rows_from => k_is); (case c_rows_from => k_is); (case k_rows_from => k_is); (case a_rows_in_all => k_is); (case l_rows_in_all => k_is); (case c_rows_in_all => k_is); (case k_rows_in_all => k_is); (case a_law_all_bids => k_is); (case l_law_all_bids => k_is); (case c_law_all_bids => k_is); (case k_law_all_bids => k_is); (case a_rows_ending => k_is); (case l_rows_ending => k_is); (case c_rows_ending => k_is); (case k_rows_ending => k_is); (case a_law_draw => k_is); (case l_law_draw => k_is); (case c_law_draw => k_is); (case k_law_draw => k_is); (case a_law_pick => k_is); (case l_law_pick => k_is); (case c_law_pick => k_is); (case k_law_pick => k_is); (case a_law_same => k_is); (case l_law_same => k_is); (case c_law_same => k_is); (case k_law_same => k_is); (case a_law_step => k_is); (case l_law_step => k_is); (case c_law_step => k_is); (case k_law_step => k_is); (case a_law => k_is); (case l_law => k_is); (case c_law => k_is); (case k_law => k_is); (case z_range => k_is); (case z_enumerate => k_is); (case z_isinstance => k_is); (case z_tuple => k_is); (case z_len => k_is); (case z_sum => k_is); (case z_int => k_is); (case z_abs => k_is); (case z_max => k_is); (case z_bool => k_is); (case z_str => k_is); (case z_zip => k_is); (case z_all => k_is); (case z_list => k_is)
