import PyProof.Rows.All
import Wide.All
import OpenK.AllK
import Wide.FinOn
import HandS.ForMost
import HandS.Deep
import HandS.Flow
import HandS.IsInst
import HandS.EndBits
import KE.KDictKeyed
import HandS.DictTup
import HandS.Style
import HandS.Wide
import HandS.Zip
import HandS.Walk
import HandS.Ends
import HandS.Set
import HandS.SetFor
import HandS.Strs
import KE.SortData
import HandS.SortKw
import KE.GoesMore
import KE.DataFind
import KE.DataCmp
import KE.GoesZip
import KE.GoesEnum
import HandS.TupMul
import KE.DataMinMax
import HandS.TupSets
import KE.KDictDisplayH
import HandS.WordsExc
import HandS.TryOnly
import HandS.ExcOwn
import HandS.Conv
import HandS.NoneIn
import KE.KDictCopyH
import KE.KDictSum
import HandS.Records
import HandS.CallSlots
import HandS.Defaults
import HandS.MakeKw
import HandS.MakeKwOnly
import HandS.HotCalls
import HandS.ExcIs
import HandS.OwnEq
import HandS.FStr
import KE.KCallOwn
import PySem.Challenge.RW_boardcalls_k04_whole_hands_by_shapes
set_option Elab.async false
set_option linter.all false
set_option maxRecDepth 100000
/-! DL1: deep data over the hand layer: relations, judgements, names, constants, statements. -/
namespace DL
open PySem PySem.Spec PyProof.Rows L2
abbrev D := PyData
abbrev St := L2.St
/-- a list that nobody writes: frozen, or one of the module's own -/
def LsF (K : PySem.W.Frag) (H : Hp) (a : Addr) (vs : List V) : Prop :=
  (∃ o, H a = some (.frz o (.lst vs))) ∨ ∃ (its : Array Value) (n : Nat), K.lookup a = some { cls := .type "list", data := .seq its n } ∧ its.size ≤ sizeLine ∧ Vals vs its.toList
theorem LsF.sq {K : PySem.W.Frag} {H : Hp} {a : Addr} {vs : List V} (h : LsF K H a vs) : SqL K H a vs := by
  rcases h with h | ⟨its, n, e, z, r⟩
  · exact .inl (.inr h)
  · exact .inr ⟨_, its, n, e, rfl, rfl, rfl, z, r⟩
theorem LsF.of {K : PySem.W.Frag} {H : Hp} {a : Addr} {vs : List V} {o : Obj} (h : H a = some (.frz o (.lst vs))) : LsF K H a vs := .inl ⟨o, h⟩
/-- the object at a has no dict of its own -/
def DNo (K : PySem.W.Frag) (H : Hp) (a : Addr) : Prop := (∃ (o : Obj) (u : HO), H a = some (.frz o u) ∧ o.dict = none) ∨ ∃ o, K.lookup a = some o ∧ o.dict = none
def SqD (K : PySem.W.Frag) (H : Hp) (a : Addr) (vs : List V) : Prop := SqT K H a vs ∧ DNo K H a
/-! ### dicts whose keys are tuples (of ints, nested): the object by its entries -/
mutual
/-- the key of a dict that a tuple of ints (nested) is -/
def nkOf : D → Option NestedKey
  | .int i => some (.num i)
  | .tuple xs => (nksOf xs).map .tup
  | _ => none
def nksOf : List D → Option (List NestedKey)
  | [] => some []
  | x :: xs => match nkOf x, nksOf xs with
    | some k, some ks => some (k :: ks)
    | _, _ => none
end
/-- at a stands a dict with these entries -/
def dO (a : Addr) (es : List DictEntry) : HO := .ext fun h => ∃ (o : Obj) (ep : Nat), h.get? a = some o ∧ o.ExactDict ∧ o.data = .dict es.toArray ep
/-- a key (an int, a text) as data -/
def keyDt : Key → D
  | .inl i => .int i
  | .inr x => .str x
/-- an object's name as data -/
def hdl (a : Addr) : D := .dict [(.none, .int a)]
mutual
/-- the value v stands for the data d; lists within data are frozen -/
inductive Rp (K : PySem.W.Frag) (H : Hp) : D → V → Prop
  | non : Rp K H .none .non
  | bl (b : Bool) : Rp K H (.bool b) (.bl b)
  | int (i : Int) : Rp K H (.int i) (.int i)
  | str (x : Str) : Rp K H (.str x) (.str x)
  | tup {a : Addr} {vs : List V} {ds : List D} : SqD K H a vs → RpL K H ds vs → Rp K H (.tuple ds) (.ref a)
  | lst {a : Addr} {vs : List V} {ds : List D} : LsF K H a vs → RpL K H ds vs → Rp K H (.list ds) (.ref a)
  | dct {a : Addr} {o : Obj} {es : List DictEntry} {kvs : List (D × D)} : H a = some (.frz o (dO a es)) → RpD K H kvs es → (kvs.map fun p => nkOf p.1).Nodup → (a == sysModules) = false → Rp K H (.dict kvs) (.ref a)
  | hdl (a : Addr) : Rp K H (hdl a) (.ref a)
  | dck {a : Addr} {o : Obj} {us : List (Key × V)} {kvs : List (D × D)} : H a = some (.frz o (.dK us)) → kvs.map (·.1) = us.map (fun u => keyDt u.1) → RpL K H (kvs.map (·.2)) (us.map (·.2)) → kvs ≠ [] → Rp K H (.dict kvs) (.ref a)
inductive RpL (K : PySem.W.Frag) (H : Hp) : List D → List V → Prop
  | nil : RpL K H [] []
  | cons {d : D} {v : V} {ds : List D} {vs : List V} : Rp K H d v → RpL K H ds vs → RpL K H (d :: ds) (v :: vs)
/-- the entries of a dict -/
inductive RpD (K : PySem.W.Frag) (H : Hp) : List (D × D) → List DictEntry → Prop
  | nil : RpD K H [] []
  | cons {k d : D} {nk : NestedKey} {b : Addr} {v : V} {e : DictEntry} {kvs : List (D × D)} {es : List DictEntry} : (∃ xs, k = .tuple xs) → nkOf k = some nk → nk.depth ≤ 8 → (∀ w, e.hash = nk.hash w) → e.key = .ref b → Rp K H k (.ref b) → Rp K H d v → RelV v e.val → RpD K H kvs es → RpD K H ((k, d) :: kvs) (e :: es)
end
/-- what never changes stays -/
structure Ext (H H' : Hp) : Prop where
  tup : ∀ a xs, H a = some (.tup xs) → H' a = some (.tup xs)
  frz : ∀ a o u, H a = some (.frz o u) → H' a = some (.frz o u)
/-- all stays -/
def PExt (H H' : Hp) : Prop := ∀ a o, H a = some o → H' a = some o
theorem PExt.ext {H H' : Hp} (p : PExt H H') : Ext H H' := ⟨fun a xs h => p a _ h, fun a o u h => p a _ h⟩
theorem PExt.refl (H : Hp) : PExt H H := fun _ _ h => h
theorem PExt.trans {H H1 H2 : Hp} (a : PExt H H1) (b : PExt H1 H2) : PExt H H2 := fun p o h => b p o (a p o h)
theorem Ext.refl (H : Hp) : Ext H H := ⟨fun _ _ h => h, fun _ _ _ h => h⟩
theorem Ext.trans {H H1 H2 : Hp} (a : Ext H H1) (b : Ext H1 H2) : Ext H H2 := ⟨fun p xs h => b.tup p xs (a.tup p xs h), fun p o u h => b.frz p o u (a.frz p o u h)⟩
theorem PExt.new {H : Hp} {p : Addr} {o : HO} (h : H p = none) : PExt H (upd H p o) := fun a u e => by
  rw [upd_ne (ne_of_none e h)]; exact e
/-- something soft is changed -/
theorem Ext.putS {H : Hp} {p : Addr} {u o : HO} (h : H p = some u) (h1 : ∀ xs, u ≠ .tup xs) (h2 : ∀ q v, u ≠ .frz q v) : Ext H (upd H p o) :=
  ⟨fun a ys e => by rw [upd_ne (ne_of e h (Ne.symm (h1 ys)))]; exact e, fun a q v e => by rw [upd_ne (ne_of e h (Ne.symm (h2 q v)))]; exact e⟩
/-- a list is changed -/
theorem Ext.put {H : Hp} {p : Addr} {xs : List V} {o : HO} (h : H p = some (.lst xs)) : Ext H (upd H p o) :=
  ⟨fun a ys e => by rw [upd_ne (ne_of e h (by intro z; cases z))]; exact e, fun a q u e => by rw [upd_ne (ne_of e h (by intro z; cases z))]; exact e⟩
section
variable {K : PySem.W.Frag} {H H' : Hp}
theorem SqT.ext {a : Addr} {xs : List V} (x : Ext H H') (h : SqT K H a xs) : SqT K H' a xs := by
  rcases h with (h | ⟨o, h⟩) | h
  · exact .inl (.inl (x.tup _ _ h))
  · exact .inl (.inr ⟨o, x.frz _ _ _ h⟩)
  · exact .inr h
theorem SqD.ext {a : Addr} {xs : List V} (x : Ext H H') (h : SqD K H a xs) : SqD K H' a xs := by
  refine ⟨SqT.ext x h.1, ?_⟩
  rcases h.2 with ⟨o, u, e, d⟩ | h
  · exact .inl ⟨o, u, x.frz _ _ _ e, d⟩
  · exact .inr h
theorem SqD.new {p : Addr} {o : Obj} {vs : List V} (d : o.dict = none) : SqD K (upd H p (.frz o (.tup vs))) p vs := ⟨.inl (.inr ⟨o, upd_same⟩), .inl ⟨o, _, upd_same, d⟩⟩
theorem LsF.ext {a : Addr} {xs : List V} (x : Ext H H') (h : LsF K H a xs) : LsF K H' a xs := by
  rcases h with ⟨o, h⟩ | h
  · exact .inl ⟨o, x.frz _ _ _ h⟩
  · exact .inr h
mutual
theorem Rp.ext (x : Ext H H') : ∀ {d : D} {v : V}, Rp K H d v → Rp K H' d v
  | _, _, .non => .non
  | _, _, .bl b => .bl b
  | _, _, .int i => .int i
  | _, _, .str s => .str s
  | _, _, .tup h l => .tup (SqD.ext x h) (RpL.ext x l)
  | _, _, .lst h l => .lst (LsF.ext x h) (RpL.ext x l)
  | _, _, .dct h l n m => .dct (x.frz _ _ _ h) (RpD.ext x l) n m
  | _, _, .hdl a => .hdl a
  | _, _, .dck h e l n => .dck (x.frz _ _ _ h) e (RpL.ext x l) n
theorem RpL.ext (x : Ext H H') : ∀ {ds : List D} {vs : List V}, RpL K H ds vs → RpL K H' ds vs
  | _, _, .nil => .nil
  | _, _, .cons h l => .cons (Rp.ext x h) (RpL.ext x l)
theorem RpD.ext (x : Ext H H') : ∀ {kvs : List (D × D)} {es : List DictEntry}, RpD K H kvs es → RpD K H' kvs es
  | _, _, .nil => .nil
  | _, _, .cons t n1 n2 n3 e h g r l => .cons t n1 n2 n3 e (Rp.ext x h) (Rp.ext x g) r (RpD.ext x l)
end
theorem RpD.length : ∀ {kvs : List (D × D)} {es : List DictEntry}, RpD K H kvs es → kvs.length = es.length
  | _, _, .nil => rfl
  | _, _, .cons _ _ _ _ _ _ _ _ l => by rw [List.length_cons, List.length_cons, RpD.length l]
theorem RpL.length : ∀ {ds : List D} {vs : List V}, RpL K H ds vs → ds.length = vs.length
  | _, _, .nil => rfl
  | _, _, .cons _ l => by rw [List.length_cons, List.length_cons, RpL.length l]
theorem RpL.get : ∀ {ds : List D} {vs : List V} {i : Nat} {d : D}, RpL K H ds vs → ds[i]? = some d → ∃ v, vs[i]? = some v ∧ Rp K H d v
  | _, _, _, _, .nil, e => by simp at e
  | _, _, 0, _, .cons r _, e => by simp at e; subst e; exact ⟨_, rfl, r⟩
  | _, _, i + 1, d, .cons _ t, e => by
    obtain ⟨u, h1, h2⟩ := RpL.get (i := i) (d := d) t (by simpa using e)
    exact ⟨u, by simpa using h1, h2⟩
theorem RpL.getV : ∀ {ds : List D} {vs : List V} {i : Nat} {v : V}, RpL K H ds vs → vs[i]? = some v → ∃ d, ds[i]? = some d ∧ Rp K H d v
  | _, _, _, _, .nil, e => by simp at e
  | _, _, 0, _, .cons r _, e => by simp at e; subst e; exact ⟨_, rfl, r⟩
  | _, _, i + 1, d, .cons _ t, e => by
    obtain ⟨u, h1, h2⟩ := RpL.getV (i := i) (v := d) t (by simpa using e)
    exact ⟨u, by simpa using h1, h2⟩
theorem RpL.append : ∀ {ds es : List D} {vs us : List V}, RpL K H ds vs → RpL K H es us → RpL K H (ds ++ es) (vs ++ us)
  | _, _, _, _, .nil, s => s
  | _, _, _, _, .cons r t, s => .cons r (RpL.append t s)
theorem RpL.take : ∀ {ds : List D} {vs : List V} (n : Nat), RpL K H ds vs → RpL K H (ds.take n) (vs.take n)
  | _, _, 0, _ => .nil
  | _, _, _ + 1, .nil => .nil
  | _, _, n + 1, .cons r t => .cons r (RpL.take n t)
theorem RpL.drop : ∀ {ds : List D} {vs : List V} (n : Nat), RpL K H ds vs → RpL K H (ds.drop n) (vs.drop n)
  | _, _, 0, r => r
  | _, _, _ + 1, .nil => .nil
  | _, _, n + 1, .cons _ t => RpL.drop n t
theorem RpL.set {d : D} {v : V} (r : Rp K H d v) : ∀ {ds : List D} {vs : List V} (i : Nat), RpL K H ds vs → RpL K H (ds.set i d) (vs.set i v)
  | _, _, _, .nil => .nil
  | _, _, 0, .cons _ t => .cons r t
  | _, _, i + 1, .cons q t => .cons q (RpL.set r i t)
theorem RpL.eraseIdx : ∀ {ds : List D} {vs : List V} (i : Nat), RpL K H ds vs → RpL K H (ds.eraseIdx i) (vs.eraseIdx i)
  | _, _, _, .nil => .nil
  | _, _, 0, .cons _ t => t
  | _, _, i + 1, .cons q t => .cons q (RpL.eraseIdx i t)
theorem RpL.reverse : ∀ {ds : List D} {vs : List V}, RpL K H ds vs → RpL K H ds.reverse vs.reverse
  | _, _, .nil => .nil
  | _, _, .cons q t => by rw [List.reverse_cons, List.reverse_cons]; exact RpL.append (RpL.reverse t) (.cons q .nil)
theorem RpL.ints : ∀ {ns : List Int} {vs : List V}, RpL K H (ns.map PyData.int) vs → vs = ns.map V.int
  | [], _, .nil => rfl
  | _ :: _, _, .cons (.int _) t => by rw [RpL.ints t]; rfl
theorem RpL.ofInts : ∀ (ns : List Int), RpL K H (ns.map PyData.int) (ns.map V.int)
  | [] => .nil
  | n :: ns => .cons (.int n) (RpL.ofInts ns)
mutual
theorem Rp.dp : ∀ {d : D} {v : V}, Rp K H d v → d.canLay0 = true → Dp K H v d
  | _, _, .non, _ => .non
  | _, _, .bl b, _ => .bl b
  | _, _, .int i, _ => .int i
  | _, _, .str s, _ => .str s
  | _, _, .tup h l, z => .tup h.1 (RpL.dp l (by simpa [PyData.canLay0] using z))
  | _, _, .lst h l, z => .lst h.sq (RpL.dp l (by simpa [PyData.canLay0] using z))
  | _, _, .dct _ _ _ _, z => by simp [PyData.canLay0] at z
  | _, _, .hdl a, z => by simp [DL.hdl, PyData.canLay0] at z
  | _, _, .dck _ _ _ _, z => by simp [PyData.canLay0] at z
theorem RpL.dp : ∀ {ds : List D} {vs : List V}, RpL K H ds vs → PyData.canLayAll0 ds = true → DpAll K H vs ds
  | _, _, .nil, _ => .nil
  | _, _, .cons h l, z => by
    simp only [PyData.canLayAll0, Bool.and_eq_true] at z
    exact .cons (Rp.dp h z.1) (RpL.dp l z.2)
end
end
/-- readable now: as Rp, the outermost list may be one that can change -/
def RpR (K : PySem.W.Frag) (H : Hp) (d : D) (v : V) : Prop :=
  Rp K H d v ∨ ∃ (ds : List D) (a : Addr) (vs : List V), d = .list ds ∧ v = .ref a ∧ H a = some (.lst vs) ∧ RpL K H ds vs
theorem RpR.dp {K : PySem.W.Frag} {H : Hp} {d : D} {v : V} (h : RpR K H d v) (z : d.canLay0 = true) : Dp K H v d := by
  rcases h with h | ⟨ds, a, vs, rfl, rfl, h, l⟩
  · exact h.dp z
  · exact .lst (.inl (.inl h)) (l.dp (by simpa [PyData.canLay0] using z))
/-- what an iterator hands out: a pair of its own may be there, of which less is known -/
def RpB (W : Bool) (K : PySem.W.Frag) (H : Hp) (d : D) (v : V) : Prop :=
  if W = true then Rp K H d v ∨ ∃ (ds : List D) (a : Addr) (vs : List V), d = .tuple ds ∧ v = .ref a ∧ SqT K H a vs ∧ RpL K H ds vs else Rp K H d v
theorem RpB.of {W : Bool} {K : PySem.W.Frag} {H : Hp} {d : D} {v : V} (h : Rp K H d v) : RpB W K H d v := by unfold RpB; split; exact .inl h; exact h
theorem RpB.pair {K : PySem.W.Frag} {H : Hp} {ds : List D} {a : Addr} {vs : List V} (h : SqT K H a vs) (l : RpL K H ds vs) : RpB true K H (.tuple ds) (.ref a) := .inr ⟨_, _, _, rfl, rfl, h, l⟩
/-- a list or a tuple that is read: its items -/
theorem RpR.list {K : PySem.W.Frag} {H : Hp} {ds : List D} {v : V} (h : RpR K H (.list ds) v) : ∃ a vs, v = .ref a ∧ SqL K H a vs ∧ RpL K H ds vs := by
  rcases h with h | ⟨ds, a, vs, e, rfl, h, l⟩
  · cases h with
    | lst h l => exact ⟨_, _, rfl, h.sq, l⟩
  · cases e
    exact ⟨_, _, rfl, .inl (.inl h), l⟩
theorem RpR.tupD {K : PySem.W.Frag} {H : Hp} {ds : List D} {v : V} (h : RpR K H (.tuple ds) v) : ∃ a vs, v = .ref a ∧ SqD K H a vs ∧ RpL K H ds vs := by
  rcases h with h | ⟨ds, a, vs, e, _⟩
  · cases h with
    | tup h l => exact ⟨_, _, rfl, h, l⟩
  · cases e
theorem RpR.tuple {K : PySem.W.Frag} {H : Hp} {ds : List D} {v : V} (h : RpR K H (.tuple ds) v) : ∃ a vs, v = .ref a ∧ SqT K H a vs ∧ RpL K H ds vs := by
  rcases h with h | ⟨ds, a, vs, e, rfl, h, l⟩
  · cases h with
    | tup h l => exact ⟨_, _, rfl, h.1, l⟩
  · cases e
theorem RpR.int {K : PySem.W.Frag} {H : Hp} {i : Int} {v : V} (h : RpR K H (.int i) v) : v = .int i := by
  rcases h with h | ⟨_, _, _, e, _⟩
  · cases h; rfl
  · cases e
theorem RpR.str {K : PySem.W.Frag} {H : Hp} {i : Str} {v : V} (h : RpR K H (.str i) v) : v = .str i := by
  rcases h with h | ⟨_, _, _, e, _⟩
  · cases h; rfl
  · cases e
theorem RpR.bool {K : PySem.W.Frag} {H : Hp} {i : Bool} {v : V} (h : RpR K H (.bool i) v) : v = .bl i := by
  rcases h with h | ⟨_, _, _, e, _⟩
  · cases h; rfl
  · cases e
theorem RpR.none {K : PySem.W.Frag} {H : Hp} {v : V} (h : RpR K H .none v) : v = .non := by
  rcases h with h | ⟨_, _, _, e, _⟩
  · cases h; rfl
  · cases e
theorem RpR.pext {K : PySem.W.Frag} {H H' : Hp} {d : D} {v : V} (p : PExt H H') (h : RpR K H d v) : RpR K H' d v := by
  rcases h with h | ⟨ds, a, vs, rfl, rfl, h, l⟩
  · exact .inl (h.ext p.ext)
  · exact .inr ⟨ds, a, vs, rfl, rfl, p _ _ h, l.ext p.ext⟩
/-! ### the environment -/
inductive FS where
  | d (x : D)
  | l (xs : List D)
inductive S where
  /-- not known -/
  | un
  /-- data -/
  | d (x : D)
  /-- a list of one's own that may change -/
  | ol (xs : List D)
  /-- a dict of one's own, keys tuples of ints -/
  | dt (kvs : List (D × D))
  /-- a dict of one's own, keys ints and texts -/
  | dk (kvs : List (Key × D))
  /-- no name's: the object at a, of the class at C -/
  | ob (a C : Addr) (fs : List (Str × FS))
abbrev Env := List S
def S.isMut : S → Bool
  | .ol _ => true
  | .dt _ => true
  | .dk _ => true
  | _ => false
structure Gh where
  H0 : Hp
  own : List (Nat × Addr)
  X0 : Hp := fun _ => none
  more : List Addr := []
def Gh.slots (G : Gh) : List Nat := G.own.map (·.1)
def Gh.addrs (G : Gh) : List Addr := G.own.map (·.2) ++ G.more
/-- a mutable thing at an address -/
def RelM (K : PySem.W.Frag) (H : Hp) : S → Addr → Prop
  | .ol xs, a => ∃ vs, H a = some (.lst vs) ∧ RpL K H xs vs
  | .dt kvs, a => ∃ es, H a = some (dO a es) ∧ RpD K H kvs es ∧ (kvs.map fun p => nkOf p.1).Nodup ∧ (a == sysModules) = false
  | .dk kvs, a => ∃ us, H a = some (.dK us) ∧ us.map (·.1) = kvs.map (·.1) ∧ RpL K H (kvs.map (·.2)) (us.map (·.2))
  | _, _ => False
/-- the fields of an object: data, lists of its own -/
inductive FsR (K : PySem.W.Frag) (H : Hp) : List (Str × FS) → List (Str × V) → List Addr → Prop
  | nil : FsR K H [] [] []
  | d {f : Str} {x : D} {v : V} {fs : List (Str × FS)} {vs : List (Str × V)} {ls : List Addr} : Rp K H x v → FsR K H fs vs ls → FsR K H ((f, .d x) :: fs) ((f, v) :: vs) ls
  | l {f : Str} {xs : List D} {a : Addr} {us : List V} {fs : List (Str × FS)} {vs : List (Str × V)} {ls : List Addr} : H a = some (.lst us) → RpL K H xs us → FsR K H fs vs ls → FsR K H ((f, .l xs) :: fs) ((f, .ref a) :: vs) (a :: ls)
def RelOb (K : PySem.W.Frag) (H : Hp) (a C : Addr) (fs : List (Str × FS)) (fp : List Addr) : Prop :=
  ∃ dx vs ls, fp = a :: dx :: ls ∧ fp.Nodup ∧ H a = some (.ins C dx vs) ∧ H dx = some (.own a) ∧ FsR K H fs vs ls
def RelS (K : PySem.W.Frag) (H : Hp) (s : S) (o : Option (Option V)) (fp : List Addr) : Prop :=
  match s with
  | .un => fp = []
  | .d x => fp = [] ∧ ∃ v, o = some (some v) ∧ Rp K H x v
  | .ob a C fs => RelOb K H a C fs fp
  | .ol xs => ∃ a, fp = [a] ∧ o = some (some (.ref a)) ∧ RelM K H (.ol xs) a
  | .dt xs => ∃ a, fp = [a] ∧ o = some (some (.ref a)) ∧ RelM K H (.dt xs) a
  | .dk xs => ∃ a, fp = [a] ∧ o = some (some (.ref a)) ∧ RelM K H (.dk xs) a
theorem RelS.mut {K : PySem.W.Frag} {H : Hp} {s : S} {o : Option (Option V)} {fp : List Addr} (h : RelS K H s o fp) (m : s.isMut = true) : ∃ a, fp = [a] ∧ o = some (some (.ref a)) ∧ RelM K H s a := by
  cases s with
  | ol _ => exact h
  | dt _ => exact h
  | dk _ => exact h
  | _ => cases m
theorem RelS.ofMut {K : PySem.W.Frag} {H : Hp} {s : S} {o : Option (Option V)} {a : Addr} (m : s.isMut = true) (e : o = some (some (.ref a))) (h : RelM K H s a) : RelS K H s o [a] := by
  cases s with
  | ol _ => exact ⟨a, rfl, e, h⟩
  | dt _ => exact ⟨a, rfl, e, h⟩
  | dk _ => exact ⟨a, rfl, e, h⟩
  | _ => cases m
/-- what can change: no tuple, nothing frozen -/
def Soft (H : Hp) (a : Addr) : Prop := ∃ u, H a = some u ∧ (∀ xs, u ≠ .tup xs) ∧ ∀ o v, u ≠ .frz o v
theorem RelM.soft {K : PySem.W.Frag} {H : Hp} {s : S} {a : Addr} (h : RelM K H s a) : Soft H a := by
  cases s with
  | ol xs => obtain ⟨vs, e, _⟩ := h; exact ⟨_, e, (fun _ z => by cases z), fun _ _ z => by cases z⟩
  | dt xs => obtain ⟨vs, e, _⟩ := h; exact ⟨_, e, (fun _ z => by cases z), fun _ _ z => by cases z⟩
  | dk xs => obtain ⟨vs, e, _⟩ := h; exact ⟨_, e, (fun _ z => by cases z), fun _ _ z => by cases z⟩
  | _ => exact h.elim
theorem RelM.isMut {K : PySem.W.Frag} {H : Hp} {s : S} {a : Addr} (h : RelM K H s a) : s.isMut = true := by
  cases s with
  | ol xs => rfl
  | dt xs => rfl
  | dk xs => rfl
  | _ => exact h.elim
theorem RelM.move {K : PySem.W.Frag} {H H' : Hp} {s : S} {a : Addr} (h : RelM K H s a) (x : Ext H H') (k : H' a = H a) : RelM K H' s a := by
  cases s with
  | ol xs => obtain ⟨vs, e, l⟩ := h; exact ⟨vs, by rw [k]; exact e, l.ext x⟩
  | dt xs => obtain ⟨es, e, l, n, m⟩ := h; exact ⟨es, by rw [k]; exact e, l.ext x, n, m⟩
  | dk xs => obtain ⟨us, e, n, l⟩ := h; exact ⟨us, by rw [k]; exact e, n, l.ext x⟩
  | _ => exact h.elim
theorem FsR.move {K : PySem.W.Frag} {H H' : Hp} (x : Ext H H') : ∀ {fs : List (Str × FS)} {vs : List (Str × V)} {ls : List Addr}, FsR K H fs vs ls → (∀ p ∈ ls, H' p = H p) → FsR K H' fs vs ls
  | _, _, _, .nil, _ => .nil
  | _, _, _, FsR.d h r, k => FsR.d (h.ext x) (FsR.move x r k)
  | _, _, _, FsR.l h q r, k => FsR.l (by rw [k _ (List.mem_cons_self ..)]; exact h) (q.ext x) (FsR.move x r fun p hp => k p (List.mem_cons_of_mem _ hp))
theorem FsR.soft {K : PySem.W.Frag} {H : Hp} : ∀ {fs : List (Str × FS)} {vs : List (Str × V)} {ls : List Addr}, FsR K H fs vs ls → ∀ p ∈ ls, Soft H p
  | _, _, _, .nil, p, hp => by cases hp
  | _, _, _, FsR.d h r, p, hp => FsR.soft r p hp
  | _, _, _, FsR.l h q r, p, hp => by
    rcases List.mem_cons.mp hp with z | z
    · subst z; exact ⟨_, h, (fun _ z => by cases z), fun _ _ z => by cases z⟩
    · exact FsR.soft r p z
/-- what a slot holds stays, if its footprint does -/
theorem RelS.move {K : PySem.W.Frag} {H H' : Hp} {s : S} {o : Option (Option V)} {fp : List Addr} (h : RelS K H s o fp) (x : Ext H H') (k : ∀ p ∈ fp, H' p = H p) : RelS K H' s o fp := by
  cases s with
  | un => exact h
  | d y => obtain ⟨h1, v, h2, h3⟩ := h; exact ⟨h1, v, h2, h3.ext x⟩
  | ob a C fs =>
    obtain ⟨dx, vs, ls, e, nd, h1, h2, h3⟩ := h
    subst e
    exact ⟨dx, vs, ls, rfl, nd, by rw [k a (by simp)]; exact h1, by rw [k dx (by simp)]; exact h2, h3.move x fun p hp => k p (by simp [hp])⟩
  | ol xs => obtain ⟨a, e, e2, h⟩ := h; subst e; exact ⟨a, rfl, e2, h.move x (k a (by simp))⟩
  | dt xs => obtain ⟨a, e, e2, h⟩ := h; subst e; exact ⟨a, rfl, e2, h.move x (k a (by simp))⟩
  | dk xs => obtain ⟨a, e, e2, h⟩ := h; subst e; exact ⟨a, rfl, e2, h.move x (k a (by simp))⟩
/-- ex: addresses apart from all footprints -/
structure RelX (K : PySem.W.Frag) (G : Gh) (ex : List Addr) (H : Hp) (E : Env) (σ : St) : Prop where
  len : E.length = σ.length
  keep : ∀ p o, G.H0 p = some o → p ∉ G.addrs → H p = some o
  pin : ∀ i a, (i, a) ∈ G.own → σ[i]? = some (some (V.ref a))
  dom : ∀ a ∈ G.addrs, H a ≠ none
  ext : Ext G.X0 H
  fp : ∃ A : Nat → List Addr, (∀ i j a, a ∈ A i → a ∈ A j → i = j) ∧ (∀ i a, a ∈ A i → (a ∈ G.addrs ∨ G.H0 a = none) ∧ a ∉ ex) ∧ ∀ i s, E[i]? = some s → RelS K H s σ[i]? (A i)
abbrev RelE (K : PySem.W.Frag) (G : Gh) (H : Hp) (E : Env) (σ : St) : Prop := RelX K G [] H E σ
section
variable {K : PySem.W.Frag} {G : Gh} {H H' : Hp} {E : Env} {σ : St} {ex : List Addr}
/-- a footprint lies in the heap -/
theorem RelS.indom {s : S} {o : Option (Option V)} {fp : List Addr} (h : RelS K H s o fp) : ∀ a ∈ fp, Soft H a := by
  cases s with
  | un => intro a ha; rw [show fp = [] from h] at ha; cases ha
  | d x => intro a ha; rw [h.1] at ha; cases ha
  | ob a C fs =>
    obtain ⟨dx, vs, ls, e, nd, h1, h2, h3⟩ := h
    subst e
    intro p hp
    rcases List.mem_cons.mp hp with z | z
    · subst z; exact ⟨_, h1, (fun _ z => by cases z), fun _ _ z => by cases z⟩
    · rcases List.mem_cons.mp z with z | z
      · subst z; exact ⟨_, h2, (fun _ z => by cases z), fun _ _ z => by cases z⟩
      · exact h3.soft p z
  | ol xs => obtain ⟨a, e, e2, h⟩ := h; subst e; intro p hp; rw [List.mem_singleton.mp hp]; exact h.soft
  | dt xs => obtain ⟨a, e, e2, h⟩ := h; subst e; intro p hp; rw [List.mem_singleton.mp hp]; exact h.soft
  | dk xs => obtain ⟨a, e, e2, h⟩ := h; subst e; intro p hp; rw [List.mem_singleton.mp hp]; exact h.soft
theorem RelS.pext {s : S} {o : Option (Option V)} {fp : List Addr} (p : PExt H H') (h : RelS K H s o fp) : RelS K H' s o fp :=
  h.move p.ext fun a ha => by
    obtain ⟨u, e, _⟩ := h.indom a ha
    rw [e, p _ _ e]
theorem RelX.pext (p : PExt H H') (h : RelX K G ex H E σ) : RelX K G ex H' E σ := by
  obtain ⟨l, k, pn, dm, x0, A, h1, h2, h3⟩ := h
  refine ⟨l, fun q o e ne => p _ _ (k q o e ne), pn, fun a ha z => ?_, x0.trans p.ext, A, h1, h2, fun i s e => (h3 i s e).pext p⟩
  cases q : H a with
  | none => exact dm a ha q
  | some o => have := p _ _ q; rw [z] at this; cases this
theorem RelX.weak (h : RelX K G ex H E σ) : RelE K G H E σ := by
  obtain ⟨l, k, pn, dm, x0, A, h1, h2, h3⟩ := h
  exact ⟨l, k, pn, dm, x0, A, h1, fun i a e => ⟨(h2 i a e).1, by simp⟩, h3⟩
end
end DL
set_option Elab.async false
set_option linter.all false
set_option maxRecDepth 100000
namespace DL
open PySem PySem.Spec PyProof.Rows L2
/-! ### judgements -/
abbrev TD := Env → (D → Env → Prop) → Prop
abbrev TLd := Env → (List D → Env → Prop) → Prop
abbrev TTd := Env → (Bool → Env → Prop) → Prop
structure EndsD where
  nx : Env → Prop
  rt : D → Env → Prop
  bk : Env → Prop := fun _ => False
  ct : Env → Prop := fun _ => False
abbrev TSd := EndsD → Env → Prop
/-- an argument: data, or a name of a mutable thing -/
inductive Arg where
  | v (x : D)
  | o (i : Nat)
abbrev TAd := Env → (List Arg → Env → Prop) → Prop
def liftE (K : PySem.W.Frag) (G : Gh) (t : TD) : TE := fun σ H Q => ∃ (E : Env) (QE : D → Env → Prop), RelE K G H E σ ∧ t E QE ∧ ∀ d E' v H', QE d E' → Ext H H' → RelE K G H' E' σ → Rp K H' d v → Q v H'
/-- a new list: nobody else has it -/
def liftL (K : PySem.W.Frag) (G : Gh) (t : TLd) : TE := fun σ H Q => ∃ (E : Env) (QE : List D → Env → Prop), RelE K G H E σ ∧ t E QE ∧
  ∀ xs E' a vs H', QE xs E' → Ext H H' → RelX K G [a] H' E' σ → G.H0 a = none → a ∉ G.addrs → H' a = some (.lst vs) → RpL K H' xs vs → Q (.ref a) H'
/-- readable now -/
def liftR (K : PySem.W.Frag) (G : Gh) (t : TD) : TE := fun σ H Q => ∃ (E : Env) (QE : D → Env → Prop), RelE K G H E σ ∧ t E QE ∧ ∀ d E' v H', QE d E' → Ext H H' → RelE K G H' E' σ → RpR K H' d v → Q v H'
def liftT (K : PySem.W.Frag) (G : Gh) (t : TTd) : TT := fun σ H Q => ∃ (E : Env) (QE : Bool → Env → Prop), RelE K G H E σ ∧ t E QE ∧ ∀ b E' H', QE b E' → Ext H H' → RelE K G H' E' σ → Q b H'
/-- the values of arguments at a heap -/
inductive RelA (K : PySem.W.Frag) (H : Hp) (σ : St) : List Arg → List V → Prop
  | nil : RelA K H σ [] []
  | v {x : D} {v : V} {as : List Arg} {vs : List V} : Rp K H x v → RelA K H σ as vs → RelA K H σ (.v x :: as) (v :: vs)
  | o {i : Nat} {v : V} {as : List Arg} {vs : List V} : σ[i]? = some (some v) → RelA K H σ as vs → RelA K H σ (.o i :: as) (v :: vs)
def liftA (K : PySem.W.Frag) (G : Gh) (t : TAd) : TA := fun σ H Q => ∃ (E : Env) (QE : List Arg → Env → Prop), RelE K G H E σ ∧ t E QE ∧ ∀ as E' vs H', QE as E' → Ext H H' → RelE K G H' E' σ → RelA K H' σ as vs → Q vs H'
def liftS (K : PySem.W.Frag) (G : Gh) (t : TSd) : TS := fun F σ H => ∃ (E : Env) (DE : EndsD), RelE K G H E σ ∧ t DE E ∧
  (∀ E' σ' H', DE.nx E' → Ext H H' → RelE K G H' E' σ' → F.nx σ' H') ∧
  (∀ d E' v σ' H', DE.rt d E' → Ext H H' → RelE K G H' E' σ' → Rp K H' d v → F.rt v H') ∧
  (∀ E' σ' H', DE.bk E' → Ext H H' → RelE K G H' E' σ' → F.bk σ' H') ∧
  (∀ E' σ' H', DE.ct E' → Ext H H' → RelE K G H' E' σ' → F.ct σ' H')
structure ED (X : Cx) (G : Gh) (e : Expr) (t : TD) : Prop where
  pe : PE X e (liftE X.K G t)
structure EL (X : Cx) (G : Gh) (e : Expr) (t : TLd) : Prop where
  pe : PE X e (liftL X.K G t)
structure ER (X : Cx) (G : Gh) (e : Expr) (t : TD) : Prop where
  pe : PE X e (liftR X.K G t)
structure EB (X : Cx) (G : Gh) (e : Expr) (t : TTd) : Prop where
  pt : PT X e (liftT X.K G t)
structure EW (X : Cx) (G : Gh) (e : Expr) (t : TTd) : Prop where
  pw : PW X e (liftT X.K G t)
structure EA (X : Cx) (G : Gh) (es : List Expr) (t : TAd) : Prop where
  pa : PA X es (liftA X.K G t)
structure SD (X : Cx) (G : Gh) (st : Stmt) (t : TSd) : Prop where
  ps : PS X st (liftS X.K G t)
structure SDs (X : Cx) (G : Gh) (st : List Stmt) (t : TSd) : Prop where
  pss : PSs X st (liftS X.K G t)
theorem PE.weak {X : Cx} {e : Expr} {t u : TE} (h : PE X e t) (w : ∀ σ H Q, u σ H Q → t σ H Q) : PE X e u := ⟨fun pins s σ H Q I q => h.run pins s σ H Q I (w σ H Q q)⟩
theorem PT.weak {X : Cx} {e : Expr} {t u : TT} (h : PT X e t) (w : ∀ σ H Q, u σ H Q → t σ H Q) : PT X e u := ⟨fun pins s σ H Q I q => h.run pins s σ H Q I (w σ H Q q)⟩
theorem PW.weak {X : Cx} {e : Expr} {t u : TT} (h : PW X e t) (w : ∀ σ H Q, u σ H Q → t σ H Q) : PW X e u := ⟨fun wh pins s σ H Q I q => h.run wh pins s σ H Q I (w σ H Q q)⟩
theorem PA.weak {X : Cx} {es : List Expr} {t u : TA} (h : PA X es t) (w : ∀ σ H Q, u σ H Q → t σ H Q) : PA X es u := ⟨fun pos pins s σ H Q I q => h.run pos pins s σ H Q I (w σ H Q q)⟩
theorem PS.weak {X : Cx} {st : Stmt} {t u : TS} (h : PS X st t) (w : ∀ F σ H, u F σ H → t F σ H) : PS X st u := ⟨fun pins s σ H F I q => h.run pins s σ H F I (w F σ H q)⟩
theorem PSs.weak {X : Cx} {st : List Stmt} {t u : TS} (h : PSs X st t) (w : ∀ F σ H, u F σ H → t F σ H) : PSs X st u := ⟨fun pins s σ H F I q => h.run pins s σ H F I (w F σ H q)⟩
section
variable {X : Cx} {G : Gh} {a b c e : Expr} {es : List Expr} {pos : Pos}
/-- data may be read -/
theorem ED.er {t : TD} (h : ED X G e t) : ER X G e t := ⟨PE.weak h.pe fun σ H Q ⟨E, QE, r, q, k⟩ => ⟨E, QE, r, q, fun d E' v H' z x r' p => k d E' v H' z x r' (.inl p)⟩⟩
/-! ### names, constants -/
def tV (i : Nat) : TD := fun E Q => match E[i]? with
  | some (.d x) => Q x E
  | _ => False
/-- a name that may hold a list that can change, read now -/
def tVr (i : Nat) : TD := fun E Q => match E[i]? with
  | some (.d x) => Q x E
  | some (.ol xs) => Q (.list xs) E
  | _ => False
def tK (d : D) : TD := fun E Q => Q d E
theorem RelX.data {K : PySem.W.Frag} {ex : List Addr} {H : Hp} {E : Env} {σ : St} {i : Nat} {x : D} (r : RelX K G ex H E σ) (e : E[i]? = some (.d x)) : ∃ v, σ[i]? = some (some v) ∧ Rp K H x v := by
  obtain ⟨l, k, pn, dm, x0, A, h1, h2, h3⟩ := r
  exact (h3 i _ e).2
theorem RelX.ol {K : PySem.W.Frag} {ex : List Addr} {H : Hp} {E : Env} {σ : St} {i : Nat} {xs : List D} (r : RelX K G ex H E σ) (e : E[i]? = some (.ol xs)) : ∃ a vs, σ[i]? = some (some (.ref a)) ∧ H a = some (.lst vs) ∧ RpL K H xs vs := by
  obtain ⟨l, k, pn, dm, x0, A, h1, h2, h3⟩ := r
  obtain ⟨a, e1, e2, vs, e3, e4⟩ := h3 i _ e
  exact ⟨a, vs, e2, e3, e4⟩
theorem RelX.mutAt {K : PySem.W.Frag} {ex : List Addr} {H : Hp} {E : Env} {σ : St} {i : Nat} {s : S} (r : RelX K G ex H E σ) (e : E[i]? = some s) (m : s.isMut = true) : ∃ a, σ[i]? = some (some (.ref a)) ∧ RelM K H s a := by
  obtain ⟨l, k, pn, dm, x0, A, h1, h2, h3⟩ := r
  obtain ⟨a, e1, e2, e3⟩ := (h3 i _ e).mut m
  exact ⟨a, e2, e3⟩
theorem ed_var (i : Nat) {x : Str} (hN : X.N[i]? = some x := by rfl) (hv : Vis X.env.scope x := by first | exact Or.inl rfl | exact Or.inr (Or.inl rfl) | exact Or.inr (Or.inr rfl)) (hd : (x == ("__debug__" : Str)) = false := by decide)
    (hcd : (x == ("__classdict__" : Str)) = false := by decide) : ED X G (.Name x pos) (tV i) := ⟨PE.weak (pe_var hN hv hd hcd) fun σ H Q ⟨E, QE, r, q, k⟩ => by
  unfold tV at q
  split at q
  · rename_i x he
    obtain ⟨v, e, p⟩ := r.data he
    exact ⟨v, e, k _ _ _ _ q (Ext.refl _) r p⟩
  · exact q.elim⟩
theorem er_var (i : Nat) {x : Str} (hN : X.N[i]? = some x := by rfl) (hv : Vis X.env.scope x := by first | exact Or.inl rfl | exact Or.inr (Or.inl rfl) | exact Or.inr (Or.inr rfl)) (hd : (x == ("__debug__" : Str)) = false := by decide)
    (hcd : (x == ("__classdict__" : Str)) = false := by decide) : ER X G (.Name x pos) (tVr i) := ⟨PE.weak (pe_var hN hv hd hcd) fun σ H Q ⟨E, QE, r, q, k⟩ => by
  unfold tVr at q
  split at q
  · rename_i x he
    obtain ⟨v, e, p⟩ := r.data he
    exact ⟨v, e, k _ _ _ _ q (Ext.refl _) r (.inl p)⟩
  · rename_i xs he
    obtain ⟨a, vs, e, h, p⟩ := r.ol he
    exact ⟨_, e, k _ _ _ _ q (Ext.refl _) r (.inr ⟨_, _, _, rfl, rfl, h, p⟩)⟩
  · exact q.elim⟩
theorem ed_int {i j} : ED X G (.Constant (.int i) j pos) (tK (.int i)) := ⟨PE.weak pe_int fun σ H Q ⟨E, QE, r, q, k⟩ => k _ _ _ _ q (Ext.refl _) r (.int i)⟩
theorem ed_bl {i j} : ED X G (.Constant (.bool i) j pos) (tK (.bool i)) := ⟨PE.weak pe_bl fun σ H Q ⟨E, QE, r, q, k⟩ => k _ _ _ _ q (Ext.refl _) r (.bl i)⟩
theorem ed_non {j} : ED X G (.Constant .none j pos) (tK .none) := ⟨PE.weak pe_non fun σ H Q ⟨E, QE, r, q, k⟩ => k _ _ _ _ q (Ext.refl _) r .non⟩
/-! ### operators -/
/-- what an operator gives of data -/
abbrev OpT := D → D → (D → Prop) → Prop
/-- by values: the heap only grows -/
def OpD (X : Cx) (f : Value → Value → Sem Value) (op : OpT) : Prop := ∃ r : R2, OpR X f r ∧
  ∀ x y v u H (QD : D → Prop) (Q : VK), RpR X.K H x v → RpR X.K H y u → op x y QD → (∀ z w H', QD z → PExt H H' → Rp X.K H' z w → Q w H') → r v u H Q
theorem OpD.or {f : Value → Value → Sem Value} {op op' : OpT} (h : OpD X f op) (h' : OpD X f op') : OpD X f (fun x y Q => op x y Q ∨ op' x y Q) := by
  obtain ⟨r, hr, hq⟩ := h
  obtain ⟨r', hr', hq'⟩ := h'
  refine ⟨_, hr.or hr', fun x y v u H QD Q hx hy q k => ?_⟩
  rcases q with q | q
  · exact .inl (hq x y v u H QD Q hx hy q k)
  · exact .inr (hq' x y v u H QD Q hx hy q k)
theorem OpD.weak {f : Value → Value → Sem Value} {op op' : OpT} (h : OpD X f op) (w : ∀ x y Q, op' x y Q → op x y Q) : OpD X f op' := by
  obtain ⟨r, hr, hq⟩ := h
  exact ⟨r, hr, fun x y v u H QD Q hx hy q k => hq x y v u H QD Q hx hy (w _ _ _ q) k⟩
def tOpD (op : OpT) (ta tb : TD) : TD := fun E Q => ta E fun x E1 => tb E1 fun y E2 => op x y fun z => Q z E2
/-- two parts: the left is data -/
theorem lift_bin {K : PySem.W.Frag} {op : OpT} {ta tb : TD} {r : R2} (hr : ∀ x y v u H (QD : D → Prop) (Q : VK), RpR K H x v → RpR K H y u → op x y QD → (∀ z w H', QD z → PExt H H' → Rp K H' z w → Q w H') → r v u H Q)
    (σ : St) (H : Hp) (Q : VK) (h : liftE K G (tOpD op ta tb) σ H Q) : tOp r (liftE K G ta) (liftR K G tb) σ H Q := by
  obtain ⟨E, QE, rel, q, k⟩ := h
  refine ⟨E, _, rel, q, fun x E1 v H1 q1 x1 rel1 p1 => ⟨E1, _, rel1, q1, fun y E2 u H2 q2 x2 rel2 p2 => ?_⟩⟩
  exact hr x y v u H2 _ Q (.inl (p1.ext x2)) p2 q2 fun z w H3 q3 p3 rz => k z E2 w H3 q3 ((x1.trans x2).trans p3.ext) (rel2.pext p3) rz
theorem ed_op {op : Operator} {o : OpT} {ta tb : TD} (ho : OpD X (binaryOp op) o) (ha : ED X G a ta) (hb : ER X G b tb) : ED X G (.BinOp a op b pos) (tOpD o ta tb) := by
  obtain ⟨r, hr, hq⟩ := ho
  exact ⟨PE.weak (pe_op hr ha.pe hb.pe) fun σ H Q h => lift_bin hq σ H Q h⟩
theorem ed_cmp {op : CmpOp} {o : OpT} {ta tb : TD} (ho : OpD X (compareOp op) o) (ha : ED X G a ta) (hb : ER X G b tb) (hm : behindInMarks op b = false) : ED X G (.Compare a [op] [b] pos) (tOpD o ta tb) := by
  obtain ⟨r, hr, hq⟩ := ho
  exact ⟨PE.weak (pe_cmpR hr ha.pe hb.pe hm) fun σ H Q h => lift_bin hq σ H Q h⟩
def UnT := D → (D → Prop) → Prop
def UnD (X : Cx) (f : Value → Sem Value) (op : UnT) : Prop := ∃ r : V → Hp → VK → Prop, UnR X f r ∧
  ∀ x v H (QD : D → Prop) (Q : VK), RpR X.K H x v → op x QD → (∀ z w H', QD z → PExt H H' → Rp X.K H' z w → Q w H') → r v H Q
def tUnD (op : UnT) (ta : TD) : TD := fun E Q => ta E fun x E1 => op x fun z => Q z E1
theorem ed_un {op : UnaryOp} {o : UnT} {ta : TD} (ho : UnD X (unaryOp op) o) (ha : ER X G a ta) : ED X G (.UnaryOp op a pos) (tUnD o ta) := by
  obtain ⟨r, hr, hq⟩ := ho
  refine ⟨PE.weak (pe_un hr ha.pe) fun σ H Q ⟨E, QE, rel, q, k⟩ => ⟨E, _, rel, q, fun x E1 v H1 q1 x1 rel1 p1 => ?_⟩⟩
  exact hq x v H1 _ Q p1 q1 fun z w H3 q3 p3 rz => k z E1 w H3 q3 (x1.trans p3.ext) (rel1.pext p3) rz
/-! ### tests -/
/-- an expression that gives a truth -/
def tBo (t : TD) : TTd := fun E Q => t E fun x E1 => match x with
  | .bool b => Q b E1
  | _ => False
theorem eb_cmp {op : CmpOp} {o : OpT} {ta tb : TD} (ho : OpD X (compareOp op) o) (ha : ED X G a ta) (hb : ER X G b tb) (hm : behindInMarks op b = false) : EB X G (.Compare a [op] [b] pos) (tBo (tOpD o ta tb)) := by
  obtain ⟨r, hr, hq⟩ := ho
  refine ⟨PT.weak (pt_cmpR hr ha.pe hb.pe hm) fun σ H Q ⟨E, QE, rel, q, k⟩ => ?_⟩
  have h : liftE X.K G (tOpD o ta tb) σ H fun x H' => ∃ k, x = .bl k ∧ Q k H' := ⟨E, _, rel, q, fun d E' v H' q1 x1 r1 p1 => by
    cases p1 with
    | bl b => exact ⟨b, rfl, k b E' H' q1 x1 r1⟩
    | _ => exact q1.elim⟩
  exact lift_bin hq σ H _ h
def tAndD (t u : TTd) : TTd := fun E Q => t E fun c E1 => if c = true then u E1 Q else Q false E1
def tOrD (t u : TTd) : TTd := fun E Q => t E fun c E1 => if c = true then Q true E1 else u E1 Q
def tNotD (t : TTd) : TTd := fun E Q => t E fun c E1 => Q (!c) E1
theorem ew_and1 {t : TTd} (h : EB X G a t) : EW X G (.BoolOp .And [a] pos) t := ⟨pw_and1 h.pt⟩
theorem ew_or1 {t : TTd} (h : EB X G a t) : EW X G (.BoolOp .Or [a] pos) t := ⟨pw_or1 h.pt⟩
theorem ew_and {t u : TTd} (h : EB X G a t) (hb : EW X G (.BoolOp .And (b :: es) pos) u) : EW X G (.BoolOp .And (a :: b :: es) pos) (tAndD t u) :=
  ⟨PW.weak (pw_and h.pt hb.pw) fun σ H Q ⟨E, QE, r, q, k⟩ => ⟨E, _, r, q, fun c E1 H1 q1 x1 r1 => by
    cases c with
    | true => exact ⟨E1, QE, r1, q1, fun b E2 H2 q2 x2 r2 => k b E2 H2 q2 (x1.trans x2) r2⟩
    | false => exact k false E1 H1 q1 x1 r1⟩⟩
theorem ew_or {t u : TTd} (h : EB X G a t) (hb : EW X G (.BoolOp .Or (b :: es) pos) u) : EW X G (.BoolOp .Or (a :: b :: es) pos) (tOrD t u) :=
  ⟨PW.weak (pw_or h.pt hb.pw) fun σ H Q ⟨E, QE, r, q, k⟩ => ⟨E, _, r, q, fun c E1 H1 q1 x1 r1 => by
    cases c with
    | false => exact ⟨E1, QE, r1, q1, fun b E2 H2 q2 x2 r2 => k b E2 H2 q2 (x1.trans x2) r2⟩
    | true => exact k true E1 H1 q1 x1 r1⟩⟩
theorem EW.eb {t : TTd} (h : EW X G e t) : EB X G e t := ⟨h.pw.pt⟩
theorem eb_not {t : TTd} (h : EB X G a t) : EB X G (.UnaryOp .Not a pos) (tNotD t) :=
  ⟨PT.weak (pt_not h.pt) fun σ H Q ⟨E, QE, r, q, k⟩ => ⟨E, _, r, q, fun c E1 H1 q1 x1 r1 => k _ E1 H1 q1 x1 r1⟩⟩
/-- a if c else b -/
def tIfE (c : TTd) (t u : TD) : TD := fun E Q => c E fun k E1 => if k = true then t E1 Q else u E1 Q
theorem ed_if {tc : TTd} {t u : TD} (hc : EB X G c tc) (ha : ED X G a t) (hb : ED X G b u) : ED X G (.IfExp c a b pos) (tIfE tc t u) :=
  ⟨PE.weak (pe_ifExp hc.pt ha.pe hb.pe) fun σ H Q ⟨E, QE, r, q, k⟩ => ⟨E, _, r, q, fun c E1 H1 q1 x1 r1 => by
    cases c with
    | true => exact ⟨E1, QE, r1, q1, fun d E2 v H2 q2 x2 r2 => k d E2 v H2 q2 (x1.trans x2) r2⟩
    | false => exact ⟨E1, QE, r1, q1, fun d E2 v H2 q2 x2 r2 => k d E2 v H2 q2 (x1.trans x2) r2⟩⟩⟩
/-! as values -/
def tAndV (t u : TD) : TD := fun E Q => t E fun x E1 => match x with
  | .bool true => u E1 Q
  | .bool false => Q (.bool false) E1
  | _ => False
def tOrV (t u : TD) : TD := fun E Q => t E fun x E1 => match x with
  | .bool true => Q (.bool true) E1
  | .bool false => u E1 Q
  | _ => False
def tNotV (t : TD) : TD := fun E Q => t E fun x E1 => match x with
  | .bool b => Q (.bool (!b)) E1
  | _ => False
theorem ed_one {op} {t : TD} (h : ED X G a t) : ED X G (.BoolOp op [a] pos) t := ⟨pe_one h.pe⟩
theorem ed_and {t u : TD} (h : ED X G a t) (hb : ED X G (.BoolOp .And (b :: es) pos) u) : ED X G (.BoolOp .And (a :: b :: es) pos) (tAndV t u) :=
  ⟨PE.weak (pe_and h.pe hb.pe) fun σ H Q ⟨E, QE, r, q, k⟩ => ⟨E, _, r, q, fun d E1 v H1 q1 x1 r1 p1 => by
    cases p1 with
    | bl c =>
      refine ⟨c, rfl, ?_⟩
      cases c with
      | true => exact ⟨E1, QE, r1, q1, fun d E2 v H2 q2 x2 r2 => k d E2 v H2 q2 (x1.trans x2) r2⟩
      | false => exact k _ E1 _ H1 q1 x1 r1 (.bl false)
    | _ => exact q1.elim⟩⟩
theorem ed_not {t : TD} (h : ED X G a t) : ED X G (.UnaryOp .Not a pos) (tNotV t) :=
  ⟨PE.weak (pe_not h.pe) fun σ H Q ⟨E, QE, r, q, k⟩ => ⟨E, _, r, q, fun d E1 v H1 q1 x1 r1 p1 => by
    cases p1 with
    | bl c => exact ⟨c, rfl, k _ E1 _ H1 q1 x1 r1 (.bl _)⟩
    | _ => exact q1.elim⟩⟩
/-! ### truth of any data -/
def truD : D → Option Bool
  | .none => some false
  | .bool b => some b
  | .int i => some (i != 0)
  | .str x => some ((x.length : Int) != 0)
  | .list xs => some (!xs.isEmpty)
  | .tuple xs => some (!xs.isEmpty)
  | .dict _ => none
def okLen : D → Prop
  | .str x => x.length ≤ sizeLine
  | _ => True
def tTru (t : TD) : TTd := fun E Q => t E fun x E1 => match truD x with
  | some b => okLen x ∧ Q b E1
  | none => False
theorem isEmpty_RpL {K : PySem.W.Frag} {H : Hp} {ds : List D} {vs : List V} (l : RpL K H ds vs) : ds.isEmpty = vs.isEmpty := by cases l <;> rfl
theorem eb_tru {t : TD} (h : ER X G e t) (he : ∀ whole, isTrue e X.env whole = (do let v ← whole; standAt e.pos; holding [v] (truthy v)) := by intro _; rfl) : EB X G e (tTru t) :=
  ⟨PT.weak (pt_truth h.pe he) fun σ H Q ⟨E, QE, r, q, k⟩ => ⟨E, _, r, q, fun d E' v H' q1 x1 r1 p1 => by
    cases d with
    | none => rw [p1.none]; exact ⟨false, rfl, k _ _ _ q1.2 x1 r1⟩
    | bool b => rw [p1.bool]; exact ⟨b, rfl, k _ _ _ q1.2 x1 r1⟩
    | int b => rw [p1.int]; exact ⟨_, rfl, k _ _ _ q1.2 x1 r1⟩
    | str b => rw [p1.str]; exact ⟨_, ⟨q1.1, rfl⟩, k _ _ _ q1.2 x1 r1⟩
    | list b =>
      obtain ⟨a, vs, rfl, hs, l⟩ := p1.list
      exact ⟨!vs.isEmpty, .inl ⟨vs, hs, rfl⟩, by have := k _ _ _ q1.2 x1 r1; rw [isEmpty_RpL l] at this; exact this⟩
    | tuple b =>
      obtain ⟨a, vs, rfl, hs, l⟩ := p1.tuple
      exact ⟨!vs.isEmpty, .inr (.inl ⟨vs, hs, rfl⟩), by have := k _ _ _ q1.2 x1 r1; rw [isEmpty_RpL l] at this; exact this⟩
    | dict b => exact q1.elim⟩⟩
/-! ### arguments -/
def aNil : TAd := fun E Q => Q [] E
def aV (t : TD) (u : TAd) : TAd := fun E Q => t E fun x E1 => u E1 fun as E2 => Q (.v x :: as) E2
def aO (i : Nat) (u : TAd) : TAd := fun E Q => match E[i]? with
  | some (.ol _) => u E fun as E2 => Q (.o i :: as) E2
  | some (.dt _) => u E fun as E2 => Q (.o i :: as) E2
  | some (.dk _) => u E fun as E2 => Q (.o i :: as) E2
  | _ => False
theorem ea_nil : EA X G [] aNil := ⟨PA.weak pa_nil fun σ H Q ⟨E, QE, r, q, k⟩ => k _ _ _ _ q (Ext.refl _) r .nil⟩
theorem ea_v {t : TD} {u : TAd} (h : ED X G e t) (hr : EA X G es u) (hs : starEach (e :: es) X.env = (false, eval e X.env) :: starEach es X.env := by rfl) : EA X G (e :: es) (aV t u) :=
  ⟨PA.weak (pa_cons h.pe hr.pa hs) fun σ H Q ⟨E, QE, r, q, k⟩ => ⟨E, _, r, q, fun x E1 v H1 q1 x1 r1 p1 => ⟨E1, _, r1, q1, fun as E2 vs H2 q2 x2 r2 p2 => k _ _ _ _ q2 (x1.trans x2) r2 (.v (p1.ext x2) p2)⟩⟩⟩
theorem ea_o (i : Nat) {x : Str} {u : TAd} {p : Pos} (hr : EA X G es u) (hN : X.N[i]? = some x := by rfl) (hv : Vis X.env.scope x := by first | exact Or.inl rfl | exact Or.inr (Or.inl rfl) | exact Or.inr (Or.inr rfl)) (hd : (x == ("__debug__" : Str)) = false := by decide)
    (hcd : (x == ("__classdict__" : Str)) = false := by decide) (hs : starEach (Expr.Name x p :: es) X.env = (false, eval (Expr.Name x p) X.env) :: starEach es X.env := by rfl) : EA X G (Expr.Name x p :: es) (aO i u) :=
  ⟨PA.weak (pa_cons (pe_var hN hv hd hcd) hr.pa hs) fun σ H Q ⟨E, QE, r, q, k⟩ => by
    unfold aO at q
    split at q
    · rename_i xs he
      obtain ⟨a, e, _⟩ := r.mutAt he rfl
      exact ⟨_, e, E, _, r, q, fun as E2 vs H2 q2 x2 r2 p2 => k _ _ _ _ q2 x2 r2 (.o e p2)⟩
    · rename_i xs he
      obtain ⟨a, e, _⟩ := r.mutAt he rfl
      exact ⟨_, e, E, _, r, q, fun as E2 vs H2 q2 x2 r2 p2 => k _ _ _ _ q2 x2 r2 (.o e p2)⟩
    · rename_i xs he
      obtain ⟨a, e, _⟩ := r.mutAt he rfl
      exact ⟨_, e, E, _, r, q, fun as E2 vs H2 q2 x2 r2 p2 => k _ _ _ _ q2 x2 r2 (.o e p2)⟩
    · exact q.elim⟩
/-! ### statements -/
section
variable {st : Stmt} {rest : List Stmt}
def sNx : TSd := fun DE E => DE.nx E
def sSeq (t u : TSd) : TSd := fun DE E => t { DE with nx := u DE } E
theorem sds_nil : SDs X G [] sNx := ⟨PSs.weak pss_nil fun F σ H ⟨E, DE, r, q, k1, _⟩ => k1 _ _ _ q (Ext.refl _) r⟩
theorem lift_more {K : PySem.W.Frag} {F : Ends} {σ : St} {H H1 : Hp} {E E1 : Env} {DE : EndsD} {u : TSd} {σ1 : St} (x1 : Ext H H1) (r1 : RelE K G H1 E1 σ1) (q : u DE E1)
    (k1 : ∀ E' σ' H', DE.nx E' → Ext H H' → RelE K G H' E' σ' → F.nx σ' H') (k2 : ∀ d E' v σ' H', DE.rt d E' → Ext H H' → RelE K G H' E' σ' → Rp K H' d v → F.rt v H')
    (k3 : ∀ E' σ' H', DE.bk E' → Ext H H' → RelE K G H' E' σ' → F.bk σ' H') (k4 : ∀ E' σ' H', DE.ct E' → Ext H H' → RelE K G H' E' σ' → F.ct σ' H') : liftS K G u F σ1 H1 :=
  ⟨E1, DE, r1, q, fun E' σ' H' z x r => k1 E' σ' H' z (x1.trans x) r, fun d E' v σ' H' z x r => k2 d E' v σ' H' z (x1.trans x) r, fun E' σ' H' z x r => k3 E' σ' H' z (x1.trans x) r, fun E' σ' H' z x r => k4 E' σ' H' z (x1.trans x) r⟩
theorem sds_cons {t u : TSd} (h : SD X G st t) (hr : SDs X G rest u) : SDs X G (st :: rest) (sSeq t u) :=
  ⟨PSs.weak (pss_cons h.ps hr.pss) fun F σ H ⟨E, DE, r, q, k1, k2, k3, k4⟩ => ⟨E, { DE with nx := u DE }, r, q, fun E' σ' H' z x r => lift_more (σ := σ) (E := E) x r z k1 k2 k3 k4, k2, k3, k4⟩⟩
theorem sds_one {t : TSd} (h : SD X G st t) : SDs X G [st] t := ⟨pss_one h.ps⟩
def sRet (t : TD) : TSd := fun DE E => t E DE.rt
theorem sd_ret {t : TD} (h : ED X G e t) : SD X G (.Return (some e) pos) (sRet t) :=
  ⟨PS.weak (ps_ret h.pe) fun F σ H ⟨E, DE, r, q, k1, k2, k3, k4⟩ => ⟨E, _, r, q, fun d E' v H' z x r p => k2 d E' v σ H' z x r p⟩⟩
def sIf (c : TTd) (t u : TSd) : TSd := fun DE E => c E fun b E1 => if b = true then t DE E1 else u DE E1
theorem sd_if {sa sb : List Stmt} {tc : TTd} {t u : TSd} (hc : EB X G c tc) (ha : SDs X G sa t) (hb : SDs X G sb u) : SD X G (.If c sa sb pos) (sIf tc t u) :=
  ⟨PS.weak (ps_if hc.pt ha.pss hb.pss) fun F σ H ⟨E, DE, r, q, k1, k2, k3, k4⟩ => ⟨E, _, r, q, fun c E1 H1 q1 x1 r1 => by
    cases c with
    | true => exact lift_more (σ := σ) (E := E) x1 r1 q1 k1 k2 k3 k4
    | false => exact lift_more (σ := σ) (E := E) x1 r1 q1 k1 k2 k3 k4⟩⟩
def sExpr (t : TD) : TSd := fun DE E => t E fun _ E1 => DE.nx E1
theorem sd_expr {t : TD} (h : ED X G e t) (hs : swapsWith e none pos.line X.env = pure false := by rfl) : SD X G (.Expr e pos) (sExpr t) :=
  ⟨PS.weak (ps_expr h.pe hs) fun F σ H ⟨E, DE, r, q, k1, k2, k3, k4⟩ => ⟨E, _, r, q, fun d E1 v H1 q1 x1 r1 p1 => k1 _ _ _ q1 x1 r1⟩⟩
end
end
end DL
set_option Elab.async false
set_option linter.all false
set_option maxRecDepth 100000
namespace DL
open PySem PySem.Spec PyProof.Rows L2
section
variable {K : PySem.W.Frag} {G : Gh} {H H' : Hp} {E : Env} {σ : St} {ex : List Addr}
theorem notin_slots {i : Nat} (hi : i ∉ G.slots) (a : Addr) : (i, a) ∉ G.own := fun h => hi (List.mem_map.mpr ⟨(i, a), h, rfl⟩)
/-- a slot gets data -/
theorem RelX.setD {i : Nat} {x : D} {v : V} (r : RelX K G ex H E σ) (hi : i ∉ G.slots) (p : Rp K H x v) : RelX K G ex H (E.set i (.d x)) (σ.set i (some v)) := by
  obtain ⟨l, k, pn, dm, x0, A, h1, h2, h3⟩ := r
  refine ⟨by simp [l], k, fun j a hj => ?_, dm, x0, fun j => if j = i then [] else A j, fun j m a e1 e2 => ?_, fun j a e1 => ?_, fun j s e => ?_⟩
  · have : i ≠ j := fun z => notin_slots hi a (z ▸ hj)
    rw [List.getElem?_set_ne this]; exact pn j a hj
  · by_cases z : j = i
    · simp [z] at e1
    · by_cases z2 : m = i
      · simp [z2] at e2
      · simp only [z, z2, if_false] at e1 e2; exact h1 j m a e1 e2
  · by_cases z : j = i
    · simp [z] at e1
    · simp only [z, if_false] at e1; exact h2 j a e1
  · by_cases z : j = i
    · subst z
      by_cases hl : j < E.length
      · rw [List.getElem?_set_self hl] at e
        cases e
        exact ⟨by simp, v, by rw [List.getElem?_set_self (l ▸ hl)], p⟩
      · rw [List.getElem?_eq_none (by simpa using hl)] at e; cases e
    · rw [List.getElem?_set_ne (Ne.symm z)] at e
      rw [List.getElem?_set_ne (Ne.symm z)]
      simp only [z, if_false]; exact h3 j s e
/-- a slot gets a new mutable thing of one's own -/
theorem RelX.setM {i : Nat} {s0 : S} {a : Addr} (r : RelX K G (a :: ex) H E σ) (hx : a ∉ ex) (hi : i ∉ G.slots) (h0 : G.H0 a = none) (p : RelM K H s0 a) : RelX K G ex H (E.set i s0) (σ.set i (some (.ref a))) := by
  obtain ⟨l, k, pn, dm, x0, A, h1, h2, h3⟩ := r
  refine ⟨by simp [l], k, fun j a hj => ?_, dm, x0, fun j => if j = i then [a] else A j, fun j m b e1 e2 => ?_, fun j b e1 => ?_, fun j s e => ?_⟩
  · have : i ≠ j := fun z => notin_slots hi a (z ▸ hj)
    rw [List.getElem?_set_ne this]; exact pn j a hj
  · by_cases z : j = i
    · by_cases z2 : m = i
      · rw [z, z2]
      · simp only [z, if_true, z2, if_false, List.mem_cons, List.not_mem_nil, or_false] at e1 e2
        exact absurd e1 fun z => (h2 m b e2).2 (by simp [z])
    · by_cases z2 : m = i
      · simp only [z, if_false, z2, if_true, List.mem_cons, List.not_mem_nil, or_false] at e1 e2
        exact absurd e2 fun z => (h2 j b e1).2 (by simp [z])
      · simp only [z, z2, if_false] at e1 e2; exact h1 j m b e1 e2
  · by_cases z : j = i
    · simp only [z, if_true, List.mem_cons, List.not_mem_nil, or_false] at e1
      subst e1; exact ⟨.inr h0, hx⟩
    · simp only [z, if_false] at e1; exact ⟨(h2 j b e1).1, fun q => (h2 j b e1).2 (List.mem_cons_of_mem _ q)⟩
  · by_cases z : j = i
    · subst z
      by_cases hl : j < E.length
      · rw [List.getElem?_set_self hl] at e
        cases e
        simp only [if_true]
        exact RelS.ofMut p.isMut (by rw [List.getElem?_set_self (l ▸ hl)]) p
      · rw [List.getElem?_eq_none (by simpa using hl)] at e; cases e
    · rw [List.getElem?_set_ne (Ne.symm z)] at e
      rw [List.getElem?_set_ne (Ne.symm z)]
      simp only [z, if_false]; exact h3 j s e
theorem RelX.setL {i : Nat} {xs : List D} {a : Addr} {vs : List V} (r : RelX K G (a :: ex) H E σ) (hx : a ∉ ex) (hi : i ∉ G.slots) (h0 : G.H0 a = none) (ha : H a = some (.lst vs)) (p : RpL K H xs vs) : RelX K G ex H (E.set i (.ol xs)) (σ.set i (some (.ref a))) :=
  r.setM hx hi h0 (s0 := .ol xs) ⟨vs, ha, p⟩
/-- a mutable thing of one's own changes -/
theorem RelX.putM {i : Nat} {s0 s1 : S} {a : Addr} {u : HO} (r : RelX K G ex H E σ) (e : E[i]? = some s0) (m0 : s0.isMut = true) (hs : σ[i]? = some (some (.ref a))) (p : RelM K (upd H a u) s1 a) : RelX K G ex (upd H a u) (E.set i s1) σ := by
  obtain ⟨l, k, pn, dm, x0, A, h1, h2, h3⟩ := r
  obtain ⟨b, e1, e2, e3⟩ := (h3 i _ e).mut m0
  rw [hs] at e2
  have e2' : a = b := by injection e2 with z; injection z with z; injection z
  subst e2'
  obtain ⟨u0, g1, g2, g3⟩ := e3.soft
  have x : Ext H (upd H a u) := Ext.putS g1 g2 g3
  have own := h2 i a (by rw [e1]; simp)
  have hl : i < E.length := by
    rcases Nat.lt_or_ge i E.length with z | z
    · exact z
    · rw [List.getElem?_eq_none z] at e; cases e
  refine ⟨by simpa using l, fun q o he ne => ?_, pn, fun q hq => ?_, x0.trans x, A, h1, h2, fun j s he => ?_⟩
  · have : q ≠ a := by
      rintro rfl
      rcases own.1 with z | z
      · exact ne z
      · rw [z] at he; cases he
    rw [upd_ne this]; exact k q o he ne
  · by_cases z : q = a
    · subst z; rw [upd_same]; simp
    · rw [upd_ne z]; exact dm q hq
  · by_cases z : j = i
    · subst z
      rw [List.getElem?_set_self hl] at he
      cases he
      rw [e1]
      exact RelS.ofMut p.isMut hs p
    · rw [List.getElem?_set_ne (Ne.symm z)] at he
      exact (h3 j s he).move x fun c hc => upd_ne fun zz => z (h1 j i c hc (by rw [e1, zz]; simp))
/-- a list of one's own changes -/
theorem RelX.putL {i : Nat} {xs ys : List D} {a : Addr} {us : List V} (r : RelX K G ex H E σ) (e : E[i]? = some (.ol xs)) (hs : σ[i]? = some (some (.ref a))) (p : RpL K H ys us) : RelX K G ex (upd H a (.lst us)) (E.set i (.ol ys)) σ := by
  have x : Ext H (upd H a (.lst us)) := by
    obtain ⟨l, k, pn, dm, x0, A, h1, h2, h3⟩ := r
    obtain ⟨b, e1, e2, vs, e3, e4⟩ := h3 i _ e
    rw [hs] at e2
    have e2' : a = b := by injection e2 with z; injection z with z; injection z
    subst e2'; exact Ext.put e3
  exact r.putM e rfl hs (s1 := .ol ys) ⟨us, upd_same, p.ext x⟩
/-- a new object is apart from all -/
theorem RelX.fresh {p : Addr} {o : HO} (r : RelE K G H E σ) (hp : H p = none) : RelX K G [p] (upd H p o) E σ ∧ G.H0 p = none ∧ p ∉ G.addrs := by
  have px : PExt H (upd H p o) := PExt.new hp
  have r' := r.pext px
  obtain ⟨l, k, pn, dm, x0, A, h1, h2, h3⟩ := r'
  obtain ⟨_, k0, _, dm0, _, A0, g1, g2, g3⟩ := r
  have na : p ∉ G.addrs := fun z => dm0 p z hp
  refine ⟨⟨l, k, pn, dm, x0, fun i => if E[i]? = none then [] else A0 i, fun i j a e1 e2 => ?_, fun i a e => ?_, fun i s e => ?_⟩, ?_, na⟩
  · dsimp only at e1 e2
    split at e1
    · cases e1
    · split at e2
      · cases e2
      · exact g1 i j a e1 e2
  · dsimp only at e
    split at e
    · cases e
    · rename_i hE
      refine ⟨(g2 i a e).1, ?_⟩
      cases q : E[i]? with
      | none => exact absurd q hE
      | some s =>
        obtain ⟨u, hvs, _⟩ := (g3 i s q).indom a e
        simp only [List.mem_cons, List.not_mem_nil, or_false]
        rintro rfl
        rw [hp] at hvs; cases hvs
  · have : E[i]? ≠ none := by rw [e]; simp
    simp only [this, if_false]
    exact (g3 i s e).pext px
  · cases q : G.H0 p with
    | none => rfl
    | some o' => have := k0 p o' q na; rw [hp] at this; cases this
/-- a thing that nobody else has is frozen -/
theorem RelX.freezeS {a : Addr} {u u' : HO} (r : RelX K G [a] H E σ) (h0 : G.H0 a = none) (na : a ∉ G.addrs) (ha : H a = some u) (s1 : ∀ xs, u ≠ .tup xs) (s2 : ∀ o v, u ≠ .frz o v) : RelE K G (upd H a u') E σ := by
  have x : Ext H (upd H a u') := Ext.putS ha s1 s2
  obtain ⟨l, k, pn, dm, x0, A, h1, h2, h3⟩ := r
  refine ⟨l, fun q u he ne => ?_, pn, fun q hq => ?_, x0.trans x, fun i => if E[i]? = none then [] else A i, fun i j b e1 e2 => ?_, fun i b e => ?_, fun i s e => ?_⟩
  · have : q ≠ a := by rintro rfl; rw [h0] at he; cases he
    rw [upd_ne this]; exact k q u he ne
  · have : q ≠ a := by rintro rfl; exact na hq
    rw [upd_ne this]; exact dm q hq
  · dsimp only at e1 e2
    split at e1
    · cases e1
    · split at e2
      · cases e2
      · exact h1 i j b e1 e2
  · dsimp only at e
    split at e
    · cases e
    · exact ⟨(h2 i b e).1, by simp⟩
  · have : E[i]? ≠ none := by rw [e]; simp
    simp only [this, if_false]
    exact (h3 i s e).move x fun p hp => upd_ne (by rintro rfl; exact (h2 i p hp).2 (by simp))
/-- a list that nobody else has is frozen -/
theorem RelX.freeze {a : Addr} {vs : List V} {o : Obj} (r : RelX K G [a] H E σ) (h0 : G.H0 a = none) (na : a ∉ G.addrs) (ha : H a = some (.lst vs)) : RelE K G (upd H a (.frz o (.lst vs))) E σ :=
  r.freezeS h0 na ha (fun _ z => by cases z) (fun _ _ z => by cases z)
end
section
variable {X : Cx} {G : Gh} {a b c e : Expr} {es : List Expr} {pos : Pos}
/-! ### a new list is frozen: data -/
def tFz (t : TE) : TE := fun σ H Q => t σ H fun v H1 => ∃ a xs, v = .ref a ∧ H1 a = some (.lst xs) ∧ ∀ o, Q v (upd H1 a (.frz o (.lst xs)))
theorem PE.fz {t : TE} (h : PE X e t) : PE X e (tFz t) := ⟨fun pins s σ H Q I q => thn (h.run pins s σ H _ I q) fun u s1 ⟨v, H1, I1, r1, a, xs, e1, e2, q1⟩ => by
  obtain ⟨o, I2⟩ := I1.lock e2 trivial
  exact ⟨v, _, I2, r1, q1 o⟩⟩
def tFzD (t : TLd) : TD := fun E Q => t E fun xs E1 => Q (.list xs) E1
theorem EL.ed {t : TLd} (h : EL X G e t) : ED X G e (tFzD t) :=
  ⟨PE.weak (PE.fz h.pe) fun σ H Q ⟨E, QE, r, q, k⟩ => ⟨E, _, r, q, fun xs E1 a vs H1 q1 x1 r1 h0 na ha p1 => ⟨a, vs, rfl, ha, fun o =>
    k _ _ _ _ q1 (x1.trans (Ext.put ha)) (r1.freeze h0 na ha) (.lst (.of upd_same) (p1.ext (Ext.put ha)))⟩⟩⟩
/-- a list that is read now -/
theorem EL.er {t : TLd} (h : EL X G e t) : ER X G e (tFzD t) := h.ed.er
/-! ### displays -/
abbrev TDs := Env → (List D → Env → Prop) → Prop
def liftDs (K : PySem.W.Frag) (G : Gh) (t : TDs) : TA := fun σ H Q => ∃ (E : Env) (QE : List D → Env → Prop), RelE K G H E σ ∧ t E QE ∧ ∀ ds E' vs H', QE ds E' → Ext H H' → RelE K G H' E' σ → RpL K H' ds vs → Q vs H'
structure EDs (X : Cx) (G : Gh) (es : List Expr) (t : TDs) : Prop where
  pa : PA X es (liftDs X.K G t)
def dNil : TDs := fun E Q => Q [] E
def dCons (t : TD) (u : TDs) : TDs := fun E Q => t E fun x E1 => u E1 fun ds E2 => Q (x :: ds) E2
theorem eds_nil : EDs X G [] dNil := ⟨PA.weak pa_nil fun σ H Q ⟨E, QE, r, q, k⟩ => k _ _ _ _ q (Ext.refl _) r .nil⟩
theorem eds_cons {t : TD} {u : TDs} (h : ED X G e t) (hr : EDs X G es u) (hs : starEach (e :: es) X.env = (false, eval e X.env) :: starEach es X.env := by rfl) : EDs X G (e :: es) (dCons t u) :=
  ⟨PA.weak (pa_cons h.pe hr.pa hs) fun σ H Q ⟨E, QE, r, q, k⟩ => ⟨E, _, r, q, fun x E1 v H1 q1 x1 r1 p1 => ⟨E1, _, r1, q1, fun as E2 vs H2 q2 x2 r2 p2 => k _ _ _ _ q2 (x1.trans x2) r2 (.cons (p1.ext x2) p2)⟩⟩⟩
/-- a tuple of written items: the new object is plain -/
theorem pe_tupF {x1 : Nat} {t : TA} (h : PA X es t) : PE X (.Tuple es x1 pos) (fun σ H Q => t σ H fun xs H1 => xs.length ≤ sizeLine ∧ ∀ p o, H1 p = none → o.dict = none → Q (.ref p) (upd H1 p (.frz o (.tup xs)))) :=
  ⟨fun pins s σ H Q I hq => wpAny_Tuple_spliced (thn (h.run pos pins s σ H _ I hq) fun us s1 ⟨xs, H1, I1, r, z, q⟩ => ⟨by rw [← r.length]; exact z,
    ⟨.ref s1.heap.objs.size, upd H1 s1.heap.objs.size (.frz { cls := .type "tuple", data := .seq us.toArray } (.tup xs)), I1.laid (t' := s1.toks) (fun b u e => Heap.get?_push_of_some _ e) (Nat.le_refl _) ⟨Heap.get?_push_size _ rfl, z, us, r, ⟨_, Heap.get?_push_size _ rfl, rfl, _, rfl⟩⟩, rfl, q _ _ (I1.hok.fresh (Nat.le_refl _)) rfl⟩⟩)⟩
def tTupD (t : TDs) : TD := fun E Q => t E fun ds E1 => ds.length ≤ sizeLine ∧ Q (.tuple ds) E1
theorem ed_tup {x1} {t : TDs} (h : EDs X G es t) : ED X G (.Tuple es x1 pos) (tTupD t) :=
  ⟨PE.weak (pe_tupF h.pa) fun σ H Q ⟨E, QE, r, q, k⟩ => ⟨E, _, r, q, fun ds E1 vs H1 q1 x1 r1 p1 => ⟨by rw [← p1.length]; exact q1.1, fun p o hp ho =>
    k _ _ _ _ q1.2 (x1.trans (PExt.new hp).ext) (r1.pext (PExt.new hp)) (.tup (.new ho) (p1.ext (PExt.new hp).ext))⟩⟩⟩
def tLstD (t : TDs) : TLd := fun E Q => t E fun ds E1 => ds.length ≤ sizeLine ∧ Q ds E1
theorem el_lst {t : TDs} (h : EDs X G es t) : EL X G (.List es pos) (tLstD t) :=
  ⟨PE.weak (pe_lst h.pa) fun σ H Q ⟨E, QE, r, q, k⟩ => ⟨E, _, r, q, fun ds E1 vs H1 q1 x1 r1 p1 => ⟨by rw [← p1.length]; exact q1.1, fun p hp => by
    obtain ⟨r2, h0, na⟩ := r1.fresh (o := .lst vs) hp
    exact k _ _ _ _ _ q1.2 (x1.trans (PExt.new hp).ext) r2 h0 na upd_same (p1.ext (PExt.new hp).ext)⟩⟩⟩
/-! ### assignments -/
def sSet (i : Nat) (t : TD) : TSd := fun DE E => t E fun d E1 => DE.nx (E1.set i (.d d))
theorem sd_set {i : Nat} {x : Str} {pos' : Pos} {t : TD} (hi : i ∉ G.slots) (hN : X.N.Nodup) (hx : X.N[i]? = some x) (hl : Loc X.env.scope x) (h : ED X G e t) (hs : swapsWith e (some (.Name x pos')) pos.line X.env = pure false := by rfl)
    (hf : X.fn x = true ∨ X.env.scope.names.lookup x = some .local := by first | exact .inl rfl | exact .inr rfl | assumption) : SD X G (.Assign [.Name x pos'] e pos) (sSet i t) :=
  ⟨PS.weak (ps_set hN hx hl h.pe hs hf) fun F σ H ⟨E, DE, r, q, k1, k2, k3, k4⟩ => ⟨E, _, r, q, fun d E1 v H1 q1 x1 r1 p1 => k1 _ _ _ q1 x1 (r1.setD hi p1)⟩⟩
def sSetL (i : Nat) (t : TLd) : TSd := fun DE E => t E fun d E1 => DE.nx (E1.set i (.ol d))
theorem sd_setL {i : Nat} {x : Str} {pos' : Pos} {t : TLd} (hi : i ∉ G.slots) (hN : X.N.Nodup) (hx : X.N[i]? = some x) (hl : Loc X.env.scope x) (h : EL X G e t) (hs : swapsWith e (some (.Name x pos')) pos.line X.env = pure false := by rfl)
    (hf : X.fn x = true ∨ X.env.scope.names.lookup x = some .local := by first | exact .inl rfl | exact .inr rfl | assumption) : SD X G (.Assign [.Name x pos'] e pos) (sSetL i t) :=
  ⟨PS.weak (ps_set hN hx hl h.pe hs hf) fun F σ H ⟨E, DE, r, q, k1, k2, k3, k4⟩ => ⟨E, _, r, q, fun d E1 a vs H1 q1 x1 r1 h0 na ha p1 => k1 _ _ _ q1 x1 (r1.setL (by simp) hi h0 ha p1)⟩⟩
/-! targets: ms the slots that they change -/
theorem wipe_setIn {σ : St} {i : Nat} {o : Option V} : ∀ {ms : List Nat}, i ∈ ms → wipe (σ.set i o) ms = wipe σ ms
  | m :: ms, h => by
    show (wipe (σ.set i o) ms).set m none = (wipe σ ms).set m none
    by_cases hi : i ∈ ms
    · rw [wipe_setIn hi]
    · have hm : i = m := by rcases List.mem_cons.mp h with z | z; exact z; exact absurd z hi
      subst hm
      have : ∀ (l : List Nat), i ∉ l → wipe (σ.set i o) l = (wipe σ l).set i o := by
        intro l
        induction l with
        | nil => intro _; rfl
        | cons k l ih =>
          intro hk
          show (wipe (σ.set i o) l).set k none = ((wipe σ l).set k none).set i o
          rw [ih (fun z => hk (List.mem_cons_of_mem _ z)), List.set_comm _ _ (fun z => hk (by simp [z]))]
      rw [this ms hi, List.set_set]
abbrev TGd := D → Env → (Env → Prop) → Prop
def liftG (W : Bool) (K : PySem.W.Frag) (G : Gh) (ms : List Nat) (t : TGd) : TG := fun v σ H Q => ∃ (E : Env) (d : D) (QE : Env → Prop), RelE K G H E σ ∧ RpB W K H d v ∧ t d E QE ∧ ∀ E' σ' H', QE E' → Ext H H' → RelE K G H' E' σ' → wipe σ' ms = wipe σ ms → Q σ' H'
structure GD (X : Cx) (G : Gh) (W : Bool) (ms : List Nat) (tg : Expr) (t : TGd) : Prop where
  pg : PG X tg (liftG W X.K G ms t)
theorem PG.weak {tg : Expr} {t u : TG} (h : PG X tg t) (w : ∀ v σ H Q, u v σ H Q → t v σ H Q) : PG X tg u := ⟨fun pins s σ H v x Q I r q => h.run pins s σ H v x Q I r (w v σ H Q q)⟩
def gSet (i : Nat) : TGd := fun d E Q => Q (E.set i (.d d))
theorem gd_name {i : Nat} {x : Str} {ms : List Nat} (hi : i ∉ G.slots) (hm : i ∈ ms) (hN : X.N.Nodup) (hx : X.N[i]? = some x) (hl : Loc X.env.scope x) (hf : X.fn x = true ∨ X.env.scope.names.lookup x = some .local := by first | exact .inl rfl | exact .inr rfl | assumption) : GD X G false ms (.Name x pos) (gSet i) :=
  ⟨PG.weak (pg_name hN hx hl hf) fun v σ H Q ⟨E, d, QE, r, p, q, k⟩ => k _ _ _ q (Ext.refl _) (r.setD hi p) (wipe_setIn hm)⟩
abbrev TGsd := List D → Env → (Env → Prop) → Prop
def liftGs (K : PySem.W.Frag) (G : Gh) (ms : List Nat) (t : TGsd) : TGs := fun vs σ H Q => ∃ (E : Env) (ds : List D) (QE : Env → Prop), RelE K G H E σ ∧ RpL K H ds vs ∧ t ds E QE ∧ ∀ E' σ' H', QE E' → Ext H H' → RelE K G H' E' σ' → wipe σ' ms = wipe σ ms → Q σ' H'
structure GDs (X : Cx) (G : Gh) (ms : List Nat) (tgs : List Expr) (t : TGsd) : Prop where
  pg : PGs X tgs (liftGs X.K G ms t)
theorem PGs.weak {tgs : List Expr} {t u : TGs} (h : PGs X tgs t) (w : ∀ v σ H Q, u v σ H Q → t v σ H Q) : PGs X tgs u := ⟨fun pins s σ H v x Q I r q => h.run pins s σ H v x Q I r (w v σ H Q q)⟩
def gsNil : TGsd := fun ds E Q => match ds with
  | [] => Q E
  | _ => False
def gsCons (t : TGd) (u : TGsd) : TGsd := fun ds E Q => match ds with
  | d :: r => t d E fun E1 => u r E1 Q
  | _ => False
theorem gds_nil {ms : List Nat} : GDs X G ms [] gsNil := ⟨PGs.weak pgs_nil fun vs σ H Q ⟨E, ds, QE, r, p, q, k⟩ => by
  cases p with
  | nil => exact ⟨rfl, k _ _ _ q (Ext.refl _) r rfl⟩
  | cons _ _ => exact q.elim⟩
theorem gds_cons {ms : List Nat} {t : TGd} {u : TGsd} (h1 : GD X G false ms e t) (h2 : GDs X G ms es u) (hs : (assignEach (e :: es) X.env).map (·.2) = assign e X.env :: (assignEach es X.env).map (·.2) := by rfl) : GDs X G ms (e :: es) (gsCons t u) := ⟨PGs.weak (pgs_cons h1.pg h2.pg hs) fun vs σ H Q ⟨E, ds, QE, r, p, q, k⟩ => by
  cases p with
  | nil => exact q.elim
  | cons p1 p2 => exact ⟨_, _, rfl, E, _, _, r, .of p1, q, fun E1 σ1 H1 q1 x1 r1 w1 => ⟨E1, _, QE, r1, p2.ext x1, q1, fun E2 σ2 H2 q2 x2 r2 w2 => k _ _ _ q2 (x1.trans x2) r2 (w2.trans w1)⟩⟩⟩
/-- a tuple of targets: n of them -/
def gTupD (n : Nat) (u : TGsd) : TGd := fun d E Q => match d with
  | .tuple ds => ds.length = n ∧ u ds E Q
  | _ => False
theorem gd_tup {W : Bool} {ms : List Nat} {k n : Nat} {u : TGsd} (hc : X.calm = true) (h : GDs X G ms es u) (hn : (assignEach es X.env).length = n := by rfl) (hst : (assignEach es X.env).findIdx? (·.1) = none := by rfl) : GD X G W ms (.Tuple es k pos) (gTupD n u) :=
  ⟨PG.weak (pg_tup hc h.pg hn hst) fun v σ H Q ⟨E, d, QE, r, p, q, k⟩ => by
    have strong : Rp X.K H d v → gTup X.K n (liftGs X.K G ms u) v σ H Q := fun p => by
      cases p with
      | tup hs l => exact ⟨_, _, rfl, hs.1, by rw [← l.length]; exact q.1, E, _, QE, r, l, q.2, k⟩
      | _ => exact q.elim
    unfold RpB at p
    split at p
    · rcases p with p | ⟨ds, a, vs, rfl, rfl, hs, l⟩
      · exact strong p
      · exact ⟨_, _, rfl, hs, by rw [← l.length]; exact q.1, E, _, QE, r, l, q.2, k⟩
    · exact strong p⟩
/-- targets = e -/
def sAsg (t : TD) (g : TGd) : TSd := fun DE E => t E fun d E1 => g d E1 DE.nx
end
end DL
set_option Elab.async false
set_option linter.all false
set_option maxRecDepth 100000
namespace DL
open PySem PySem.Spec PyProof.Rows L2
/-! ### a thing that nobody else has, kept while something else runs -/
def pend (G : Gh) (a : Addr) (o : HO) : Gh := { H0 := upd G.H0 a o, own := G.own, X0 := G.X0, more := G.more }
section
variable {K : PySem.W.Frag} {G : Gh} {H H' : Hp} {E : Env} {σ : St} {ex : List Addr}
theorem RelX.toPend {a : Addr} {o : HO} (r : RelX K G (a :: ex) H E σ) (ha : H a = some o) (na : a ∉ G.addrs) : RelX K (pend G a o) ex H E σ := by
  obtain ⟨l, k, pn, dm, x0, A, h1, h2, h3⟩ := r
  refine ⟨l, fun p u e ne => ?_, pn, dm, x0, A, h1, fun i b e => ⟨?_, fun q => (h2 i b e).2 (List.mem_cons_of_mem _ q)⟩, h3⟩
  · by_cases z : p = a
    · subst z
      have : (pend G p o).H0 p = some o := upd_same
      rw [this] at e; cases e; exact ha
    · have e' : G.H0 p = some u := by
        have : (pend G a o).H0 p = G.H0 p := upd_ne z
        rw [this] at e; exact e
      exact k p u e' ne
  · have hb := h2 i b e
    have z : b ≠ a := by intro z; exact hb.2 (by simp [z])
    rcases hb.1 with q | q
    · exact .inl q
    · exact .inr (by show upd G.H0 a o b = none; rw [upd_ne z]; exact q)
theorem RelX.ofPend {a : Addr} {o : HO} (r : RelX K (pend G a o) ex H E σ) (h0 : G.H0 a = none) (na : a ∉ G.addrs) : RelX K G (a :: ex) H E σ ∧ H a = some o := by
  obtain ⟨l, k, pn, dm, x0, A, h1, h2, h3⟩ := r
  refine ⟨⟨l, fun p u e ne => ?_, pn, dm, x0, A, h1, fun i b e => ?_, h3⟩, ?_⟩
  · have z : p ≠ a := by rintro rfl; rw [h0] at e; cases e
    exact k p u (by show upd G.H0 a o p = some u; rw [upd_ne z]; exact e) ne
  · have hb := (h2 i b e).1
    have z : b ≠ a := by
      rintro rfl
      rcases hb with q | q
      · exact na q
      · have : upd G.H0 b o b = none := q
        rw [upd_same] at this; cases this
    refine ⟨?_, fun q => by
      rcases List.mem_cons.mp q with q | q
      · exact z q
      · exact (h2 i b e).2 q⟩
    rcases hb with q | q
    · exact .inl q
    · exact .inr (by have : upd G.H0 a o b = none := q; rw [upd_ne z] at this; exact this)
  · exact k a o upd_same na
end
/-! ### what is walked -/
structure WalkD (W : Bool) (K : PySem.W.Frag) (J : It) (H0 : Hp) (ds : List D) : Prop where
  goes : ∀ i H, Ext H0 H → i < ds.length → J.go i H
  yld : ∀ i H x H', Ext H0 H → i < ds.length → J.yld i H x H' → PExt H H' ∧ ∃ d, ds[i]? = some d ∧ RpB W K H' d x
  stops : ∀ H, Ext H0 H → J.stop ds.length H
def liftI (W : Bool) (K : PySem.W.Frag) (G : Gh) (t : TDs) : TI := fun σ H R => ∃ (E : Env) (QE : List D → Env → Prop), RelE K G H E σ ∧ t E QE ∧ ∀ ds E' J H', QE ds E' → Ext H H' → RelE K G H' E' σ → WalkD W K J H' ds → R J H'
structure ID (X : Cx) (G : Gh) (W : Bool) (tg iter : Expr) (t : TDs) : Prop where
  pi : PI X tg iter (liftI W X.K G t)
theorem PI.weak {X : Cx} {tg iter : Expr} {t u : TI} (h : PI X tg iter t) (w : ∀ σ H R, u σ H R → t σ H R) : PI X tg iter u := ⟨fun pins s σ H R I q => h.run pins s σ H R I (w σ H R q)⟩
section
variable {X : Cx} {G : Gh} {tg iter e : Expr} {pos : Pos}
/-- over data that is a tuple -/
def iTupD (t : TD) : TDs := fun E Q => t E fun d E1 => match d with
  | .tuple ds => Q ds E1
  | _ => False
def iLstD (t : TD) : TDs := fun E Q => t E fun d E1 => match d with
  | .list ds => Q ds E1
  | _ => False
theorem walkD_tup {K : PySem.W.Frag} {H : Hp} {a : Addr} {vs : List V} {ds : List D} (h : SqT K H a vs) (l : RpL K H ds vs) : WalkD false K (Itt K a) H ds where
  goes := fun i H' x hi => by
    rw [l.length] at hi
    exact ⟨vs, vs[i], SqT.ext x h, List.getElem?_eq_getElem hi⟩
  yld := fun i H' v H2 x hi hy => by
    obtain ⟨e1, e2⟩ := hy
    subst e1
    have hv := e2 vs (SqT.ext x h)
    obtain ⟨d, hd, p⟩ := l.getV hv
    exact ⟨PExt.refl _, d, hd, p.ext x⟩
  stops := fun H' x => ⟨vs, SqT.ext x h, by rw [l.length]; exact Nat.le_refl _⟩
theorem walkD_lst {K : PySem.W.Frag} {H : Hp} {a : Addr} {vs : List V} {ds : List D} (h : LsF K H a vs) (l : RpL K H ds vs) : WalkD false K (Itl K a) H ds where
  goes := fun i H' x hi => by
    rw [l.length] at hi
    exact ⟨vs, vs[i], (LsF.ext x h).sq, List.getElem?_eq_getElem hi⟩
  yld := fun i H' v H2 x hi hy => by
    obtain ⟨e1, e2⟩ := hy
    subst e1
    have hv := e2 vs ((LsF.ext x h).sq)
    obtain ⟨d, hd, p⟩ := l.getV hv
    exact ⟨PExt.refl _, d, hd, p.ext x⟩
  stops := fun H' x => ⟨vs, (LsF.ext x h).sq, by rw [l.length]; exact Nat.le_refl _⟩
theorem id_tup {t : TD} (h : ED X G iter t) : ID X G false tg iter (iTupD t) :=
  ⟨PI.weak (pi_tup h.pe) fun σ H R ⟨E, QE, r, q, k⟩ => ⟨E, _, r, q, fun d E1 v H1 q1 x1 r1 p1 => by
    cases p1 with
    | tup hs l => exact ⟨_, rfl, ⟨_, hs.1⟩, k _ _ _ _ q1 x1 r1 (walkD_tup hs.1 l)⟩
    | _ => exact q1.elim⟩⟩
theorem id_lst {t : TD} (h : ED X G iter t) : ID X G false tg iter (iLstD t) :=
  ⟨PI.weak (pi_list h.pe) fun σ H R ⟨E, QE, r, q, k⟩ => ⟨E, _, r, q, fun d E1 v H1 q1 x1 r1 p1 => by
    cases p1 with
    | lst hs l => exact ⟨_, rfl, ⟨_, hs.sq⟩, k _ _ _ _ q1 x1 r1 (walkD_lst hs l)⟩
    | _ => exact q1.elim⟩⟩
/-! ranges -/
def rangeD (lo : Int) (n : Nat) : List D := (List.range n).map fun i : Nat => PyData.int (lo + (i : Int))
theorem rangeD_length (lo : Int) (n : Nat) : (rangeD lo n).length = n := by simp [rangeD]
theorem rangeD_get {lo : Int} {n i : Nat} (h : i < n) : (rangeD lo n)[i]? = some (.int (lo + (i : Int))) := by
  simp [rangeD, h]
theorem walkD_range {K : PySem.W.Frag} {H : Hp} {lo : Int} {n : Nat} : WalkD false K (Itr lo n) H (rangeD lo n) where
  goes := fun i H' x hi => by rw [rangeD_length] at hi; exact hi
  yld := fun i H' v H2 x hi hy => by
    obtain ⟨rfl, rfl⟩ := hy
    rw [rangeD_length] at hi
    exact ⟨PExt.refl _, _, rangeD_get hi, .int _⟩
  stops := fun H' x => by rw [rangeD_length]; exact Nat.le_refl _
def iRange1 (t : TD) : TDs := fun E Q => t E fun d E1 => match d with
  | .int j => (-(2 ^ 62) ≤ j ∧ j < 2 ^ 62) ∧ Q (rangeD 0 j.toNat) E1
  | _ => False
theorem id_range1 {a : Expr} {t : TD} {p : Pos} (hg : Gl X "range") (hm : X.mg "range" = none) (h : ED X G a t) (hs : starEach [a] X.env = [(false, eval a X.env)] := by rfl) : ID X G false tg (.Call (.Name "range" p) [a] [] pos) (iRange1 t) :=
  ⟨PI.weak (pi_range1 hg hm (pa_cons h.pe pa_nil hs) hs) fun σ H R ⟨E, QE, r, q, k⟩ => ⟨E, _, r, q, fun d E1 v H1 q1 x1 r1 p1 => by
    cases p1 with
    | int i => exact ⟨i, rfl, q1.1.1, q1.1.2, k _ _ _ _ q1.2 x1 r1 walkD_range⟩
    | _ => exact q1.elim⟩⟩
def iRange2 (t u : TD) : TDs := fun E Q => t E fun d E1 => u E1 fun f E2 => match d, f with
  | .int i, .int j => (-(2 ^ 62) ≤ i ∧ i < 2 ^ 62 ∧ -(2 ^ 62) ≤ j ∧ j < 2 ^ 62) ∧ Q (rangeD i (j - i).toNat) E2
  | _, _ => False
theorem id_range2 {a b : Expr} {t u : TD} {p : Pos} (hg : Gl X "range") (hm : X.mg "range" = none) (h : ED X G a t) (hb : ED X G b u) (hs : starEach [a, b] X.env = [(false, eval a X.env), (false, eval b X.env)] := by rfl) (hs2 : starEach [b] X.env = [(false, eval b X.env)] := by rfl) :
    ID X G false tg (.Call (.Name "range" p) [a, b] [] pos) (iRange2 t u) :=
  ⟨PI.weak (pi_range2 hg hm (pa_cons h.pe (pa_cons hb.pe pa_nil hs2) (by rw [hs, hs2])) hs hs2) fun σ H R ⟨E, QE, r, q, k⟩ => ⟨E, _, r, q, fun d E1 v H1 q1 x1 r1 p1 => ⟨E1, _, r1, q1, fun f E2 u H2 q2 x2 r2 p2 => by
    cases p1 with
    | int i =>
      cases p2 with
      | int j => exact ⟨i, j, rfl, q2.1, k _ _ _ _ q2.2 (x1.trans x2) r2 walkD_range⟩
      | _ => exact q2.elim
    | _ => cases p2 <;> exact q2.elim⟩⟩⟩
/-! ### for -/
def forD (g : TGd) (tb : TSd) : List D → TSd
  | [] => fun DE E => DE.nx E
  | d :: ds => fun DE E => g d E fun E1 => tb { DE with nx := forD g tb ds DE, ct := forD g tb ds DE, bk := DE.nx } E1
def sFor (ti : TDs) (g : TGd) (tb : TSd) : TSd := fun DE E => ti E fun ds E1 => forD g tb ds DE E1
theorem sd_for {W : Bool} {body : List Stmt} {ti : TDs} {g : TGd} {tb : TSd} (hp : PassesOwn (model X.prog X.w) X.A X.env X.xe) (hc : X.calm = true) (hi : ID X G W tg iter ti) {ms : List Nat} (hg : GD X G W ms tg g) (hb : SDs X G body tb)
    (hs : ∀ x, foldedSetIterable iter X.env x = pure x := by intro _; rfl) : SD X G (.For tg iter body [] pos) (sFor ti g tb) := by
  refine ⟨PS.weak (ps_for hp hc hi.pi hg.pg hb.pss hs) fun F σ H ⟨E, DE, r, q, k1, k2, k3, k4⟩ => ⟨E, _, r, q, fun ds E1 J H1 q1 x1 r1 wk => ?_⟩⟩
  refine ⟨fun i m σ' H' => ∃ E', i + m = ds.length ∧ Ext H1 H' ∧ RelE X.K G H' E' σ' ∧ forD g tb (ds.drop i) DE E', ⟨ds.length, E1, by omega, Ext.refl _, r1, q1⟩, fun i m σ2 H2 hW => ?_⟩
  obtain ⟨E2, hm, x2, r2, q2⟩ := hW
  by_cases hi : i < ds.length
  · obtain ⟨d, hd⟩ : ∃ d, ds[i]? = some d := ⟨ds[i], List.getElem?_eq_getElem hi⟩
    have hdr : ds.drop i = d :: ds.drop (i + 1) := by
      rw [List.drop_eq_getElem_cons hi]
      rw [List.getElem?_eq_getElem hi] at hd
      rw [Option.some.inj hd]
    rw [hdr] at q2
    refine .inr ⟨wk.goes i H2 x2 hi, fun σ' H' => ∃ E', Ext H1 H' ∧ RelE X.K G H' E' σ' ∧ forD g tb (ds.drop (i + 1)) DE E', fun σ' H' ⟨E', a1, a2, a3⟩ => ⟨m - 1, by omega, E', by omega, a1, a2, a3⟩, fun x H3 hy => ?_⟩
    obtain ⟨px, d', hd', p⟩ := wk.yld i H2 x H3 x2 hi hy
    rw [hd] at hd'; cases hd'
    refine ⟨E2, d, _, r2.pext px, p, q2, fun E4 σ4 H4 q4 x4 r4 _ => ?_⟩
    have xx : Ext H1 H4 := (x2.trans px.ext).trans x4
    refine ⟨E4, _, r4, q4, fun E5 σ5 H5 z x5 r5 => ⟨E5, xx.trans x5, r5, z⟩, fun d E5 v σ5 H5 z x5 r5 p5 => k2 d E5 v σ5 H5 z ((x1.trans xx).trans x5) r5 p5, fun E5 σ5 H5 z x5 r5 => k1 E5 σ5 H5 z ((x1.trans xx).trans x5) r5, fun E5 σ5 H5 z x5 r5 => ⟨E5, xx.trans x5, r5, z⟩⟩
  · have e0 : ds.drop i = [] := List.drop_eq_nil_of_le (by omega)
    have ei : i = ds.length := by omega
    rw [e0] at q2
    refine .inl ⟨by rw [ei]; exact wk.stops H2 x2, k1 _ _ _ q2 (x1.trans x2) r2⟩
/-! ### while -/
/-! ### comprehensions -/
def wipeE (E : Env) : List Nat → Env
  | [] => E
  | v :: vs => (wipeE E vs).set v .un
def datOf : Option S → S
  | some (.d x) => .d x
  | _ => .un
/-- behind a comprehension: its own names are as they were -/
def restE (E0 E : Env) : List Nat → Env
  | [] => E
  | v :: vs => (restE E0 E vs).set v (datOf E0[v]?)
/-- one turn: an item, or none -/
def turnD (g : TGd) (tt : TTd) (te : TD) (d : D) (E : Env) (Q : Option D → Env → Prop) : Prop :=
  g d E fun E1 => tt E1 fun b E2 => if b = true then te E2 fun y E3 => Q (some y) E3 else Q none E2
def compD (g : TGd) (tt : TTd) (te : TD) (ms : List Nat) : List D → List D → Env → (List D → Env → Prop) → Prop
  | [], acc, E, Q => Q acc E
  | d :: ds, acc, E, Q => turnD g tt te d (wipeE E ms) fun o E' => match o with
    | some y => acc.length < sizeLine ∧ compD g tt te ms ds (acc ++ [y]) E' Q
    | none => compD g tt te ms ds acc E' Q
def tComp (ti : TDs) (g : TGd) (tt : TTd) (te : TD) (ms : List Nat) : TLd := fun E Q => ti E fun ds E1 => compD g tt te ms ds [] E1 fun xs E2 => Q xs (restE E1 E2 ms)
def tTrue : TTd := fun E Q => Q true E
structure EBs (X : Cx) (G : Gh) (ifs : List Expr) (t : TTd) : Prop where
  pt : PTs X ifs (liftT X.K G t)
theorem PTs.weak {ifs : List Expr} {t u : TT} (h : PTs X ifs t) (w : ∀ σ H Q, u σ H Q → t σ H Q) : PTs X ifs u := ⟨fun pins s σ H Q I q => h.run pins s σ H Q I (w σ H Q q)⟩
theorem ebs_nil : EBs X G [] tTrue := ⟨PTs.weak pts_nil fun σ H Q ⟨E, QE, r, q, k⟩ => k _ _ _ q (Ext.refl _) r⟩
theorem ebs_one {c : Expr} {t : TTd} (h : EB X G c t) : EBs X G [c] t := ⟨pts_one h.pt⟩
theorem RelX.wipe1 {K : PySem.W.Frag} {ex : List Addr} {H : Hp} {E : Env} {σ : St} {i : Nat} (r : RelX K G ex H E σ) (hi : i ∉ G.slots) : RelX K G ex H (E.set i .un) (σ.set i none) := by
  obtain ⟨l, k, pn, dm, x0, A, h1, h2, h3⟩ := r
  refine ⟨by simp [l], k, fun j a hj => ?_, dm, x0, fun j => if j = i then [] else A j, fun j m a e1 e2 => ?_, fun j a e1 => ?_, fun j s e => ?_⟩
  · have : i ≠ j := fun z => notin_slots hi a (z ▸ hj)
    rw [List.getElem?_set_ne this]; exact pn j a hj
  · by_cases z : j = i
    · simp [z] at e1
    · by_cases z2 : m = i
      · simp [z2] at e2
      · simp only [z, z2, if_false] at e1 e2; exact h1 j m a e1 e2
  · by_cases z : j = i
    · simp [z] at e1
    · simp only [z, if_false] at e1; exact h2 j a e1
  · by_cases z : j = i
    · subst z
      by_cases hl : j < E.length
      · rw [List.getElem?_set_self hl] at e
        cases e
        simp [RelS]
      · rw [List.getElem?_eq_none (by simpa using hl)] at e; cases e
    · rw [List.getElem?_set_ne (Ne.symm z)] at e
      rw [List.getElem?_set_ne (Ne.symm z)]
      simp only [z, if_false]; exact h3 j s e
theorem RelX.wipe {K : PySem.W.Frag} {ex : List Addr} {H : Hp} {E : Env} {σ : St} (r : RelX K G ex H E σ) : ∀ {ms : List Nat}, (∀ i ∈ ms, i ∉ G.slots) → RelX K G ex H (wipeE E ms) (wipe σ ms)
  | [], _ => r
  | i :: ms, h => (RelX.wipe r fun j hj => h j (List.mem_cons_of_mem _ hj)).wipe1 (h i (List.mem_cons_self ..))
theorem wipe_get {σ : St} {i : Nat} : ∀ {ms : List Nat}, i ∉ ms → (L2.wipe σ ms)[i]? = σ[i]?
  | [], _ => rfl
  | v :: vs, h => by
    show ((L2.wipe σ vs).set v none)[i]? = _
    rw [List.getElem?_set_ne (fun z => h (by simp [z])), wipe_get fun z => h (List.mem_cons_of_mem _ z)]
/-- behind a comprehension: the slots of before -/
theorem RelX.rest {K : PySem.W.Frag} {ex : List Addr} {H1 H : Hp} {E1 E : Env} {σ σ2 : St} {ms : List Nat} (r1 : RelE K G H1 E1 σ) (x : Ext H1 H) (r : RelX K G ex H E σ2) (hw : L2.wipe σ2 ms = L2.wipe σ ms) (hm : ∀ i ∈ ms, i ∉ G.slots) : RelX K G ex H (restE E1 E ms) σ := by
  have hl : σ2.length = σ.length := by rw [← wipe_length σ2 ms, hw, wipe_length]
  have rl : ∀ (l : List Nat), (restE E1 E l).length = E.length := by
    intro l
    induction l with
    | nil => rfl
    | cons v vs ih => show ((restE E1 E vs).set v _).length = _; rw [List.length_set, ih]
  have rg : ∀ (l : List Nat) (i : Nat), i ∉ l → (restE E1 E l)[i]? = E[i]? := by
    intro l
    induction l with
    | nil => intro i _; rfl
    | cons v vs ih => intro i h; show ((restE E1 E vs).set v _)[i]? = _; rw [List.getElem?_set_ne (fun z => h (by simp [z])), ih i fun z => h (List.mem_cons_of_mem _ z)]
  have rin : ∀ (l : List Nat) (i : Nat) (s : S), i ∈ l → (restE E1 E l)[i]? = some s → s = datOf E1[i]? := by
    intro l
    induction l with
    | nil => intro i s h; cases h
    | cons v vs ih =>
      intro i s h e
      have e : ((restE E1 E vs).set v (datOf E1[v]?))[i]? = some s := e
      by_cases z : v = i
      · subst z
        by_cases hv : v < (restE E1 E vs).length
        · rw [List.getElem?_set_self hv] at e; exact (Option.some.inj e).symm
        · rw [List.getElem?_eq_none (by simpa using hv)] at e; cases e
      · rw [List.getElem?_set_ne z] at e
        exact ih i s (by rcases List.mem_cons.mp h with q | q; exact absurd q.symm z; exact q) e
  obtain ⟨l, k, pn, dm, x0, A, h1, h2, h3⟩ := r
  have same : ∀ i, i ∉ ms → σ2[i]? = σ[i]? := fun i hi => by rw [← wipe_get (σ := σ2) hi, hw, wipe_get hi]
  refine ⟨by rw [rl, l, hl], k, fun i a ha => ?_, dm, x0, fun i => if i ∈ ms then [] else A i, fun i j a e1 e2 => ?_, fun i a e => ?_, fun i s e => ?_⟩
  · have : i ∉ ms := fun z => notin_slots (hm i z) a ha
    rw [← same i this]; exact pn i a ha
  · dsimp only at e1 e2
    split at e1
    · cases e1
    · split at e2
      · cases e2
      · exact h1 i j a e1 e2
  · dsimp only at e
    split at e
    · cases e
    · exact h2 i a e
  · by_cases hi : i ∈ ms
    · simp only [hi, if_true]
      have es := rin ms i s hi e
      subst es
      cases q : E1[i]? with
      | none => exact rfl
      | some s =>
        cases s with
        | d y =>
          obtain ⟨v, e1, p⟩ := r1.data q
          exact ⟨rfl, v, e1, p.ext x⟩
        | _ => exact rfl
    · simp only [hi, if_false]
      rw [rg ms i hi] at e
      rw [← same i hi]
      exact h3 i s e
abbrev anyG (W : Bool) (K : PySem.W.Frag) (G : Gh) (ms : List Nat) (g : TGd) : TG := fun v σ H Q => ∃ G' : Gh, G'.slots = G.slots ∧ liftG W K G' ms g v σ H Q
abbrev anyT (K : PySem.W.Frag) (G : Gh) (tt : TTd) : TT := fun σ H Q => ∃ G' : Gh, G'.slots = G.slots ∧ liftT K G' tt σ H Q
abbrev anyE (K : PySem.W.Frag) (G : Gh) (te : TD) : TE := fun σ H Q => ∃ G' : Gh, G'.slots = G.slots ∧ liftE K G' te σ H Q
theorem lift_comp {W : Bool} {ti : TDs} {g : TGd} {tt : TTd} {te : TD} {ms : List Nat} (hm : ∀ i ∈ ms, i ∉ G.slots) (σ : St) (H : Hp) (Q : VK) (h : liftL X.K G (tComp ti g tt te ms) σ H Q) : tLc (liftI W X.K G ti) (anyG W X.K G ms g) (anyT X.K G tt) (anyE X.K G te) ms σ H Q := by
  obtain ⟨E, QE, r, q, k⟩ := h
  refine ⟨E, _, r, q, fun ds E1 J H1 q1 x1 r1 wk L hL => ?_⟩
  obtain ⟨rL, h0, na⟩ := r1.fresh (o := .lst []) hL
  refine ⟨fun i m H' => ∃ (E' : Env) (σ' : St) (acc : List D) (vs : List V), i + m = ds.length ∧ Ext (upd H1 L (.lst [])) H' ∧ RelX X.K G [L] H' E' σ' ∧ L2.wipe σ' ms = L2.wipe σ ms ∧ H' L = some (.lst vs) ∧ RpL X.K H' acc vs ∧
    compD g tt te ms (ds.drop i) acc E' fun xs E2 => QE xs (restE E1 E2 ms), ⟨ds.length, E1, σ, [], [], by omega, Ext.refl _, rL, rfl, upd_same, .nil, q1⟩, fun i m H2 hW => ?_⟩
  obtain ⟨E2, σ2, acc, vs, hm2, x2, r2, w2, a2, p2, q2⟩ := hW
  have xL : Ext H1 H2 := (PExt.new hL).ext.trans x2
  by_cases hi : i < ds.length
  · obtain ⟨d, hd⟩ : ∃ d, ds[i]? = some d := ⟨ds[i], List.getElem?_eq_getElem hi⟩
    have hdr : ds.drop i = d :: ds.drop (i + 1) := by
      rw [List.drop_eq_getElem_cons hi]
      rw [List.getElem?_eq_getElem hi] at hd
      rw [Option.some.inj hd]
    rw [hdr] at q2
    refine .inr ⟨wk.goes i H2 xL hi, fun H' => ∃ (E' : Env) (σ' : St) (acc : List D) (vs : List V), Ext (upd H1 L (.lst [])) H' ∧ RelX X.K G [L] H' E' σ' ∧ L2.wipe σ' ms = L2.wipe σ ms ∧ H' L = some (.lst vs) ∧ RpL X.K H' acc vs ∧
      compD g tt te ms (ds.drop (i + 1)) acc E' fun xs E2 => QE xs (restE E1 E2 ms), fun H' ⟨E', σ', acc, vs, b1, b2, b3, b4, b5, b6⟩ => ⟨m - 1, by omega, E', σ', acc, vs, by omega, b1, b2, b3, b4, b5, b6⟩, fun x H3 hy => ?_⟩
    obtain ⟨px, d', hd', p⟩ := wk.yld i H2 x H3 xL hi hy
    rw [hd] at hd'; cases hd'
    have hs0 : (pend G L (.lst vs)).slots = G.slots := rfl
    have r3 : RelE X.K (pend G L (.lst vs)) H3 (wipeE E2 ms) (L2.wipe σ ms) := by
      have := ((r2.pext px).wipe hm).toPend (px _ _ a2) na
      rw [w2] at this; exact this
    refine ⟨pend G L (.lst vs), hs0, _, d, _, r3, p, q2, fun E4 σ4 H4 q4 x4 r4 w4 => ?_⟩
    have ww : ∀ (l : List Nat), L2.wipe (L2.wipe σ l) l = L2.wipe σ l := by
      intro l
      have : ∀ (τ : St) (l k : List Nat), (∀ j ∈ l, j ∈ k) → (∀ j ∈ k, ∀ v, τ[j]? = some v → v = none) → L2.wipe τ l = τ := by
        intro τ l
        induction l with
        | nil => intro _ _ _; rfl
        | cons v vs ih =>
          intro k hk hn
          show (L2.wipe τ vs).set v none = τ
          rw [ih k (fun j hj => hk j (List.mem_cons_of_mem _ hj)) hn]
          refine List.ext_getElem? fun j => ?_
          by_cases hv : v = j
          · subst hv
            by_cases hl : v < τ.length
            · rw [List.getElem?_set_self hl]
              have := hn v (hk v (List.mem_cons_self ..)) _ (List.getElem?_eq_getElem hl)
              rw [List.getElem?_eq_getElem hl, this]
            · rw [List.getElem?_eq_none (by simpa using hl), List.getElem?_eq_none (by simpa using hl)]
          · rw [List.getElem?_set_ne hv]
      refine this _ l l (fun j hj => hj) fun j hj v e => ?_
      cases v with
      | none => rfl
      | some y => exact absurd hj (wipe_some e).2
    refine ⟨by rw [w4]; exact ww ms, pend G L (.lst vs), hs0, E4, _, r4, q4, fun b E5 H5 q5 x5 r5 => ?_⟩
    have w45 : L2.wipe σ4 ms = L2.wipe σ ms := by rw [w4]; exact ww ms
    have x5' : Ext (upd H1 L (.lst [])) H5 := ((x2.trans px.ext).trans x4).trans x5
    cases b with
    | false =>
      rw [if_neg Bool.false_ne_true] at q5
      refine iteF ?_
      obtain ⟨r6, a6⟩ := RelX.ofPend r5 h0 na
      exact ⟨E5, σ4, acc, vs, x5', r6, w45, a6, p2.ext ((px.ext.trans x4).trans x5), q5⟩
    | true =>
      rw [if_pos rfl] at q5
      refine iteT ?_
      refine ⟨pend G L (.lst vs), hs0, E5, _, r5, q5, fun y E6 u H6 q6 x6 r6 p6 => ?_⟩
      obtain ⟨r7, a7⟩ := RelX.ofPend r6 h0 na
      have pv := p2.ext (((px.ext.trans x4).trans x5).trans x6)
      have xp : Ext H6 (upd H6 L (.lst (vs ++ [u]))) := Ext.put a7
      refine ⟨vs, a7, by rw [← pv.length]; exact q6.1, E6, σ4, acc ++ [y], vs ++ [u], (x5'.trans x6).trans xp, ?_, w45, upd_same, (RpL.append pv (.cons p6 .nil)).ext xp, q6.2⟩
      -- the list L grows: apart from all footprints
      obtain ⟨l, kk, pn, dm, x0, A, h1, h2, h3⟩ := r7
      refine ⟨l, fun p o e ne => ?_, pn, fun p hp => ?_, x0.trans xp, fun j => if E6[j]? = none then [] else A j, fun i j b e1 e2 => ?_, fun i b e => ?_, fun j s e => ?_⟩
      · have : p ≠ L := by rintro rfl; rw [h0] at e; cases e
        rw [upd_ne this]; exact kk p o e ne
      · have : p ≠ L := by rintro rfl; exact na hp
        rw [upd_ne this]; exact dm p hp
      · dsimp only at e1 e2
        split at e1
        · cases e1
        · split at e2
          · cases e2
          · exact h1 i j b e1 e2
      · dsimp only at e
        split at e
        · cases e
        · exact h2 i b e
      · have : E6[j]? ≠ none := by rw [e]; simp
        simp only [this, if_false]
        exact (h3 j s e).move xp fun p hp => upd_ne (by rintro rfl; exact (h2 j p hp).2 (by simp))
  · have e0 : ds.drop i = [] := List.drop_eq_nil_of_le (by omega)
    have ei : i = ds.length := by omega
    rw [e0] at q2
    exact .inl ⟨by rw [ei]; exact wk.stops H2 xL, k _ _ _ _ _ q2 (x1.trans xL) (RelX.rest r1 xL r2 w2 hm) h0 na a2 p2⟩
theorem comp_parts {W : Bool} {elt tg : Expr} {ifs : List Expr} {scope : Scope} {g : TGd} {tt : TTd} {te : TD} {ms : List Nat}
    (hg : ∀ (G' : Gh), G'.slots = G.slots → ∀ (s : Shared) (H : Hp) (C : Addr) (cl : List (Str × Addr)) (fp : List Addr), GD (X.blk s H scope (compEnvC scope cl C X.env) fp) G' W ms tg g)
    (ht : ∀ (G' : Gh), G'.slots = G.slots → ∀ (s : Shared) (H : Hp) (C : Addr) (cl : List (Str × Addr)) (fp : List Addr), EBs (X.blk s H scope (compEnvC scope cl C X.env) fp) G' ifs tt)
    (he : ∀ (G' : Gh), G'.slots = G.slots → ∀ (s : Shared) (H : Hp) (C : Addr) (cl : List (Str × Addr)) (fp : List Addr), ED (X.blk s H scope (compEnvC scope cl C X.env) fp) G' elt te) :
    (∀ (s : Shared) (H : Hp) (C : Addr) (cl : List (Str × Addr)) (fp : List Addr), PG (X.blk s H scope (compEnvC scope cl C X.env) fp) tg (anyG W X.K G ms g)) ∧
    (∀ (s : Shared) (H : Hp) (C : Addr) (cl : List (Str × Addr)) (fp : List Addr), PTs (X.blk s H scope (compEnvC scope cl C X.env) fp) ifs (anyT X.K G tt)) ∧
    (∀ (s : Shared) (H : Hp) (C : Addr) (cl : List (Str × Addr)) (fp : List Addr), PE (X.blk s H scope (compEnvC scope cl C X.env) fp) elt (anyE X.K G te)) :=
  ⟨fun s H C cl fp => ⟨fun pins s' σ H' v x Q I r ⟨G', hG', q⟩ => (hg G' hG' s H C cl fp).pg.run pins s' σ H' v x Q I r q⟩,
   fun s H C cl fp => ⟨fun pins s' σ H' Q I ⟨G', hG', q⟩ => (ht G' hG' s H C cl fp).pt.run pins s' σ H' Q I q⟩,
   fun s H C cl fp => ⟨fun pins s' σ H' Q I ⟨G', hG', q⟩ => (he G' hG' s H C cl fp).pe.run pins s' σ H' Q I q⟩⟩
section
variable {elt : Expr} {ifs : List Expr} {scope : Scope} {ti : TDs} {g : TGd} {tt : TTd} {te : TD} {ms : List Nat}
theorem el_comp {W : Bool} (own : List (Str × Nat)) (hc : X.calm = true) (hN : X.N.Nodup) (hms : own.map (·.2) = ms) (hm : ∀ i ∈ ms, i ∉ G.slots) (hi : ID X G W tg iter ti) (ok : BlkOk X.N X.env.scope scope own)
    (hg : ∀ (G' : Gh), G'.slots = G.slots → ∀ (s : Shared) (H : Hp) (C : Addr) (cl : List (Str × Addr)) (fp : List Addr), GD (X.blk s H scope (compEnvC scope cl C X.env) fp) G' W ms tg g)
    (ht : ∀ (G' : Gh), G'.slots = G.slots → ∀ (s : Shared) (H : Hp) (C : Addr) (cl : List (Str × Addr)) (fp : List Addr), EBs (X.blk s H scope (compEnvC scope cl C X.env) fp) G' ifs tt)
    (he : ∀ (G' : Gh), G'.slots = G.slots → ∀ (s : Shared) (H : Hp) (C : Addr) (cl : List (Str × Addr)) (fp : List Addr), ED (X.blk s H scope (compEnvC scope cl C X.env) fp) G' elt te) (hs : ∀ x, foldedSetIterable iter X.env x = pure x := by intro _; rfl) :
    EL X G (.ListComp elt [⟨tg, iter, ifs, 0⟩] scope pos) (tComp ti g tt te ms) := by
  obtain ⟨Pg, Pt, Pe⟩ := comp_parts hg ht he
  refine ⟨PE.weak (pe_lc hc hN hi.pi ok Pg Pt Pe hs) fun σ H Q h => ?_⟩
  rw [hms]; exact lift_comp hm σ H Q h
/-- behind a statement the list at slot i is frozen -/
theorem PS.fz {st : Stmt} {t : TS} (h : PS X st t) : PS X st (fun F σ H => t { F with nx := fun σ' H' => ∃ a xs, H' a = some (.lst xs) ∧ ∀ o, F.nx σ' (upd H' a (.frz o (.lst xs))) } σ H) :=
  ⟨fun pins s σ H F I q => thn (h.run pins s σ H _ I q) fun f s1 q1 => by
    cases f with
    | next =>
      obtain ⟨σ', H', I1, a, xs, e2, q2⟩ := q1
      obtain ⟨o, I2⟩ := I1.lock e2 trivial
      exact ⟨σ', _, I2, q2 o⟩
    | brk => exact q1
    | cont => exact q1
    | ret u => exact q1⟩
/-- .. data -/
theorem sd_setC {W : Bool} {i : Nat} {y : Str} {py spos : Pos} (own : List (Str × Nat)) (hsl : i ∉ G.slots) (hc : X.calm = true) (hN : X.N.Nodup) (hy : X.N[i]? = some y) (hyl : X.env.scope.names.lookup y = some .local)
    (hsw : swapsWith (.ListComp elt [⟨tg, iter, ifs, 0⟩] scope pos) (some (.Name y py)) spos.line X.env = pure true) (hms : own.map (·.2) = ms) (hm : ∀ i ∈ ms, i ∉ G.slots) (hi : ID X G W tg iter ti) (ok : BlkOk X.N X.env.scope scope own)
    (hg : ∀ (G' : Gh), G'.slots = G.slots → ∀ (s : Shared) (H : Hp) (C : Addr) (cl : List (Str × Addr)) (fp : List Addr), GD (X.blk s H scope (compEnvC scope cl C X.env) fp) G' W ms tg g)
    (ht : ∀ (G' : Gh), G'.slots = G.slots → ∀ (s : Shared) (H : Hp) (C : Addr) (cl : List (Str × Addr)) (fp : List Addr), EBs (X.blk s H scope (compEnvC scope cl C X.env) fp) G' ifs tt)
    (he : ∀ (G' : Gh), G'.slots = G.slots → ∀ (s : Shared) (H : Hp) (C : Addr) (cl : List (Str × Addr)) (fp : List Addr), ED (X.blk s H scope (compEnvC scope cl C X.env) fp) G' elt te) (hs : ∀ x, foldedSetIterable iter X.env x = pure x := by intro _; rfl) :
    SD X G (.Assign [.Name y py] (.ListComp elt [⟨tg, iter, ifs, 0⟩] scope pos) spos) (sSet i (tFzD (tComp ti g tt te ms))) := by
  obtain ⟨Pg, Pt, Pe⟩ := comp_parts hg ht he
  refine ⟨PS.weak (PS.fz (ps_setLc hc hN hy hyl hsw hi.pi ok Pg Pt Pe hs)) fun F σ H ⟨E, DE, r, q, k1, k2, k3, k4⟩ => ?_⟩
  show tLc _ _ _ _ (own.map (·.2)) σ H fun x H1 => ∃ a xs, H1 a = some (.lst xs) ∧ ∀ o, F.nx (σ.set i (some x)) (upd H1 a (.frz o (.lst xs)))
  rw [hms]
  refine lift_comp hm σ H _ ⟨E, _, r, q, fun xs E1 a vs H1 q1 x1 r1 h0 na ha p1 => ?_⟩
  refine ⟨a, vs, ha, fun o => k1 _ _ _ q1 (x1.trans (Ext.put ha)) ?_⟩
  exact (r1.freeze h0 na ha).setD hsl (.lst (.of upd_same) (p1.ext (Ext.put ha)))
end
end
end DL
set_option Elab.async false
set_option linter.all false
set_option maxRecDepth 100000
namespace DL
open PySem PySem.Spec PyProof.Rows L2
/-! ### a def's promise over data -/
abbrev SpD := List S → (D → List S → Prop) → Prop
inductive AR (K : PySem.W.Frag) (H : Hp) : List S → List V → List Addr → Prop
  | nil : AR K H [] [] []
  | d {x : D} {v : V} {ss : List S} {vs : List V} {as : List Addr} : Rp K H x v → AR K H ss vs as → AR K H (.d x :: ss) (v :: vs) as
  | o {s : S} {a : Addr} {ss : List S} {vs : List V} {as : List Addr} : s.isMut = true → RelM K H s a → AR K H ss vs as → AR K H (s :: ss) (.ref a :: vs) (a :: as)
def spL (K : PySem.W.Frag) (sp : SpD) : Sp := fun vs H Q _ => ∃ (ss : List S) (as : List Addr) (QD : D → List S → Prop), sp ss QD ∧ AR K H ss vs as ∧ as.Nodup ∧
  ∀ d outs v H', QD d outs → (∀ p o, H p = some o → p ∉ as → H' p = some o) → Paired (RelM K H') outs as → Rp K H' d v → Q v H'
/-- the places of the mutable ones -/
def mpos : Nat → List S → List Nat
  | _, [] => []
  | k, s :: ss => if s.isMut = true then k :: mpos (k + 1) ss else mpos (k + 1) ss
theorem AR.length {K : PySem.W.Frag} {H : Hp} : ∀ {ss : List S} {vs : List V} {as : List Addr}, AR K H ss vs as → ss.length = vs.length
  | _, _, _, .nil => rfl
  | _, _, _, .d _ r => by rw [List.length_cons, List.length_cons, AR.length r]
  | _, _, _, .o _ _ r => by rw [List.length_cons, List.length_cons, AR.length r]
theorem AR.mlen {K : PySem.W.Frag} {H : Hp} : ∀ {ss : List S} {vs : List V} {as : List Addr} (k : Nat), AR K H ss vs as → (mpos k ss).length = as.length
  | _, _, _, _, .nil => rfl
  | _, _, _, k, .d _ r => by show (mpos (k + 1) _).length = _; exact AR.mlen (k + 1) r
  | _, _, _, k, .o h _ r => by unfold mpos; rw [if_pos h, List.length_cons, List.length_cons, AR.mlen (k + 1) r]
/-- what an argument place holds -/
theorem AR.get {K : PySem.W.Frag} {H : Hp} : ∀ {ss : List S} {vs : List V} {as : List Addr} (k : Nat) {i : Nat} {s : S}, AR K H ss vs as → ss[i]? = some s →
    (∃ x v, s = .d x ∧ vs[i]? = some v ∧ Rp K H x v) ∨ (s.isMut = true ∧ ∃ a, vs[i]? = some (.ref a) ∧ RelM K H s a ∧ (k + i, a) ∈ (mpos k ss).zip as)
  | _, _, _, _, i, _, .nil, e => by simp at e
  | _, _, _, k, 0, s, .d (x := x) (v := v) p r, e => by
    simp at e; exact .inl ⟨x, v, e.symm, rfl, p⟩
  | _, _, _, k, i + 1, s, .d p r, e => by
    rcases AR.get (k + 1) (i := i) r (by simpa using e) with ⟨x, v, e1, e2, e3⟩ | ⟨h, a, e1, e2, e3⟩
    · exact .inl ⟨x, v, e1, by simpa using e2, e3⟩
    · refine .inr ⟨h, a, by simpa using e1, e2, ?_⟩
      show (k + (i + 1), a) ∈ (mpos (k + 1) _).zip _
      rw [show k + (i + 1) = k + 1 + i by omega]; exact e3
  | _, _, _, k, 0, s, .o (a := a) h m r, e => by
    simp at e; subst e
    refine .inr ⟨h, a, rfl, m, ?_⟩
    unfold mpos; rw [if_pos h]; simp
  | _, _, _, k, i + 1, s, .o h m r, e => by
    rcases AR.get (k + 1) (i := i) r (by simpa using e) with ⟨x, v, e1, e2, e3⟩ | ⟨h', a, e1, e2, e3⟩
    · exact .inl ⟨x, v, e1, by simpa using e2, e3⟩
    · refine .inr ⟨h', a, by simpa using e1, e2, ?_⟩
      unfold mpos; rw [if_pos h, List.zip_cons_cons]
      refine List.mem_cons_of_mem _ ?_
      rw [show k + (i + 1) = k + 1 + i by omega]; exact e3
theorem AR.back {K : PySem.W.Frag} {H : Hp} : ∀ {ss : List S} {vs : List V} {as : List Addr} (k : Nat) {j : Nat} {a : Addr}, AR K H ss vs as → (j, a) ∈ (mpos k ss).zip as → ∃ i s, j = k + i ∧ ss[i]? = some s ∧ vs[i]? = some (.ref a) ∧ RelM K H s a
  | _, _, _, _, _, _, .nil, e => by simp [mpos] at e
  | _, _, _, k, j, a, .d p r, e => by
    obtain ⟨i, s, e1, e2, e3, e4⟩ := AR.back (k + 1) (j := j) (a := a) r e
    exact ⟨i + 1, s, by omega, by simpa using e2, by simpa using e3, e4⟩
  | _, _, _, k, j, a, .o h m r, e => by
    unfold mpos at e; rw [if_pos h, List.zip_cons_cons] at e
    rcases List.mem_cons.mp e with z | z
    · cases z; exact ⟨0, _, by omega, rfl, rfl, m⟩
    · obtain ⟨i, s, e1, e2, e3, e4⟩ := AR.back (k + 1) r z
      exact ⟨i + 1, s, by omega, by simpa using e2, by simpa using e3, e4⟩
theorem zip_inj2 {α β : Type} : ∀ {xs : List α} {ys : List β} {i j : α} {a : β}, ys.Nodup → (i, a) ∈ xs.zip ys → (j, a) ∈ xs.zip ys → i = j
  | x :: xs, y :: ys, i, j, a, nd, h1, h2 => by
    rw [List.zip_cons_cons] at h1 h2
    have ⟨n1, n2⟩ := List.nodup_cons.mp nd
    rcases List.mem_cons.mp h1 with z1 | z1
    · rcases List.mem_cons.mp h2 with z2 | z2
      · cases z1; cases z2; rfl
      · cases z1; exact absurd (List.of_mem_zip z2).2 n1
    · rcases List.mem_cons.mp h2 with z2 | z2
      · cases z2; exact absurd (List.of_mem_zip z1).2 n1
      · exact zip_inj2 n2 z1 z2
  | [], _, _, _, _, _, h1, _ => by simp at h1
  | _ :: _, [], _, _, _, _, h1, _ => by simp at h1
theorem zip_fst {α β : Type} : ∀ {xs : List α} {ys : List β}, xs.length = ys.length → (xs.zip ys).map (·.1) = xs
  | [], _, _ => by simp
  | x :: xs, y :: ys, h => by rw [List.zip_cons_cons, List.map_cons, zip_fst (by simpa using h)]
  | _ :: _, [], h => by simp at h
theorem zip_snd {α β : Type} : ∀ {xs : List α} {ys : List β}, xs.length = ys.length → (xs.zip ys).map (·.2) = ys
  | [], [], _ => by simp
  | [], _ :: _, h => by simp at h
  | x :: xs, y :: ys, h => by rw [List.zip_cons_cons, List.map_cons, zip_snd (by simpa using h)]
  | _ :: _, [], h => by simp at h
/-- the start of a def's body -/
theorem AR.start {K : PySem.W.Frag} {H : Hp} {ss : List S} {vs : List V} {as : List Addr} {n : Nat} (r : AR K H ss vs as) (nd : as.Nodup) :
    RelE K ⟨H, (mpos 0 ss).zip as, fun _ => none, []⟩ H (ss ++ List.replicate n .un) (vs.map some ++ List.replicate n none) := by
  have hl := r.length
  have own : ∀ i a, (i, a) ∈ (mpos 0 ss).zip as → ∃ s, ss[i]? = some s ∧ vs[i]? = some (.ref a) ∧ RelM K H s a := fun i a h => by
    obtain ⟨j, s, e1, e2, e3, e4⟩ := r.back 0 h
    have : i = j := by omega
    subst this; exact ⟨s, e2, e3, e4⟩
  have key : ∀ i a, ((mpos 0 ss).zip as).lookup i = some a → (i, a) ∈ (mpos 0 ss).zip as := by
    intro i a
    generalize (mpos 0 ss).zip as = l
    induction l with
    | nil => intro h; cases h
    | cons p l ih =>
      obtain ⟨j, b⟩ := p
      intro h
      rw [List.lookup_cons] at h
      split at h
      · rename_i q; have : i = j := by simpa using q
        subst this; cases h; exact List.mem_cons_self ..
      · exact List.mem_cons_of_mem _ (ih h)
  have key2 : ∀ i a, (i, a) ∈ (mpos 0 ss).zip as → ∃ b, ((mpos 0 ss).zip as).lookup i = some b := by
    intro i a
    generalize (mpos 0 ss).zip as = l
    induction l with
    | nil => intro h; cases h
    | cons p l ih =>
      obtain ⟨j, b⟩ := p
      intro h
      rw [List.lookup_cons]
      split
      · exact ⟨b, rfl⟩
      · rename_i q
        rcases List.mem_cons.mp h with z | z
        · cases z; simp at q
        · exact ih z
  refine ⟨by simp [hl], fun p o h _ => h, fun i a h => ?_, fun a h => ?_, ⟨(fun _ _ z => by cases z), (fun _ _ _ z => by cases z)⟩, fun i => match ((mpos 0 ss).zip as).lookup i with | some a => [a] | none => [], fun i j a h1 h2 => ?_, fun i a h => ?_, fun i s h => ?_⟩
  · obtain ⟨s, e1, e2, e3⟩ := own i a h
    have hi : i < vs.length := by
      rcases Nat.lt_or_ge i vs.length with z | z
      · exact z
      · rw [List.getElem?_eq_none z] at e2; cases e2
    rw [List.getElem?_append_left (by simpa using hi), List.getElem?_map, e2]; rfl
  · have h : a ∈ ((mpos 0 ss).zip as).map (·.2) ++ [] := h
    rw [List.append_nil] at h
    obtain ⟨p, hp, rfl⟩ := List.mem_map.mp h
    obtain ⟨s, e1, e2, e3⟩ := own p.1 p.2 hp
    obtain ⟨u, e, _⟩ := e3.soft
    rw [e]; simp
  · dsimp only at h1 h2
    split at h1
    · rename_i b hb
      split at h2
      · rename_i c hc
        simp only [List.mem_cons, List.not_mem_nil, or_false] at h1 h2
        subst h1; subst h2
        exact zip_inj2 nd (key _ _ hb) (key _ _ hc)
      · cases h2
    · cases h1
  · dsimp only at h
    split at h
    · rename_i b hb
      simp only [List.mem_cons, List.not_mem_nil, or_false] at h
      subst h
      exact ⟨.inl (List.mem_append_left _ (List.mem_map.mpr ⟨_, key _ _ hb, rfl⟩)), by simp⟩
    · cases h
  · by_cases hi : i < ss.length
    · rw [List.getElem?_append_left hi] at h
      rw [List.getElem?_append_left (by simpa [← hl] using hi), List.getElem?_map]
      rcases r.get 0 h with ⟨x, v, rfl, e2, e3⟩ | ⟨hm, a, e1, e2, e3⟩
      · have no : ((mpos 0 ss).zip as).lookup i = none := by
          cases q : ((mpos 0 ss).zip as).lookup i with
          | none => rfl
          | some b =>
            obtain ⟨s', f1, f2, f3⟩ := own i b (key _ _ q)
            rw [h] at f1; cases f1
            exact f3.elim
        dsimp only
        rw [no, e2]
        exact ⟨rfl, v, rfl, e3⟩
      · rw [Nat.zero_add] at e3
        obtain ⟨b, hb⟩ := key2 i a e3
        obtain ⟨s', f1, f2, f3⟩ := own i b (key _ _ hb)
        rw [e1] at f2; cases f2
        dsimp only
        rw [hb, e1]
        exact RelS.ofMut hm rfl e2
    · have hi' : ss.length ≤ i := Nat.le_of_not_lt hi
      rw [List.getElem?_append_right hi'] at h
      have hs : s = .un := by
        have := List.mem_of_getElem? h
        exact (List.mem_replicate.mp this).2
      subst hs
      have no : ((mpos 0 ss).zip as).lookup i = none := by
        cases q : ((mpos 0 ss).zip as).lookup i with
        | none => rfl
        | some b =>
          obtain ⟨s', f1, f2, f3⟩ := own i b (key _ _ q)
          rw [List.getElem?_eq_none hi'] at f1; cases f1
      dsimp only
      rw [no]; rfl
/-- the mutable arguments at the end -/
def finO : List Nat → Env → (List S → Prop) → Prop
  | [], _, Q => Q []
  | i :: is, E, Q => match E[i]? with
    | some (.ol xs) => finO is E fun outs => Q (.ol xs :: outs)
    | some (.dt xs) => finO is E fun outs => Q (.dt xs :: outs)
    | some (.dk xs) => finO is E fun outs => Q (.dk xs :: outs)
    | _ => False
theorem finO_rel {K : PySem.W.Frag} {G : Gh} {H : Hp} {E : Env} {σ : St} (r : RelE K G H E σ) : ∀ {slots : List Nat} {as : List Addr} {Q : List S → Prop}, slots.length = as.length → (∀ p ∈ slots.zip as, p ∈ G.own) → finO slots E Q → ∃ outs, Q outs ∧ Paired (RelM K H) outs as
  | [], [], Q, _, _, h => ⟨[], h, .nil⟩
  | i :: is, a :: as, Q, hl, hs, h => by
    have key : ∀ s : S, E[i]? = some s → s.isMut = true → finO is E (fun outs => Q (s :: outs)) → ∃ outs, Q outs ∧ Paired (RelM K H) outs (a :: as) := fun s he hm h => by
      have hp := r.pin i a (hs (i, a) (by simp))
      obtain ⟨b, e1, e2⟩ := r.mutAt he hm
      rw [hp] at e1
      have : a = b := by injection e1 with z; injection z with z; injection z
      subst this
      obtain ⟨outs, q, p⟩ := finO_rel r (slots := is) (as := as) (by simpa using hl) (fun p hp => hs p (by rw [List.zip_cons_cons]; exact List.mem_cons_of_mem _ hp)) h
      exact ⟨_, q, .cons e2 p⟩
    unfold finO at h
    split at h
    · rename_i xs he; exact key _ he rfl h
    · rename_i xs he; exact key _ he rfl h
    · rename_i xs he; exact key _ he rfl h
    · exact h.elim
  | [], _ :: _, _, hl, _, _ => by simp at hl
  | _ :: _, [], _, hl, _, _ => by simp at hl
/-- THE RULE for a def -/
theorem fn_okD {P : Program} {w : World} {K : PySem.W.Frag} {mg : Str → Option Value} {base : Heap} {x qual : Str} {st : Stmt} {f : Addr} {fd : FuncData} {N ps : List Str} {k : Nat} {sp : SpD} {slots : List Nat} {tb : TSd}
    (F : Fun K x qual st f fd) (Sc : FnScope N ps (defScope st)) (shape : ∀ ss QD, sp ss QD → ss.length = ps.length ∧ mpos 0 ss = slots)
    (body : ∀ (cdv : Value) (A : Around) (outer : List PySem.Env) (s : Shared) (H : Hp) (E : XK), Room k (A.deeper (envOfC qual (defScope st) s.heap.objs.size f cdv)) → ∀ G : Gh, G.slots = slots →
      SDs (cxOf CX0 P w K mg base N qual (defScope st) f cdv A outer s H E).nox G (defBody st) tb)
    (read : ∀ ss QD, sp ss QD → tb { nx := fun E' => finO slots E' (QD .none), rt := fun d E' => finO slots E' (QD d) } (ss ++ List.replicate (N.length - ps.length) .un)) :
    FnOk P w K mg base CX0 (k + 1) f fd ps (spL K sp) := by
  refine F.ok Sc (fun vs H Q E h => ?_) (fun cdv A outer s H vs Q E hr h => ?_)
  · obtain ⟨ss, as, QD, h1, h2, _⟩ := h
    rw [← h2.length]; exact (shape ss QD h1).1
  · obtain ⟨ss, as, QD, h1, h2, nd, h4⟩ := h
    obtain ⟨hl, hm⟩ := shape ss QD h1
    have ml := h2.mlen 0
    have hG : (⟨H, (mpos 0 ss).zip as, fun _ => none, []⟩ : Gh).slots = slots := by show ((mpos 0 ss).zip as).map (·.1) = slots; rw [zip_fst ml, hm]
    have hA : (⟨H, (mpos 0 ss).zip as, fun _ => none, []⟩ : Gh).addrs = as := by show ((mpos 0 ss).zip as).map (·.2) ++ [] = as; rw [zip_snd ml, List.append_nil]
    refine ⟨_, (body cdv A outer s H E hr ⟨H, (mpos 0 ss).zip as, fun _ => none, []⟩ hG).pss, ?_⟩
    have hst : L2.start N vs = vs.map some ++ List.replicate (N.length - ps.length) none := by unfold L2.start; rw [← h2.length, hl]
    refine ⟨ss ++ List.replicate (N.length - ps.length) .un, { nx := fun E' => finO slots E' (QD .none), rt := fun d E' => finO slots E' (QD d) }, by rw [hst]; exact h2.start nd, read ss QD h1, fun E' σ' H' q x r => ?_, fun d E' v σ' H' q x r p => ?_, fun _ _ _ q => False.elim q, fun _ _ _ q => False.elim q⟩
    · obtain ⟨outs, q1, p1⟩ := finO_rel r (as := as) (by rw [← hm]; exact ml) (by rw [← hm]; exact fun p hp => hp) q
      exact h4 .none outs .non H' q1 (fun p o e ne => r.keep p o e (by rw [hA]; exact ne)) p1 .non
    · obtain ⟨outs, q1, p1⟩ := finO_rel r (as := as) (by rw [← hm]; exact ml) (by rw [← hm]; exact fun p hp => hp) q
      exact h4 d outs v H' q1 (fun p o e ne => r.keep p o e (by rw [hA]; exact ne)) p1 p
/-! ### a call of a def -/
def oixs : List Arg → List Nat
  | [] => []
  | .v _ :: as => oixs as
  | .o i :: as => i :: oixs as
def argS (E : Env) : List Arg → Option (List S)
  | [] => some []
  | .v x :: as => (argS E as).map (.d x :: ·)
  | .o i :: as => match E[i]? with
    | some (.ol xs) => (argS E as).map (.ol xs :: ·)
    | some (.dt xs) => (argS E as).map (.dt xs :: ·)
    | some (.dk xs) => (argS E as).map (.dk xs :: ·)
    | _ => none
def putO : List Arg → List S → Env → Env
  | .v _ :: as, outs, E => putO as outs E
  | .o i :: as, s :: outs, E => putO as outs (E.set i s)
  | _, _, E => E
def ndp : List Nat → Bool
  | [] => true
  | i :: is => !is.contains i && ndp is
def tCallD (sp : SpD) (ta : TAd) : TD := fun E Q => ta E fun as E1 => match argS E1 as with
  | some ss => ndp (oixs as) = true ∧ sp ss fun r outs => Q r (putO as outs E1)
  | none => False
section
variable {K : PySem.W.Frag} {G : Gh} {H H' : Hp} {E : Env} {σ : St}
abbrev MutAt (σ : St) (E : Env) : Nat → Addr → Prop := fun i a => σ[i]? = some (some (.ref a)) ∧ ∃ s : S, E[i]? = some s ∧ s.isMut = true
theorem RelA.args (r : RelE K G H E σ) : ∀ {as : List Arg} {ss : List S} {vs : List V}, RelA K H σ as vs → argS E as = some ss → ∃ addrs, AR K H ss vs addrs ∧ Paired (MutAt σ E) (oixs as) addrs
  | _, _, _, .nil, e => by cases e; exact ⟨[], .nil, .nil⟩
  | _, _, _, .v (as := as) p t, e => by
    unfold argS at e
    cases q : argS E as with
    | none => rw [q] at e; cases e
    | some ss' =>
      rw [q] at e; cases e
      obtain ⟨ad, a1, a2⟩ := RelA.args r t q
      exact ⟨ad, .d p a1, a2⟩
  | _, ss, _, .o (i := i) (v := v0) (as := as) (vs := vs0) hs t, e => by
    have key : ∀ s : S, E[i]? = some s → s.isMut = true → (argS E as).map (s :: ·) = some ss → ∃ addrs, AR K H ss (v0 :: vs0) addrs ∧ Paired (MutAt σ E) (oixs (.o i :: as)) addrs := fun s he hm e => by
      cases q : argS E as with
      | none => rw [q] at e; cases e
      | some ss' =>
        rw [q] at e; cases e
        obtain ⟨ad, a1, a2⟩ := RelA.args r t q
        obtain ⟨a, e1, e2⟩ := r.mutAt he hm
        rw [hs] at e1; cases e1
        exact ⟨a :: ad, .o hm e2 a1, .cons ⟨hs, s, he, hm⟩ a2⟩
    unfold argS at e
    split at e
    · rename_i xs he; exact key _ he rfl e
    · rename_i xs he; exact key _ he rfl e
    · rename_i xs he; exact key _ he rfl e
    · cases e
theorem Paired.mem2 {α β : Type} {F : α → β → Prop} : ∀ {xs : List α} {ys : List β} {y : β}, Paired F xs ys → y ∈ ys → ∃ x ∈ xs, F x y
  | _, _, _, .cons r t, h => by
    rcases List.mem_cons.mp h with rfl | z
    · exact ⟨_, List.mem_cons_self .., r⟩
    · obtain ⟨x, hx, f⟩ := Paired.mem2 t z; exact ⟨x, List.mem_cons_of_mem _ hx, f⟩
  | _, _, _, .nil, h => by cases h
theorem addrs_nodup (r : RelE K G H E σ) : ∀ {is : List Nat} {ad : List Addr}, ndp is = true → Paired (MutAt σ E) is ad → ad.Nodup
  | [], [], _, _ => List.nodup_nil
  | i :: is, a :: ad, h, .cons p t => by
    unfold ndp at h
    simp only [Bool.and_eq_true, Bool.not_eq_true'] at h
    refine List.nodup_cons.mpr ⟨fun z => ?_, addrs_nodup r h.2 t⟩
    obtain ⟨j, hj, e1, s2, e2, m2⟩ := Paired.mem2 t z
    obtain ⟨l, k, pn, dm, x0, A, h1, h2, h3⟩ := r
    obtain ⟨p1, s1, p2, m1⟩ := p
    obtain ⟨b, f1, f2, _⟩ := (h3 i _ p2).mut m1
    obtain ⟨c, g1, g2, _⟩ := (h3 j _ e2).mut m2
    rw [p1] at f2; cases f2
    rw [e1] at g2; cases g2
    have : i = j := h1 i j a (by rw [f1]; simp) (by rw [g1]; simp)
    subst this
    have := h.1
    simp at this
    exact this hj
/-- what is soft is no tuple, nothing frozen -/
theorem Ext.ofSoft {ad : List Addr} (keep : ∀ p o, H p = some o → p ∉ ad → H' p = some o) (soft : ∀ a ∈ ad, Soft H a) : Ext H H' :=
  ⟨fun a xs e => keep a _ e fun z => (by
      obtain ⟨u, f, g1, g2⟩ := soft a z
      rw [e] at f
      injection f with f
      exact g1 xs f.symm), fun a o v e => keep a _ e fun z => (by
      obtain ⟨u, f, g1, g2⟩ := soft a z
      rw [e] at f
      injection f with f
      exact g2 o v f.symm)⟩
/-- behind a call: the mutable arguments have changed -/
theorem RelX.puts : ∀ {as : List Arg} {outs : List S} {ad : List Addr} {E : Env}, ndp (oixs as) = true → RelE K G H E σ → (∀ p o, H p = some o → p ∉ ad → H' p = some o) → (∀ a ∈ ad, Soft H a) → Paired (RelM K H') outs ad →
    Paired (MutAt σ E) (oixs as) ad → RelE K G H' (putO as outs E) σ := by
  -- all at once: the environment with new contents
  intro as outs ad E nd r keep islst pr po
  have adn := addrs_nodup r nd po
  have ext : Ext H H' := Ext.ofSoft keep islst
  obtain ⟨l, k, pn, dm, x0, A, h1, h2, h3⟩ := r
  have own : ∀ a ∈ ad, a ∈ G.addrs ∨ G.H0 a = none := fun a ha => by
    obtain ⟨i, hi, e1, s, e2, m⟩ := Paired.mem2 po ha
    obtain ⟨b, f1, f2, _⟩ := (h3 i _ e2).mut m
    rw [e1] at f2; cases f2
    exact (h2 i a (by rw [f1]; simp)).1
  have there : ∀ (ad : List Addr) (outs : List S), Paired (RelM K H') outs ad → ∀ a ∈ ad, Soft H' a := by
    intro ad outs p
    induction p with
    | nil => intro a h; cases h
    | cons q t ih =>
      intro a h
      rcases List.mem_cons.mp h with rfl | z
      · exact q.soft
      · exact ih a z
  -- the slots that are not put keep their relation, those that are put have the new one
  have step : ∀ (as : List Arg) (outs : List S) (ad : List Addr) (E1 : Env), ndp (oixs as) = true → Paired (RelM K H') outs ad → Paired (MutAt σ E) (oixs as) ad →
      (∀ i, i ∉ oixs as → ∀ s, E1[i]? = some s → RelS K H' s σ[i]? (A i)) → E1.length = E.length →
      (∀ i s, (putO as outs E1)[i]? = some s → RelS K H' s σ[i]? (A i)) ∧ (putO as outs E1).length = E.length := by
    intro as
    induction as with
    | nil =>
      intro outs ad E1 _ _ _ h hl
      have e : DL.putO [] outs E1 = E1 := by cases outs <;> rfl
      rw [e]; exact ⟨fun i s q => h i (by simp [oixs]) s q, hl⟩
    | cons x as ih =>
      intro outs ad E1 nd p q h hl
      cases x with
      | v x =>
        have e : DL.putO (.v x :: as) outs E1 = DL.putO as outs E1 := by cases outs <;> rfl
        rw [e]
        exact ih outs ad E1 nd p q h hl
      | o i =>
        cases q with
        | cons q1 q2 =>
          rename_i a0 ad0
          cases p with
          | cons p1 p2 =>
            rename_i s0 outs0
            have nd' : ndp (i :: oixs as) = true := nd
            unfold ndp at nd'
            simp only [Bool.and_eq_true, Bool.not_eq_true'] at nd'
            have e : DL.putO (.o i :: as) (s0 :: outs0) E1 = DL.putO as outs0 (E1.set i s0) := rfl
            rw [e]
            refine ih outs0 ad0 (E1.set i s0) nd'.2 p2 q2 (fun j hj s e => ?_) (by rw [List.length_set]; exact hl)
            by_cases z : j = i
            · subst z
              by_cases hlj : j < E1.length
              · rw [List.getElem?_set_self hlj] at e
                cases e
                obtain ⟨q3, ys, q4, q5⟩ := q1
                obtain ⟨b, f1, f2, _⟩ := (h3 j _ q4).mut q5
                rw [q3] at f2; cases f2
                rw [f1]
                exact RelS.ofMut p1.isMut q3 p1
              · rw [List.getElem?_eq_none (by simpa using hlj)] at e; cases e
            · rw [List.getElem?_set_ne (Ne.symm z)] at e
              exact h j (by simp [oixs, z, hj]) s e
  have base : ∀ i, i ∉ oixs as → ∀ s, E[i]? = some s → RelS K H' s σ[i]? (A i) := fun i hi s e => by
    have hs := h3 i s e
    refine hs.move ext fun a ha => ?_
    have : a ∉ ad := fun z => by
      obtain ⟨j, hj, e1, s2, e2, m2⟩ := Paired.mem2 po z
      obtain ⟨b, f1, f2, _⟩ := (h3 j _ e2).mut m2
      rw [e1] at f2; cases f2
      have : i = j := h1 i j a ha (by rw [f1]; simp)
      subst this; exact hi hj
    obtain ⟨u, hu, _⟩ := hs.indom a ha
    rw [hu]; exact keep a u hu this
  obtain ⟨s1, s2⟩ := step as outs ad E nd pr po base rfl
  refine ⟨by rw [s2]; exact l, fun p o e ne => ?_, pn, fun a ha => ?_, x0.trans ext, A, h1, h2, s1⟩
  · refine keep p o (k p o e ne) fun z => ?_
    rcases own p z with q | q
    · exact ne q
    · rw [q] at e; cases e
  · by_cases z : a ∈ ad
    · obtain ⟨u, e, _⟩ := there ad outs pr a z; rw [e]; simp
    · cases q : H a with
      | none => exact absurd q (dm a ha)
      | some o => rw [keep a o q z]; simp
theorem Paired.keys {α β : Type} {F : α → β → Prop} : ∀ {xs : List α} {ys : List β}, Paired F xs ys → ∀ y ∈ ys, ∃ x, F x y
  | _, _, .cons r t, y, h => by
    rcases List.mem_cons.mp h with rfl | z
    · exact ⟨_, r⟩
    · exact Paired.keys t y z
  | _, _, .nil, _, h => by cases h
end
section
variable {X : Cx} {G : Gh} {e : Expr} {es : List Expr} {pos p : Pos} {x : Str} {f : Addr} {fd : FuncData} {ps : List Str} {k : Nat} {sp : SpD} {ta : TAd} {CX : CXT}
theorem lift_call (σ : St) (H : Hp) (Q : VK) (E : XK) (h : liftE X.K G (tCallD sp ta) σ H Q) : tCall (spL X.K sp) [] E (liftA X.K G ta) σ H Q := by
  obtain ⟨E0, QE, r, q, kk⟩ := h
  refine ⟨E0, _, r, q, fun as E1 vs H1 q1 x1 r1 p1 => ?_⟩
  show spL X.K sp (vs ++ []) H1 Q E
  rw [List.append_nil]
  split at q1
  · rename_i ss hs
    obtain ⟨nd, q1⟩ := q1
    obtain ⟨ad, ar, po⟩ := RelA.args r1 p1 hs
    have adn := addrs_nodup r1 nd po
    refine ⟨ss, ad, _, q1, ar, adn, fun d outs v H' q2 keep pr pd => ?_⟩
    have islst : ∀ a ∈ ad, Soft H1 a := fun a ha => by
      obtain ⟨i, hi, e1, s, e2, m⟩ := Paired.mem2 po ha
      obtain ⟨b, f1, f2⟩ := r1.mutAt e2 m
      rw [e1] at f1; cases f1; exact f2.soft
    have ext : Ext H1 H' := Ext.ofSoft keep islst
    exact kk d _ v H' q2 (x1.trans ext) (RelX.puts nd r1 keep islst pr po) pd
  · exact q1.elim
theorem ed_call (F : FnOk X.prog X.w X.K X.mg X.base CX0 k f fd ps (spL X.K sp)) (hr : Room k X.A) (hg : Gl X x) (hm : X.mg x = some (.ref f)) (hk : PySem.W.keepIn X.K (.ref f) = true) (hb : Binds X.K fd ps []) (ha : EA X G (e :: es) ta) (hdb : (x == ("__debug__" : Str)) = false := by decide)
    (hs : starEach (e :: es) X.env = (false, eval e X.env) :: starEach es X.env := by rfl) (hplain : (backTo pos (starEach es X.env)).any (·.1) = false := by rfl) : ED X G (.Call (.Name x p) (e :: es) [] pos) (tCallD sp ta) :=
  ⟨PE.weak (pe_call (dvs := []) (E := fun _ _ _ => False) F hr hg hm hk hb .nil pass0 ha.pa (hdb := hdb) (he := hs) (hpl := hplain)) fun σ H Q h => lift_call σ H Q _ h⟩
end
end DL
set_option Elab.async false
set_option linter.all false
set_option maxRecDepth 100000
namespace DL
open PySem PySem.Spec PyProof.Rows L2
/-! ### lists of one's own change -/
section
variable {X : Cx} {G : Gh} {a b c e : Expr} {es : List Expr} {pos apos cpos p0 : Pos} {x : Str}
def tApp (i : Nat) (t : TD) : TD := fun E Q => match E[i]? with
  | some (.ol _) => t E fun d E1 => match E1[i]? with
    | some (.ol xs) => xs.length < sizeLine ∧ Q .none (E1.set i (.ol (xs ++ [d])))
    | _ => False
  | _ => False
theorem ed_app (i : Nat) {t : TD} (h : ED X G e t) (hN : X.N[i]? = some x := by rfl) (hv : Vis X.env.scope x := by first | exact Or.inl rfl | exact Or.inr (Or.inl rfl) | exact Or.inr (Or.inr rfl)) (hd : (x == ("__debug__" : Str)) = false := by decide)
    (hcd : (x == ("__classdict__" : Str)) = false := by decide)
    (hbase : attributeBase (.Name x p0) "append" X.env (eval (.Name x p0) X.env) = eval (.Name x p0) X.env := by rfl)
    (hfew : ((backTo cpos (starEach [e] X.env)).all (fun x => !x.1) && (backToKw cpos (keywordEach [] X.env)).all (fun x => x.1.isSome)
      && decide (([e] : List Expr).length + ([] : List Keyword).length + (if ([] : List Keyword).isEmpty then 0 else 1) < 30)) = true := by rfl)
    (hline : (apos.endLine == cpos.line) = true := by rfl) (hs : starEach [e] X.env = (false, eval e X.env) :: starEach [] X.env := by rfl) (hplain : (backTo cpos (starEach [] X.env)).any (·.1) = false := by rfl) :
    ED X G (.Call (.Attribute (.Name x p0) "append" apos) [e] [] cpos) (tApp i t) :=
  ⟨PE.weak (pe_bm PySem.F.plainAttrs_list PySem.F.slot_list_append PySem.F.type_list_append mt_append (pe_var hN hv hd hcd) (pa_cons h.pe pa_nil hs) hbase hfew hline hs hplain) fun σ H Q ⟨E, QE, r, q, k⟩ => by
    unfold tApp at q
    split at q
    · rename_i xs0 he0
      obtain ⟨l, vs0, e1, e2, e3⟩ := r.ol he0
      refine ⟨_, e1, .inl ⟨rfl, _, SqL.of e2⟩, E, _, r, q, fun d E1 v H1 q1 x1 r1 p1 => ?_⟩
      split at q1
      · rename_i xs he
        obtain ⟨l', vs, f1, f2, f3⟩ := r1.ol he
        rw [e1] at f1; cases f1
        refine ⟨l, vs, v, rfl, rfl, f2, by rw [← f3.length]; exact q1.1, ?_⟩
        exact k _ _ _ _ q1.2 (x1.trans (Ext.put f2)) (r1.putL he e1 (RpL.append f3 (.cons p1 .nil))) .non
      · exact q1.elim
    · exact q.elim⟩
def tExtd (i : Nat) (t : TLd) : TD := fun E Q => match E[i]? with
  | some (.ol _) => t E fun ys E1 => match E1[i]? with
    | some (.ol xs) => xs.length + ys.length ≤ sizeLine ∧ Q .none (E1.set i (.ol (xs ++ ys)))
    | _ => False
  | _ => False
theorem ed_extd (i : Nat) {t : TLd} (h : EL X G e t) (hN : X.N[i]? = some x := by rfl) (hv : Vis X.env.scope x := by first | exact Or.inl rfl | exact Or.inr (Or.inl rfl) | exact Or.inr (Or.inr rfl)) (hd : (x == ("__debug__" : Str)) = false := by decide)
    (hcd : (x == ("__classdict__" : Str)) = false := by decide)
    (hbase : attributeBase (.Name x p0) "extend" X.env (eval (.Name x p0) X.env) = eval (.Name x p0) X.env := by rfl)
    (hfew : ((backTo cpos (starEach [e] X.env)).all (fun x => !x.1) && (backToKw cpos (keywordEach [] X.env)).all (fun x => x.1.isSome)
      && decide (([e] : List Expr).length + ([] : List Keyword).length + (if ([] : List Keyword).isEmpty then 0 else 1) < 30)) = true := by rfl)
    (hline : (apos.endLine == cpos.line) = true := by rfl) (hs : starEach [e] X.env = (false, eval e X.env) :: starEach [] X.env := by rfl) (hplain : (backTo cpos (starEach [] X.env)).any (·.1) = false := by rfl) :
    ED X G (.Call (.Attribute (.Name x p0) "extend" apos) [e] [] cpos) (tExtd i t) :=
  ⟨PE.weak (pe_bm PySem.F.plainAttrs_list PySem.F.slot_list_extend PySem.F.type_list_extend mt_extend (pe_var hN hv hd hcd) (pa_cons h.pe pa_nil hs) hbase hfew hline hs hplain) fun σ H Q ⟨E, QE, r, q, k⟩ => by
    unfold tExtd at q
    split at q
    · rename_i xs0 he0
      obtain ⟨l, vs0, e1, e2, e3⟩ := r.ol he0
      refine ⟨_, e1, .inl ⟨rfl, _, SqL.of e2⟩, E, _, r, q, fun ys E1 b us H1 q1 x1 r1 h0 na hb p1 => ?_⟩
      split at q1
      · rename_i xs he
        obtain ⟨l', vs, f1, f2, f3⟩ := r1.ol he
        rw [e1] at f1; cases f1
        refine ⟨l, b, vs, us, rfl, rfl, f2, hb, by rw [← f3.length, ← p1.length]; exact q1.1, ?_⟩
        exact k _ _ _ _ q1.2 (x1.trans (Ext.put f2)) (r1.weak.putL he e1 (RpL.append f3 p1)) .non
      · exact q1.elim
    · exact q.elim⟩
def tPopAt (i : Nat) (t : TD) : TD := fun E Q => match E[i]? with
  | some (.ol _) => t E fun d E1 => match d, E1[i]? with
    | .int k, some (.ol xs) => (0 ≤ k ∧ k < xs.length ∧ k < 2 ^ 63) ∧ ∀ y, xs[k.toNat]? = some y → Q y (E1.set i (.ol (xs.eraseIdx k.toNat)))
    | _, _ => False
  | _ => False
/-- an item is put -/
def putD (xs : List D) (k : Int) (d : D) (Q : List D → Prop) : Prop := match ixN xs.length k with
  | some n => Q (xs.set n d)
  | none => False
/-- xs[k] = e -/
def sSetIx (i : Nat) (tk te : TD) : TSd := fun DE E => te E fun d E1 => match E1[i]? with
  | some (.ol _) => tk E1 fun j E2 => match j, E2[i]? with
    | .int k, some (.ol xs) => putD xs k d fun ys => DE.nx (E2.set i (.ol ys))
    | _, _ => False
  | _ => False
theorem sd_setIx (i : Nat) {ix : Expr} {tk te : TD} (hk : ED X G ix tk) (he : ED X G e te) (hN : X.N[i]? = some x := by rfl) (hv : Vis X.env.scope x := by first | exact Or.inl rfl | exact Or.inr (Or.inl rfl) | exact Or.inr (Or.inr rfl)) (hd : (x == ("__debug__" : Str)) = false := by decide)
    (hcd : (x == ("__classdict__" : Str)) = false := by decide)
    (ha : ∀ v, assign (.Subscript (.Name x p0) ix apos) X.env v = (do
      let ov ← holding [v] (eval (.Name x p0) X.env)
      let iv ← holding [v, ov] (eval ix X.env)
      standAt apos
      holding [v, ov, iv] (setItem ov iv v)
      release [v, ov, iv] []) := by intro _; rfl)
    (hs : swapsWithSole [.Subscript (.Name x p0) ix apos] e pos.line X.env = pure false := by rfl) (hw : swappedStores [.Subscript (.Name x p0) ix apos] e X.env = pure none := by rfl)
    (hb : (assignEach [.Subscript (.Name x p0) ix apos] X.env).map (·.2) = [assign (.Subscript (.Name x p0) ix apos) X.env] := by rfl) :
    SD X G (.Assign [.Subscript (.Name x p0) ix apos] e pos) (sSetIx i tk te) :=
  ⟨PS.weak (ps_asg he.pe (pg_sub (pe_var hN hv hd hcd) hk.pe set_list ha) hs hw hb) fun F σ H ⟨E, DE, r, q, k1, k2, k3, k4⟩ => ⟨E, _, r, q, fun d E1 v H1 q1 x1 r1 p1 => by
    split at q1
    · rename_i xs0 he0
      obtain ⟨l, vs0, e1, e2, e3⟩ := r1.ol he0
      refine ⟨_, e1, E1, _, r1, q1, fun j E2 u H2 q2 x2 r2 p2 => ?_⟩
      split at q2
      · rename_i d0 o0 k xs he
        cases p2
        unfold putD at q2
        split at q2
        · rename_i n hn
          obtain ⟨l', vs, f1, f2, f3⟩ := r2.ol he
          rw [e1] at f1; cases f1
          refine ⟨l, vs, k, n, rfl, rfl, f2, by rw [← f3.length]; exact hn, ?_⟩
          exact k1 _ _ _ q2 ((x1.trans x2).trans (Ext.put f2)) (r2.putL he e1 (RpL.set (p1.ext x2) n f3))
        · exact q2.elim
      · exact q2.elim
    · exact q1.elim⟩⟩
/-! ### several at once -/
abbrev TPs := Env → (List S → Env → Prop) → Prop
/-- new lists at ex, data -/
inductive PVs (K : PySem.W.Frag) (G : Gh) (H : Hp) : List S → List V → List Addr → Prop
  | nil : PVs K G H [] [] []
  | d {x : D} {v : V} {ss : List S} {vs : List V} {ex : List Addr} : Rp K H x v → PVs K G H ss vs ex → PVs K G H (.d x :: ss) (v :: vs) ex
  | m {s : S} {a : Addr} {ss : List S} {vs : List V} {ex : List Addr} : RelM K H s a → G.H0 a = none → a ∉ G.addrs → a ∉ ex → PVs K G H ss vs ex → PVs K G H (s :: ss) (.ref a :: vs) (a :: ex)
theorem PVs.length {K : PySem.W.Frag} {G : Gh} {H : Hp} : ∀ {ss : List S} {vs : List V} {ex : List Addr}, PVs K G H ss vs ex → ss.length = vs.length
  | _, _, _, .nil => rfl
  | _, _, _, .d _ r => by rw [List.length_cons, List.length_cons, PVs.length r]
  | _, _, _, .m _ _ _ _ r => by rw [List.length_cons, List.length_cons, PVs.length r]
theorem PVs.pext {K : PySem.W.Frag} {G : Gh} {H H' : Hp} (p : PExt H H') : ∀ {ss : List S} {vs : List V} {ex : List Addr}, PVs K G H ss vs ex → PVs K G H' ss vs ex
  | _, _, _, .nil => .nil
  | _, _, _, .d h r => .d (h.ext p.ext) (PVs.pext p r)
  | _, _, _, .m h1 h3 h4 h5 r => .m (h1.move p.ext (by obtain ⟨u, e, _⟩ := h1.soft; rw [e, p _ _ e])) h3 h4 h5 (PVs.pext p r)
theorem PVs.ofPend {K : PySem.W.Frag} {G : Gh} {H : Hp} {a : Addr} {o : HO} : ∀ {ss : List S} {vs : List V} {ex : List Addr}, PVs K (pend G a o) H ss vs ex → PVs K G H ss vs ex ∧ a ∉ ex
  | _, _, _, .nil => ⟨.nil, by simp⟩
  | _, _, _, .d h r => ⟨.d h (PVs.ofPend r).1, (PVs.ofPend r).2⟩
  | _, _, _, .m (a := b) h1 h3 h4 h5 r => by
    have z : b ≠ a := by
      rintro rfl
      have : upd G.H0 b o b = none := h3
      rw [upd_same] at this; cases this
    have h3' : G.H0 b = none := by
      have : upd G.H0 a o b = none := h3
      rw [upd_ne z] at this; exact this
    refine ⟨.m h1 h3' h4 h5 (PVs.ofPend r).1, fun q => ?_⟩
    rcases List.mem_cons.mp q with q | q
    · exact z q.symm
    · exact (PVs.ofPend r).2 q
def liftPs (K : PySem.W.Frag) (G : Gh) (t : TPs) : TA := fun σ H Q => ∃ (E : Env) (QE : List S → Env → Prop), RelE K G H E σ ∧ t E QE ∧ ∀ ss E' vs H' ex, QE ss E' → Ext H H' → RelX K G ex H' E' σ → PVs K G H' ss vs ex → Q vs H'
structure EPs (X : Cx) (G : Gh) (es : List Expr) (t : TPs) : Prop where
  pa : PA X es (liftPs X.K G t)
def pNil : TPs := fun E Q => Q [] E
def pD (t : TD) (u : TPs) : TPs := fun E Q => t E fun x E1 => u E1 fun ss E2 => Q (.d x :: ss) E2
def pL (t : TLd) (u : TPs) : TPs := fun E Q => t E fun xs E1 => u E1 fun ss E2 => Q (.ol xs :: ss) E2
theorem eps_nil : EPs X G [] pNil := ⟨PA.weak pa_nil fun σ H Q ⟨E, QE, r, q, k⟩ => k _ _ _ _ _ q (Ext.refl _) r .nil⟩
theorem eps_d {t : TD} {u : TPs} (h : ED X G e t) (hr : EPs X G es u) (hs : starEach (e :: es) X.env = (false, eval e X.env) :: starEach es X.env := by rfl) : EPs X G (e :: es) (pD t u) :=
  ⟨PA.weak (pa_cons h.pe hr.pa hs) fun σ H Q ⟨E, QE, r, q, k⟩ => ⟨E, _, r, q, fun x E1 v H1 q1 x1 r1 p1 => ⟨E1, _, r1, q1, fun ss E2 vs H2 ex q2 x2 r2 p2 => k _ _ _ _ _ q2 (x1.trans x2) r2 (.d (p1.ext x2) p2)⟩⟩⟩
def setAll : Env → List Nat → List S → Env
  | E, i :: is, s :: ss => setAll (E.set i s) is ss
  | E, _, _ => E
def setAllV : St → List Nat → List V → St
  | σ, i :: is, v :: vs => setAllV (σ.set i (some v)) is vs
  | σ, _, _ => σ
theorem RelX.setAll {K : PySem.W.Frag} {G : Gh} {H : Hp} : ∀ {is : List Nat} {ss : List S} {vs : List V} {ex : List Addr} {E : Env} {σ : St}, (∀ i ∈ is, i ∉ G.slots) → is.length = ss.length → RelX K G ex H E σ → PVs K G H ss vs ex → RelE K G H (setAll E is ss) (setAllV σ is vs)
  | [], [], [], _, E, σ, _, _, r, .nil => r
  | i :: is, _, _, _, E, σ, hi, hl, r, .d p t => by
    exact RelX.setAll (is := is) (fun j hj => hi j (List.mem_cons_of_mem _ hj)) (by simpa using hl) (r.setD (hi i (List.mem_cons_self ..)) p) t
  | i :: is, _, _, _, E, σ, hi, hl, r, .m h1 h3 h4 h5 t => by
    exact RelX.setAll (is := is) (fun j hj => hi j (List.mem_cons_of_mem _ hj)) (by simpa using hl) (r.setM h5 (hi i (List.mem_cons_self ..)) h3 h1) t
  | [], _, _, _, _, _, _, hl, _, .d _ _ => by simp at hl
  | [], _, _, _, _, _, _, hl, _, .m _ _ _ _ _ => by simp at hl
  | _ :: _, _, _, _, _, _, _, hl, _, .nil => by simp at hl
def sPar (is : List Nat) (t : TPs) : TSd := fun DE E => t E fun ss E1 => is.length = ss.length ∧ DE.nx (setAll E1 is ss)
/-- x, y = a, b: plain local names -/
theorem sd_par2 {i j : Nat} {x y : Str} {t : TPs} {px py pt : Pos} {kt k2 pt2} (hsl : ∀ n ∈ [i, j], n ∉ G.slots) (hc : X.calm = true) (hN : X.N.Nodup) (hi : X.N[i]? = some x) (hj : X.N[j]? = some y) (hij : i ≠ j)
    (hx : X.env.scope.names.lookup x = some .local) (hy : X.env.scope.names.lookup y = some .local) (ha : EPs X G [a, b] t)
    (hw : swappedStores [.Tuple [.Name x px, .Name y py] kt pt] (.Tuple [a, b] k2 pt2) X.env = pure (some [x, y]) := by rfl)
    (hs : swapsWithSole [.Tuple [.Name x px, .Name y py] kt pt] (.Tuple [a, b] k2 pt2) pos.line X.env = pure false := by rfl) :
    SD X G (.Assign [.Tuple [.Name x px, .Name y py] kt pt] (.Tuple [a, b] k2 pt2) pos) (sPar [i, j] t) :=
  ⟨PS.weak (ps_par hc hN hi hj hij hx hy ha.pa hw hs) fun F σ H ⟨E, DE, r, q, k1, k2, k3, k4⟩ => ⟨E, _, r, q, fun ss E1 vs H1 ex q1 x1 r1 p1 => by
    obtain ⟨hl, q1⟩ := q1
    have hv : vs.length = 2 := by rw [← p1.length, ← hl]; rfl
    match vs, hv, p1 with
    | [v, w], _, p1 => exact ⟨v, w, rfl, k1 _ _ _ q1 x1 (RelX.setAll hsl hl r1 p1)⟩⟩⟩
/-- the targets of names, any; the pair is made -/
theorem sd_parC {tgs : List Expr} {is : List Nat} {t : TPs} {kt k2 : Nat} {pt pt2 : Pos} {n : Nat} (hsl : ∀ i ∈ is, i ∉ G.slots) (hc : X.calm = true) (hz : is.length ≤ sizeLine) (ha : EPs X G es t) (hn : is.length = n)
    (hg : PGs X tgs (fun vs σ H Q => vs.length = n ∧ Q (setAllV σ is vs) H))
    (hn2 : (assignEach tgs X.env).length = n := by rfl) (hst : (assignEach tgs X.env).findIdx? (·.1) = none := by rfl)
    (hs : swapsWithSole [.Tuple tgs kt pt] (.Tuple es k2 pt2) pos.line X.env = pure false := by rfl) (hw : swappedStores [.Tuple tgs kt pt] (.Tuple es k2 pt2) X.env = pure none := by rfl)
    (hb : (assignEach [.Tuple tgs kt pt] X.env).map (·.2) = [assign (.Tuple tgs kt pt) X.env] := by rfl) :
    SD X G (.Assign [.Tuple tgs kt pt] (.Tuple es k2 pt2) pos) (sPar is t) :=
  ⟨PS.weak (ps_asg (pe_tup ha.pa) (pg_tup hc hg hn2 hst) hs hw hb) fun F σ H ⟨E, DE, r, q, k1, k2, k3, k4⟩ => ⟨E, _, r, q, fun ss E1 vs H1 ex q1 x1 r1 p1 => by
    obtain ⟨hl, q1⟩ := q1
    have hv : vs.length = n := by rw [← p1.length, ← hl, hn]
    refine ⟨by rw [hv, ← hn]; exact hz, fun p hp => ⟨p, vs, rfl, SqT.of upd_same, hv, hv, ?_⟩⟩
    have px := PExt.new (o := .tup vs) hp
    exact k1 _ _ _ q1 (x1.trans px.ext) (RelX.setAll hsl hl (r1.pext px) (p1.pext px))⟩⟩
theorem pgs_n0 : PGs X [] (fun vs σ H Q => vs.length = 0 ∧ Q (setAllV σ [] vs) H) := ⟨fun pins s σ H vs us Q I r h => pgs_nil.run pins s σ H vs us Q I r (by
  obtain ⟨h1, h2⟩ := h
  have : vs = [] := List.length_eq_zero_iff.mp h1
  subst this; exact ⟨rfl, h2⟩)⟩
theorem pgs_nS {i n : Nat} {is : List Nat} {tgs : List Expr} {x : Str} {px : Pos} (hN : X.N.Nodup) (hx : X.N[i]? = some x) (hl : Loc X.env.scope x) (h : PGs X tgs (fun vs σ H Q => vs.length = n ∧ Q (setAllV σ is vs) H))
    (hf : X.fn x = true ∨ X.env.scope.names.lookup x = some .local := by first | exact .inl rfl | exact .inr rfl | assumption)
    (hs : (assignEach (.Name x px :: tgs) X.env).map (·.2) = assign (.Name x px) X.env :: (assignEach tgs X.env).map (·.2) := by rfl) :
    PGs X (.Name x px :: tgs) (fun vs σ H Q => vs.length = n + 1 ∧ Q (setAllV σ (i :: is) vs) H) := ⟨fun pins s σ H vs us Q I r h' => (pgs_cons (pg_name hN hx hl hf) h hs).run pins s σ H vs us Q I r (by
  obtain ⟨h1, h2⟩ := h'
  match vs, h1, h2 with
  | v :: vs, h1, h2 => exact ⟨v, vs, rfl, by simpa using h1, h2⟩)⟩
end
end DL
set_option Elab.async false
set_option linter.all false
set_option maxRecDepth 100000
set_option maxHeartbeats 1000000
namespace DL
open PySem PySem.Spec PyProof.Rows L2
section
variable {X : Cx}
/-! ### arithmetic -/
/-- () + t is t -/
theorem op_catT0 : OpR X (binaryOp .Add) (fun x y H Q => ∃ a b ys, x = .ref a ∧ y = .ref b ∧ SqT X.K H a [] ∧ SqT X.K H b ys ∧ Q (.ref b) H) := by
  intro pins s σ H x y v u Q I rx ry h
  obtain ⟨a, b, ys, rfl, rfl, ha, hb, q⟩ := h
  cases rx
  cases ry
  obtain ⟨its, r1, p1, _⟩ := I.tuple ha
  obtain ⟨its2, r2, p2, _⟩ := I.tuple hb
  have e0 : its = [] := r1.nil_iff.mpr rfl
  subst e0
  obtain ⟨⟨cls, dd, data, sl⟩, ho, hc, n, hd⟩ := id p1
  obtain ⟨⟨cls2, dd2, data2, sl2⟩, ho2, hc2, n2, hd2⟩ := id p2
  simp only at hc hd hc2 hd2
  subst hc hd hc2 hd2
  exact concat_meets ⟨_, ho, rfl⟩ ⟨_, ho2, rfl⟩ noFill_tuple_add seq_tuple_add PySem.F.slot_tuple_add PySem.F.entry_tuple_add (PySem.F.args_tuple_add_2 _ _)
      (tuple_addW0 a b [].toArray its2.toArray n n2 dd dd2 sl sl2 rfl) ⟨ho, ho2, ⟨.ref b, H, I, rfl, q⟩⟩
/-- t + u, both with items: a new, plain tuple -/
theorem op_catF : OpR X (binaryOp .Add) (fun x y H Q => ∃ a b xs ys, x = .ref a ∧ y = .ref b ∧ SqT X.K H a xs ∧ SqT X.K H b ys ∧ xs ≠ [] ∧ xs.length + ys.length ≤ sizeLine ∧ (ys = [] → Q (.ref a) H) ∧ (ys ≠ [] → ∀ p o, H p = none → o.dict = none → Q (.ref p) (upd H p (.frz o (.tup (xs ++ ys)))))) := by
  intro pins s σ H x y v u Q I rx ry h
  obtain ⟨a, b, xs, ys, rfl, rfl, ha, hb, hx, hz, q1, q2⟩ := h
  cases rx; cases ry
  obtain ⟨its, r1, p1, _⟩ := I.tuple ha
  obtain ⟨its2, r2, p2, _⟩ := I.tuple hb
  refine HT.cat_tup p1 p2 (fun z => hx (r1.nil_iff.mp z)) (fun z => ⟨.ref a, H, I, rfl, q1 (r2.nil_iff.mp z)⟩) (fun z => ?_) (by rw [← r1.length, ← r2.length]; exact hz)
  refine ⟨.ref s.heap.objs.size, _, I.laid (t' := s.toks) (o := .frz _ (.tup (xs ++ ys))) (fun b ob q => Heap.get?_push_of_some _ q) (Nat.le_refl _) ⟨Heap.get?_push_size _ rfl, ?_⟩, rfl, q2 (fun w => z (r2.nil_iff.mpr w)) _ _ (I.hok.fresh (Nat.le_refl _)) rfl⟩
  exact ⟨by rw [List.length_append]; exact hz, _, r1.append r2, IsTup.new _ _⟩
/-- tuple(xs) of a list: a new, plain tuple -/
theorem call_tupF : CallR X (.type "tuple") (fun xs H Q => ∃ p ys, xs = [.ref p] ∧ ((SqL X.K H p ys ∧ ∀ l o, H l = none → o.dict = none → Q (.ref l) (upd H l (.frz o (.tup ys)))) ∨ (SqT X.K H p ys ∧ Q (.ref p) H))) := by
  intro pins s σ H xs us Q I r h
  obtain ⟨p, ys, rfl, h⟩ := h
  obtain rfl := Vals.ref1 r
  rcases h with ⟨hq, q⟩ | ⟨hq, q⟩
  · obtain ⟨its, r', pl, hz⟩ := I.list hq
    have hlen := r'.length
    refine call_tuple_list pl.isList (fun h' kp => ?_) (by simp only [List.size_toArray] <;> omega)
    have I1 : Inv X pins σ H { s with heap := h' } := I.kept (t' := s.toks) kp
    exact ⟨.ref h'.objs.size, upd H h'.objs.size (.frz { cls := .type "tuple", data := .seq its.toArray } (.tup ys)), I1.laid (t' := s.toks) (fun b o e => Heap.get?_push_of_some _ e) (Nat.le_refl _) ⟨Heap.get?_push_size _ rfl, hz, its, r', IsTup.new _ _⟩, rfl, q _ _ (I1.hok.fresh (Nat.le_refl _)) rfl⟩
  · obtain ⟨its, r', pl, hz⟩ := I.tuple hq
    exact call_tuple_same pl ⟨.ref p, H, I, rfl, q⟩
def opAdd : OpT := fun x y Q => match x, y with
  | .int i, .int j => Q (.int (i + j))
  | .str a, .str b => a.length + b.length ≤ sizeLine ∧ Q (.str (a ++ b))
  | .tuple xs, .tuple ys => xs.length + ys.length ≤ sizeLine ∧ Q (.tuple (xs ++ ys))
  | _, _ => False
theorem od_add : OpD X (binaryOp .Add) opAdd := by
  refine ⟨_, op_add.or (op_add_str.or (op_catF.or op_catT0)), fun x y v u H QD Q hx hy q k => ?_⟩
  cases x with
  | int i =>
    cases y with
    | int j => rw [hx.int, hy.int]; exact .inl ⟨i, j, rfl, rfl, k _ _ _ q (PExt.refl _) (.int _)⟩
    | _ => exact q.elim
  | str i =>
    cases y with
    | str j => rw [hx.str, hy.str]; exact .inr (.inl ⟨i, j, rfl, rfl, q.1, k _ _ _ q.2 (PExt.refl _) (.str _)⟩)
    | _ => exact q.elim
  | tuple xs =>
    cases y with
    | tuple ys =>
      obtain ⟨a, vs, rfl, sa, la⟩ := hx.tupD
      obtain ⟨b, us, rfl, sb, lb⟩ := hy.tupD
      cases la with
      | nil => exact .inr (.inr (.inr ⟨a, b, us, rfl, rfl, sa.1, sb.1, k _ _ _ q.2 (PExt.refl _) (.tup sb lb)⟩))
      | cons p la =>
        rename_i x0 v0 xs0 vs0
        refine .inr (.inr (.inl ⟨a, b, _, us, rfl, rfl, sa.1, sb.1, List.cons_ne_nil _ _, ?_, fun e => ?_, fun _ p0 o hp ho => ?_⟩))
        · have := q.1
          rw [List.length_cons] at this ⊢
          rw [← la.length, ← lb.length]; exact this
        · subst e
          cases lb
          have := q.2
          rw [List.append_nil] at this
          exact k _ _ _ this (PExt.refl _) (.tup sa (.cons p la))
        · have px := PExt.new (o := .frz o (.tup (v0 :: vs0 ++ us))) hp
          exact k _ _ _ q.2 px (.tup (.new ho) ((RpL.append (.cons p la) lb).ext px.ext))
    | _ => exact q.elim
  | _ => exact q.elim
def opI (C : Int → Int → Prop) (g : Int → Int → Int) : OpT := fun x y Q => match x, y with
  | .int i, .int j => C i j ∧ Q (.int (g i j))
  | _, _ => False
def opI0 (g : Int → Int → Int) : OpT := fun x y Q => match x, y with
  | .int i, .int j => Q (.int (g i j))
  | _, _ => False
def opB0 (g : Int → Int → Bool) : OpT := fun x y Q => match x, y with
  | .int i, .int j => Q (.bool (g i j))
  | _, _ => False
theorem od_I {f : Value → Value → Sem Value} {C : Int → Int → Prop} {g : Int → Int → Int} (h : OpR X f (rI C fun i j => .int (g i j))) : OpD X f (opI C g) := ⟨_, h, fun x y v u H QD Q hx hy q k => by
  cases x with
  | int i =>
    cases y with
    | int j => rw [hx.int, hy.int]; exact ⟨i, j, rfl, rfl, q.1, k _ _ _ q.2 (PExt.refl _) (.int _)⟩
    | _ => exact q.elim
  | _ => exact q.elim⟩
theorem od_I0 {f : Value → Value → Sem Value} {g : Int → Int → Int} (h : OpR X f (rI0 fun i j => .int (g i j))) : OpD X f (opI0 g) := ⟨_, h, fun x y v u H QD Q hx hy q k => by
  cases x with
  | int i =>
    cases y with
    | int j => rw [hx.int, hy.int]; exact ⟨i, j, rfl, rfl, k _ _ _ q (PExt.refl _) (.int _)⟩
    | _ => exact q.elim
  | _ => exact q.elim⟩
theorem od_B0 {f : Value → Value → Sem Value} {g : Int → Int → Bool} (h : OpR X f (rI0 fun i j => .bl (g i j))) : OpD X f (opB0 g) := ⟨_, h, fun x y v u H QD Q hx hy q k => by
  cases x with
  | int i =>
    cases y with
    | int j => rw [hx.int, hy.int]; exact ⟨i, j, rfl, rfl, k _ _ _ q (PExt.refl _) (.bl _)⟩
    | _ => exact q.elim
  | _ => exact q.elim⟩
def opSub : OpT := opI0 fun i j => i - j
theorem od_sub : OpD X (binaryOp .Sub) opSub := od_I0 op_sub
def opMul : OpT := opI CMulW fun i j => i * j
theorem od_mul : OpD X (binaryOp .Mult) opMul := od_I op_mulW
def opDiv : OpT := opI CDivW fun i j => i / j
theorem od_div : OpD X (binaryOp .FloorDiv) opDiv := od_I op_fdivW
def opMod : OpT := opI (fun _ j => 0 < j) fun i j => i % j
theorem od_mod : OpD X (binaryOp .Mod) opMod := od_I op_mod
def opPow : OpT := opI CPow fun i j => i ^ j.toNat
def unNeg : UnT := fun x Q => match x with
  | .int i => Q (.int (-i))
  | _ => False
theorem ud_neg : UnD X (unaryOp .USub) unNeg := ⟨_, un_neg, fun x v H QD Q hx q k => by
  cases x with
  | int i => rw [hx.int]; exact ⟨i, rfl, k _ _ _ q (PExt.refl _) (.int _)⟩
  | _ => exact q.elim⟩
/-! ### comparisons -/
def opEq : OpT := fun x y Q => (SeqAt.shaped x = true ∧ SeqAt.shaped y = true) ∧ Q (.bool (PyData.eqv x y))
def opNe : OpT := fun x y Q => (SeqAt.shaped x = true ∧ SeqAt.shaped y = true) ∧ Q (.bool (!PyData.eqv x y))
theorem od_eq (hu : X.A.units + 64 < cLine) : OpD X (compareOp .Eq) opEq := ⟨_, op_eqD hu, fun x y v u H QD Q hx hy q k => ⟨x, y, hx.dp (SeqAt.canLay_of_shaped q.1.1), hy.dp (SeqAt.canLay_of_shaped q.1.2), q.1.1, q.1.2, k _ _ _ q.2 (PExt.refl _) (.bl _)⟩⟩
theorem od_ne (hu : X.A.units + 64 < cLine) : OpD X (compareOp .NotEq) opNe := ⟨_, op_neD hu, fun x y v u H QD Q hx hy q k => ⟨x, y, hx.dp (SeqAt.canLay_of_shaped q.1.1), hy.dp (SeqAt.canLay_of_shaped q.1.2), q.1.1, q.1.2, k _ _ _ q.2 (PExt.refl _) (.bl _)⟩⟩
def opLt : OpT := opB0 fun i j => decide (i < j)
theorem od_lt : OpD X (compareOp .Lt) opLt := od_B0 op_lt
def opLe : OpT := opB0 fun i j => decide (i ≤ j)
theorem od_le : OpD X (compareOp .LtE) opLe := od_B0 op_le
def opGt : OpT := opB0 fun i j => decide (j < i)
theorem od_gt : OpD X (compareOp .Gt) opGt := od_B0 op_gt
def opGe : OpT := opB0 fun i j => decide (j ≤ i)
theorem od_ge : OpD X (compareOp .GtE) opGe := od_B0 op_ge
def isNone : D → Bool
  | .none => true
  | _ => false
def opIs : OpT := fun x y Q => match y with
  | .none => Q (.bool (isNone x))
  | .bool b => match x with
    | .bool a => Q (.bool (decide (a = b)))
    | _ => False
  | _ => False
def opIsN : OpT := fun x y Q => match y with
  | .none => Q (.bool (!isNone x))
  | .bool b => match x with
    | .bool a => Q (.bool (!decide (a = b)))
    | _ => False
  | _ => False
theorem isNone_iff {K : PySem.W.Frag} {H : Hp} {x : D} {v : V} (h : RpR K H x v) : isNone x = decide (v = .non) := by
  rcases h with h | ⟨ds, a, vs, rfl, rfl, _⟩
  · cases h <;> rfl
  · rfl
theorem od_is : OpD X (compareOp .Is) opIs := ⟨_, op_isN.or op_isBl, fun x y v u H QD Q hx hy q k => by
  cases y with
  | none => rw [hy.none]; exact .inl ⟨rfl, by rw [← isNone_iff hx]; exact k _ _ _ q (PExt.refl _) (.bl _)⟩
  | bool b =>
    cases x with
    | bool a => rw [hx.bool, hy.bool]; exact .inr ⟨a, b, rfl, rfl, k _ _ _ q (PExt.refl _) (.bl _)⟩
    | _ => exact q.elim
  | _ => exact q.elim⟩
/-! x in a list, a tuple -/
theorem op_inT (hu : X.A.units + 65 < cLine) : OpR X (compareOp .In) (fun x y H Q => ∃ d ds, Dp X.K H x d ∧ Dp X.K H y (.tuple ds) ∧ SeqAt.shaped d = true ∧ SeqAt.shaped (.tuple ds) = true ∧ Q (.bl (ds.any fun z => PyData.eqv z d)) H) := by
  intro pins s σ H x y v u Q I rx ry h
  obtain ⟨d, ds, hd, he, sd, se, q⟩ := h
  obtain ⟨as, r1⟩ := Dp.reads I d x v hd rx
  obtain ⟨bs, r2⟩ := Dp.reads I (.tuple ds) y u he ry
  exact SeqAt.in_tuple_reads r2 r1 (SeqAt.canLay_of_shaped se) (SeqAt.canLay_of_shaped sd) (room_in_shaped sd hu) ⟨.bl _, H, I, rfl, q⟩
def opIn : OpT := fun x y Q => match y with
  | .list ds => (SeqAt.shaped x = true ∧ SeqAt.shaped (.list ds) = true) ∧ Q (.bool (ds.any fun z => PyData.eqv z x))
  | .tuple ds => (SeqAt.shaped x = true ∧ SeqAt.shaped (.tuple ds) = true) ∧ Q (.bool (ds.any fun z => PyData.eqv z x))
  | _ => False
def opNotIn : OpT := fun x y Q => match y with
  | .list ds => (SeqAt.shaped x = true ∧ SeqAt.shaped (.list ds) = true) ∧ Q (.bool (!ds.any fun z => PyData.eqv z x))
  | .tuple ds => (SeqAt.shaped x = true ∧ SeqAt.shaped (.tuple ds) = true) ∧ Q (.bool (!ds.any fun z => PyData.eqv z x))
  | _ => False
theorem od_in (hu : X.A.units + 65 < cLine) : OpD X (compareOp .In) opIn := ⟨_, (op_inD hu).or (op_inT hu), fun x y v u H QD Q hx hy q k => by
  cases y with
  | list ds => exact .inl ⟨x, ds, hx.dp (SeqAt.canLay_of_shaped q.1.1), hy.dp (SeqAt.canLay_of_shaped q.1.2), q.1.1, q.1.2, k _ _ _ q.2 (PExt.refl _) (.bl _)⟩
  | tuple ds => exact .inr ⟨x, ds, hx.dp (SeqAt.canLay_of_shaped q.1.1), hy.dp (SeqAt.canLay_of_shaped q.1.2), q.1.1, q.1.2, k _ _ _ q.2 (PExt.refl _) (.bl _)⟩
  | _ => exact q.elim⟩
end
section
variable {X : Cx} {G : Gh} {a b c e : Expr} {es : List Expr} {pos p p2 : Pos} {x : Str}
/-! ### chains -/
def tChainD (o o' : OpT) (ta tb tc : TD) : TD := fun E Q => ta E fun x E1 => tb E1 fun y E2 => o x y fun z => match z with
  | .bool true => tc E2 fun w E3 => o' y w fun r => Q r E3
  | .bool false => Q (.bool false) E2
  | _ => False
/-! ### items -/
def atD (xs : List D) (i : Int) (Q : D → Prop) : Prop := match atI xs i with
  | some d => Q d
  | none => False
def opIx : OpT := fun x y Q => match x, y with
  | .list xs, .int i => atD xs i Q
  | .tuple xs, .int i => atD xs i Q
  | .str z, .int i => match atI z.cps.toList i with
    | some c => z.length ≤ sizeLine ∧ Q (.str ⟨#[c]⟩)
    | none => False
  | _, _ => False
theorem atI_rp {K : PySem.W.Frag} {H : Hp} {ds : List D} {vs : List V} {i : Int} {d : D} (l : RpL K H ds vs) (h : atI ds i = some d) : ∃ v, atI vs i = some v ∧ Rp K H d v := by
  unfold atI at h ⊢
  rw [l.length] at h
  cases q : ixN vs.length i with
  | none => rw [q] at h; cases h
  | some j =>
    rw [q] at h
    exact l.get h
theorem lift_ix {r : R2} {ta tb : TD} (hr : r = rIx X.K) (σ : St) (H : Hp) (Q : VK) (h : liftE X.K G (tOpD opIx ta tb) σ H Q) : tOp r (liftE X.K G ta) (liftR X.K G tb) σ H Q := by
  subst hr
  refine lift_bin (fun x y v u H QD Q hx hy q k => ?_) σ H Q h
  cases y with
  | int i =>
    rw [hy.int]
    cases x with
    | list xs =>
      obtain ⟨a, vs, rfl, hs, l⟩ := hx.list
      have q : atD xs i QD := q
      unfold atD at q
      split at q
      · rename_i d hd
        obtain ⟨v, hv, pv⟩ := atI_rp l hd
        exact .inl ⟨a, vs, i, v, rfl, rfl, hs, hv, k _ _ _ q (PExt.refl _) pv⟩
      · exact q.elim
    | tuple xs =>
      obtain ⟨a, vs, rfl, hs, l⟩ := hx.tuple
      have q : atD xs i QD := q
      unfold atD at q
      split at q
      · rename_i d hd
        obtain ⟨v, hv, pv⟩ := atI_rp l hd
        exact .inr (.inl ⟨a, vs, i, v, rfl, rfl, hs, hv, k _ _ _ q (PExt.refl _) pv⟩)
      · exact q.elim
    | str z =>
      rw [hx.str]
      have q : (match atI z.cps.toList i with
        | some c => z.length ≤ sizeLine ∧ QD (.str ⟨#[c]⟩)
        | none => False) := q
      split at q
      · rename_i c hc
        exact .inr (.inr ⟨z, i, c, rfl, rfl, q.1, hc, k _ _ _ q.2 (PExt.refl _) (.str _)⟩)
      · exact q.elim
    | _ => exact q.elim
  | _ => cases x <;> exact q.elim
theorem ed_ix {ta tb : TD} (ha : ED X G a ta) (hb : ED X G b tb) (hs : PlainIx b := by exact fun _ _ => rfl) : ED X G (.Subscript a b pos) (tOpD opIx ta tb) :=
  ⟨PE.weak (pe_ix ix_seq ha.pe hb.er.pe hs) fun σ H Q h => lift_ix rfl σ H Q h⟩
/-- an item of a list of one's own, at a name -/
def tIxO (i : Nat) (tb : TD) : TD := fun E Q => match E[i]? with
  | some (.ol _) => tb E fun y E1 => match E1[i]?, y with
    | some (.ol xs), .int k => atD xs k fun d => Q d E1
    | _, _ => False
  | _ => False
theorem ed_ixO (i : Nat) {tb : TD} (hb : ED X G b tb) (hN : X.N[i]? = some x := by rfl) (hv : Vis X.env.scope x := by first | exact Or.inl rfl | exact Or.inr (Or.inl rfl) | exact Or.inr (Or.inr rfl)) (hd : (x == ("__debug__" : Str)) = false := by decide)
    (hcd : (x == ("__classdict__" : Str)) = false := by decide) (hs : PlainIx b := by exact fun _ _ => rfl) : ED X G (.Subscript (.Name x p) b pos) (tIxO i tb) :=
  ⟨PE.weak (pe_ix ix_list (pe_var hN hv hd hcd) hb.pe hs) fun σ H Q ⟨E, QE, r, q, k⟩ => by
    unfold tIxO at q
    split at q
    · rename_i xs0 he0
      obtain ⟨l, vs0, e1, e2, e3⟩ := r.ol he0
      refine ⟨_, e1, E, _, r, q, fun d E1 v H1 q1 x1 r1 p1 => ?_⟩
      split at q1
      · rename_i o0 d0 xs j he
        cases p1
        obtain ⟨l', vs, f1, f2, f3⟩ := r1.ol he
        rw [e1] at f1; cases f1
        unfold atD at q1
        split at q1
        · rename_i d hd
          obtain ⟨v, hv, pv⟩ := atI_rp f3 hd
          exact ⟨l, vs, j, v, rfl, rfl, SqL.of f2, hv, k _ _ _ _ q1 x1 r1 pv⟩
        · exact q1.elim
      · exact q1.elim
    · exact q.elim⟩
/-! ### calls of builtins -/
abbrev CaT := List D → (D → Prop) → Prop
abbrev CaL := List D → (List D → Prop) → Prop
inductive RpRs (K : PySem.W.Frag) (H : Hp) : List D → List V → Prop
  | nil : RpRs K H [] []
  | cons {d : D} {v : V} {ds : List D} {vs : List V} : RpR K H d v → RpRs K H ds vs → RpRs K H (d :: ds) (v :: vs)
theorem RpRs.one {K : PySem.W.Frag} {H : Hp} {d : D} {vs : List V} (h : RpRs K H [d] vs) : ∃ v, vs = [v] ∧ RpR K H d v := by
  cases h with
  | cons h t => cases t; exact ⟨_, rfl, h⟩
def CaD (X : Cx) (f : Value) (op : CaT) : Prop := ∃ r, CallR X f r ∧ ∀ ds vs H (QD : D → Prop) (Q : VK), RpRs X.K H ds vs → op ds QD → (∀ z w H', QD z → PExt H H' → Rp X.K H' z w → Q w H') → r vs H Q
/-- a new list is handed back -/
def CaLD (X : Cx) (f : Value) (op : CaL) : Prop := ∃ r, CallR X f r ∧ ∀ ds vs H (QD : List D → Prop) (Q : VK), RpRs X.K H ds vs → op ds QD → (∀ zs us p, QD zs → H p = none → RpL X.K H zs us → Q (.ref p) (upd H p (.lst us))) → r vs H Q
def tCa1 (op : CaT) (ta : TD) : TD := fun E Q => ta E fun x E1 => op [x] fun z => Q z E1
def tCa2 (op : CaT) (ta tb : TD) : TD := fun E Q => ta E fun x E1 => tb E1 fun y E2 => op [x, y] fun z => Q z E2
def tCaL1 (op : CaL) (ta : TD) : TLd := fun E Q => ta E fun x E1 => op [x] fun z => Q z E1
section
variable {id : String} {op : CaT} {opl : CaL} {ta tb : TD}
theorem lift_ca1 {r : List V → Hp → VK → Prop} (hq : ∀ ds vs H (QD : D → Prop) (Q : VK), RpRs X.K H ds vs → op ds QD → (∀ z w H', QD z → PExt H H' → Rp X.K H' z w → Q w H') → r vs H Q)
    (σ : St) (H : Hp) (Q : VK) (h : liftE X.K G (tCa1 op ta) σ H Q) : tCB r (tCons (liftR X.K G ta) tNil) σ H Q := by
  obtain ⟨E, QE, rel, q, k⟩ := h
  refine ⟨E, _, rel, q, fun x E1 v H1 q1 x1 r1 p1 => ?_⟩
  exact hq [x] [v] H1 _ Q (.cons p1 .nil) q1 fun z w H3 q3 p3 rz => k z E1 w H3 q3 (x1.trans p3.ext) (r1.pext p3) rz
theorem ed_ca1 (hc : CaD X (.builtin id) op) (ha : ER X G a ta) (hg : Gl X x) (hm : X.mg x = none) (hv : bootBuiltins x = some (.builtin id)) (hn : x ≠ "__name__" := by decide) (hdb : (x == ("__debug__" : Str)) = false := by decide)
    (hs : starEach [a] X.env = (false, eval a X.env) :: starEach [] X.env := by rfl) (hpl : (backTo pos (starEach [] X.env)).any (·.1) = false := by rfl) : ED X G (.Call (.Name x p) [a] [] pos) (tCa1 op ta) := by
  obtain ⟨r, hr, hq⟩ := hc
  exact ⟨PE.weak (pe_callB hr hg hm hv (pa_cons ha.pe pa_nil hs) hn hdb hs hpl) fun σ H Q h => lift_ca1 hq σ H Q h⟩
theorem ed_caT1 (hc : CaD X (.type id) op) (ha : ER X G a ta) (hg : Gl X x) (hm : X.mg x = none) (hv : bootBuiltins x = some (.type id)) (hn : x ≠ "__name__" := by decide) (hdb : (x == ("__debug__" : Str)) = false := by decide)
    (hs : starEach [a] X.env = (false, eval a X.env) :: starEach [] X.env := by rfl) (hpl : (backTo pos (starEach [] X.env)).any (·.1) = false := by rfl) : ED X G (.Call (.Name x p) [a] [] pos) (tCa1 op ta) := by
  obtain ⟨r, hr, hq⟩ := hc
  exact ⟨PE.weak (pe_callTy hr hg hm hv (pa_cons ha.pe pa_nil hs) hn hdb hs hpl) fun σ H Q h => lift_ca1 hq σ H Q h⟩
theorem lift_caL1 {r : List V → Hp → VK → Prop} (hq : ∀ ds vs H (QD : List D → Prop) (Q : VK), RpRs X.K H ds vs → opl ds QD → (∀ zs us p, QD zs → H p = none → RpL X.K H zs us → Q (.ref p) (upd H p (.lst us))) → r vs H Q)
    (σ : St) (H : Hp) (Q : VK) (h : liftL X.K G (tCaL1 opl ta) σ H Q) : tCB r (tCons (liftR X.K G ta) tNil) σ H Q := by
  obtain ⟨E, QE, rel, q, k⟩ := h
  refine ⟨E, _, rel, q, fun x E1 v H1 q1 x1 r1 p1 => ?_⟩
  refine hq [x] [v] H1 _ Q (.cons p1 .nil) q1 fun zs us p q3 hp rz => ?_
  obtain ⟨r2, h0, na⟩ := r1.fresh (o := .lst us) hp
  exact k zs E1 p us _ q3 (x1.trans (PExt.new hp).ext) r2 h0 na upd_same (rz.ext (PExt.new hp).ext)
theorem el_ca1 (hc : CaLD X (.builtin id) opl) (ha : ER X G a ta) (hg : Gl X x) (hm : X.mg x = none) (hv : bootBuiltins x = some (.builtin id)) (hn : x ≠ "__name__" := by decide) (hdb : (x == ("__debug__" : Str)) = false := by decide)
    (hs : starEach [a] X.env = (false, eval a X.env) :: starEach [] X.env := by rfl) (hpl : (backTo pos (starEach [] X.env)).any (·.1) = false := by rfl) : EL X G (.Call (.Name x p) [a] [] pos) (tCaL1 opl ta) := by
  obtain ⟨r, hr, hq⟩ := hc
  exact ⟨PE.weak (pe_callB hr hg hm hv (pa_cons ha.pe pa_nil hs) hn hdb hs hpl) fun σ H Q h => lift_caL1 hq σ H Q h⟩
end
/-! len, abs, max, min, sum, all, tuple, list, int -/
def caLen : CaT := fun ds Q => match ds with
  | [.list xs] => Q (.int xs.length)
  | [.tuple xs] => Q (.int xs.length)
  | [.str z] => z.length ≤ sizeLine ∧ Q (.int z.length)
  | _ => False
theorem cd_len : CaD X (.builtin "len") caLen := by
  refine ⟨_, (show CallR X (.builtin "len") (fun xs H Q => (∃ p ys, xs = [.ref p] ∧ (SqL X.K H p ys ∨ SqT X.K H p ys) ∧ Q (.int ys.length) H) ∨ ∃ z, xs = [.str z] ∧ z.length ≤ sizeLine ∧ Q (.int z.length) H) from fun pins s σ H vs us Q I r h => by
    rcases h with h | h
    · exact call_len_seq pins s σ H vs us Q I r h
    · exact call_len_str pins s σ H vs us Q I r h), fun ds vs H QD Q hd q k => ?_⟩
  match ds, q, hd with
  | [.list xs], q, hd =>
    obtain ⟨v, rfl, h⟩ := hd.one
    obtain ⟨a, us, rfl, hs, l⟩ := h.list
    exact .inl ⟨a, us, rfl, .inl hs, by rw [← l.length]; exact k _ _ _ q (PExt.refl _) (.int _)⟩
  | [.tuple xs], q, hd =>
    obtain ⟨v, rfl, h⟩ := hd.one
    obtain ⟨a, us, rfl, hs, l⟩ := h.tuple
    exact .inl ⟨a, us, rfl, .inr hs, by rw [← l.length]; exact k _ _ _ q (PExt.refl _) (.int _)⟩
  | [.str z], q, hd =>
    obtain ⟨v, rfl, h⟩ := hd.one
    rw [h.str]
    exact .inr ⟨z, rfl, q.1, k _ _ _ q.2 (PExt.refl _) (.int _)⟩
def caAbs : CaT := fun ds Q => match ds with
  | [.int i] => Q (.int (if i < 0 then -i else i))
  | _ => False
theorem cd_abs : CaD X (.builtin "abs") caAbs := ⟨_, call_abs, fun ds vs H QD Q hd q k => by
  match ds, q, hd with
  | [.int i], q, hd =>
    obtain ⟨v, rfl, h⟩ := hd.one
    rw [h.int]
    exact ⟨i, rfl, k _ _ _ q (PExt.refl _) (.int _)⟩⟩
def caMax2 : CaT := fun ds Q => match ds with
  | [.int i, .int j] => Q (.int (if j > i then j else i))
  | _ => False
def caMin2 : CaT := fun ds Q => match ds with
  | [.int i, .int j] => Q (.int (if j < i then j else i))
  | _ => False
theorem RpL.bools {K : PySem.W.Frag} {H : Hp} : ∀ {ns : List Bool} {vs : List V}, RpL K H (ns.map PyData.bool) vs → vs = ns.map V.bl
  | [], _, .nil => rfl
  | _ :: _, _, .cons (.bl _) t => by rw [RpL.bools t]; rfl
def caSum : CaT := fun ds Q => match ds with
  | [.list xs] => ∃ ns : List Int, xs = ns.map PyData.int ∧ Q (.int ns.sum)
  | _ => False
theorem cd_sum (hc : X.calm = true) : CaD X (.builtin "sum") caSum := ⟨_, cr_sum hc, fun ds vs H QD Q hd q k => by
  match ds, q, hd with
  | [.list xs], q, hd =>
    obtain ⟨ns, rfl, q⟩ := q
    obtain ⟨v, rfl, h⟩ := hd.one
    obtain ⟨a, us, rfl, hs, l⟩ := h.list
    have := l.ints; subst this
    exact ⟨a, ns, rfl, hs, k _ _ _ q (PExt.refl _) (.int _)⟩⟩
def caMax : CaT := fun ds Q => match ds with
  | [.list xs] => ∃ ns : List Int, xs = ns.map PyData.int ∧ 0 < ns.length ∧ ∀ m, m ∈ ns → (∀ y, y ∈ ns → y ≤ m) → Q (.int m)
  | _ => False
theorem cd_max (hc : X.calm = true) : CaD X (.builtin "max") caMax := ⟨_, cr_max hc, fun ds vs H QD Q hd q k => by
  match ds, q, hd with
  | [.list xs], q, hd =>
    obtain ⟨ns, rfl, hl, q⟩ := q
    obtain ⟨v, rfl, h⟩ := hd.one
    obtain ⟨a, us, rfl, hs, l⟩ := h.list
    have := l.ints; subst this
    exact ⟨a, ns, rfl, hs, hl, fun m h1 h2 => k _ _ _ (q m h1 h2) (PExt.refl _) (.int _)⟩⟩
def caMin : CaT := fun ds Q => match ds with
  | [.list xs] => ∃ ns : List Int, xs = ns.map PyData.int ∧ 0 < ns.length ∧ ∀ m, m ∈ ns → (∀ y, y ∈ ns → m ≤ y) → Q (.int m)
  | _ => False
def caAll : CaT := fun ds Q => match ds with
  | [.list xs] => ∃ bs : List Bool, xs = bs.map PyData.bool ∧ Q (.bool (bs.all id))
  | _ => False
theorem cd_all (hc : X.calm = true) : CaD X (.builtin "all") caAll := ⟨_, cr_all hc, fun ds vs H QD Q hd q k => by
  match ds, q, hd with
  | [.list xs], q, hd =>
    obtain ⟨bs, rfl, q⟩ := q
    obtain ⟨v, rfl, h⟩ := hd.one
    obtain ⟨a, us, rfl, hs, l⟩ := h.list
    have := l.bools; subst this
    exact ⟨a, bs, rfl, hs, k _ _ _ q (PExt.refl _) (.bl _)⟩⟩
def caTuple : CaT := fun ds Q => match ds with
  | [.list xs] => Q (.tuple xs)
  | [.tuple xs] => Q (.tuple xs)
  | _ => False
theorem cd_tuple : CaD X (.type "tuple") caTuple := ⟨_, call_tupF, fun ds vs H QD Q hd q k => by
  match ds, q, hd with
  | [.list xs], q, hd =>
    obtain ⟨v, rfl, h⟩ := hd.one
    obtain ⟨a, us, rfl, hs, l⟩ := h.list
    exact ⟨a, us, rfl, .inl ⟨hs, fun p o hp ho => k _ _ _ q (PExt.new hp) (.tup (.new ho) (l.ext (PExt.new hp).ext))⟩⟩
  | [.tuple xs], q, hd =>
    obtain ⟨v, rfl, h⟩ := hd.one
    obtain ⟨a, us, rfl, hs, l⟩ := h.tupD
    exact ⟨a, us, rfl, .inr ⟨hs.1, k _ _ _ q (PExt.refl _) (.tup hs l)⟩⟩⟩
def caList : CaL := fun ds Q => match ds with
  | [.list xs] => Q xs
  | [.tuple xs] => Q xs
  | _ => False
def caInt : CaT := fun ds Q => match ds with
  | [.int i] => Q (.int i)
  | [.bool b] => Q (.int (if b then 1 else 0))
  | _ => False
theorem cd_int : CaD X (.type "int") caInt := ⟨_, call_int1, fun ds vs H QD Q hd q k => by
  match ds, q, hd with
  | [.int i], q, hd =>
    obtain ⟨v, rfl, h⟩ := hd.one
    rw [h.int]; exact .inl ⟨i, rfl, k _ _ _ q (PExt.refl _) (.int _)⟩
  | [.bool b], q, hd =>
    obtain ⟨v, rfl, h⟩ := hd.one
    rw [h.bool]; exact .inr ⟨b, rfl, k _ _ _ q (PExt.refl _) (.int _)⟩⟩
end
end DL
set_option Elab.async false
set_option linter.all false
set_option maxRecDepth 100000
set_option maxHeartbeats 1000000
namespace DL
open PySem PySem.Spec PyProof.Rows L2
section
variable {X : Cx} {G : Gh} {a b c e : Expr} {es : List Expr} {pos p p1 p2 p3 : Pos} {x : Str}
/-- a list whose object is plain -/
def LsP (K : PySem.W.Frag) (H : Hp) (a : Addr) (vs : List V) : Prop := H a = some (.lst vs) ∨ LsF K H a vs
theorem LsP.at {K : PySem.W.Frag} {H : Hp} {a : Addr} {vs : List V} {P : Program} {w : World} {h : Heap} (l : LsP K H a vs) (hok : HOk P w H h) (KX : K.In h) : vs.length ≤ sizeLine ∧ ∃ (its : List Value) (n : Nat), Vals vs its ∧ h.get? a = some { cls := .type "list", data := .seq its.toArray n } := by
  rcases l with l | ⟨o, l⟩ | ⟨its, n, e, z, r⟩
  · exact Rd.ok (.inl l) hok
  · exact Rd.ok (.inr ⟨o, l⟩) hok
  · refine ⟨?_, its.toList, n, r, by have := KX _ _ e; simpa using this⟩
    have e2 := r.length
    simp only [Array.length_toList] at e2
    omega
theorem RpR.listR {K : PySem.W.Frag} {H : Hp} {ds : List D} {v : V} (h : RpR K H (.list ds) v) : ∃ a vs, v = .ref a ∧ LsP K H a vs ∧ RpL K H ds vs := by
  rcases h with h | ⟨ds, a, vs, e, rfl, h, l⟩
  · cases h with
    | lst h l => exact ⟨_, _, rfl, .inr h, l⟩
  · cases e
    exact ⟨_, _, rfl, .inl h, l⟩
/-! ### list + list, list * int: new lists -/
def OpLD (X : Cx) (f : Value → Value → Sem Value) (op : D → D → (List D → Prop) → Prop) : Prop := ∃ r : R2, OpR X f r ∧
  ∀ x y v u H (QD : List D → Prop) (Q : VK), RpR X.K H x v → RpR X.K H y u → op x y QD → (∀ zs us q, QD zs → H q = none → RpL X.K H zs us → Q (.ref q) (upd H q (.lst us))) → r v u H Q
def tOpL (op : D → D → (List D → Prop) → Prop) (ta tb : TD) : TLd := fun E Q => ta E fun x E1 => tb E1 fun y E2 => op x y fun z => Q z E2
theorem el_op {op : Operator} {o : D → D → (List D → Prop) → Prop} {ta tb : TD} (ho : OpLD X (binaryOp op) o) (ha : ED X G a ta) (hb : ER X G b tb) : EL X G (.BinOp a op b pos) (tOpL o ta tb) := by
  obtain ⟨r, hr, hq⟩ := ho
  refine ⟨PE.weak (pe_op hr ha.pe hb.pe) fun σ H Q ⟨E, QE, rel, q, k⟩ => ⟨E, _, rel, q, fun x E1 v H1 q1 x1 r1 p1 => ⟨E1, _, r1, q1, fun y E2 u H2 q2 x2 r2 p2 => ?_⟩⟩⟩
  refine hq x y v u H2 _ Q (.inl (p1.ext x2)) p2 q2 fun zs us q3 qz hp rz => ?_
  obtain ⟨r3, h0, na⟩ := r2.fresh (o := .lst us) hp
  exact k zs E2 q3 us _ qz ((x1.trans x2).trans (PExt.new hp).ext) r3 h0 na upd_same (rz.ext (PExt.new hp).ext)
theorem op_catR : OpR X (binaryOp .Add) (fun x y H Q => ∃ l b xs zs, x = .ref l ∧ y = .ref b ∧ LsP X.K H l xs ∧ LsP X.K H b zs ∧ xs.length + zs.length ≤ sizeLine ∧ ∀ p, H p = none → Q (.ref p) (upd H p (.lst (xs ++ zs)))) := by
  intro pins s σ H x y v u Q I rx ry h
  obtain ⟨l, b, xs, zs, rfl, rfl, hH, hB, hz, q⟩ := h
  cases rx
  cases ry
  obtain ⟨z, its, n, r, e⟩ := hH.at I.hok I.kIn
  obtain ⟨z2, its2, n2, r2, e2⟩ := hB.at I.hok I.kIn
  have hl := r.length
  have hl2 := r2.length
  refine PySem.P.add_list e e2 ?_ (by rw [List.size_toArray, List.size_toArray]; omega)
  have ea : its.toArray ++ its2.toArray = (its ++ its2).toArray := by simp
  rw [ea]
  exact ⟨.ref _, _, I.lnew (t' := s.toks) (r.append r2) (by rw [List.length_append]; omega), rfl, q _ I.fresh⟩
def opCat : D → D → (List D → Prop) → Prop := fun x y Q => match x, y with
  | .list xs, .list ys => xs.length + ys.length ≤ sizeLine ∧ Q (xs ++ ys)
  | _, _ => False
theorem od_cat : OpLD X (binaryOp .Add) opCat := ⟨_, op_catR, fun x y v u H QD Q hx hy q k => by
  cases x with
  | list xs =>
    cases y with
    | list ys =>
      obtain ⟨a, vs, rfl, sa, la⟩ := hx.listR
      obtain ⟨b, us, rfl, sb, lb⟩ := hy.listR
      exact ⟨a, b, vs, us, rfl, rfl, sa, sb, by rw [← la.length, ← lb.length]; exact q.1, fun p hp => k _ _ _ q.2 hp (la.append lb)⟩
    | _ => exact q.elim
  | _ => exact q.elim⟩
theorem op_repR : OpR X (binaryOp .Mult) (fun x y H Q => ∃ l k xs, x = .ref l ∧ y = .int k ∧ LsP X.K H l xs ∧ -(2 ^ 63) ≤ k ∧ k < 2 ^ 63 ∧ xs.length * k.toNat ≤ sizeLine ∧
  ∀ p, H p = none → Q (.ref p) (upd H p (.lst (List.replicate k.toNat xs).flatten))) := by
  intro pins s σ H x y v u Q I rx ry h
  obtain ⟨l, k, xs, rfl, rfl, hH, h1, h2, hz, q⟩ := h
  cases rx
  obtain ⟨t, rfl⟩ := ry
  obtain ⟨z, its, n, r, e⟩ := hH.at I.hok I.kIn
  have hl := r.length
  have hlen : its.toArray.size * k.toNat ≤ sizeLine := by rw [List.size_toArray, ← hl]; exact hz
  have hcap : ¬ its.toArray.size * k.toNat > (2 ^ 63 - 1) / 8 := by
    have : (sizeLine : Nat) ≤ (2 ^ 63 - 1) / 8 := by decide
    omega
  have hfit : ¬ (!Builtin.List.listFitsIndex k) = true := by
    rw [fitsIndex_both h1 h2]
    exact Bool.false_ne_true
  have hlong : ¬ Builtin.List.listTooLong (its.toArray.size * k.toNat) = true := by
    rw [notLongL hlen]
    exact Bool.false_ne_true
  have hnew : List.foldl (fun x1 x2 => x1 ++ x2) #[] (List.replicate (if its.toArray.isEmpty = true then 0 else k.toNat) its.toArray) = (List.replicate k.toNat its).flatten.toArray := by
    have f0 : ∀ m : Nat, List.foldl (fun x1 x2 => x1 ++ x2) #[] (List.replicate m its.toArray) = (List.replicate m its).flatten.toArray := fun m => by
      have := foldl_rep its m []
      rw [List.nil_append] at this
      exact this
    rw [f0]
    cases its with
    | nil => simp
    | cons a r' => rw [if_neg (by simp)]
  refine wpAny_binaryOp_repeat_ref (T := "list") (U := "int") (by decide) ⟨_, e, rfl⟩ (fun s' => typeIs_int s' k t) noFill_list_mul F.fills_int_mul F.slot_int_rmul repeat_list F.slot_int_index.lookup
    (call_meets F.slot_int_rmul (typeIs_int s k t) F.entry_int_rmul (F.args_int_rmul_2 _ _) (int___rmul___int_list k t l its.toArray n)
      ⟨e, rfl, ⟨_, e, rfl⟩, call_meets F.slot_list_mul ⟨_, e, rfl⟩ F.entry_list_mul (F.args_list_mul_2 _ _) (AutoListH.list___mul___list_int_3 l its.toArray n k t hfit hcap hlong) ⟨e, ?_⟩⟩)
  rw [hnew]
  exact ⟨.ref _, _, I.lnew (t' := s.toks) (r.rep k.toNat) (by rw [PyProof.Rows.lm_len_rep_flat, Nat.mul_comm]; exact hz), rfl, q _ I.fresh⟩
def opRep : D → D → (List D → Prop) → Prop := fun x y Q => match x, y with
  | .list xs, .int k => (-(2 ^ 63) ≤ k ∧ k < 2 ^ 63 ∧ xs.length * k.toNat ≤ sizeLine) ∧ Q (List.replicate k.toNat xs).flatten
  | _, _ => False
theorem RpL.rep {K : PySem.W.Frag} {H : Hp} {ds : List D} {vs : List V} (l : RpL K H ds vs) : ∀ n : Nat, RpL K H (List.replicate n ds).flatten (List.replicate n vs).flatten
  | 0 => .nil
  | n + 1 => by rw [List.replicate_succ, List.replicate_succ, List.flatten_cons, List.flatten_cons]; exact l.append (RpL.rep l n)
theorem od_rep : OpLD X (binaryOp .Mult) opRep := ⟨_, op_repR, fun x y v u H QD Q hx hy q k => by
  cases x with
  | list xs =>
    cases y with
    | int j =>
      obtain ⟨a, vs, rfl, sa, la⟩ := hx.listR
      rw [hy.int]
      exact ⟨a, j, vs, rfl, rfl, sa, q.1.1, q.1.2.1, by rw [← la.length]; exact q.1.2.2, fun p hp => k _ _ _ q.2 hp (la.rep _)⟩
    | _ => exact q.elim
  | _ => exact q.elim⟩
/-! ### slices -/
def cutD (xs : List D) (lo hi : Option Int) : List D := (xs.drop (HT.sIx xs.length 0 lo)).take (HT.sIx xs.length xs.length hi - HT.sIx xs.length 0 lo)
theorem RpL.cut {K : PySem.W.Frag} {H : Hp} {ds : List D} {vs : List V} (l : RpL K H ds vs) (lo hi : Option Int) : RpL K H (cutD ds lo hi) (cutV vs lo hi) := by
  unfold cutD cutV
  rw [l.length]
  exact (l.drop _).take _
abbrev TOd := Env → (Option Int → Env → Prop) → Prop
def liftO (K : PySem.W.Frag) (G : Gh) (t : TOd) : TO := fun σ H Q => ∃ (E : Env) (QE : Option Int → Env → Prop), RelE K G H E σ ∧ t E QE ∧ ∀ o E' H', QE o E' → Ext H H' → RelE K G H' E' σ → Q o H'
structure EO (X : Cx) (G : Gh) (e : Option Expr) (t : TOd) : Prop where
  po : PO X e (liftO X.K G t)
theorem PO.weak {e : Option Expr} {t u : TO} (h : PO X e t) (w : ∀ σ H Q, u σ H Q → t σ H Q) : PO X e u := ⟨fun pins s σ H Q I q => h.run pins s σ H Q I (w σ H Q q)⟩
def oNo : TOd := fun E Q => Q none E
def oE (t : TD) : TOd := fun E Q => t E fun d E1 => match d with
  | .int i => Q (some i) E1
  | _ => False
theorem eo_no : EO X G none oNo := ⟨PO.weak po_none fun σ H Q ⟨E, QE, r, q, k⟩ => k _ _ _ q (Ext.refl _) r⟩
theorem eo_e {t : TD} (h : ED X G e t) : EO X G (some e) (oE t) := ⟨PO.weak (po_some h.pe) fun σ H Q ⟨E, QE, r, q, k⟩ => ⟨E, _, r, q, fun d E1 v H1 q1 x1 r1 p1 => by
  cases p1 with
  | int i => exact ⟨i, rfl, k _ _ _ q1 x1 r1⟩
  | _ => exact q1.elim⟩⟩
def slD (x : D) (lo hi : Option Int) (Q : D → Prop) : Prop := match x with
  | .tuple xs => Q (.tuple (cutD xs lo hi))
  | .str z => z.length ≤ sizeLine ∧ Q (.str (cutS z lo hi))
  | _ => False
def tSlD (ta : TD) (tl th : TOd) : TD := fun E Q => ta E fun x E1 => tl E1 fun l E2 => th E2 fun u E3 => slD x l u fun z => Q z E3
def tSlL (ta : TD) (tl th : TOd) : TLd := fun E Q => ta E fun x E1 => tl E1 fun l E2 => th E2 fun u E3 => match x with
  | .list xs => Q (cutD xs l u) E3
  | _ => False
theorem el_sl {lo hi : Option Expr} {ta : TD} {tl th : TOd} (ha : ED X G a ta) (hl : EO X G lo tl) (hh : EO X G hi th) : EL X G (.Subscript a (.Slice lo hi none p2) pos) (tSlL ta tl th) := by
  refine ⟨PE.weak (pe_slice sl_list ha.pe hl.po hh.po) fun σ H Q ⟨E, QE, rel, q, k⟩ => ⟨E, _, rel, q, fun x E1 v H1 q1 x1 r1 p1 => ⟨E1, _, r1, q1, fun l E2 H2 q2 x2 r2 => ⟨E2, _, r2, q2, fun u E3 H3 q3 x3 r3 => ?_⟩⟩⟩⟩
  have xx := (x1.trans x2).trans x3
  have p3 := (p1.ext x2).ext x3
  cases p3 with
  | lst hs ll =>
    refine ⟨_, _, rfl, hs.sq, fun p hp => ?_⟩
    obtain ⟨r4, h0, na⟩ := r3.fresh (o := .lst (cutV _ l u)) hp
    exact k _ _ _ _ _ q3 (xx.trans (PExt.new hp).ext) r4 h0 na upd_same ((ll.cut l u).ext (PExt.new hp).ext)
  | _ => exact q3.elim
/-- xs[::-1] of a list -/
def tRevD (ta : TD) : TLd := fun E Q => ta E fun x E1 => match x with
  | .list xs => Q xs.reverse E1
  | _ => False
theorem el_rev {k : Nat} {ta : TD} (ha : ER X G a ta) : EL X G (.Subscript a (.Slice none none (some (.UnaryOp .USub (.Constant (.int 1) k p1) p2)) p3) pos) (tRevD ta) :=
  ⟨PE.weak (pe_revL ha.pe) fun σ H Q ⟨E, QE, rel, q, k⟩ => ⟨E, _, rel, q, fun x E1 v H1 q1 x1 r1 p1 => by
    cases x with
    | list xs =>
      obtain ⟨a, vs, rfl, hs, ll⟩ := p1.list
      refine ⟨a, vs, rfl, hs, fun p hp => ?_⟩
      obtain ⟨r4, h0, na⟩ := r1.fresh (o := .lst vs.reverse) hp
      exact k _ _ _ _ _ q1 (x1.trans (PExt.new hp).ext) r4 h0 na upd_same (ll.reverse.ext (PExt.new hp).ext)
    | _ => exact q1.elim⟩⟩
/-! ### isinstance with a built-in class -/
def tyD : D → String
  | .none => "NoneType"
  | .bool _ => "bool"
  | .int _ => "int"
  | .str _ => "str"
  | .list _ => "list"
  | .tuple _ => "tuple"
  | .dict _ => "dict"
theorem call_isiR {T : String} {bf : D → Bool} (hb : ∀ d : D, (match d with | .dict _ => True | _ => kitB (tyD d) T = some (bf d))) : CallR X (.builtin "isinstance") (fun vs H Q => ∃ d v, vs = [v, .ty T] ∧ Rp X.K H d v ∧ (∀ k, d ≠ .dict k) ∧ Q (.bl (bf d)) H) := by
  intro pins s σ H vs us Q I r h
  obtain ⟨d, v, rfl, hd, hn, q⟩ := h
  obtain ⟨u1, u2, rfl, r1, r2⟩ := vals2 r
  cases (show u2 = Value.type T from r2)
  have kit : ∃ P : Heap → Prop, PySem.W.KitX X.K u1 (.type (tyD d)) P ∧ P s.heap ∧ u1 ≠ .builtin "__main__.__loader__#opaque" := by
    cases hd with
    | non => cases (show u1 = Value.none from r1); exact ⟨_, PySem.W.kitx_none, True.intro, fun z => nomatch z⟩
    | bl y => cases (show u1 = Value.bool y from r1); exact ⟨_, PySem.W.kitx_bool, True.intro, fun z => nomatch z⟩
    | int i => obtain ⟨t, q⟩ := (show ∃ t, u1 = Value.int i t from r1); cases q; exact ⟨_, PySem.W.kitx_int, True.intro, fun z => nomatch z⟩
    | str y => obtain ⟨t, q⟩ := (show ∃ t, u1 = Value.str y t from r1); cases q; exact ⟨_, PySem.W.kitx_str, True.intro, fun z => nomatch z⟩
    | dct _ _ _ _ => exact absurd rfl (hn _)
    | hdl a => exact absurd rfl (hn _)
    | dck _ _ _ _ => exact absurd rfl (hn _)
    | lst hs _ =>
      rename_i a xs ds _
      cases (show u1 = Value.ref a from r1)
      obtain ⟨its, rv, hl, _⟩ := I.list hs.sq
      obtain ⟨o, n, ho, hc, _⟩ := hl
      exact ⟨_, PySem.W.kitx_list, ⟨o, ho, hc⟩, fun z => nomatch z⟩
    | tup hs _ =>
      rename_i a xs ds _
      cases (show u1 = Value.ref a from r1)
      obtain ⟨its, rv, ⟨o, ho, hc, _⟩, _⟩ := I.tuple hs.1
      exact ⟨_, PySem.W.kitx_tuple, ⟨o, ho, hc⟩, fun z => nomatch z⟩
  obtain ⟨P, Z, p, hx⟩ := kit
  have e : PySem.W.kitOne X.K (.type (tyD d)) (.type T) = some (bf d) := by
    have := hb d
    cases d with
    | dict k => exact absurd rfl (hn k)
    | _ => exact kit_ty this
  exact PySem.W.kia_one Z I.kIn p e hx fun tk => ⟨.bl _, H, I.tok tk, rfl, q⟩
def isInt : D → Bool
  | .int _ => true
  | .bool _ => true
  | _ => false
def isBool : D → Bool
  | .bool _ => true
  | _ => false
def isStr : D → Bool
  | .str _ => true
  | _ => false
def isTuple : D → Bool
  | .tuple _ => true
  | _ => false
def isList : D → Bool
  | .list _ => true
  | _ => false
def notDict : D → Prop
  | .dict _ => False
  | _ => True
def tIsi (bf : D → Bool) (ta : TD) : TD := fun E Q => ta E fun x E1 => notDict x ∧ Q (.bool (bf x)) E1
theorem ed_isi {T : String} {ty : Str} {bf : D → Bool} {ta : TD} {pt : Pos} (hb : ∀ d : D, (match d with | .dict _ => True | _ => kitB (tyD d) T = some (bf d))) (ha : ED X G a ta) (hg : Gl X "isinstance") (hm : X.mg "isinstance" = none) (hg2 : Gl X ty) (hm2 : X.mg ty = none) (hv2 : bootBuiltins ty = some (.type T))
    (hn2 : ty ≠ "__name__" := by decide) (hd2 : (ty == ("__debug__" : Str)) = false := by decide)
    (hs : starEach [a, .Name ty pt] X.env = (false, eval a X.env) :: starEach [.Name ty pt] X.env := by rfl) (hs2 : starEach [.Name ty pt] X.env = (false, eval (.Name ty pt) X.env) :: starEach [] X.env := by rfl) (hpl : (backTo pos (starEach [.Name ty pt] X.env)).any (·.1) = false := by rfl) :
    ED X G (.Call (.Name "isinstance" p) [a, .Name ty pt] [] pos) (tIsi bf ta) := by
  refine ⟨PE.weak (pe_callB (call_isiR hb) hg hm (by decide +kernel) (pa_cons ha.pe (pa_cons (pe_bltn (v := .ty T) hg2 hm2 hv2 rfl hn2 hd2) pa_nil hs2) hs) (by decide) (by decide) hs hpl) fun σ H Q ⟨E, QE, rel, q, k⟩ => ⟨E, _, rel, q, fun x E1 v H1 q1 x1 r1 p1 => ?_⟩⟩
  refine ⟨x, v, rfl, p1, ?_, k _ _ _ _ q1.2 x1 r1 (.bl _)⟩
  intro z e; subst e; exact q1.1
theorem isi_int : ∀ d : D, (match d with | .dict _ => True | _ => kitB (tyD d) "int" = some (isInt d)) := by intro d; cases d <;> first | trivial | (show kitB _ _ = _; decide +kernel)
theorem isi_bool : ∀ d : D, (match d with | .dict _ => True | _ => kitB (tyD d) "bool" = some (isBool d)) := by intro d; cases d <;> first | trivial | (show kitB _ _ = _; decide +kernel)
theorem isi_str : ∀ d : D, (match d with | .dict _ => True | _ => kitB (tyD d) "str" = some (isStr d)) := by intro d; cases d <;> first | trivial | (show kitB _ _ = _; decide +kernel)
theorem isi_tuple : ∀ d : D, (match d with | .dict _ => True | _ => kitB (tyD d) "tuple" = some (isTuple d)) := by intro d; cases d <;> first | trivial | (show kitB _ _ = _; decide +kernel)
/-! ### zip of two tuples, of two lists -/
def zipD (xs ys : List D) : List D := (xs.zip ys).map fun p => .tuple [p.1, p.2]
def iZipD (ta tb : TD) : TDs := fun E Q => ta E fun x E1 => tb E1 fun y E2 => match x, y with
  | .tuple xs, .tuple ys => Q (zipD xs ys) E2
  | .list xs, .list ys => Q (zipD xs ys) E2
  | _, _ => False
theorem zipD_len (xs ys : List D) : (zipD xs ys).length = min xs.length ys.length := by simp [zipD]
theorem zipD_get {xs ys : List D} {i : Nat} {x y : D} (h1 : xs[i]? = some x) (h2 : ys[i]? = some y) : (zipD xs ys)[i]? = some (.tuple [x, y]) := by
  unfold zipD
  rw [List.getElem?_map, (List.getElem?_zip_eq_some (z := (x, y))).mpr ⟨h1, h2⟩]; rfl
theorem walkD_zipT {K : PySem.W.Frag} {H : Hp} {a b : Addr} {vs us : List V} {ds es : List D} (h : SqT K H a vs) (h' : SqT K H b us) (l : RpL K H ds vs) (l' : RpL K H es us) : WalkD true K (RZ.ItzT K a b) H (zipD ds es) where
  goes := fun i H' x hi => by
    rw [zipD_len, l.length, l'.length] at hi
    exact ⟨vs, us, vs[i], us[i], SqT.ext x h, SqT.ext x h', List.getElem?_eq_getElem _, List.getElem?_eq_getElem _⟩
  yld := fun i H' v H2 x hi hy => by
    obtain ⟨T, v1, v2, rfl, hT, rfl, e1, e2⟩ := hy
    obtain ⟨d, hd, p⟩ := l.getV (e1 vs (SqT.ext x h))
    obtain ⟨d', hd', p'⟩ := l'.getV (e2 us (SqT.ext x h'))
    have px := PExt.new (o := .tup [v1, v2]) hT
    exact ⟨px, _, zipD_get hd hd', .pair (SqT.of upd_same) (.cons ((p.ext x).ext px.ext) (.cons ((p'.ext x).ext px.ext) .nil))⟩
  stops := fun H' x => ⟨vs, us, SqT.ext x h, SqT.ext x h', by rw [zipD_len, l.length, l'.length]; omega⟩
theorem walkD_zipL {K : PySem.W.Frag} {H : Hp} {a b : Addr} {vs us : List V} {ds es : List D} (h : LsF K H a vs) (h' : LsF K H b us) (l : RpL K H ds vs) (l' : RpL K H es us) : WalkD true K (Itz K a b) H (zipD ds es) where
  goes := fun i H' x hi => by
    rw [zipD_len, l.length, l'.length] at hi
    exact ⟨vs, us, vs[i], us[i], (LsF.ext x h).sq, (LsF.ext x h').sq, List.getElem?_eq_getElem _, List.getElem?_eq_getElem _⟩
  yld := fun i H' v H2 x hi hy => by
    obtain ⟨T, v1, v2, rfl, hT, rfl, e1, e2⟩ := hy
    obtain ⟨d, hd, p⟩ := l.getV (e1 vs ((LsF.ext x h).sq))
    obtain ⟨d', hd', p'⟩ := l'.getV (e2 us ((LsF.ext x h').sq))
    have px := PExt.new (o := .tup [v1, v2]) hT
    exact ⟨px, _, zipD_get hd hd', .pair (SqT.of upd_same) (.cons ((p.ext x).ext px.ext) (.cons ((p'.ext x).ext px.ext) .nil))⟩
  stops := fun H' x => ⟨vs, us, (LsF.ext x h).sq, (LsF.ext x h').sq, by rw [zipD_len, l.length, l'.length]; omega⟩
theorem id_zip {elts : List Expr} {kk : Nat} {tpos : Pos} {ta tb : TD} (ha : ED X G a ta) (hb : ED X G b tb) (hg : Gl X "zip") (hm : X.mg "zip" = none)
    (hs : starEach [a, b] X.env = (false, eval a X.env) :: starEach [b] X.env := by rfl) (hs2 : starEach [b] X.env = (false, eval b X.env) :: starEach [] X.env := by rfl) (hpl : (backTo pos (starEach [b] X.env)).any (·.1) = false := by rfl) :
    ID X G true (.Tuple elts kk tpos) (.Call (.Name "zip" p) [a, b] [] pos) (iZipD ta tb) := by
  refine ⟨PI.weak (RZ.pi_zipA hg hm (pa_cons ha.pe (pa_cons hb.pe pa_nil hs2) hs) hs hpl) fun σ H R ⟨E, QE, rel, q, k⟩ => ⟨E, _, rel, q, fun x E1 v H1 q1 x1 r1 p1 => ⟨E1, _, r1, q1, fun y E2 u H2 q2 x2 r2 p2 => ?_⟩⟩⟩
  have p1 := p1.ext x2
  cases p1 with
  | tup h1 l1 =>
    cases p2 with
    | tup h2 l2 => exact ⟨_, _, _, _, rfl, .inr ⟨h1.1, h2.1, k _ _ _ _ q2 (x1.trans x2) r2 (walkD_zipT h1.1 h2.1 l1 l2)⟩⟩
    | _ => exact q2.elim
  | lst h1 l1 =>
    cases p2 with
    | lst h2 l2 => exact ⟨_, _, _, _, rfl,   .inl ⟨h1.sq, h2.sq, k _ _ _ _ q2 (x1.trans x2) r2 (walkD_zipL h1 h2 l1 l2)⟩⟩
    | _ => exact q2.elim
  | _ => cases p2 <;> exact q2.elim
end
end DL
set_option Elab.async false
set_option linter.all false
set_option maxRecDepth 100000
set_option maxHeartbeats 1000000
namespace DL
open PySem PySem.Spec PyProof.Rows L2
theorem ns {G : Gh} {l : List Nat} (h : G.slots = l) {i : Nat} (hd : i ∉ l) : i ∉ G.slots := by rw [h]; exact hd
theorem nsA {G : Gh} {l ms : List Nat} (h : G.slots = l) (hd : ∀ i ∈ ms, i ∉ l) : ∀ i ∈ ms, i ∉ G.slots := by rw [h]; exact hd
theorem u65 {k : Nat} {A : Around} (r : Room k A) : A.units + 65 < cLine := by have := r.un; omega
theorem bb_len : bootBuiltins "len" = some (.builtin "len") := by decide +kernel
theorem bb_abs : bootBuiltins "abs" = some (.builtin "abs") := by decide +kernel
theorem bb_max : bootBuiltins "max" = some (.builtin "max") := by decide +kernel
theorem bb_min : bootBuiltins "min" = some (.builtin "min") := by decide +kernel
theorem bb_sum : bootBuiltins "sum" = some (.builtin "sum") := by decide +kernel
theorem bb_all : bootBuiltins "all" = some (.builtin "all") := by decide +kernel
theorem bb_sorted : bootBuiltins "sorted" = some (.builtin "sorted") := by decide +kernel
theorem bb_tuple : bootBuiltins "tuple" = some (.type "tuple") := by decide +kernel
theorem bb_list : bootBuiltins "list" = some (.type "list") := by decide +kernel
theorem bb_int : bootBuiltins "int" = some (.type "int") := by decide +kernel
theorem bb_bool : bootBuiltins "bool" = some (.type "bool") := by decide +kernel
theorem bb_str : bootBuiltins "str" = some (.type "str") := by decide +kernel
end DL
set_option Elab.async false
set_option linter.all false
set_option maxRecDepth 100000
set_option maxHeartbeats 1000000
namespace DL
open PySem PySem.Spec PyProof.Rows L2
/-! ### reading: one statement after another, what follows a letter -/
theorem seq_step {t u : TSd} {DE : EndsD} {E : Env} (h : ∀ R : Env → Prop, (∀ E', u DE E' → R E') → t { DE with nx := R } E) : sSeq t u DE E := h _ fun _ h => h
theorem ifB {b : Bool} {A B : Prop} (h1 : b = true → A) (h2 : b = false → B) : if b = true then A else B := by
  cases b with
  | true => exact if_pos rfl ▸ h1 rfl
  | false => rw [if_neg Bool.false_ne_true]; exact h2 rfl
theorem ifT {b : Bool} {A B : Prop} (hb : b = true) (h1 : A) : if b = true then A else B := by rw [if_pos hb]; exact h1
theorem ifF {b : Bool} {A B : Prop} (hb : b = false) (h1 : B) : if b = true then A else B := by rw [hb, if_neg Bool.false_ne_true]; exact h1
/-! == of numbers, truths -/
theorem eqv_int (i j : Int) : PyData.eqv (.int i) (.int j) = decide (i = j) := by
  show (i == j) = decide (i = j)
  by_cases h : i = j
  · subst h; simp
  · simp [h]
theorem eqv_bool (i j : Bool) : PyData.eqv (.bool i) (.bool j) = (i == j) := rfl
theorem eqv_none : PyData.eqv .none .none = true := rfl
theorem eqv_tup (xs ys : List D) : PyData.eqv (.tuple xs) (.tuple ys) = PyData.eqvAll xs ys := by simp [PyData.eqv]
theorem shaped_int (i : Int) : SeqAt.shaped (.int i) = true := rfl
theorem shaped_bool (i : Bool) : SeqAt.shaped (.bool i) = true := rfl
theorem shaped_none : SeqAt.shaped .none = true := rfl
/-! items -/
theorem atI_at {α : Type} {xs : List α} {i : Int} {d : α} (h0 : 0 ≤ i) (h : xs[i.toNat]? = some d) : atI xs i = some d := by
  obtain ⟨hl, _⟩ := List.getElem?_eq_some_iff.mp h
  unfold atI ixN
  rw [if_pos h0, if_pos (by omega)]
  exact h
theorem atD_at {xs : List D} {i : Int} {d : D} {Q : D → Prop} (h0 : 0 ≤ i) (h : xs[i.toNat]? = some d) (q : Q d) : atD xs i Q := by unfold atD; rw [atI_at h0 h]; exact q
theorem atD_neg {xs : List D} {i : Int} {d : D} {Q : D → Prop} (h0 : i < 0) (h1 : -(xs.length : Int) ≤ i) (h : xs[(i + xs.length).toNat]? = some d) (q : Q d) : atD xs i Q := by
  unfold atD atI ixN
  rw [if_neg (by omega), if_pos h1]
  show (match (xs[(i + xs.length).toNat]?) with | some d => Q d | none => False)
  rw [h]; exact q
theorem atD_0 {x : D} {xs : List D} {Q : D → Prop} : atD (x :: xs) 0 Q = Q x := by
  unfold atD; rw [atI_at (d := x) (by decide) rfl]
theorem atD_1 {x y : D} {xs : List D} {Q : D → Prop} : atD (x :: y :: xs) 1 Q = Q y := by
  unfold atD; rw [atI_at (d := y) (by decide) rfl]
theorem atD_2 {x y z : D} {xs : List D} {Q : D → Prop} : atD (x :: y :: z :: xs) 2 Q = Q z := by
  unfold atD; rw [atI_at (d := z) (by decide) rfl]
theorem atD_3 {x y z u : D} {xs : List D} {Q : D → Prop} : atD (x :: y :: z :: u :: xs) 3 Q = Q u := by
  unfold atD; rw [atI_at (d := u) (by decide) rfl]
theorem putD_0 {x d : D} {xs : List D} {Q : List D → Prop} : putD (x :: xs) 0 d Q = Q (d :: xs) := by
  unfold putD ixN; rw [if_pos (by decide), if_pos (by rw [List.length_cons]; omega)]; rfl
theorem getElem_map_int {ns : List Int} {i : Nat} (h : i < ns.length) : (ns.map PyData.int)[i]? = some (.int ns[i]) := by
  rw [List.getElem?_map, List.getElem?_eq_getElem h]; rfl
/-- a for by what holds between two turns; R: what follows a turn -/
theorem forD_inv {g : TGd} {tb : TSd} {DE : EndsD} {ds : List D} {E : Env} (I : Nat → Env → Prop) (h0 : I 0 E)
    (hs : ∀ (i : Nat) (d : D) (E : Env), ds[i]? = some d → I i E → ∀ R : Env → Prop, (∀ E', I (i + 1) E' → R E') → g d E fun E1 => tb { DE with nx := R, ct := R, bk := DE.nx } E1)
    (hd : ∀ E, I ds.length E → DE.nx E) : forD g tb ds DE E := by
  induction ds generalizing E I with
  | nil => exact hd E h0
  | cons d ds ih =>
    refine hs 0 d E rfl h0 _ fun E' h' => ?_
    exact ih (fun i => I (i + 1)) h' (fun i d E e q => hs (i + 1) d E (by simpa using e) q) fun E q => hd E (by simpa using q)
theorem for_inv {ti : TDs} {g : TGd} {tb : TSd} {DE : EndsD} {E : Env} {ds : List D} {E1 : Env} (h : ∀ Q : List D → Env → Prop, Q ds E1 → ti E Q) (I : Nat → Env → Prop) (h0 : I 0 E1)
    (hs : ∀ (i : Nat) (d : D) (E : Env), ds[i]? = some d → I i E → ∀ R : Env → Prop, (∀ E', I (i + 1) E' → R E') → g d E fun E1 => tb { DE with nx := R, ct := R, bk := DE.nx } E1)
    (hd : ∀ E, I ds.length E → DE.nx E) : sFor ti g tb DE E := h _ (forD_inv I h0 hs hd)
/-- behind it the environment is the one ahead (its own names were not in use, and hold nothing known) -/
theorem rest_wipe {E E' : Env} : ∀ {ms : List Nat}, wipeE E' ms = wipeE E ms → (∀ i ∈ ms, E[i]? = some .un ∨ (∃ x, E[i]? = some (.d x))) → restE E E' ms = E := by
  intro ms hw hE
  have hl : E'.length = E.length := by
    have : ∀ (F : Env) (l : List Nat), (wipeE F l).length = F.length := by
      intro F l
      induction l with
      | nil => rfl
      | cons v vs ih => show ((wipeE F vs).set v .un).length = _; rw [List.length_set, ih]
    rw [← this E' ms, hw, this]
  have wg : ∀ (F : Env) (l : List Nat) (i : Nat), i ∉ l → (wipeE F l)[i]? = F[i]? := by
    intro F l
    induction l with
    | nil => intro _ _; rfl
    | cons v vs ih => intro i h; show ((wipeE F vs).set v .un)[i]? = _; rw [List.getElem?_set_ne (fun z => h (by simp [z])), ih i fun z => h (List.mem_cons_of_mem _ z)]
  refine List.ext_getElem? fun i => ?_
  by_cases hi : i ∈ ms
  · have key : ∀ (l : List Nat), i ∈ l → (restE E E' l)[i]? = some (datOf E[i]?) := by
      intro l
      induction l with
      | nil => intro h; cases h
      | cons v vs ih =>
        intro h
        show ((restE E E' vs).set v (datOf E[v]?))[i]? = _
        have rl : ∀ (l : List Nat), (restE E E' l).length = E'.length := by
          intro l
          induction l with
          | nil => rfl
          | cons v vs ih => show ((restE E E' vs).set v _).length = _; rw [List.length_set, ih]
        by_cases hv : v = i
        · subst hv
          have : v < E.length := by
            rcases hE v hi with z | ⟨x, z⟩
            · exact (List.getElem?_eq_some_iff.mp z).1
            · exact (List.getElem?_eq_some_iff.mp z).1
          rw [List.getElem?_set_self (by rw [rl, hl]; exact this)]
        · rw [List.getElem?_set_ne hv]
          exact ih (by rcases List.mem_cons.mp h with q | q; exact absurd q.symm hv; exact q)
    rw [key ms hi]
    rcases hE i hi with z | ⟨x, z⟩
    · rw [z]; rfl
    · rw [z]; rfl
  · have rg : ∀ (l : List Nat), i ∉ l → (restE E E' l)[i]? = E'[i]? := by
      intro l
      induction l with
      | nil => intro _; rfl
      | cons v vs ih => intro h; show ((restE E E' vs).set v _)[i]? = _; rw [List.getElem?_set_ne (fun z => h (by simp [z])), ih fun z => h (List.mem_cons_of_mem _ z)]
    rw [rg ms hi, ← wg E' ms i hi, hw, wg E ms i hi]
/-- over typed items -/
theorem compD_map {α : Type} {g : TGd} {tt : TTd} {te : TD} {ms : List Nat} {W : Env} (enc : α → D) (p : α → Bool) (f : α → D) : ∀ (xs : List α) (acc : List D) (E : Env) (Q : List D → Env → Prop), wipeE E ms = W →
    (∀ x ∈ xs, ∀ R : Option D → Env → Prop, (∀ E', wipeE E' ms = W → R (if p x = true then some (f x) else none) E') → turnD g tt te (enc x) W R) → acc.length + xs.length ≤ sizeLine → (∀ E', wipeE E' ms = W → Q (acc ++ (xs.filter p).map f) E') → compD g tt te ms (xs.map enc) acc E Q
  | [], acc, E, Q, hE, _, _, q => by have := q E hE; rw [List.filter_nil, List.map_nil, List.append_nil] at this; exact this
  | x :: xs, acc, E, Q, hE, hf, hl, q => by
    show turnD g tt te (enc x) (wipeE E ms) _
    rw [hE]
    refine hf x (List.mem_cons_self ..) _ fun E' hE' => ?_
    rw [List.length_cons] at hl
    cases hp : p x with
    | false =>
      rw [if_neg Bool.false_ne_true]
      refine compD_map enc p f xs acc E' Q hE' (fun d hd => hf d (List.mem_cons_of_mem _ hd)) (by omega) fun E2 h2 => ?_
      have := q E2 h2
      rw [List.filter_cons_of_neg (by rw [hp]; exact Bool.false_ne_true)] at this; exact this
    | true =>
      rw [if_pos rfl]
      refine ⟨by omega, compD_map enc p f xs (acc ++ [f x]) E' Q hE' (fun d hd => hf d (List.mem_cons_of_mem _ hd)) (by rw [List.length_append]; simp; omega) fun E2 h2 => ?_⟩
      have := q E2 h2
      rw [List.filter_cons_of_pos hp] at this
      rw [List.append_assoc]; exact this
theorem comp_filter {α : Type} {ti : TDs} {g : TGd} {tt : TTd} {te : TD} {ms : List Nat} {E E1 : Env} {Q : List D → Env → Prop} (xs : List α) (enc : α → D) (p : α → Bool) (f : α → D) (hi : ∀ R : List D → Env → Prop, R (xs.map enc) E1 → ti E R)
    (hE : ∀ i ∈ ms, E1[i]? = some .un ∨ (∃ x, E1[i]? = some (.d x))) (hl : xs.length ≤ sizeLine)
    (hf : ∀ x ∈ xs, ∀ R : Option D → Env → Prop, (∀ E', wipeE E' ms = wipeE E1 ms → R (if p x = true then some (f x) else none) E') → turnD g tt te (enc x) (wipeE E1 ms) R) (q : Q ((xs.filter p).map f) E1) : tComp ti g tt te ms E Q :=
  hi _ (compD_map enc p f xs [] E1 _ rfl hf (by simpa using hl) fun E' hE' => by rw [rest_wipe hE' hE]; exact q)
theorem comp_map {α : Type} {ti : TDs} {g : TGd} {te : TD} {ms : List Nat} {E E1 : Env} {Q : List D → Env → Prop} (xs : List α) (enc : α → D) (f : α → D) (hi : ∀ R : List D → Env → Prop, R (xs.map enc) E1 → ti E R)
    (hE : ∀ i ∈ ms, E1[i]? = some .un ∨ (∃ x, E1[i]? = some (.d x))) (hl : xs.length ≤ sizeLine)
    (hf : ∀ x ∈ xs, ∀ R : D → Env → Prop, (∀ E', wipeE E' ms = wipeE E1 ms → R (f x) E') → g (enc x) (wipeE E1 ms) fun E1 => te E1 R) (q : Q (xs.map f) E1) : tComp ti g tTrue te ms E Q := by
  refine comp_filter xs enc (fun _ => true) f hi hE hl (fun x hx R hR => ?_) (by rw [List.filter_eq_self.mpr (fun _ _ => rfl)]; exact q)
  exact hf x hx (fun y E3 => R (some y) E3) hR
theorem un1 {E : Env} {i : Nat} (h : E[i]? = some .un) : ∀ j ∈ [i], E[j]? = some .un ∨ (∃ x, E[j]? = some (.d x)) := fun j hj => by
  rcases List.mem_cons.mp hj with rfl | z
  · exact .inl h
  · cases z
theorem un2 {E : Env} {i k : Nat} (h : E[i]? = some .un) (h' : E[k]? = some .un) : ∀ j ∈ [i, k], E[j]? = some .un ∨ (∃ x, E[j]? = some (.d x)) := fun j hj => by
  rcases List.mem_cons.mp hj with rfl | z
  · exact .inl h
  · exact un1 h' j z
end DL
set_option Elab.async false
set_option linter.all false
set_option maxRecDepth 100000
set_option maxHeartbeats 1000000
namespace DL
open PySem PySem.Spec PyProof.Rows L2
section
variable {X : Cx} {G : Gh} {a b c e : Expr} {es : List Expr} {pos p p1 p2 p3 : Pos} {x : Str}
/-! ### range(a, b, c): as an object, its len -/
def tLenRange (ta tb tc : TD) : TD := fun E Q => ta E fun x E1 => tb E1 fun y E2 => tc E2 fun z E3 => match x, y, z with
  | .int i, .int j, .int k => ∃ n : Nat, (k ≠ 0 ∧ k.natAbs < 1073741824) ∧ Builtin.Range.rangeSize i j k = n ∧ n < 2 ^ 62 ∧ Q (.int n) E3
  | _, _, _ => False
/-! range with a step, walked -/
/-! ### slices by numbers from 0 on -/
theorem sIx_int {n d : Nat} {i : Int} (h : 0 ≤ i) : HT.sIx n d (some i) = min i.toNat n := by
  show (if i < 0 then (i + (n : Int)).toNat else min i.toNat n) = _
  rw [if_neg (by omega)]
theorem cut_to {xs : List D} {i : Int} (h : 0 ≤ i) : cutD xs none (some i) = xs.take i.toNat := by
  unfold cutD
  rw [HT.sIx_none, sIx_int h]
  show xs.take (min i.toNat xs.length - 0) = _
  rw [Nat.sub_zero]
  rcases Nat.le_total i.toNat xs.length with z | z
  · rw [Nat.min_eq_left z]
  · rw [Nat.min_eq_right z, List.take_of_length_le (Nat.le_refl _), List.take_of_length_le z]
end
end DL
set_option Elab.async false
set_option linter.all false
set_option maxRecDepth 100000
namespace DL
open PySem PySem.Spec PyProof.Rows L2
/-- a def that nobody calls at this height -/
theorem no_ok {P : Program} {w : World} {K : PySem.W.Frag} {mg : Str → Option Value} {base : Heap} {x qual : Str} {st : Stmt} {f : Addr} {fd : FuncData} {N ps : List Str} {k : Nat} (F : Fun K x qual st f fd) (Sc : FnScope N ps (defScope st)) : FnOk P w K mg base CX0 (k + 1) f fd ps (spL K fun _ _ => False) :=
  F.ok Sc (fun vs H Q E ⟨_, _, _, h, _⟩ => h.elim) (fun cdv A outer s H vs Q E hr ⟨_, _, _, h, _⟩ => h.elim)
/-- the end of a law: the law's def keeps the promise spLaw-like on every script -/
theorem law_walk {l : PySem.W.OpenLaw} {n k : Nat} {q : Program} {loose : List Str} {XP : (Str → Option Value) → Heap → Prop} {YP : World → Heap → Prop} {d : DefRec} {KK : Params → PySem.W.Frag} {sp : SpD} {x : Str} (hm : l.most = some n) (hl : n ≤ sizeLine) (hdf : d.params.defaults = []) (rm : Room k callerA) (hY : ∀ (w : World) (h : Heap), YP w h → (KK w.params).In h)
    (F : ∀ (w : World) (mg : Str → Option Value) (fa : Addr) (h : Heap), (KK w.params).In h → h.Ns mainGlobals mg → mg d.name = some (.ref fa) → ∃ fd : FuncData, (∀ (s : Shared) (u : Value), BindsTo s fd ⟨[u], []⟩ [(x, u)]) ∧ ∀ base : Heap, (KK w.params).In base → base.Ns mainGlobals mg → FnOk l.prog w (KK w.params) mg base L2.CX0 k fa fd [x] (spL (KK w.params) sp))
    (hsp : ∀ (ns : List Int) (Q : D → List S → Prop), ns.length ≤ n → (∀ z ∈ ns, Builtin.Int.intBits z ≤ 1048576) → Q (.bool true) [] → sp [.d (.list (ns.map PyData.int))] Q) :
    PySem.W.WalkO q loose XP YP l.row.toRowW d [] (fun f vs => PySem.call f vs) := by
  refine Att.attach_callB hm hdf fun w s₀ s₁ mg mb fa o pm cd doc a vs ns G Y ho hd hcd hmg hobj hints hlen hbits hg => ?_
  have KX := hY w _ Y
  obtain ⟨fd, hb, hF⟩ := F w mg fa _ KX G.T.g hmg
  refine law_call KX G.T.g G.T.b G.T.builtins G.T.nolimit hg hobj hints (Nat.le_trans hlen hl) rm hF hb (fun H hO hS => ?_) (fun H e s' h => h)
  have hF : LsF (KK w.params) H a (ns.map V.int) := by
    rcases hS with (z | z) | ⟨ob, its, m, e, hc, hdd, hdt, hz, r⟩
    · rcases hO a with y | ⟨ob, xs, y⟩
      · rw [z] at y; cases y
      · rw [z] at y; cases y
    · exact .inl z
    · have e2 := KX _ _ e
      rw [hobj] at e2
      cases e2
      cases hdt
      exact .inr ⟨_, _, e, hz, r⟩
  refine ⟨[.d (.list (ns.map PyData.int))], [], fun d outs => d = .bool true, hsp ns _ hlen hbits rfl, .d (.lst hF (RpL.ofInts ns)) .nil, List.nodup_nil, fun d outs v H' h _ _ r => ?_⟩
  subst h
  cases r
  rfl
end DL
set_option Elab.async false
set_option linter.all false
set_option maxRecDepth 100000
set_option maxHeartbeats 3200000
/-! DL13: set(xs) of a list of ints, sorted(set(xs)), len(set(xs)). -/
namespace DL
open PySem PySem.Spec PyProof.Rows L2
end DL
namespace DL
open PySem PySem.Spec PyProof.Rows L2
section
variable {X : Cx} {G : Gh} {a : Expr} {pos p p1 p2 p3 : Pos}
/-- sorted(set(xs)), xs a list of fewer than 64 ints -/
def tSortSet (ta : TD) : TLd := fun E Q => ta E fun x E1 => match x with
  | .list xs => ∃ ns : List Int, xs = ns.map PyData.int ∧ ns.length < 64 ∧ ∀ zs : List Int, zs.Pairwise (· < ·) → (∀ k, k ∈ zs ↔ k ∈ ns) → Q (zs.map PyData.int) E1
  | _ => False
/-- len(set(xs)) -/
def tLenSet (ta : TD) : TD := fun E Q => ta E fun x E1 => match x with
  | .list xs => ∃ ns : List Int, xs = ns.map PyData.int ∧ ns.Nodup ∧ ns.length ≤ 4000 ∧ Q (.int (ns.length : Nat)) E1
  | _ => False
end
end DL
set_option Elab.async false
set_option linter.all false
set_option maxRecDepth 100000
/-! DL14: plain laws of data: shaped, == of encoded lists. -/
namespace DL
open PySem PySem.Spec PyProof.Rows L2
/-- n lists or tuples deep at most, no dict -/
def shOk : Nat → D → Bool
  | _, .none => true
  | _, .bool _ => true
  | _, .int _ => true
  | _, .str x => PyData.strOk x
  | n + 1, .tuple ds => ds.all (shOk n)
  | n + 1, .list ds => ds.all (shOk n)
  | _, _ => false
theorem shOk_all {n : Nat} (ih : ∀ d, shOk n d = true → d.canLay0 = true ∧ d.depth ≤ n) : ∀ ds : List D, ds.all (shOk n) = true → PyData.canLayAll0 ds = true ∧ PyData.depthAll ds ≤ n
  | [], _ => ⟨rfl, Nat.zero_le _⟩
  | d :: ds, h => by
    rw [List.all_cons, Bool.and_eq_true] at h
    have ⟨a, b⟩ := ih d h.1
    have ⟨c, e⟩ := shOk_all ih ds h.2
    exact ⟨by rw [PyData.canLayAll0, a, c]; rfl, by rw [PyData.depthAll]; omega⟩
theorem shOk_spec : ∀ (n : Nat) (d : D), shOk n d = true → d.canLay0 = true ∧ d.depth ≤ n
  | n, .none, _ => ⟨rfl, Nat.zero_le _⟩
  | n, .bool _, _ => ⟨rfl, Nat.zero_le _⟩
  | n, .int _, _ => ⟨rfl, Nat.zero_le _⟩
  | n, .str x, h => ⟨by cases n <;> exact h, Nat.zero_le _⟩
  | n + 1, .tuple ds, h => by
    have ⟨a, b⟩ := shOk_all (shOk_spec n) ds h
    exact ⟨by rw [PyData.canLay0]; exact a, by rw [PyData.depth]; omega⟩
  | n + 1, .list ds, h => by
    have ⟨a, b⟩ := shOk_all (shOk_spec n) ds h
    exact ⟨by rw [PyData.canLay0]; exact a, by rw [PyData.depth]; omega⟩
  | 0, .tuple _, h => by cases h
  | 0, .list _, h => by cases h
  | 0, .dict _, h => by cases h
  | n + 1, .dict _, h => by cases h
theorem shaped_of {n : Nat} {d : D} (h : shOk n d = true) (hn : n ≤ 64 := by decide) : SeqAt.shaped d = true := by
  have ⟨a, b⟩ := shOk_spec n d h
  show (d.canLay0 && decide (d.depth ≤ 64)) = true
  rw [a, decide_eq_true (show d.depth ≤ 64 by omega)]; rfl
theorem shOk_tup {n : Nat} {ds : List D} : shOk (n + 1) (.tuple ds) = ds.all (shOk n) := rfl
theorem all_enc {α : Type} {n : Nat} {e : α → D} (he : ∀ a, shOk n (e a) = true) (xs : List α) : (xs.map e).all (shOk n) = true := by
  rw [List.all_map]; exact List.all_eq_true.mpr fun a _ => he a
theorem all_ints {n : Nat} (ns : List Int) : (ns.map PyData.int).all (shOk n) = true := all_enc (fun _ => by cases n <;> rfl) ns
theorem shaped_ti (ns : List Int) : SeqAt.shaped (.tuple (ns.map PyData.int)) = true := shaped_of (n := 1) (by rw [shOk_tup]; exact all_ints ns)
theorem eqvAll_enc {α : Type} [DecidableEq α] {e : α → D} (he : ∀ a b, PyData.eqv (e a) (e b) = decide (a = b)) : ∀ xs ys : List α, PyData.eqvAll (xs.map e) (ys.map e) = decide (xs = ys)
  | [], [] => rfl
  | [], _ :: _ => rfl
  | _ :: _, [] => rfl
  | x :: xs, y :: ys => by
    rw [List.map_cons, List.map_cons, PyData.eqvAll, he, eqvAll_enc he xs ys]
    by_cases h1 : x = y <;> by_cases h2 : xs = ys <;> simp [h1, h2]
theorem eqv_ti (ns ms : List Int) : PyData.eqv (.tuple (ns.map PyData.int)) (.tuple (ms.map PyData.int)) = decide (ns = ms) := by rw [eqv_tup, eqvAll_enc eqv_int]
end DL
set_option Elab.async false
set_option linter.all false
set_option maxRecDepth 100000
set_option maxHeartbeats 1000000
/-! DL15: sorted(xs), sorted(xs, reverse=b): lists and tuples of any data that is alike. -/
namespace DL
open PySem PySem.Spec PyProof.Rows L2
section
variable {prog : Program} {w : World} {A : Around} {E : Value → Shared → Prop} {s : Shared} {β : Type} {vs : List Value} {bs : List β} {enc : β → PyData} {R : Value → β → Prop}
/-- what is made of a list's or a tuple's items: a new list, in the very next place -/
theorem collect_one {l : Addr} {T : String} {o : Obj} {n : Nat} {Q : List Value → Shared → Prop} (hT : T = "list" ∨ T = "tuple") (ho : s.heap.get? l = some o) (hc : o.cls = .type T) (hd : o.data = .seq vs.toArray n) (small : vs.length ≤ sizeLine)
    (fin : Q vs { s with heap := (s.heap.push (seqObj "list" #[] 0)).update s.heap.objs.size (Obj.mapSeq (· ++ vs.toArray)) }) : wpAny (model prog w) A (collect (.ref l)) Q E s := by
  have new : (s.heap.push (seqObj "list" #[] 0)).get? s.heap.objs.size = some (seqObj "list" #[] 0) := Heap.get?_push_size _ rfl
  have was : (s.heap.push (seqObj "list" #[] 0)).get? l = some o := Heap.get?_push_of_some _ ho
  unfold collect; refine wpAny_bind (wpAny_runValue (codeAny_builtin entry_proto_collect' ?_))
  show wpAny _ _ (do again (.builtin "list.__iadd__" ⟨[← newList [], Value.ref l], []⟩)) _ _ s
  refine wpAny_bind (wpAny_newList (wpAny_pure ⟨Code.quiet_builtin _ (by decide +kernel), codeAny_builtin entry_list_iadd' ?_⟩) (Nat.zero_le _))
  show wpAny _ _ (Builtin.List.listExtendWith (Value.ref s.heap.objs.size) (Value.ref l) (Value.ref s.heap.objs.size)) _ _ { s with heap := s.heap.push (seqObj "list" #[] 0) }
  unfold Builtin.List.listExtendWith; refine wpAny_bind (wpAny_typeOf (T := T) ⟨o, was, hc⟩ ?_)
  rw [if_pos (by rcases hT with rfl | rfl; · rw [show (Value.type "list" == Value.type "list") = true from rfl, Bool.or_true, Bool.true_or]
                 · rw [show (Value.type "tuple" == Value.type "tuple") = true from rfl, Bool.or_true])]; refine wpAny_bind (listItems_at was hd ?_); refine wpAny_bind (listItems_at (xs := #[]) (n := 0) new rfl ?_)
  rw [if_neg (by simp)]
  refine wpAny_bind (listUpdate_at (xs := #[]) (n := 0) new rfl ?_ (Nat.zero_le _) (by show (#[] ++ vs.toArray).size ≤ sizeLine + 1; simp only [Array.size_append, List.size_toArray, List.length_nil]; omega)); refine wpAny_pure ?_
  show wpAny (model prog w) A (do
      let ob ← load s.heap.objs.size
      match ob.data with | .seq xs _ => pure xs.toList | _ => unsupported "internal:collect") Q E { s with heap := (s.heap.push (seqObj "list" #[] 0)).update s.heap.objs.size (Obj.mapSeq (· ++ vs.toArray)) }
  refine wpAny_bind (wpAny_load (get?_update_seq new _) ?_); show wpAny _ _ (pure ((#[] : Array Value) ++ vs.toArray).toList) Q E _
  have e0 : ((#[] : Array Value) ++ vs.toArray).toList = vs := by simp
  rw [e0]; exact wpAny_pure fin
theorem sorted_seqD {l : Addr} {T : String} {o : Obj} {n : Nat} {rv : Bool} {kw : List (Str × Value)} {Q : Value → Shared → Prop} (hT : T = "list" ∨ T = "tuple") (ho : s.heap.get? l = some o) (hc : o.cls = .type T) (hd : o.data = .seq vs.toArray n)
    (hkw : ∀ p, Builtin.«list.sort» ⟨[.ref p], kw⟩ = Builtin.«list.sort» ⟨[.ref p], [(Str.ofString "reverse", .bool rv)]⟩) (ok1 : argsOk "sorted" ⟨[.ref l], kw⟩) (ok2 : ∀ x, argsOk "list.sort" ⟨[.ref x], kw⟩)
    (e : PySem.W.EachIs R vs bs) (er : PySem.W.EachIs (fun v b => ∃ as, Reads s.heap v (enc b) as) vs bs) (hal : PySem.W.AllAlike (bs.map enc)) (hk : PySem.W.Sortable (bs.map enc)) (hL : vs.length ≤ sizeLine) (hu : ∀ b, b ∈ bs → A.units + 2 + (enc b).depth < cLine)
    (h : ∀ h' p out c, (∀ b o, s.heap.get? b = some o → h'.get? b = some o) → s.heap.objs.size ≤ p → h'.get? p = some { cls := .type "list", data := .seq (List.toArray out) c } → PySem.W.EachIs R out (bs.mergeSort (PySem.W.dataLe rv enc)) → Q (.ref p) { s with heap := h' }) :
    wpAny (model prog w) A (call (.builtin "sorted") [.ref l] kw) Q E s := by
  refine call_function_entry_kw kind_sorted plain_sorted entry_sorted ok1 ?_
  unfold Builtin.«sorted»
  refine wpAny_bind (m := checkCount "sorted" 1 1 _) (wpAny_pure ?_)
  refine wpAny_bind (collect_one hT ho hc hd hL ?_)
  generalize hh1 : (s.heap.push (seqObj "list" #[] 0)).update s.heap.objs.size (Obj.mapSeq (· ++ vs.toArray)) = h1
  have le1 : s.heap.objs.size ≤ h1.objs.size := by rw [← hh1, Heap.size_update, size_push']; exact Nat.le_succ _
  have k1 : ∀ b u, s.heap.get? b = some u → h1.get? b = some u := fun b u q => by
    rw [← hh1, Heap.get?_update_ne _ _ _ _ (Nat.ne_of_lt (Heap.lt_size q))]; exact Heap.get?_push_of_some _ q
  refine wpAny_bind (wpAny_newList ?_ hL)
  have hp : (h1.push (seqObj "list" vs.toArray 0)).get? h1.objs.size = some (seqObj "list" vs.toArray 0) := Heap.get?_push_size _ rfl
  have old : ∀ b u, s.heap.get? b = some u → b ≠ h1.objs.size ∧ (h1.push (seqObj "list" vs.toArray 0)).get? b = some u := fun b u q => ⟨Nat.ne_of_lt (Heap.lt_size (k1 b u q)), Heap.get?_push_of_some _ (k1 b u q)⟩
  refine wpAny_bind (wpAny_holding (wpAny_call_entry_kw slot_list_sort ⟨_, hp, rfl⟩ entry_list_sort ?body (ok2 _)))
  case body =>
    have er' : PySem.W.EachIs (fun v b => ∃ as, Reads (PySem.W.sortingHeap (h1.push (seqObj "list" vs.toArray 0)) h1.objs.size vs) v (enc b) as) vs bs := er.mono fun _ _ ⟨as, r⟩ => ⟨as, PyProof.Rows.Reads.keeps (fun b u q => PySem.W.sortingHeap_old (old b u q).1 (old b u q).2) r⟩
    show wpAny (model prog w) A.in1.in1 (Builtin.«list.sort» ⟨[.ref h1.objs.size], kw⟩) _ _ _
    rw [hkw]
    refine PySem.W.list_sort_rev_vals (κ := PySem.W.dataKind (PySem.W.sortingHeap (h1.push (seqObj "list" vs.toArray 0)) h1.objs.size vs) (bs.map enc)) hp (PySem.W.SortsAt.data (s := { s with heap := PySem.W.sortingHeap (h1.push (seqObj "list" vs.toArray 0)) h1.objs.size vs }) (PySem.W.each_map (R := fun v d => ∃ as, Reads (PySem.W.sortingHeap (h1.push (seqObj "list" vs.toArray 0)) h1.objs.size vs) v d as) enc er') hal hk (PySem.W.bound_map hu)) hL ⟨_, rfl, wpAny_pure ⟨_, rfl, ?_⟩⟩
    obtain ⟨c, hc2⟩ := sortedHeap_at (vs := vs) (out := (PySem.W.sortVals (PySem.W.dataKind (PySem.W.sortingHeap (h1.push (seqObj "list" vs.toArray 0)) h1.objs.size vs) (bs.map enc)) rv vs vs).toArray) hp
    refine h _ _ _ c (fun b u q => ?_) le1 hc2 (PySem.W.sortVals_data rv e er' hal)
    rw [sortedHeap_old (old b u q).1 (Heap.lt_size (old b u q).2)]
    exact (old b u q).2
end
section
variable {X : Cx} {G : Gh}
theorem each_pairs {K : PySem.W.Frag} {H : Hp} : ∀ {ds : List D} {us : List V} {vs : List Value}, RpL K H ds us → Vals us vs → PySem.W.EachIs (fun v (b : V × D) => RelV b.1 v) vs (us.zip ds)
  | _, _, _, .nil, .nil => .nil
  | _, _, _, .cons _ l, .cons r t => .cons r (each_pairs l t)
theorem each_reads {pins : List (Addr × Obj)} {s : Shared} {σ : St} {H : Hp} (I : Inv X pins σ H s) : ∀ {ds : List D} {us : List V} {vs : List Value}, (∀ d ∈ ds, d.canLay0 = true) → RpL X.K H ds us → Vals us vs → PySem.W.EachIs (fun v (b : V × D) => ∃ as, Reads s.heap v b.2 as) vs (us.zip ds)
  | _, _, _, _, .nil, .nil => .nil
  | _, _, _, z, .cons h l, .cons r t => .cons (Dp.reads I _ _ _ (h.dp (z _ (List.mem_cons_self ..))) r) (each_reads I (fun d hd => z d (List.mem_cons_of_mem _ hd)) l t)
theorem each_vals : ∀ {bs : List (V × D)} {vs : List Value}, PySem.W.EachIs (fun v (b : V × D) => RelV b.1 v) vs bs → Vals (bs.map (·.1)) vs
  | _, _, .nil => .nil
  | _, _, .cons r t => .cons r (each_vals t)
theorem zip_rp {K : PySem.W.Frag} {H : Hp} : ∀ {ds : List D} {us : List V}, RpL K H ds us → ∀ b ∈ us.zip ds, Rp K H b.2 b.1
  | _, _, .nil, b, hb => by simp at hb
  | _, _, .cons r l, b, hb => by
    rw [List.zip_cons_cons] at hb
    rcases List.mem_cons.mp hb with e | e
    · subst e; exact r
    · exact zip_rp l b e
theorem rp_zip {K : PySem.W.Frag} {H : Hp} : ∀ {bs : List (V × D)}, (∀ b ∈ bs, Rp K H b.2 b.1) → RpL K H (bs.map (·.2)) (bs.map (·.1))
  | [], _ => .nil
  | b :: bs, h => .cons (h b List.mem_cons_self) (rp_zip fun c hc => h c (List.mem_cons_of_mem _ hc))
theorem zip_snd2 {K : PySem.W.Frag} {H : Hp} {ds : List D} {us : List V} (l : RpL K H ds us) : (us.zip ds).map (·.2) = ds := by
  have := l.length
  rw [List.map_snd_zip (by omega)]
theorem le_snd (rv : Bool) : ∀ a b : V × D, PySem.W.dataLe rv (fun b : V × D => b.2) a b = PySem.W.dataLe rv (fun d : D => d) a.2 b.2 := fun _ _ => rfl
/-- sorted: the data in order -/
def sortD (rv : Bool) (xs : List D) : List D := xs.mergeSort (PySem.W.dataLe rv fun d : D => d)
def sortOk (xs : List D) : Prop := PySem.W.AllAlike xs ∧ PySem.W.Sortable xs ∧ ∀ d ∈ xs, d.depth ≤ 60 ∧ d.canLay0 = true
theorem sorted_run {rv : Bool} {kw : List (Str × Value)} (hu : X.A.units + 65 < cLine) {pins : List (Addr × Obj)} {s : Shared} {σ : St} {H : Hp} {a : Addr} {us : List V} {ds : List D} {Q : VK} (I : Inv X pins σ H s)
    (hs : SqL X.K H a us ∨ SqT X.K H a us) (l : RpL X.K H ds us) (ok : sortOk ds)
    (hkw : ∀ p, Builtin.«list.sort» ⟨[.ref p], kw⟩ = Builtin.«list.sort» ⟨[.ref p], [(Str.ofString "reverse", .bool rv)]⟩) (ok1 : argsOk "sorted" ⟨[.ref a], kw⟩) (ok2 : ∀ x, argsOk "list.sort" ⟨[.ref x], kw⟩)
    (q : ∀ ws p, H p = none → RpL X.K H (sortD rv ds) ws → Q (.ref p) (upd H p (.lst ws))) : wpAny (model X.prog X.w) X.A (call (.builtin "sorted") [.ref a] kw) (EP X pins σ Q) X.xe s := by
  obtain ⟨T, o, n, its, hT, ho, hc, hd, r, hz⟩ : ∃ (T : String) (o : Obj) (n : Nat) (its : List Value), (T = "list" ∨ T = "tuple") ∧ s.heap.get? a = some o ∧ o.cls = .type T ∧ o.data = .seq its.toArray n ∧ Vals us its ∧ us.length ≤ sizeLine := by
    rcases hs with hs | hs
    · obtain ⟨its, r, ⟨o, n, ho, hc, _, hd⟩, hz⟩ := I.list hs
      exact ⟨"list", o, n, its, .inl rfl, ho, hc, hd, r, hz⟩
    · obtain ⟨its, r, ⟨o, ho, hc, n, hd⟩, hz⟩ := I.tuple hs
      exact ⟨"tuple", o, n, its, .inr rfl, ho, hc, hd, r, hz⟩
  have e2 := zip_snd2 l
  refine sorted_seqD (enc := fun b : V × D => b.2) (R := fun v b => RelV b.1 v) (bs := us.zip ds) hT ho hc hd hkw ok1 ok2 (each_pairs l r) (each_reads I (fun d hd => (ok.2.2 d hd).2) l r) (by rw [e2]; exact ok.1) (by rw [e2]; exact ok.2.1) (by rw [← r.length]; exact hz) (fun b hb => ?_) fun h' p out c k1 hp hp2 eo => ?_
  · have := (ok.2.2 b.2 (by rw [← e2]; exact List.mem_map_of_mem hb)).1; omega
  · have rv1 := each_vals eo
    have hn : H p = none := I.hok.fresh hp
    have mem : ∀ b ∈ (us.zip ds).mergeSort (PySem.W.dataLe rv fun b : V × D => b.2), Rp X.K H b.2 b.1 := fun b hb => zip_rp l b ((List.mergeSort_perm _ _).mem_iff.mp hb)
    have e3 : ((us.zip ds).mergeSort (PySem.W.dataLe rv fun b : V × D => b.2)).map (·.2) = sortD rv ds := by
      unfold sortD
      rw [PySem.W.sort_maps (s := PySem.W.dataLe rv fun d : D => d) (fun b : V × D => b.2) (fun a _ b _ => le_snd rv a b), e2]
    have hr := rp_zip mem
    rw [e3] at hr
    have hlen : (((us.zip ds).mergeSort (PySem.W.dataLe rv fun b : V × D => b.2)).map (·.1)).length ≤ sizeLine := by
      rw [List.length_map, (List.mergeSort_perm _ _).length_eq, List.length_zip]; omega
    exact ⟨.ref p, upd H p (.lst _), I.laid (t' := s.toks) k1 hp ⟨hlen, out, c, rv1, hp2⟩, rfl, q _ p hn hr⟩
def caSorted : CaL := fun ds Q => match ds with
  | [.list xs] => sortOk xs ∧ Q (sortD false xs)
  | [.tuple xs] => sortOk xs ∧ Q (sortD false xs)
  | _ => False
theorem cr_sortedD (hu : X.A.units + 65 < cLine) : CallR X (.builtin "sorted") (fun vs H Q => ∃ (a : Addr) (us : List V) (ds : List D), vs = [.ref a] ∧ (SqL X.K H a us ∨ SqT X.K H a us) ∧ RpL X.K H ds us ∧ sortOk ds ∧ ∀ ws p, H p = none → RpL X.K H (sortD false ds) ws → Q (.ref p) (upd H p (.lst ws))) := by
  intro pins s σ H vs us Q I r h
  obtain ⟨a, ws, ds, rfl, hs, l, ok, q⟩ := h
  obtain rfl := Vals.ref1 r
  exact DL.sorted_run hu I hs l ok (fun p => PySem.W.plain_is_rev p) (args_sorted1 _) (fun _ => args_list_sort _) q
theorem cd_sorted (hu : X.A.units + 65 < cLine) : CaLD X (.builtin "sorted") caSorted := ⟨_, cr_sortedD hu, fun ds vs H QD Q hd q k => by
  match ds, q, hd with
  | [.list xs], q, hd =>
    obtain ⟨v, rfl, h⟩ := hd.one
    obtain ⟨a, us, rfl, hs, l⟩ := h.list
    exact ⟨a, us, xs, rfl, .inl hs, l, q.1, fun ws p hp hr => k _ _ _ q.2 hp hr⟩
  | [.tuple xs], q, hd =>
    obtain ⟨v, rfl, h⟩ := hd.one
    obtain ⟨a, us, rfl, hs, l⟩ := h.tuple
    exact ⟨a, us, xs, rfl, .inr hs, l, q.1, fun ws p hp hr => k _ _ _ q.2 hp hr⟩⟩
end
end DL
set_option Elab.async false
set_option linter.all false
set_option maxRecDepth 100000
set_option maxHeartbeats 1000000
/-! DL16: enumerate(t) of a tuple; count, index. -/
namespace DL
open PySem PySem.Spec PyProof.Rows L2 AutoSeq1
section
theorem meets_enumT (l : Addr) (items : Array Value) (n : Nat) (dct : Option Addr) (sl : Array (Option Value)) :
    Meets (Builtin.«enumerate.__new__» ⟨[.type "enumerate", .ref l], []⟩) (fun _ R s => s.heap.get? l = some { cls := .type "tuple", dict := dct, data := .seq items n, slots := sl } ∧
      R (.ok (.ret (.ref (s.heap.push { cls := .type "tuple_iterator", data := .fields #[.ref l, .int 0 0] }).objs.size)))
        { s with heap := (s.heap.push { cls := .type "tuple_iterator", data := .fields #[.ref l, .int 0 0] }).push { cls := .type "enumerate", data := .fields #[.none, .bool false, .ref s.heap.objs.size, rawInt 0, .none, .none] } }) :=
  .of_wp fun prog w A R s h => by
    obtain ⟨hp, g, d, tk, os⟩ := s; obtain ⟨hl, h⟩ := h
    have subE := sub_enumerate; have isT : Heap.IsTuple (Shared.heap ⟨hp, g, d, tk, os⟩) l items := ⟨_, hl, rfl, n, rfl⟩
    wp_walk using wpAny_loadPart' hl
    refine wpAny_stack_any fun st => wpAny_pure ?_
    split
    · rename_i c _ _ _ _ _
      cases (c == Value.type "enumerate") <;> (wp_walk using wpAny_loadPart' hl, wpAny_pyIter_tuple isT; exact ⟨_, rfl, h⟩)
    · wp_walk using wpAny_loadPart' hl, wpAny_pyIter_tuple isT; exact ⟨_, rfl, h⟩
variable {prog : Program} {w : World} {A : Around} {E : Value → Shared → Prop} {s : Shared}
theorem call_enumT {l : Addr} {items : Array Value} {Q : Value → Shared → Prop} (hL : s.heap.IsTuple l items)
    (fin : ∀ h', IsEnum h' (s.heap.objs.size + 1) s.heap.objs.size 0 .none → h'.IsTupleIter s.heap.objs.size l 0 → (∀ b o, s.heap.get? b = some o → h'.get? b = some o) → Q (.ref (s.heap.objs.size + 1)) { s with heap := h' }) :
    wpAny (model prog w) A (call (.type "enumerate") [.ref l]) Q E s := by
  obtain ⟨⟨c, dct, dt, sl⟩, hl, hc, n, hd⟩ := hL
  obtain rfl : c = .type "tuple" := hc
  obtain rfl : dt = .seq items n := hd
  refine callType_new F.called_enumerate (by decide) (F.typeCall_enumerate_1 _) (F.newCall_enumerate_1 _) (fun obj => F.args_object_init_2 obj _) F.entry_enumerate_new (meets_enumT l items n dct sl) ⟨hl, ?_⟩
  have z1 : (s.heap.push { cls := .type "tuple_iterator", data := .fields #[.ref l, .int 0 0] }).objs.size = s.heap.objs.size + 1 := Heap.size_push ..
  show _ ∧ _
  rw [z1]
  have is : IsEnum ((s.heap.push { cls := .type "tuple_iterator", data := .fields #[.ref l, .int 0 0] }).push { cls := .type "enumerate", data := .fields #[.none, .bool false, .ref s.heap.objs.size, rawInt 0, .none, .none] }) (s.heap.objs.size + 1) s.heap.objs.size 0 .none := by
    have q := Heap.get?_push_size (s.heap.push { cls := .type "tuple_iterator", data := .fields #[.ref l, .int 0 0] }) (o := { cls := .type "enumerate", data := .fields #[.none, .bool false, .ref s.heap.objs.size, rawInt 0, .none, .none] }) rfl
    rw [z1] at q; exact q
  exact ⟨⟨_, is, rfl⟩, fin _ is ⟨_, Heap.get?_push_of_some _ (Heap.get?_push_size _ rfl), rfl, rfl⟩ fun b o x => Heap.get?_push_of_some _ (Heap.get?_push_of_some _ x)⟩
end
/-- the tuple at a, each item in a new pair with its number -/
def IteT (K : PySem.W.Frag) (a : Addr) : It :=
  ⟨fun i H => ∃ (xs : List V) (x : V), SqT K H a xs ∧ xs[i]? = some x, fun i H v H' => ∃ T x, v = .ref T ∧ H T = none ∧ H' = upd H T (.tup [.int (i : Nat), x]) ∧ ∀ xs, SqT K H a xs → xs[i]? = some x, fun i H => ∃ xs : List V, SqT K H a xs ∧ xs.length = i⟩
theorem turn_enumT {P : Program} {w : World} {K : PySem.W.Frag} {elts : List Expr} {kk : Nat} {tpos : Pos} (a e it : Addr) :
    Turn P w K (.Tuple elts kk tpos) (IteT K a) [e, it] e (fun i h => (∃ old, IsEnum h e it ((i : Nat) : Int) old) ∧ h.IsTupleIter it a i ∧ e ≠ it ∧ a ≠ it ∧ a ≠ e) where
  mem := by simp
  obj := fun i h st b hb => by
    obtain ⟨⟨old, he⟩, ⟨o, ho, hc, hd⟩, _⟩ := st
    rcases (show b = e ∨ b = it by simpa using hb) with z | z
    · rw [z]; exact ⟨_, he, fun v q => nomatch q⟩
    · rw [z]; exact ⟨o, ho, fun v q => by rw [hd] at q; cases q⟩
  keep := fun i h h' st k => let ⟨⟨old, he⟩, hi, hne⟩ := st; ⟨⟨old, k e (by simp) _ he⟩, hi.at fun o q => k it (by simp) o q, hne⟩
  item := by
    intro X hP hw hK hc i pins s σ H E I hf st hg
    subst hP hw hK
    obtain ⟨⟨old, he⟩, hit, hne, hai, hae⟩ := st
    obtain ⟨xs, x, hq, hx⟩ := hg
    obtain ⟨its, rv, p, hz⟩ := I.tuple hq
    obtain ⟨u, hu, ru⟩ := rv.get hx
    have hel : e < s.heap.objs.size := Heap.lt_size he
    have hil : it < s.heap.objs.size := by obtain ⟨_, q, _⟩ := hit; exact Heap.lt_size q
    have lt : i < its.toArray.size := by simpa using (List.getElem?_eq_some_iff.mp hu).1
    have nf : e ∉ [it, a] := by simp; exact ⟨hne, Ne.symm hae⟩
    refine wpAny_pyNext_enum_itemD (Draws.tuple (A := X.A.in1) (I.ok.hd hc) it a hai its.toArray) he ⟨hit, p⟩ lt hne nf fun u2 h' tk hP2 ho hit' hT hsz hk => ?_
    obtain rfl : u2 = u := by
      have : its[i]? = some u2 := by simpa using hP2
      rw [hu] at this; exact (Option.some.inj this).symm
    refine ⟨_, rfl, wpAny_letOwnedTupleGo_enum (s := { s with heap := h', toks := tk + 1 }) ho fun h'' he' sb => ?_⟩
    have hT2 : h''.get? s.heap.objs.size = some { cls := .type "tuple", data := .seq #[.int i tk, u2] } := (sb.2 _ (Nat.ne_of_gt hel)).trans hT
    have new : ObjOk X.prog X.w (upd H s.heap.objs.size (.tup [.int (i : Nat), x])) h'' s.heap.objs.size (.tup [.int (i : Nat), x]) := ⟨by show 2 ≤ sizeLine; decide, [.int i tk, u2], .cons ⟨_, rfl⟩ (.cons ru .nil), ⟨_, hT2, rfl, _, rfl⟩⟩
    have I1 : Inv X pins σ (upd H s.heap.objs.size (.tup [.int (i : Nat), x])) { s with heap := h'', toks := tk + 1 } :=
      I.turnedNew (ch := [e, it]) (fun b ob hb q => (sb.2 b (fun z => hb (by simp [z]))).trans (hk b ob (fun z => hb (by simp [z])) (fun z => hb (by simp [z])) q)) hf (Nat.le_refl _) new
    refine ⟨.ref s.heap.objs.size, _, I1, rfl, ⟨_, x, rfl, I.hok.fresh (Nat.le_refl _), rfl, fun ys hy => by rw [I.tuple_inj hy hq]; exact hx⟩, ⟨⟨u2, ?_⟩, hit'.1.at fun o q => (sb.2 it (Ne.symm hne)).trans q, hne, hai, hae⟩, fun b hb => ?_⟩
    · rw [show ((i + 1 : Nat) : Int) = (i : Int) + 1 by omega]; exact he'
    · have hb' : b < s.heap.objs.size := by rcases (show b = e ∨ b = it by simpa using hb) with z | z <;> rw [z] <;> assumption
      rw [upd_ne (Nat.ne_of_lt hb')]; exact (hf b hb).1
  done := by
    intro X hP hw hK hc i pins s σ H E I hf st hg
    subst hP hw hK
    obtain ⟨⟨old, he⟩, hit, hne, hai, hae⟩ := st
    obtain ⟨xs, hq, hx⟩ := hg
    obtain ⟨its, rv, p, hz⟩ := I.tuple hq
    obtain ⟨f0, f1, f2, f3, f4, f5⟩ := hf it (by simp)
    have hl := rv.length
    subst hx
    have hit2 : s.heap.IsTupleIter it a its.toArray.size := by rw [List.size_toArray, ← hl]; exact hit
    exact wpAny_pyNext_enum_endD (Draws.tuple (A := X.A.in1) (I.ok.hd hc) it a hai its.toArray) he ⟨hit2, p⟩ fun h' eb => ⟨rfl, I.turned (t' := s.toks) (fun b o hb q => eb b o hb q) f0 f1 f3 f4 f5⟩
  self := fun A i s Q E st h => let ⟨⟨_, he⟩, _⟩ := st; wpAny_pyIter_enum he h
section
variable {X : Cx} {G : Gh} {e : Expr} {p pos tpos : Pos} {elts : List Expr} {kk : Nat}
theorem pi_enumT {ta : TA} (hg : Gl X "enumerate") (hm : X.mg "enumerate" = none) (ha : PA X [e] ta) (hs : starEach [e] X.env = [(false, eval e X.env)] := by rfl) :
    PI X (.Tuple elts kk tpos) (.Call (.Name "enumerate" p) [e] [] pos) (fun σ H R => ta σ H fun vs H1 => ∃ a xs, vs = [.ref a] ∧ SqT X.K H1 a xs ∧ R (IteT X.K a) H1) := by
  refine ⟨fun pins s σ H R I h => Call_ (ld_blt I hg hm boot_enumerate (PyProof.Rows.callWith_type1 (thn (ha.run pos pins s σ H _ I h) fun us s1 ⟨vs, H1, I1, r1, q1⟩ => ?_) hs rfl))⟩
  obtain ⟨a, xs, rfl, hq, q⟩ := q1
  obtain rfl := Vals.ref1 r1
  obtain ⟨its, rv, pt, hz⟩ := I1.tuple hq
  have lta : a < s1.heap.objs.size := by obtain ⟨o, ho, _⟩ := pt; exact Heap.lt_size ho
  refine call_enumT pt fun h' he hit hk => wpAny_pyIter_enum he ?_
  have I2 : Inv X pins σ H1 { s1 with heap := h' } := I1.kept (t' := s1.toks) hk
  refine ⟨s1.heap.objs.size + 1, [s1.heap.objs.size + 1, s1.heap.objs.size], _, _, H1, rfl, I2, turn_enumT a (s1.heap.objs.size + 1) s1.heap.objs.size, ⟨⟨.none, he⟩, hit, Nat.succ_ne_self _, Nat.ne_of_lt lta, Nat.ne_of_lt (Nat.lt_succ_of_lt lta)⟩, fun b hb => ?_, q⟩
  have hle : s1.heap.objs.size ≤ b := by rcases (show b = s1.heap.objs.size + 1 ∨ b = s1.heap.objs.size by simpa using hb) with z | z <;> rw [z]; exact Nat.le_succ _; exact Nat.le_refl _
  exact I1.fpOk hle (I1.hok.fresh hle)
def enumD (xs : List D) : List D := xs.zipIdx.map fun p => .tuple [.int ((p.2 : Nat) : Int), p.1]
theorem enumD_len (xs : List D) : (enumD xs).length = xs.length := by simp [enumD]
theorem enumD_get {xs : List D} {i : Nat} {d : D} (h : xs[i]? = some d) : (enumD xs)[i]? = some (.tuple [.int (i : Int), d]) := by
  unfold enumD
  rw [List.getElem?_map, List.getElem?_zipIdx, h]; simp
def iEnumT (t : TD) : TDs := fun E Q => t E fun d E1 => match d with
  | .tuple ds => Q (enumD ds) E1
  | _ => False
def iEnumL (t : TD) : TDs := fun E Q => t E fun d E1 => match d with
  | .list ds => Q (enumD ds) E1
  | _ => False
theorem walkD_enumT {K : PySem.W.Frag} {H : Hp} {a : Addr} {vs : List V} {ds : List D} (h : SqT K H a vs) (l : RpL K H ds vs) : WalkD true K (IteT K a) H (enumD ds) where
  goes := fun i H' x hi => by
    rw [enumD_len, l.length] at hi
    exact ⟨vs, vs[i], SqT.ext x h, List.getElem?_eq_getElem hi⟩
  yld := fun i H' v H2 x hi hy => by
    obtain ⟨T, v1, rfl, hT, rfl, e1⟩ := hy
    obtain ⟨d, hd, p⟩ := l.getV (e1 vs (SqT.ext x h))
    have px := PExt.new (o := .tup [.int (i : Nat), v1]) hT
    exact ⟨px, _, enumD_get hd, .pair (SqT.of upd_same) (.cons (.int _) (.cons ((p.ext x).ext px.ext) .nil))⟩
  stops := fun H' x => ⟨vs, SqT.ext x h, by rw [enumD_len, l.length]⟩
theorem walkD_enumL {K : PySem.W.Frag} {H : Hp} {a : Addr} {vs : List V} {ds : List D} (h : LsF K H a vs) (l : RpL K H ds vs) : WalkD true K (Ite K a) H (enumD ds) where
  goes := fun i H' x hi => by
    rw [enumD_len, l.length] at hi
    exact ⟨vs, vs[i], (LsF.ext x h).sq, List.getElem?_eq_getElem hi⟩
  yld := fun i H' v H2 x hi hy => by
    obtain ⟨T, v1, rfl, hT, rfl, e1⟩ := hy
    obtain ⟨d, hd, p⟩ := l.getV (e1 vs (LsF.ext x h).sq)
    have px := PExt.new (o := .tup [.int (i : Nat), v1]) hT
    exact ⟨px, _, enumD_get hd, .pair (SqT.of upd_same) (.cons (.int _) (.cons ((p.ext x).ext px.ext) .nil))⟩
  stops := fun H' x => ⟨vs, (LsF.ext x h).sq, by rw [enumD_len, l.length]; exact Nat.le_refl _⟩
theorem id_enumT {t : TD} (h : ED X G e t) (hg : Gl X "enumerate") (hm : X.mg "enumerate" = none) (hs : starEach [e] X.env = [(false, eval e X.env)] := by rfl) : ID X G true (.Tuple elts kk tpos) (.Call (.Name "enumerate" p) [e] [] pos) (iEnumT t) :=
  ⟨PI.weak (pi_enumT hg hm (pa_cons h.pe pa_nil hs) hs) fun σ H R ⟨E, QE, r, q, k⟩ => ⟨E, _, r, q, fun d E1 v H1 q1 x1 r1 p1 => by
    cases p1 with
    | tup hs l => exact ⟨_, _, rfl, hs.1, k _ _ _ _ q1 x1 r1 (walkD_enumT hs.1 l)⟩
    | _ => exact q1.elim⟩⟩
theorem id_enumL {t : TD} (h : ED X G e t) (hg : Gl X "enumerate") (hm : X.mg "enumerate" = none) (hs : starEach [e] X.env = [(false, eval e X.env)] := by rfl) : ID X G true (.Tuple elts kk tpos) (.Call (.Name "enumerate" p) [e] [] pos) (iEnumL t) :=
  ⟨PI.weak (pi_enum hg hm (pa_cons h.pe pa_nil hs) hs) fun σ H R ⟨E, QE, r, q, k⟩ => ⟨E, _, r, q, fun d E1 v H1 q1 x1 r1 p1 => by
    cases p1 with
    | lst hs l => exact ⟨_, _, rfl, hs.sq, k _ _ _ _ q1 x1 r1 (walkD_enumL hs l)⟩
    | _ => exact q1.elim⟩⟩
end
end DL
set_option Elab.async false
set_option linter.all false
set_option maxRecDepth 100000
set_option maxHeartbeats 1000000
/-! DL17: count, index; x or y, not x by truth; sorted(.., reverse=True). -/
namespace DL
open PySem PySem.Spec PyProof.Rows L2
section
variable {X : Cx} {G : Gh} {a b e o : Expr} {es : List Expr} {pos p apos cpos : Pos}
/-! ### methods of tuples -/
theorem SqD.is {pins : List (Addr × Obj)} {s : Shared} {σ : St} {H : Hp} {p : Addr} {xs : List V} (I : Inv X pins σ H s) (h : SqD X.K H p xs) : s.TypeIs (.ref p) "tuple" ∧ ∃ ob, s.heap.get? p = some ob ∧ ob.dict = none := by
  obtain ⟨its, r, ⟨o, ho, hc, _⟩, hz⟩ := I.tuple h.1
  refine ⟨⟨o, ho, hc⟩, ?_⟩
  rcases h.2 with ⟨o2, u, e2, d2⟩ | ⟨o2, e2, d2⟩
  · exact ⟨o2, (I.hok _ _ e2).1, d2⟩
  · exact ⟨o2, I.kIn _ _ e2, d2⟩
theorem pe_bmT {name : Str} {id : String} {r : V → List V → Hp → VK → Prop} {to : TE} {t : TA} (slot : Slot "tuple" name id) (hty : typeOf (.builtin id) = pure (.type "method_descriptor")) (hm : MtR X id r) (ho : PE X o to) (ha : PA X [e] t)
    (hbase : attributeBase o name X.env (eval o X.env) = eval o X.env := by rfl)
    (hfew : ((backTo cpos (starEach [e] X.env)).all (fun x => !x.1) && (backToKw cpos (keywordEach [] X.env)).all (fun x => x.1.isSome) && decide (([e] : List Expr).length + ([] : List Keyword).length + (if ([] : List Keyword).isEmpty then 0 else 1) < 30)) = true := by rfl)
    (hline : (apos.endLine == cpos.line) = true := by rfl) (hs : starEach [e] X.env = (false, eval e X.env) :: starEach [] X.env := by rfl) (hplain : (backTo cpos (starEach [] X.env)).any (·.1) = false := by rfl) :
    PE X (.Call (.Attribute o name apos) [e] [] cpos) (fun σ H Q => to σ H fun x H1 => (∃ p xs, x = .ref p ∧ SqD X.K H1 p xs) ∧ t σ H1 fun xs H2 => r x xs H2 Q) := by
  refine ⟨fun pins s σ H Q I h => wpAny_Call_method_late hbase hfew hline rfl (thn (ho.run pins s σ H _ I h) fun v s1 ⟨x, H1, I1, r1, ty, q1⟩ => ?_)⟩
  obtain ⟨p0, xs0, rfl, hd⟩ := ty
  obtain rfl : v = Value.ref p0 := r1
  obtain ⟨h1, h2⟩ := hd.is I1
  refine ⟨"tuple", id, PySem.F.plainAttrs_tuple, slot, hty, h1, fun a ea => by cases ea; exact h2, ?_⟩
  have hA := ha.run cpos pins s1 σ H1 _ I1 q1
  rw [hs] at hA ⊢
  exact Calls.callWith_builtin (by show (false || (backTo cpos (starEach [] X.env)).any (·.1)) = false; rw [hplain] <;> rfl) (Calls.evalArgs_plain (thn hA fun us s2 ⟨vs, H2, I2, r2, q2⟩ => hm pins s2 σ H2 (.ref p0) vs _ us Q I2 rfl r2 q2))
def okAll (xs : List D) (y : D) : Prop := xs.all (shOk 60) = true ∧ shOk 60 y = true
theorem okAll.sp {xs : List D} {y : D} (h : okAll xs y) (hu : X.A.units + 65 < cLine) : PyData.canLayAll0 xs = true ∧ y.canLay0 = true ∧ X.A.units + 1 + min (PyData.depthAll xs) y.depth < cLine := by
  have ⟨a, b⟩ := shOk_spec 60 y h.2
  have c := (shOk_all (shOk_spec 60) xs h.1).1
  have : min (PyData.depthAll xs) y.depth ≤ y.depth := Nat.min_le_right _ _
  exact ⟨c, a, by omega⟩
def cntD (xs : List D) (y : D) : Nat := xs.countP fun z => PyData.eqv z y
def rCnt (S : PySem.W.Frag → Hp → Addr → List V → Prop) (K : PySem.W.Frag) : V → List V → Hp → VK → Prop := fun x xs H Q => ∃ (p : Addr) (us : List V) (ds : List D) (y : V) (d : D), x = .ref p ∧ xs = [y] ∧ S K H p us ∧ RpL K H ds us ∧ Rp K H d y ∧ okAll ds d ∧ Q (.int (cntD ds d : Nat)) H
theorem mt_countL (hu : X.A.units + 65 < cLine) : MtR X "list.count" (rCnt SqL X.K) := by
  intro pins s σ H x xs v us Q I rx rxs h
  obtain ⟨p, ws, ds, y, d, rfl, rfl, hs, l, hy, ok, q⟩ := h
  obtain rfl : v = Value.ref p := rx
  obtain ⟨u, rfl, ru⟩ := rxs.one
  obtain ⟨its, rv, pl, hz⟩ := I.list hs
  obtain ⟨c1, c2, c3⟩ := ok.sp hu
  obtain ⟨as, r1⟩ := Dp.readsAll I ds _ its (l.dp c1) rv
  obtain ⟨bs, r2⟩ := Dp.reads I d y u (hy.dp c2) ru
  exact SeqAt.count_list_data pl.isList (by simpa using r1) r2 (PyData.plainAll_of_canLay0 _ c1) (PyData.plain_of_canLay0 _ c2) c3 ⟨.int _, H, I.tok _, ⟨_, rfl⟩, q⟩
theorem mt_countT (hu : X.A.units + 65 < cLine) : MtR X "tuple.count" (rCnt SqT X.K) := by
  intro pins s σ H x xs v us Q I rx rxs h
  obtain ⟨p, ws, ds, y, d, rfl, rfl, hs, l, hy, ok, q⟩ := h
  obtain rfl : v = Value.ref p := rx
  obtain ⟨u, rfl, ru⟩ := rxs.one
  obtain ⟨its, rv, pl, hz⟩ := I.tuple hs
  obtain ⟨c1, c2, c3⟩ := ok.sp hu
  obtain ⟨as, r1⟩ := Dp.readsAll I ds _ its (l.dp c1) rv
  obtain ⟨bs, r2⟩ := Dp.reads I d y u (hy.dp c2) ru
  exact SeqAt.count_tuple_data pl (by simpa using r1) r2 (PyData.plainAll_of_canLay0 _ c1) (PyData.plain_of_canLay0 _ c2) c3 ⟨.int _, H, I.tok _, ⟨_, rfl⟩, q⟩
/-- xs.index(y): the first place of an equal one -/
def idxOk (xs : List D) (y : D) (j : Nat) : Prop := (∃ z, xs[j]? = some z ∧ PyData.eqv z y = true) ∧ ∀ m z, m < j → xs[m]? = some z → PyData.eqv z y = false
def tCountT (ta tb : TD) : TD := fun E Q => ta E fun x E1 => match x with
  | .tuple xs => tb E1 fun y E2 => okAll xs y ∧ Q (.int (cntD xs y : Nat)) E2
  | _ => False
def tCountL (ta tb : TD) : TD := fun E Q => ta E fun x E1 => match x with
  | .list xs => tb E1 fun y E2 => okAll xs y ∧ Q (.int (cntD xs y : Nat)) E2
  | _ => False
def tIndexT (ta tb : TD) : TD := fun E Q => ta E fun x E1 => match x with
  | .tuple xs => tb E1 fun y E2 => ∃ j, okAll xs y ∧ idxOk xs y j ∧ Q (.int (j : Nat)) E2
  | _ => False
def tIndexL (ta tb : TD) : TD := fun E Q => ta E fun x E1 => match x with
  | .list xs => tb E1 fun y E2 => ∃ j, okAll xs y ∧ idxOk xs y j ∧ Q (.int (j : Nat)) E2
  | _ => False
section
variable {ta tb : TD}
theorem ed_countT (hu : X.A.units + 65 < cLine) (ho : ED X G o ta) (he : ED X G e tb) (hbase : attributeBase o "count" X.env (eval o X.env) = eval o X.env := by rfl)
    (hfew : ((backTo cpos (starEach [e] X.env)).all (fun x => !x.1) && (backToKw cpos (keywordEach [] X.env)).all (fun x => x.1.isSome) && decide (([e] : List Expr).length + ([] : List Keyword).length + (if ([] : List Keyword).isEmpty then 0 else 1) < 30)) = true := by rfl)
    (hline : (apos.endLine == cpos.line) = true := by rfl) (hs : starEach [e] X.env = (false, eval e X.env) :: starEach [] X.env := by rfl) (hplain : (backTo cpos (starEach [] X.env)).any (·.1) = false := by rfl) :
    ED X G (.Call (.Attribute o "count" apos) [e] [] cpos) (tCountT ta tb) :=
  ⟨PE.weak (pe_bmT PySem.F.slot_tuple_count PySem.F.type_tuple_count (mt_countT hu) ho.pe (pa_cons he.pe pa_nil hs) hbase hfew hline hs hplain) fun σ H Q ⟨E, QE, r, q, k⟩ => ⟨E, _, r, q, fun x E1 v H1 q1 x1 r1 p1 => by
    cases p1 with
    | tup hd l => exact ⟨⟨_, _, rfl, hd⟩, E1, _, r1, q1, fun y E2 w H2 q2 x2 r2 p2 => ⟨_, _, _, w, y, rfl, rfl, (hd.ext x2).1, l.ext x2, p2, q2.1, k _ _ _ _ q2.2 (x1.trans x2) r2 (.int _)⟩⟩
    | _ => exact q1.elim⟩⟩
theorem ed_countL (hu : X.A.units + 65 < cLine) (ho : ED X G o ta) (he : ED X G e tb) (hbase : attributeBase o "count" X.env (eval o X.env) = eval o X.env := by rfl)
    (hfew : ((backTo cpos (starEach [e] X.env)).all (fun x => !x.1) && (backToKw cpos (keywordEach [] X.env)).all (fun x => x.1.isSome) && decide (([e] : List Expr).length + ([] : List Keyword).length + (if ([] : List Keyword).isEmpty then 0 else 1) < 30)) = true := by rfl)
    (hline : (apos.endLine == cpos.line) = true := by rfl) (hs : starEach [e] X.env = (false, eval e X.env) :: starEach [] X.env := by rfl) (hplain : (backTo cpos (starEach [] X.env)).any (·.1) = false := by rfl) :
    ED X G (.Call (.Attribute o "count" apos) [e] [] cpos) (tCountL ta tb) :=
  ⟨PE.weak (pe_bm PySem.F.plainAttrs_list PySem.F.slot_list_count PySem.F.type_list_count (mt_countL hu) ho.pe (pa_cons he.pe pa_nil hs) hbase hfew hline hs hplain) fun σ H Q ⟨E, QE, r, q, k⟩ => ⟨E, _, r, q, fun x E1 v H1 q1 x1 r1 p1 => by
    cases p1 with
    | lst hd l => exact ⟨.inl ⟨rfl, _, hd.sq⟩, E1, _, r1, q1, fun y E2 w H2 q2 x2 r2 p2 => ⟨_, _, _, w, y, rfl, rfl, (LsF.ext x2 hd).sq, l.ext x2, p2, q2.1, k _ _ _ _ q2.2 (x1.trans x2) r2 (.int _)⟩⟩
    | _ => exact q1.elim⟩⟩
end
/-! ### truth -/
def tOrT (t u : TD) : TD := fun E Q => t E fun x E1 => match truD x with
  | some c => okLen x ∧ if c = true then Q x E1 else u E1 Q
  | none => False
def tAndT (t u : TD) : TD := fun E Q => t E fun x E1 => match truD x with
  | some c => okLen x ∧ if c = true then u E1 Q else Q x E1
  | none => False
def tNotT (t : TD) : TD := fun E Q => t E fun x E1 => match truD x with
  | some c => okLen x ∧ Q (.bool (!c)) E1
  | none => False
/-! ### sorted(xs, reverse=True) -/
def tSortRev (ta : TD) : TLd := fun E Q => ta E fun x E1 => match x with
  | .list xs => sortOk xs ∧ Q (sortD true xs) E1
  | .tuple xs => sortOk xs ∧ Q (sortD true xs) E1
  | _ => False
theorem cr_sortedRevD (hu : X.A.units + 65 < cLine) : CallRK X (.builtin "sorted") [Str.ofString "reverse"] (fun vs zs H Q => ∃ (a : Addr) (us : List V) (ds : List D), vs = [.ref a] ∧ zs = [.bl true] ∧ (SqL X.K H a us ∨ SqT X.K H a us) ∧ RpL X.K H ds us ∧ sortOk ds ∧ ∀ ws p, H p = none → RpL X.K H (sortD true ds) ws → Q (.ref p) (upd H p (.lst ws))) := by
  intro pins s σ H vs zs us ws Q I r rz h
  obtain ⟨a, us', ds, rfl, rfl, hs, l, ok, q⟩ := h
  obtain rfl := Vals.ref1 r
  obtain ⟨w1, rfl, e1⟩ := vals1 rz
  obtain rfl : w1 = Value.bool true := e1
  exact DL.sorted_run hu I hs l ok (fun _ => rfl) (PyProof.Rows.args_sorted_rev _ _) (fun _ => PyProof.Rows.args_list_sort_rev _ _) q
theorem el_sortRev {ta : TD} {k0 : Nat} {p1 p2 : Pos} (hu : X.A.units + 65 < cLine) (ha : ER X G a ta) (hg : Gl X "sorted") (hm : X.mg "sorted" = none)
    (he : backTo pos (starEach [a] X.env) = (false, eval a X.env) :: backTo pos (starEach [] X.env) := by rfl) (hs : starEach [a] X.env = (false, eval a X.env) :: starEach [] X.env := by rfl) (hpl : (backTo pos (starEach [a] X.env)).any (·.1) = false := by rfl) :
    EL X G (.Call (.Name "sorted" p) [a] [⟨some "reverse", .Constant (.bool true) k0 p1, p2⟩] pos) (tSortRev ta) := by
  refine ⟨PE.weak (pe_callBK (cr_sortedRevD hu) hg hm bb_sorted (pa_cons ha.pe pa_nil hs) (pk_cons pe_bl pk_nil) (by decide) (by decide) he hpl) fun σ H Q ⟨E, QE, r, q, k⟩ => ⟨E, _, r, q, fun x E1 v H1 q1 x1 r1 p1 => ?_⟩⟩
  have fin : ∀ (xs : List D), QE (sortD true xs) E1 → ∀ ws p, H1 p = none → RpL X.K H1 (sortD true xs) ws → Q (.ref p) (upd H1 p (.lst ws)) := fun xs qq ws p hp hr => by
    obtain ⟨r2, h0, na⟩ := r1.fresh (o := .lst ws) hp
    exact k _ _ _ _ _ qq (x1.trans (PExt.new hp).ext) r2 h0 na upd_same (hr.ext (PExt.new hp).ext)
  cases x with
  | list xs => obtain ⟨b, us, rfl, hs, l⟩ := p1.list; exact ⟨b, us, xs, rfl, rfl, .inl hs, l, q1.1, fin xs q1.2⟩
  | tuple xs => obtain ⟨b, us, rfl, hs, l⟩ := p1.tuple; exact ⟨b, us, xs, rfl, rfl, .inr hs, l, q1.1, fin xs q1.2⟩
  | _ => exact q1.elim
end
end DL
set_option Elab.async false
set_option linter.all false
set_option maxRecDepth 100000
set_option maxHeartbeats 1000000
/-! DL18: a list of one's own is frozen where it is handed on; calls without arguments. -/
namespace DL
open PySem PySem.Spec PyProof.Rows L2
section
variable {K : PySem.W.Frag} {G : Gh} {H : Hp} {E : Env} {σ : St}
theorem RelX.freezeM {i : Nat} {s0 : S} {a : Addr} {u' : HO} {d : D} (r : RelE K G H E σ) (e : E[i]? = some s0) (m0 : s0.isMut = true) (hs : σ[i]? = some (some (.ref a))) (p : Rp K (upd H a u') d (.ref a)) :
    RelE K G (upd H a u') (E.set i (.d d)) σ := by
  obtain ⟨l, k, pn, dm, x0, A, h1, h2, h3⟩ := r
  obtain ⟨b, e1, e2, e3⟩ := (h3 i _ e).mut m0
  rw [hs] at e2
  have e2' : a = b := by injection e2 with z; injection z with z; injection z
  subst e2'
  obtain ⟨u0, g1, g2, g3⟩ := e3.soft
  have x : Ext H (upd H a u') := Ext.putS g1 g2 g3
  have own := h2 i a (by rw [e1]; simp)
  have hl : i < E.length := (List.getElem?_eq_some_iff.mp e).1
  refine ⟨by simpa using l, fun q u he ne => ?_, pn, fun q hq => ?_, x0.trans x, fun j => if j = i then [] else A j, fun j m b q1 q2 => ?_, fun j b q1 => ?_, fun j s he => ?_⟩
  · have : q ≠ a := by
      rintro rfl
      rcases own.1 with z | z
      · exact ne z
      · rw [z] at he; cases he
    rw [upd_ne this]; exact k q u he ne
  · by_cases z : q = a
    · subst z; rw [upd_same]; simp
    · rw [upd_ne z]; exact dm q hq
  · dsimp only at q1 q2
    split at q1
    · cases q1
    · split at q2
      · cases q2
      · exact h1 j m b q1 q2
  · dsimp only at q1
    split at q1
    · cases q1
    · exact h2 j b q1
  · by_cases z : j = i
    · subst z
      rw [List.getElem?_set_self hl] at he
      cases he
      simp only [if_true]
      exact ⟨rfl, _, hs, p⟩
    · rw [List.getElem?_set_ne (Ne.symm z)] at he
      simp only [z, if_false]
      exact (h3 j s he).move x fun c hc => upd_ne fun zz => z (h1 j i c hc (by rw [e1, zz]; simp))
theorem RelX.freezeV {i : Nat} {xs : List D} {a : Addr} {vs : List V} {o : Obj} (r : RelE K G H E σ) (e : E[i]? = some (.ol xs)) (hs : σ[i]? = some (some (.ref a))) (ha : H a = some (.lst vs)) (p : RpL K H xs vs) :
    RelE K G (upd H a (.frz o (.lst vs))) (E.set i (.d (.list xs))) σ :=
  r.freezeM e rfl hs (.lst (.of upd_same) (p.ext (Ext.put ha)))
end
section
variable {X : Cx} {G : Gh} {e : Expr} {pos p0 : Pos} {x : Str}
theorem PE.fzIf {t : TE} (h : PE X e t) : PE X e (fun σ H Q => t σ H fun v H1 => Q v H1 ∨ ∃ a u, v = .ref a ∧ H1 a = some u ∧ Mut (some u) ∧ ∀ o, Q v (upd H1 a (.frz o u))) :=
  ⟨fun pins s σ H Q I q => thn (h.run pins s σ H _ I q) fun u s1 ⟨v, H1, I1, r1, q1⟩ => by
    rcases q1 with q1 | ⟨a, xs, e1, e2, mu, q1⟩
    · exact ⟨v, _, I1, r1, q1⟩
    · obtain ⟨o, I2⟩ := I1.lock e2 mu
      exact ⟨v, _, I2, r1, q1 o⟩⟩
def tFzV (i : Nat) : TD := fun E Q => match E[i]? with
  | some (.d x) => Q x E
  | some (.ol xs) => Q (.list xs) (E.set i (.d (.list xs)))
  | some (.dt kvs) => Q (.dict kvs) (E.set i (.d (.dict kvs)))
  | _ => False
theorem ed_fzv (i : Nat) (hN : X.N[i]? = some x := by rfl) (hv : Vis X.env.scope x := by first | exact Or.inl rfl | exact Or.inr (Or.inl rfl) | exact Or.inr (Or.inr rfl)) (hd : (x == ("__debug__" : Str)) = false := by decide)
    (hcd : (x == ("__classdict__" : Str)) = false := by decide) : ED X G (.Name x p0) (tFzV i) :=
  ⟨PE.weak (PE.fzIf (pe_var hN hv hd hcd)) fun σ H Q ⟨E, QE, r, q, k⟩ => by
    unfold tFzV at q
    split at q
    · rename_i d0 he
      obtain ⟨v, e1, e2⟩ := r.data he
      exact ⟨v, e1, .inl (k _ _ _ _ q (Ext.refl _) r e2)⟩
    · rename_i xs he
      obtain ⟨a, vs, e1, e2, e3⟩ := r.ol he
      exact ⟨_, e1, .inr ⟨a, _, rfl, e2, trivial, fun o => k _ _ _ _ q (Ext.put e2) (r.freezeV he e1 e2 e3) (.lst (.of upd_same) (e3.ext (Ext.put e2)))⟩⟩
    · rename_i kvs he
      obtain ⟨a, e1, es, e2, l, nd, sm⟩ := r.mutAt he rfl
      refine ⟨_, e1, .inr ⟨a, _, rfl, e2, trivial, fun o => ?_⟩⟩
      have x : Ext H (upd H a (.frz o (dO a es))) := Ext.putS e2 (fun _ z => by cases z) (fun _ _ z => by cases z)
      have p : Rp X.K (upd H a (.frz o (dO a es))) (.dict kvs) (.ref a) := .dct upd_same (l.ext x) nd sm
      exact k _ _ _ _ q x (r.freezeM he rfl e1 p) p
    · exact q.elim⟩
end
end DL
set_option Elab.async false
set_option linter.all false
set_option maxRecDepth 100000
set_option maxHeartbeats 1000000
/-! DL19: x > y of any data that is alike. -/
namespace DL
open PySem PySem.Spec PyProof.Rows L2
section
variable {X : Cx}
def opGtD : OpT := fun x y Q => (PySem.W.alike x y = true ∧ x ≠ .none ∧ x.depth ≤ 60 ∧ x.canLay0 = true ∧ y.canLay0 = true) ∧ Q (.bool (PySem.W.dataLt y x))
end
end DL
set_option Elab.async false
set_option linter.all false
set_option maxRecDepth 100000
set_option maxHeartbeats 1000000
/-! DL20: sum, min, max of a tuple of ints. -/
namespace DL
open PySem PySem.Spec PyProof.Rows L2
section
variable {prog : Program} {w : World} {A : Around} {E : Value → Shared → Prop} {s : Shared} {l : Addr} {xs : Array (Int × Tok)}
abbrev tItr (l : Addr) : Obj := { cls := .type "tuple_iterator", data := .fields #[.ref l, .int 0 0] }
theorem iterT {Q : Value → Shared → Prop} (hl : s.heap.IsTuple l (intItems xs))
    (fin : ∀ s₂ : Shared, s₂ = { s with heap := s.heap.push (tItr l) } → (s₂.heap.IsTupleIter s.heap.objs.size l 0 ∧ s₂.heap.IsTuple l (intItems xs)) → (∀ b ∈ [s.heap.objs.size, l], b < s₂.heap.objs.size) → l ≠ s.heap.objs.size → Q (.ref s.heap.objs.size) s₂) :
    wpAny (model prog w) A (pyIter (.ref l)) Q E s := by
  have lt : l < s.heap.objs.size := by obtain ⟨_, e, _⟩ := hl; exact Heap.lt_size e
  refine wpAny_pyIter_tuple hl (fin _ rfl ⟨⟨_, Heap.get?_push_size _ rfl, rfl, rfl⟩, hl.push _⟩ (fun b hb => ?_) (Nat.ne_of_lt lt))
  show b < (s.heap.push (tItr l)).objs.size
  rw [Heap.size_push]
  rcases (show b = s.heap.objs.size ∨ b = l by simpa using hb) with z | z <;> rw [z]
  · exact Nat.lt_succ_self _
  · exact Nat.lt_succ_of_lt lt
theorem keptT {h' : Heap} (hk : ∀ b o, b ∉ [s.heap.objs.size] → (s.heap.push (tItr l)).get? b = some o → h'.get? b = some o) : ∀ b o, s.heap.get? b = some o → h'.get? b = some o := fun b o e =>
  hk b o (fun hm => absurd (List.mem_singleton.mp hm ▸ Heap.lt_size e) (Nat.lt_irrefl _)) (Heap.get?_push_of_some _ e)
variable {its : List Value} {ns : List Int} {Q : Value → Shared → Prop}
theorem sum_tup (hh : A.handled = none) (hl : s.heap.IsTuple l its.toArray) (hi : IntsAre its ns) (fin : ∀ h' tk t', (∀ b o, s.heap.get? b = some o → h'.get? b = some o) → Q (.int ns.sum t') { s with heap := h', toks := tk }) :
    wpAny (model prog w) A (call (.builtin "sum") [.ref l]) Q E s := by
  obtain ⟨xs, e⟩ := hi.allInts.items
  have hn : numsOf (intItems xs).toList = ns := by rw [← e]; exact hi.numsOf
  rw [nums_intItems] at hn; rw [e] at hl
  refine call_sum_walkG (iterT hl fun s₂ e st hfp hlI => ?_); subst e
  refine ⟨_, _, _, _, _, _, numAt xs, rfl, Walks.tuple (A := A.in1) hh _ l hlI (intItems xs), st, hfp, (fun _ _ => intItems_at), fun h' tk t' hk => ?_⟩
  have := fin h' tk t' (keptT hk)
  rw [← hn] at this
  have e2 : preSum (numAt xs) xs.size = (xs.toList.map (·.1)).sum := by rw [preSum_eq, List.take_of_length_le (by simp)]
  rw [← e2] at this
  simpa [intItems] using this
theorem max_tup (hh : A.handled = none) (hl : s.heap.IsTuple l its.toArray) (hi : IntsAre its ns) (hne : 0 < ns.length) (fin : ∀ h' tk M t', (∀ b o, s.heap.get? b = some o → h'.get? b = some o) → M ∈ ns → (∀ a, a ∈ ns → a ≤ M) → Q (.int M t') { s with heap := h', toks := tk }) :
    wpAny (model prog w) A (call (.builtin "max") [.ref l]) Q E s := by
  obtain ⟨xs, e⟩ := hi.allInts.items
  have hn : numsOf (intItems xs).toList = ns := by rw [← e]; exact hi.numsOf
  rw [nums_intItems] at hn; subst hn; rw [e] at hl
  have hsz : 0 < xs.size := by simpa using hne
  refine call_max_walk (iterT hl fun s₂ e st hfp hlI => ?_); subst e
  refine ⟨_, _, _, _, _, _, _, rfl, Walks.tuple (A := A.in1) hh _ l hlI (intItems xs), st, hfp, by simpa [intItems] using hsz, CmpOf.ints_gt (numAt xs) (fun _ _ => intItems_at), fun v h' tk hP hk => ?_⟩
  have hv : (intItems xs)[argBest (fun i j => decide (numAt xs i > numAt xs j)) (xs.size - 1)]? = some v := by simpa [intItems] using hP
  obtain ⟨t, rfl⟩ := intItems_at hv
  obtain ⟨h1, h2⟩ := argBest_gt (numAt xs) (xs.size - 1)
  refine fin h' tk _ t (keptT hk) ?_ fun a ha => ?_
  · rw [numAt_eq]; exact PySem.getD_mem (by rw [List.length_map, Array.length_toList]; omega)
  · obtain ⟨j, hj, rfl⟩ := mem_getD ha
    rw [List.length_map, Array.length_toList] at hj; rw [← numAt_eq]; exact h2 j (by omega)
theorem min_tup (hh : A.handled = none) (hl : s.heap.IsTuple l its.toArray) (hi : IntsAre its ns) (hne : 0 < ns.length) (fin : ∀ h' tk M t', (∀ b o, s.heap.get? b = some o → h'.get? b = some o) → M ∈ ns → (∀ a, a ∈ ns → M ≤ a) → Q (.int M t') { s with heap := h', toks := tk }) :
    wpAny (model prog w) A (call (.builtin "min") [.ref l]) Q E s := by
  obtain ⟨xs, e⟩ := hi.allInts.items
  have hn : numsOf (intItems xs).toList = ns := by rw [← e]; exact hi.numsOf
  rw [nums_intItems] at hn; subst hn; rw [e] at hl
  have hsz : 0 < xs.size := by simpa using hne
  refine call_min_walk (iterT hl fun s₂ e st hfp hlI => ?_); subst e
  refine ⟨_, _, _, _, _, _, _, rfl, Walks.tuple (A := A.in1) hh _ l hlI (intItems xs), st, hfp, by simpa [intItems] using hsz, CmpOf.ints_lt (numAt xs) (fun _ _ => intItems_at), fun v h' tk hP hk => ?_⟩
  have hv : (intItems xs)[argBest (fun i j => decide (numAt xs i < numAt xs j)) (xs.size - 1)]? = some v := by simpa [intItems] using hP
  obtain ⟨t, rfl⟩ := intItems_at hv
  obtain ⟨h1, h2⟩ := argBest_lt (numAt xs) (xs.size - 1)
  refine fin h' tk _ t (keptT hk) ?_ fun a ha => ?_
  · rw [numAt_eq]; exact PySem.getD_mem (by rw [List.length_map, Array.length_toList]; omega)
  · obtain ⟨j, hj, rfl⟩ := mem_getD ha
    rw [List.length_map, Array.length_toList] at hj; rw [← numAt_eq]; exact h2 j (by omega)
end
section
variable {X : Cx}
theorem cr_sumT (hc : X.calm = true) : CallR X (.builtin "sum") (fun vs H Q => ∃ (a : Addr) (ns : List Int), vs = [V.ref a] ∧ SqT X.K H a (ns.map V.int) ∧ Q (.int ns.sum) H) := by
  intro pins s σ H vs us Q I r h
  obtain ⟨a, ns, rfl, hs, q⟩ := h
  obtain ⟨its, rv, hl, _⟩ := I.tuple hs
  rw [Vals.ref1 r]
  exact sum_tup (I.ok.hd hc) hl rv.ints fun h' tk t' hk => ⟨.int _, H, I.kept hk, ⟨_, rfl⟩, q⟩
theorem cr_maxT (hc : X.calm = true) : CallR X (.builtin "max") (fun vs H Q => ∃ (a : Addr) (ns : List Int), vs = [V.ref a] ∧ SqT X.K H a (ns.map V.int) ∧ 0 < ns.length ∧ ∀ m, m ∈ ns → (∀ y, y ∈ ns → y ≤ m) → Q (.int m) H) := by
  intro pins s σ H vs us Q I r h
  obtain ⟨a, ns, rfl, hs, hne, q⟩ := h
  obtain ⟨its, rv, hl, _⟩ := I.tuple hs
  rw [Vals.ref1 r]
  exact max_tup (I.ok.hd hc) hl rv.ints hne fun h' tk m t' hk h1 h2 => ⟨.int _, H, I.kept hk, ⟨_, rfl⟩, q m h1 h2⟩
theorem cr_minT (hc : X.calm = true) : CallR X (.builtin "min") (fun vs H Q => ∃ (a : Addr) (ns : List Int), vs = [V.ref a] ∧ SqT X.K H a (ns.map V.int) ∧ 0 < ns.length ∧ ∀ m, m ∈ ns → (∀ y, y ∈ ns → m ≤ y) → Q (.int m) H) := by
  intro pins s σ H vs us Q I r h
  obtain ⟨a, ns, rfl, hs, hne, q⟩ := h
  obtain ⟨its, rv, hl, _⟩ := I.tuple hs
  rw [Vals.ref1 r]
  exact min_tup (I.ok.hd hc) hl rv.ints hne fun h' tk m t' hk h1 h2 => ⟨.int _, H, I.kept hk, ⟨_, rfl⟩, q m h1 h2⟩
def caSumT : CaT := fun ds Q => match ds with
  | [.tuple xs] => ∃ ns : List Int, xs = ns.map PyData.int ∧ Q (.int ns.sum)
  | _ => False
def caMaxT : CaT := fun ds Q => match ds with
  | [.tuple xs] => ∃ ns : List Int, xs = ns.map PyData.int ∧ 0 < ns.length ∧ ∀ m, m ∈ ns → (∀ y, y ∈ ns → y ≤ m) → Q (.int m)
  | _ => False
def caMinT : CaT := fun ds Q => match ds with
  | [.tuple xs] => ∃ ns : List Int, xs = ns.map PyData.int ∧ 0 < ns.length ∧ ∀ m, m ∈ ns → (∀ y, y ∈ ns → m ≤ y) → Q (.int m)
  | _ => False
theorem cd_sumT (hc : X.calm = true) : CaD X (.builtin "sum") caSumT := ⟨_, cr_sumT hc, fun ds vs H QD Q hd q k => by
  match ds, q, hd with
  | [.tuple xs], q, hd =>
    obtain ⟨v, rfl, h⟩ := hd.one
    obtain ⟨a, us, rfl, hs, l⟩ := h.tuple
    obtain ⟨ns, rfl, q⟩ := q
    rw [l.ints] at hs
    exact ⟨a, ns, rfl, hs, k _ _ _ q (PExt.refl _) (.int _)⟩⟩
theorem cd_maxT (hc : X.calm = true) : CaD X (.builtin "max") caMaxT := ⟨_, cr_maxT hc, fun ds vs H QD Q hd q k => by
  match ds, q, hd with
  | [.tuple xs], q, hd =>
    obtain ⟨v, rfl, h⟩ := hd.one
    obtain ⟨a, us, rfl, hs, l⟩ := h.tuple
    obtain ⟨ns, rfl, hn, q⟩ := q
    rw [l.ints] at hs
    exact ⟨a, ns, rfl, hs, hn, fun m h1 h2 => k _ _ _ (q m h1 h2) (PExt.refl _) (.int _)⟩⟩
theorem cd_minT (hc : X.calm = true) : CaD X (.builtin "min") caMinT := ⟨_, cr_minT hc, fun ds vs H QD Q hd q k => by
  match ds, q, hd with
  | [.tuple xs], q, hd =>
    obtain ⟨v, rfl, h⟩ := hd.one
    obtain ⟨a, us, rfl, hs, l⟩ := h.tuple
    obtain ⟨ns, rfl, hn, q⟩ := q
    rw [l.ints] at hs
    exact ⟨a, ns, rfl, hs, hn, fun m h1 h2 => k _ _ _ (q m h1 h2) (PExt.refl _) (.int _)⟩⟩
end
end DL
set_option Elab.async false
set_option linter.all false
set_option maxRecDepth 100000
set_option maxHeartbeats 1000000
/-! DL21: zip of a list and a tuple. -/
namespace DL
open PySem PySem.Spec PyProof.Rows L2
section
variable {X : Cx} {G : Gh} {a b : Expr} {p pos tpos : Pos} {elts : List Expr} {kk : Nat}
def iZipM (ta tb : TD) : TDs := fun E Q => ta E fun x E1 => tb E1 fun y E2 => match x, y with
  | .list xs, .tuple ys => Q (zipD xs ys) E2
  | _, _ => False
end
end DL
set_option Elab.async false
set_option linter.all false
set_option maxRecDepth 100000
set_option maxHeartbeats 1000000
/-! DL22: t[::-1] of a tuple, str of an int, tuple * int, a chain of three comparisons, zip of three tuples, a comprehension with effects. -/
namespace DL
open PySem PySem.Spec PyProof.Rows L2
section
variable {X : Cx} {G : Gh} {a b c d e : Expr} {pos p p1 p2 p3 : Pos}
/-- t[::-1] of a tuple -/
def tRevT (ta : TD) : TD := fun E Q => ta E fun x E1 => match x with
  | .tuple xs => Q (.tuple xs.reverse) E1
  | _ => False
/-! ### str of an int -/
def caStr : CaT := fun ds Q => match ds with
  | [.int i] => i.natAbs.log2 < 1920 ∧ Q (.str (toString i))
  | _ => False
/-! ### tuple * int -/
def opRepT : OpT := fun x y Q => match x, y with
  | .tuple xs, .int k => (xs ≠ [] ∧ 2 ≤ k ∧ k ≤ 1000 ∧ xs.length ≤ 1000) ∧ Q (.tuple (List.replicate k.toNat xs).flatten)
  | _, _ => False
/-! ### a op b op' c op'' d -/
def tChain3D (o o' o'' : OpT) (ta tb tc td : TD) : TD := fun E Q => ta E fun x E1 => tb E1 fun y E2 => o x y fun z => match z with
  | .bool true => tc E2 fun w E3 => o' y w fun z' => match z' with
    | .bool true => td E3 fun u E4 => o'' w u fun r => Q r E4
    | .bool false => Q (.bool false) E3
    | _ => False
  | .bool false => Q (.bool false) E2
  | _ => False
end
/-! ### a comprehension with effects: an invariant of what was found and the environment -/
end DL
set_option Elab.async false
set_option linter.all false
set_option maxRecDepth 100000
set_option maxHeartbeats 1000000
/-! DL23: zip of three tuples. -/
namespace DL
open PySem PySem.Spec PyProof.Rows L2
end DL
set_option Elab.async false
set_option linter.all false
set_option maxRecDepth 100000
set_option maxHeartbeats 1000000
/-! DL24: the module's own constants. -/
namespace DL
open PySem PySem.Spec PyProof.Rows L2
end DL
set_option Elab.async false
set_option linter.all false
set_option maxRecDepth 100000
set_option maxHeartbeats 1000000
/-! DL25: max of a list of alike data, x < y of alike data. -/
namespace DL
open PySem PySem.Spec PyProof.Rows L2
section
variable {X : Cx}
def opLtD : OpT := fun x y Q => (PySem.W.alike x y = true ∧ x ≠ .none ∧ x.depth ≤ 60 ∧ x.canLay0 = true ∧ y.canLay0 = true) ∧ Q (.bool (PySem.W.dataLt x y))
end
end DL
set_option Elab.async false
set_option linter.all false
set_option maxRecDepth 100000
set_option maxHeartbeats 3200000
/-! DL26: set(t) of a tuple of pairs of ints, len and sorted of it. -/
namespace DL
open PySem PySem.Spec PyProof.Rows L2
end DL
set_option Elab.async false
set_option linter.all false
set_option maxRecDepth 100000
set_option maxHeartbeats 3200000
/-! DL27: len(set(t)), sorted(set(t)) of a tuple of pairs of ints. -/
namespace DL
open PySem PySem.Spec PyProof.Rows L2
def pE (c : Int × Int) : D := .tuple [.int c.1, .int c.2]
def ltC (a b : Int × Int) : Prop := a.1 < b.1 ∨ (a.1 = b.1 ∧ a.2 < b.2)
section
variable {X : Cx} {G : Gh} {a : Expr} {pos p p1 p2 p3 : Pos}
def tLenSetP (ta : TD) : TD := fun E Q => ta E fun x E1 => match x with
  | .tuple xs => ∃ cs : List (Int × Int), xs = cs.map pE ∧ cs.length < 64 ∧ ∀ zs : List (Int × Int), zs.Nodup → (∀ c, c ∈ zs ↔ c ∈ cs) → Q (.int (zs.length : Nat)) E1
  | _ => False
def tSortSetP (ta : TD) : TLd := fun E Q => ta E fun x E1 => match x with
  | .tuple xs => ∃ cs : List (Int × Int), xs = cs.map pE ∧ cs.length < 64 ∧ (∀ c ∈ cs, (0 ≤ c.1 ∧ c.1 < 64) ∧ (0 ≤ c.2 ∧ c.2 < 64)) ∧ ∀ zs : List (Int × Int), zs.Pairwise ltC → (∀ c, c ∈ zs ↔ c ∈ cs) → Q (zs.map pE) E1
  | _ => False
end
end DL
set_option Elab.async false
set_option linter.all false
set_option maxRecDepth 100000
set_option maxHeartbeats 1000000
/-! DL28: chains of comparisons as tests. -/
namespace DL
open PySem PySem.Spec PyProof.Rows L2
section
variable {X : Cx} {G : Gh} {a b c d e : Expr} {pos p p1 p2 p3 : Pos}
theorem tBo_lift {t : TD} {σ : St} {H : Hp} {Q : Bool → Hp → Prop} (h : liftT X.K G (tBo t) σ H Q) : liftE X.K G t σ H fun x H' => ∃ k, x = .bl k ∧ Q k H' := by
  obtain ⟨E, QE, rel, q, k⟩ := h
  refine ⟨E, _, rel, q, fun d E' v H' q1 x1 r1 p1 => ?_⟩
  cases p1 with
  | bl b => exact ⟨b, rfl, k b E' H' q1 x1 r1⟩
  | _ => exact q1.elim
theorem eb_chain {op op' : CmpOp} {o o' : OpT} {ta tb tc : TD} (ho : OpD X (compareOp op) o) (ho' : OpD X (compareOp op') o') (ha : ED X G a ta) (hb : ED X G b tb) (hc : ED X G c tc)
    (h1 : lastMarks [op, op'] [b, c] = false := by with_unfolding_all rfl) : EB X G (.Compare a [op, op'] [b, c] pos) (tBo (tChainD o o' ta tb tc)) := by
  obtain ⟨r, hr, hq⟩ := ho
  obtain ⟨r', hr', hq'⟩ := ho'
  refine ⟨PT.weak (pt_chain hr hr' ha.pe hb.pe hc.pe h1) fun σ H Q h => ?_⟩
  obtain ⟨E, QE, rel, q, k⟩ := tBo_lift h
  refine ⟨E, _, rel, q, fun x E1 v H1 q1 x1 r1 p1 => ⟨E1, _, r1, q1, fun y E2 u H2 q2 x2 r2 p2 => ?_⟩⟩
  refine hq x y v u H2 _ _ (.inl (p1.ext x2)) (.inl p2) q2 fun z w H3 q3 px rz => ?_
  cases rz with
  | bl b =>
    refine ⟨b, rfl, ?_⟩
    cases b with
    | true =>
      refine iteT ⟨E2, _, r2.pext px, q3, fun c E3 w H4 q4 x4 r4 p4 => ?_⟩
      exact hq' y c u w H4 _ _ (.inl ((p2.ext px.ext).ext x4)) (.inl p4) q4 fun z w H5 q5 px5 rz5 => k _ _ _ _ q5 ((((x1.trans x2).trans px.ext).trans x4).trans px5.ext) (r4.pext px5) rz5
    | false => exact iteF (k _ _ _ _ q3 ((x1.trans x2).trans px.ext) (r2.pext px) (.bl false))
  | _ => exact q3.elim
end
end DL
set_option Elab.async false
set_option linter.all false
set_option maxRecDepth 100000
set_option maxHeartbeats 1000000
/-! DL29: dicts whose keys are tuples of ints (nested): look-up, store, in. -/
namespace DL
open PySem PySem.Spec PyProof.Rows L2
mutual
theorem nk_hash {w w' : World} : ∀ {d : D} {k : NestedKey}, nkOf d = some k → k.hash w = k.hash w'
  | .int i, k, h => by unfold nkOf at h; cases h; rfl
  | .tuple xs, k, h => by
    unfold nkOf at h
    obtain ⟨ks, h1, rfl⟩ := Option.map_eq_some_iff.mp h
    unfold NestedKey.hash; rw [nks_hash (w := w) (w' := w') h1]
  | .none, k, h => by simp [nkOf] at h
  | .bool _, k, h => by simp [nkOf] at h
  | .str _, k, h => by simp [nkOf] at h
  | .list _, k, h => by simp [nkOf] at h
  | .dict _, k, h => by simp [nkOf] at h
theorem nks_hash {w w' : World} : ∀ {ds : List D} {ks : List NestedKey}, nksOf ds = some ks → NestedKey.hashes w ks = NestedKey.hashes w' ks
  | [], ks, h => by unfold nksOf at h; cases h; rfl
  | d :: ds, ks, h => by
    unfold nksOf at h
    split at h
    · rename_i k ks' h1 h2
      cases h
      unfold NestedKey.hashes; rw [nk_hash (w := w) (w' := w') h1, nks_hash (w := w) (w' := w') h2]
    · cases h
end
def valN (kvs : List (D × D)) (k : D) : Option D := (kvs.find? fun p => decide (nkOf p.1 = nkOf k)).map (·.2)
def putN (kvs : List (D × D)) (k v : D) : List (D × D) := if (valN kvs k).isSome then kvs.map (fun p => if nkOf p.1 = nkOf k then (p.1, v) else p) else kvs ++ [(k, v)]
theorem valN_cons (p : D × D) (kvs : List (D × D)) (k : D) : valN (p :: kvs) k = if nkOf p.1 = nkOf k then some p.2 else valN kvs k := by
  unfold valN
  rw [List.find?_cons]
  by_cases h : nkOf p.1 = nkOf k
  · simp [h]
  · simp [h]
theorem paired_app {α β : Type} {F : α → β → Prop} : ∀ {a c : List α} {b d : List β}, Paired F a b → Paired F c d → Paired F (a ++ c) (b ++ d)
  | _, _, _, _, .nil, h => h
  | _, _, _, _, .cons r t, h => .cons r (paired_app t h)
abbrev TR (K : PySem.W.Frag) (H : Hp) : List (D × D) → List (NestedKey × Addr × Value) → Prop :=
  Paired fun p x => (∃ l, p.1 = .tuple l) ∧ nkOf p.1 = some x.1 ∧ x.1.depth ≤ 8 ∧ Rp K H p.1 (.ref x.2.1) ∧ ∃ v, Rp K H p.2 v ∧ RelV v x.2.2
section
variable {K : PySem.W.Frag} {H : Hp} {P : Program} {w : World}
theorem RpD.tr (P : Program) (w : World) : ∀ {kvs : List (D × D)} {es : List DictEntry}, RpD K H kvs es → ∃ xs, TR K H kvs xs ∧ es = xs.map (entryOfKey (nestedKind P w))
  | _, _, .nil => ⟨[], .nil, rfl⟩
  | _, _, .cons (nk := nk) (b := b) (v := v) (e := e) t n1 n2 n3 e1 h g r l => by
    obtain ⟨xs, h1, rfl⟩ := RpD.tr P w l
    refine ⟨(nk, b, e.val) :: xs, .cons ⟨t, n1, n2, h, v, g, r⟩ h1, ?_⟩
    rw [List.map_cons]
    congr 1
    obtain ⟨eh, ek, ev⟩ := e
    have hh : eh = nk.hash w := n3 w
    have hk : ek = Value.ref b := e1
    subst hh hk
    rfl
theorem TR.rpd {kvs : List (D × D)} {xs : List (NestedKey × Addr × Value)} (h : TR K H kvs xs) : RpD K H kvs (xs.map (entryOfKey (nestedKind P w))) := by
  unfold TR at h
  induction h with
  | nil => exact .nil
  | @cons p x ps xs q t ih =>
    obtain ⟨h1, h2, h3, h4, v, h5, h6⟩ := q
    obtain ⟨k, d⟩ := p
    exact .cons h1 h2 h3 (fun w' => nk_hash h2) rfl h4 h5 h6 ih
theorem TR.ext {H' : Hp} (x : Ext H H') {kvs : List (D × D)} {xs : List (NestedKey × Addr × Value)} (h : TR K H kvs xs) : TR K H' kvs xs :=
  Paired.mapP h fun _ _ ⟨h1, h2, h3, h4, v, h5, h6⟩ => ⟨h1, h2, h3, h4.ext x, v, h5.ext x, h6⟩
theorem TR.keys {kvs : List (D × D)} {xs : List (NestedKey × Addr × Value)} (h : TR K H kvs xs) (nd : (kvs.map fun p => nkOf p.1).Nodup) : (xs.map (·.1)).Nodup := by
  have e : kvs.map (fun p => nkOf p.1) = (xs.map (·.1)).map some := by
    unfold TR at h
    induction h with
    | nil => rfl
    | cons q t ih => 
      rw [List.map_cons, List.map_cons, List.map_cons, q.2.1, ih (List.nodup_cons.mp (by simpa using nd)).2]
  rw [e] at nd
  exact (List.pairwise_map.mp nd).imp fun h z => h (by rw [z])
/-- what stands at a key -/
theorem TR.val {kvs : List (D × D)} {xs : List (NestedKey × Addr × Value)} (h : TR K H kvs xs) {k : D} {nk : NestedKey} (e : nkOf k = some nk) :
    (∀ d, valN kvs k = some d → ∃ p v, atKey xs nk = some p ∧ Rp K H d v ∧ RelV v p.2) ∧ (valN kvs k = none → atKey xs nk = none) := by
  unfold TR at h
  induction h with
  | nil => exact ⟨fun d hd => by simp [valN] at hd, fun _ => rfl⟩
  | @cons p x ps xs q t ih =>
    obtain ⟨h1, h2, h3, h4, v, h5, h6⟩ := q
    rw [valN_cons]
    by_cases hk : nkOf p.1 = nkOf k
    · have hx : x.1 = nk := by rw [h2, e] at hk; exact Option.some.inj hk
      rw [if_pos hk]
      refine ⟨fun d hd => ?_, fun z => nomatch z⟩
      cases hd
      exact ⟨x.2, v, by simp [atKey, hx], h5, h6⟩
    · have hx : ¬ x.1 = nk := fun z => hk (by rw [h2, e, z])
      rw [if_neg hk]
      have : atKey (x :: xs) nk = atKey xs nk := by simp [atKey, hx]
      rw [this]; exact ih
theorem TR.isSome {kvs : List (D × D)} {xs : List (NestedKey × Addr × Value)} (h : TR K H kvs xs) {k : D} {nk : NestedKey} (e : nkOf k = some nk) : (atKey xs nk).isSome = (valN kvs k).isSome := by
  obtain ⟨h1, h2⟩ := h.val e
  cases q : valN kvs k with
  | none => rw [h2 q]; rfl
  | some d => obtain ⟨p, v, hp, _⟩ := h1 d q; rw [hp]; rfl
theorem TR.put {kvs : List (D × D)} {xs : List (NestedKey × Addr × Value)} (h : TR K H kvs xs) {k d : D} {nk : NestedKey} {b : Addr} {v : V} {u : Value} (t : ∃ l, k = .tuple l) (e : nkOf k = some nk) (dp : nk.depth ≤ 8) (hk : Rp K H k (.ref b)) (hd : Rp K H d v) (r : RelV v u) :
    TR K H (putN kvs k d) (storedH xs nk b u) := by
  unfold putN storedH
  rw [h.isSome e]
  split
  · rename_i hs
    clear hs
    unfold TR at h ⊢
    induction h with
    | nil => exact .nil
    | @cons p x ps xs q tt ih =>
      obtain ⟨h1, h2, h3, h4, v', h5, h6⟩ := q
      rw [List.map_cons, List.map_cons]
      refine .cons ?_ ih
      by_cases hk' : nkOf p.1 = nkOf k
      · have hx : x.1 = nk := by rw [h2, e] at hk'; exact Option.some.inj hk'
        rw [if_pos hk', putAt, if_pos hx]
        exact ⟨h1, h2, h3, h4, v, hd, r⟩
      · have hx : ¬ x.1 = nk := fun z => hk' (by rw [h2, e, z])
        rw [if_neg hk', putAt, if_neg hx]
        exact ⟨h1, h2, h3, h4, v', h5, h6⟩
  · exact paired_app h (.cons ⟨t, e, dp, hk, v, hd, r⟩ .nil)
theorem putN_nodup {kvs : List (D × D)} {k v : D} (nd : (kvs.map fun p => nkOf p.1).Nodup) : ((putN kvs k v).map fun p => nkOf p.1).Nodup := by
  unfold putN
  split
  · have : (kvs.map (fun p => if nkOf p.1 = nkOf k then (p.1, v) else p)).map (fun p => nkOf p.1) = kvs.map fun p => nkOf p.1 := by
      rw [List.map_map]; refine List.map_congr_left fun p _ => ?_
      show nkOf (if nkOf p.1 = nkOf k then (p.1, v) else p).1 = nkOf p.1
      split <;> rfl
    rw [this]; exact nd
  · rename_i h
    rw [List.map_append, List.nodup_append]
    refine ⟨nd, by simp, fun a ha b hb => ?_⟩
    have hb : b = nkOf k := by simpa using hb
    subst hb
    obtain ⟨p, hp, rfl⟩ := List.mem_map.mp ha
    intro z
    apply h
    unfold valN
    rw [Option.isSome_map, List.find?_isSome]
    exact ⟨p, hp, by simpa using z⟩
end
end DL
set_option Elab.async false
set_option linter.all false
set_option maxRecDepth 100000
set_option maxHeartbeats 1000000
/-! DL30: rules for dicts whose keys are tuples of ints. -/
namespace DL
open PySem PySem.Spec PyProof.Rows L2
section
variable {X : Cx} {G : Gh} {pins : List (Addr × Obj)} {σ : St} {H : Hp} {s : Shared}
mutual
theorem nested_of (I : Inv X pins σ H s) : ∀ {d : D} {v : V} {u : Value} {k : NestedKey}, nkOf d = some k → Rp X.K H d v → RelV v u → NestedIs s.heap k u
  | .int i, v, u, k, h, r, q => by
    unfold nkOf at h; cases h; cases r
    obtain ⟨t, rfl⟩ := (show ∃ t, u = Value.int i t from q)
    exact .int i t
  | .tuple xs, v, u, k, h, r, q => by
    unfold nkOf at h
    obtain ⟨ks, h1, rfl⟩ := Option.map_eq_some_iff.mp h
    cases r with
    | tup hs l =>
      rename_i a vs
      obtain rfl : u = Value.ref a := q
      obtain ⟨its, rv, ⟨o, ho, hc, n, hd⟩, hz⟩ := I.tuple hs.1
      exact .tup ho hc hd (by simpa using nested_all I h1 l rv)
  | .none, _, _, k, h, _, _ => by simp [nkOf] at h
  | .bool _, _, _, k, h, _, _ => by simp [nkOf] at h
  | .str _, _, _, k, h, _, _ => by simp [nkOf] at h
  | .list _, _, _, k, h, _, _ => by simp [nkOf] at h
  | .dict _, _, _, k, h, _, _ => by simp [nkOf] at h
theorem nested_all (I : Inv X pins σ H s) : ∀ {ds : List D} {vs : List V} {us : List Value} {ks : List NestedKey}, nksOf ds = some ks → RpL X.K H ds vs → Vals vs us → NestedAll s.heap ks us
  | [], _, _, ks, h, r, q => by unfold nksOf at h; cases h; cases r; cases q; exact .nil
  | d :: ds, _, _, ks, h, r, q => by
    unfold nksOf at h
    split at h
    · rename_i k ks' h1 h2
      cases h
      cases r with
      | cons r1 r2 =>
        cases q with
        | cons q1 q2 => exact .cons (nested_of I h1 r1 q1) (nested_all I h2 r2 q2)
    · cases h
end
/-- a key -/
def keyB (d : D) : Bool := match d with
  | .tuple xs => match nksOf xs with
    | some ks => decide (NestedKey.depthAll ks ≤ 7)
    | none => false
  | _ => false
theorem keyB_ok {d : D} (h : keyB d = true) : (∃ l, d = .tuple l) ∧ ∃ k, nkOf d = some k ∧ k.depth ≤ 8 := by
  cases d with
  | tuple xs =>
    refine ⟨⟨xs, rfl⟩, ?_⟩
    unfold keyB at h
    dsimp only at h
    split at h
    · rename_i ks hk
      refine ⟨.tup ks, by unfold nkOf; rw [hk]; rfl, ?_⟩
      have := of_decide_eq_true h
      unfold NestedKey.depth; omega
    · cases h
  | _ => simp [keyB] at h
/-- a dict that is read -/
def DN (K : PySem.W.Frag) (H : Hp) (a : Addr) (kvs : List (D × D)) : Prop := ∃ es, Rd H a (dO a es) ∧ RpD K H kvs es ∧ (kvs.map fun p => nkOf p.1).Nodup ∧ (a == sysModules) = false
theorem DN.at (I : Inv X pins σ H s) {a : Addr} {kvs : List (D × D)} (h : DN X.K H a kvs) : ∃ xs, TR X.K H kvs xs ∧ s.heap.DictOfH (nestedKind X.prog X.w) a xs ∧ (a == sysModules) = false := by
  obtain ⟨es, e, l, nd, sm⟩ := h
  obtain ⟨xs, tr, rfl⟩ := l.tr X.prog X.w
  obtain ⟨⟨o, ep, h1, h2, h3⟩, _⟩ := e.ok I.hok
  refine ⟨xs, tr, ⟨o, _, ep, h1, h2, h3, by simp, ?_, tr.keys nd⟩, sm⟩
  intro x hx
  have : ∀ (kvs : List (D × D)) (xs : List (NestedKey × Addr × Value)), TR X.K H kvs xs → ∀ x ∈ xs, (nestedKind X.prog X.w).is s.heap x.1 x.2.1 := by
    intro kvs xs t
    unfold TR at t
    induction t with
    | nil => intro x hx; cases hx
    | cons q t ih =>
      intro x hx
      rcases List.mem_cons.mp hx with rfl | hx
      · exact ⟨nested_of I q.2.1 q.2.2.2.1 rfl, q.2.2.1⟩
      · exact ih x hx
  exact this kvs xs tr x hx
theorem key_is (I : Inv X pins σ H s) {d : D} {v : V} {u : Value} (hk : keyB d = true) (r : Rp X.K H d v) (q : RelV v u) : ∃ k b, nkOf d = some k ∧ k.depth ≤ 8 ∧ v = .ref b ∧ u = .ref b ∧ (nestedKind X.prog X.w).is s.heap k b := by
  obtain ⟨⟨l, rfl⟩, k, hk1, hk2⟩ := keyB_ok hk
  cases r with
  | tup hs ll =>
    rename_i b vs
    obtain rfl : u = Value.ref b := q
    exact ⟨k, b, hk1, hk2, rfl, rfl, nested_of I hk1 (.tup hs ll) rfl, hk2⟩
theorem room_n {A : Around} (hu : A.units + 65 < cLine) {P : Program} {w : World} : (nestedKind P w).room A.in1 := by show A.units + 1 + 8 < cLine; omega
theorem dn_type (I : Inv X pins σ H s) {a : Addr} {kvs : List (D × D)} (h : DN X.K H a kvs) : s.TypeIs (.ref a) "dict" ∧ ∀ b, Value.ref a = .ref b → ∃ ob, s.heap.get? b = some ob ∧ ob.dict = none := by
  obtain ⟨xs, tr, dd, sm⟩ := h.at I
  refine ⟨dd.typeIs, fun b q => ?_⟩
  cases q
  obtain ⟨ob, _, _, h1, h2, _⟩ := dd
  exact ⟨ob, h1, h2.2.1⟩
/-! ### expressions -/
variable {o i e f value : Expr} {pos pos' tpos apos cpos : Pos} {td ty tv tx : TE}
theorem pe_dgetN (hu : X.A.units + 65 < cLine) (ho : PE X o td) (hi : PE X i ty) (hs : NoSl i) : PE X (.Subscript o i pos)
    (fun σ H Q => td σ H fun x H1 => ty σ H1 fun y H2 => ∃ a kvs k d, x = .ref a ∧ DN X.K H2 a kvs ∧ keyB k = true ∧ Rp X.K H2 k y ∧ valN kvs k = some d ∧ ∀ v, Rp X.K H2 d v → Q v H2) := by
  refine ⟨fun pins s σ H Q I h => ?_⟩
  refine subD_of PySem.F.slot_dict_getitem.lookup hs (thn (ho.run pins s σ H _ I h) fun u s1 ⟨x, H1, I1, rx, q1⟩ => thn (hi.run pins s1 σ H1 _ I1 q1) fun iv s2 ⟨y, H2, I2, ry, a, kvs, k, d, ex, g, hk, rk, hv, q2⟩ => ?_)
  subst ex
  obtain rfl : u = Value.ref a := rx
  obtain ⟨xs, tr, dd, sm⟩ := g.at I2
  obtain ⟨nk, b, e1, e2, rfl, rfl, ki⟩ := key_is I2 hk rk ry
  obtain ⟨p, v, hp, rv, rl⟩ := (tr.val e1).1 d hv
  exact ⟨(dn_type I2 g).1, wpAny_getItem_heap (room_n hu) ki dd hp ⟨v, H2, I2.tok _, rl, q2 v rv⟩⟩
theorem pe_dget2N (hu : X.A.units + 65 < cLine) (ho : PE X o td) (he : PE X e ty) (hf : PE X f tx) (m : M2 X o "get" apos e f cpos) : PE X (.Call (.Attribute o "get" apos) [e, f] [] cpos)
    (fun σ H Q => td σ H fun x H1 => ∃ a, x = .ref a ∧ (∃ kvs, DN X.K H1 a kvs) ∧ ty σ H1 fun y H2 => tx σ H2 fun z H3 => ∃ kvs k, DN X.K H3 a kvs ∧ keyB k = true ∧ Rp X.K H3 k y ∧ (∀ d v, valN kvs k = some d → Rp X.K H3 d v → Q v H3) ∧ (valN kvs k = none → Q z H3)) := by
  refine ⟨fun pins s σ H Q I h => ?_⟩
  refine wpAny_Call_method m.base m.few m.line PySem.F.plainAttrs_dict PySem.F.slot_dict_get PySem.F.type_dict_get (thn (ho.run pins s σ H _ I h) fun u s1 ⟨x, H1, I1, rx, a, ex, ⟨kvs0, d0⟩, q1⟩ => ?_)
  subst ex
  obtain rfl : u = Value.ref a := rx
  obtain ⟨t1, t2⟩ := dn_type I1 d0
  refine ⟨t1, t2, ?_⟩
  rw [m.trees]
  refine Calls.callWith_builtin rfl (Calls.evalArgs_plain (Calls.spliced_cons (thn (he.run pins s1 σ H1 _ I1 q1) fun iv s2 ⟨y, H2, I2, ry, q2⟩ =>
    Calls.spliced_cons (thn (hf.run pins s2 σ H2 _ I2 q2) fun fv s3 ⟨z, H3, I3, rz, q3⟩ => Calls.spliced_nil ?_))))
  obtain ⟨kvs, k, g, hk, rk, q4, q5⟩ := q3
  have hsome : ∃ xs nk b, TR X.K H3 kvs xs ∧ s3.heap.DictOfH (nestedKind X.prog X.w) a xs ∧ (a == sysModules) = false ∧ nkOf k = some nk ∧ iv = .ref b ∧ (nestedKind X.prog X.w).is s3.heap nk b := by
    obtain ⟨xs, tr, dd, sm⟩ := g.at I3
    obtain ⟨nk, b, e1, e2, e3, e4, ki⟩ := key_is I3 hk rk ry
    exact ⟨xs, nk, b, tr, dd, sm, e1, e4, ki⟩
  obtain ⟨xs, nk, b, tr, dd, sm, e1, rfl, ki⟩ := hsome
  refine getOr_keyed (room_n hu) ki sm ⟨xs, dd, rfl⟩ ?_
  rw [valueAt_pairsH]
  cases hv : valN kvs k with
  | none =>
    rw [(tr.val e1).2 hv]
    exact ⟨z, H3, I3.tok _, rz, q5 hv⟩
  | some d =>
    obtain ⟨p, v, hp, rv, rl⟩ := (tr.val e1).1 d hv
    rw [hp]
    exact ⟨v, H3, I3.tok _, rl, q4 d v hv rv⟩
/-- d[k] = v -/
theorem ps_dputN (hu : X.A.units + 65 < cLine) (ho : PE X o td) (hi : PE X i ty) (hv : PE X value tv) (hs : swapsWith value (some (.Subscript o i pos')) pos.line X.env = pure false) :
    PS X (.Assign [.Subscript o i pos'] value pos) (fun F σ H => tv σ H fun v H1 => td σ H1 fun x H2 => ty σ H2 fun y H3 => ∃ a es kvs k d, x = .ref a ∧ H3 a = some (dO a es) ∧ RpD X.K H3 kvs es ∧ (kvs.map fun p => nkOf p.1).Nodup ∧ (a == sysModules) = false ∧ keyB k = true ∧ Rp X.K H3 k y ∧ Rp X.K H3 d v ∧ kvs.length < sizeLine ∧
      ∀ es', RpD X.K (upd H3 a (dO a es')) (putN kvs k d) es' → F.nx σ (upd H3 a (dO a es'))) := by
  refine ⟨fun pins s σ H D I h => ?_⟩
  refine wpAny_Assign_Subscript (thn (hv.run pins s σ H _ I h) fun r s1 ⟨v, H1, I1, rv, q1⟩ => thn (ho.run pins s1 σ H1 _ I1 q1) fun u s2 ⟨x, H2, I2, rx, q2⟩ => thn (hi.run pins s2 σ H2 _ I2 q2) fun iv s3 ⟨y, H3, I3, ry, a, es, kvs, k, d, ex, ea, l, nd, sm, hk, rk, rd, hz, q3⟩ => ?_) hs
  subst ex
  obtain rfl : u = Value.ref a := rx
  obtain ⟨xs, tr, dd, _⟩ := DN.at I3 (⟨es, .inl ea, l, nd, sm⟩ : DN X.K H3 a kvs)
  have hk2 := hk
  obtain ⟨nk, b, e1, e2, rfl, rfl, ki⟩ := key_is I3 hk rk ry
  have hl : xs.length ≤ sizeLine := by rw [← Paired.length tr]; omega
  refine wpAny_setItem_heap (hsz := hl) (room_n hu) ki dd fun h' dd' hs => ?_
  obtain ⟨q, es', ep, hq, h2, h3, h4, _, h5⟩ := dd'
  have hes : es' = ((storedH xs nk b r).map (entryOfKey (nestedKind X.prog X.w))).toArray := by rw [← h4]
  have x : Ext H3 (upd H3 a (dO a ((storedH xs nk b r).map (entryOfKey (nestedKind X.prog X.w))))) := Ext.putS ea (fun _ z => by cases z) (fun _ _ z => by cases z)
  have tr' : TR X.K H3 (putN kvs k d) (storedH xs nk b r) := tr.put (keyB_ok hk2).1 e1 e2 rk rd rv
  refine ⟨σ, _, d_write I3 (ob := dO a ((storedH xs nk b r).map (entryOfKey (nestedKind X.prog X.w)))) (by rw [ea]; exact True.intro) hs ⟨q, hq⟩ ⟨⟨q, ep, hq, h2, by rw [h3, hes]⟩, ⟨q, hq⟩, fun h1 h2 ⟨o, ep, g1, g2, g3⟩ k => ⟨o, ep, k o g1, g2, g3⟩⟩, q3 _ ((tr'.rpd).ext x)⟩
/-- {}: empty -/
theorem pe_dnewN : PE X (.Dict [] [] pos) (fun _ H Q => ∀ p, H p = none → (p == sysModules) = false → Q (.ref p) (upd H p (dO p []))) := ⟨fun pins s σ H Q I h =>
  wpAny_Dict_empty ⟨.ref s.heap.objs.size, _, I.laid (a := s.heap.objs.size) (o := dO s.heap.objs.size []) (t' := s.toks) (fun _ _ q => Heap.get?_push_of_some _ q) (Nat.le_refl _) ⟨⟨_, 0, Heap.get?_push_size _ rfl, ⟨rfl, rfl, rfl⟩, rfl⟩, ⟨_, Heap.get?_push_size _ rfl⟩, fun h1 h2 ⟨o, ep, g1, g2, g3⟩ k => ⟨o, ep, k o g1, g2, g3⟩⟩, rfl, h _ (I.hok.fresh (Nat.le_refl _)) (beq_eq_false_iff_ne.mpr (Ne.symm (Nat.ne_of_lt I.big)))⟩⟩
end
end DL
set_option Elab.async false
set_option linter.all false
set_option maxRecDepth 100000
set_option maxHeartbeats 1000000
/-! DL31: dicts over data. -/
namespace DL
open PySem PySem.Spec PyProof.Rows L2
theorem keyB_2 (a b : Int) : keyB (.tuple [.int a, .int b]) = true := rfl
theorem keyB_3 (a b c : Int) : keyB (.tuple [.int a, .int b, .int c]) = true := rfl
theorem keyB_4 (a b c d : Int) : keyB (.tuple [.int a, .int b, .int c, .int d]) = true := rfl
def dictAt (E : Env) (i : Nat) : Option (List (D × D)) := match E[i]? with
  | some (.dt kvs) => some kvs
  | some (.d (.dict kvs)) => some kvs
  | _ => none
def tupKeys (kvs : List (D × D)) : Bool := kvs.all fun p => match p.1 with
  | .tuple _ => true
  | _ => false
def optQ {α : Type} (o : Option α) (Q : α → Prop) : Prop := match o with
  | some d => Q d
  | none => False
section
variable {K : PySem.W.Frag} {G : Gh} {H : Hp} {E : Env} {σ : St} {ex : List Addr}
/-- no tuple is a key -/
def NoT (kvs : List (D × D)) : Prop := (∀ k, keyB k = true → valN kvs k = none) ∧ tupKeys kvs = false
theorem valN_hdl {a : Addr} {k : D} (hk : keyB k = true) : valN [(.none, .int a)] k = none := by
  obtain ⟨_, nk, e, _⟩ := keyB_ok hk
  rw [valN_cons, if_neg]
  · rfl
  · rw [e]; simp [nkOf]
theorem noT_keys : ∀ {kvs : List (D × D)} {us : List (Key × V)}, kvs.map (·.1) = us.map (fun u => keyDt u.1) → ∀ k, keyB k = true → valN kvs k = none
  | [], _, _, _, _ => rfl
  | p :: kvs, [], e, _, _ => by cases e
  | p :: kvs, u :: us, e, k, hk => by
    rw [List.map_cons, List.map_cons] at e
    injection e with e1 e2
    obtain ⟨⟨l, rfl⟩, nk, h, _⟩ := keyB_ok hk
    rw [valN_cons, if_neg, noT_keys e2 _ hk]
    rw [e1]
    unfold nkOf at h
    obtain ⟨ks, _, rfl⟩ := Option.map_eq_some_iff.mp h
    cases u.1 with
    | inl i => intro z; rw [show nkOf (.tuple l) = some (.tup ks) from h] at z; simp [keyDt, nkOf] at z
    | inr x => intro z; rw [show nkOf (.tuple l) = some (.tup ks) from h] at z; simp [keyDt, nkOf] at z
theorem dict_of {kvs : List (D × D)} {v : V} (p : Rp K H (.dict kvs) v) : ∃ a, v = .ref a ∧ (DN K H a kvs ∨ NoT kvs) := by
  generalize e : PyData.dict kvs = d at p
  cases p with
  | dct h l n m => cases e; exact ⟨_, rfl, .inl ⟨_, .inr ⟨_, h⟩, l, n, m⟩⟩
  | hdl a => cases e; exact ⟨a, rfl, .inr ⟨fun k hk => valN_hdl hk, rfl⟩⟩
  | dck h e1 l n =>
    cases e
    refine ⟨_, rfl, .inr ⟨noT_keys e1, ?_⟩⟩
    cases kvs with
    | nil => exact absurd rfl n
    | cons p kvs =>
      rename_i us
      cases us with
      | nil => cases e1
      | cons u us =>
        rw [List.map_cons, List.map_cons] at e1
        injection e1 with e1 _
        unfold tupKeys
        rw [List.all_cons, e1]
        cases u.1 <;> rfl
  | _ => cases e
theorem own_dn {kvs : List (D × D)} {a : Addr} (h : RelM K H (.dt kvs) a) : DN K H a kvs := by
  obtain ⟨es, e, l, n, m⟩ := h
  exact ⟨es, .inl e, l, n, m⟩
theorem dict_read {i : Nat} {kvs : List (D × D)} (r : RelX K G ex H E σ) (e : dictAt E i = some kvs) : ∃ a, σ[i]? = some (some (.ref a)) ∧ (DN K H a kvs ∨ NoT kvs) := by
  unfold dictAt at e
  split at e
  · rename_i kvs' he
    cases e
    obtain ⟨a, e1, e2⟩ := r.mutAt he rfl
    exact ⟨a, e1, .inl (own_dn e2)⟩
  · rename_i kvs' he
    cases e
    obtain ⟨v, e1, p⟩ := r.data he
    obtain ⟨a, rfl, h⟩ := dict_of p
    exact ⟨a, e1, h⟩
  · cases e
theorem Rd.pext {H' : Hp} (p : PExt H H') {a : Addr} {u : HO} (h : Rd H a u) : Rd H' a u := by
  rcases h with h | ⟨o, h⟩
  · exact .inl (p _ _ h)
  · exact .inr ⟨o, p _ _ h⟩
end
section
variable {X : Cx} {G : Gh} {a b c e f : Expr} {es : List Expr} {pos pos' p0 apos cpos : Pos} {x : Str} {tk tv tx ta : TD}
/-- d[k], d a name -/
def tDGetV (i : Nat) (tk : TD) : TD := fun E Q => match dictAt E i with
  | some _ => tk E fun k E1 => match dictAt E1 i with
    | some kvs => keyB k = true ∧ optQ (valN kvs k) fun d => Q d E1
    | none => False
  | none => False
theorem ed_dgetV (i : Nat) (hu : X.A.units + 65 < cLine) (hk : ED X G e tk) (hN : X.N[i]? = some x := by rfl) (hv : Vis X.env.scope x := by first | exact Or.inl rfl | exact Or.inr (Or.inl rfl) | exact Or.inr (Or.inr rfl)) (hd : (x == ("__debug__" : Str)) = false := by decide)
    (hcd : (x == ("__classdict__" : Str)) = false := by decide) (hs : NoSl e := by intro _ _; rfl) : ED X G (.Subscript (.Name x p0) e pos) (tDGetV i tk) :=
  ⟨PE.weak (pe_dgetN hu (pe_var hN hv hd hcd) hk.pe hs) fun σ H Q ⟨E, QE, r, q, k⟩ => by
    unfold tDGetV at q
    split at q
    · rename_i kvs0 he0
      obtain ⟨p, e1, e2⟩ := dict_read r he0
      refine ⟨_, e1, E, _, r, q, fun kd E1 v H1 q1 x1 r1 p1 => ?_⟩
      split at q1
      · rename_i kvs he
        obtain ⟨p', f1, f2⟩ := dict_read r1 he
        rw [e1] at f1; cases f1
        obtain ⟨hk, q1⟩ := q1
        rcases f2 with f2 | f2
        · cases hv : valN kvs kd with
          | none => rw [hv] at q1; exact q1.elim
          | some d => rw [hv] at q1; exact ⟨p, kvs, kd, d, rfl, f2, hk, p1, hv, fun v rv => k _ _ _ _ q1 x1 r1 rv⟩
        · rw [f2.1 _ hk] at q1; exact q1.elim
      · exact q1.elim
    · exact q.elim⟩
/-- d[k], d data -/
def tDGetD (ta tk : TD) : TD := fun E Q => ta E fun x E1 => tk E1 fun k E2 => match x with
  | .dict kvs => keyB k = true ∧ optQ (valN kvs k) fun d => Q d E2
  | _ => False
/-- d.get(k, x), d a name -/
def tDGet2V (i : Nat) (tk tx : TD) : TD := fun E Q => match dictAt E i with
  | some kvs0 => tupKeys kvs0 = true ∧ tk E fun k E1 => tx E1 fun z E2 => match dictAt E2 i with
    | some kvs => keyB k = true ∧ tupKeys kvs = true ∧ Q ((valN kvs k).getD z) E2
    | none => False
  | none => False
theorem ed_dget2V (i : Nat) (hu : X.A.units + 65 < cLine) (hk : ED X G e tk) (hx : ED X G f tx) (hN : X.N[i]? = some x := by rfl) (hv : Vis X.env.scope x := by first | exact Or.inl rfl | exact Or.inr (Or.inl rfl) | exact Or.inr (Or.inr rfl)) (hd : (x == ("__debug__" : Str)) = false := by decide)
    (hcd : (x == ("__classdict__" : Str)) = false := by decide) (m : M2 X (.Name x p0) "get" apos e f cpos := by exact ⟨rfl, rfl, rfl, rfl⟩) : ED X G (.Call (.Attribute (.Name x p0) "get" apos) [e, f] [] cpos) (tDGet2V i tk tx) :=
  ⟨PE.weak (pe_dget2N hu (pe_var hN hv hd hcd) hk.pe hx.pe m) fun σ H Q ⟨E, QE, r, q, k⟩ => by
    unfold tDGet2V at q
    split at q
    · rename_i kvs0 he0
      obtain ⟨p, e1, e2⟩ := dict_read r he0
      obtain ⟨t0, q⟩ := q
      have d0 : DN X.K H p kvs0 := by
        rcases e2 with e2 | e2
        · exact e2
        · rw [e2.2] at t0; cases t0
      refine ⟨_, e1, p, rfl, ⟨kvs0, d0⟩, E, _, r, q, fun kd E1 v H1 q1 x1 r1 p1 => ⟨E1, _, r1, q1, fun z E2 w H2 q2 x2 r2 p2 => ?_⟩⟩
      split at q2
      · rename_i kvs he
        obtain ⟨p', f1, f2⟩ := dict_read r2 he
        rw [e1] at f1; cases f1
        obtain ⟨hk, t2, q2⟩ := q2
        have d2 : DN X.K H2 p kvs := by
          rcases f2 with f2 | f2
          · exact f2
          · rw [f2.2] at t2; cases t2
        refine ⟨kvs, kd, d2, hk, p1.ext x2, fun d v hv rv => ?_, fun hv => ?_⟩
        · rw [hv] at q2; exact k _ _ _ _ q2 (x1.trans x2) r2 rv
        · rw [hv] at q2; exact k _ _ _ _ q2 (x1.trans x2) r2 p2
      · exact q2.elim
    · exact q.elim⟩
/-- k in d, d a name of a dict of one's own -/
def tInN (tk : TD) (i : Nat) : TTd := fun E Q => tk E fun k E1 => match E1[i]? with
  | some (.dt kvs) => keyB k = true ∧ Q (valN kvs k).isSome E1
  | _ => False
def tNotInN (tk : TD) (i : Nat) : TTd := fun E Q => tk E fun k E1 => match E1[i]? with
  | some (.dt kvs) => keyB k = true ∧ Q (!(valN kvs k).isSome) E1
  | _ => False
/-- d[k] = v -/
def sDPutV (i : Nat) (tk tv : TD) : TSd := fun DE E => tv E fun d E1 => match E1[i]? with
  | some (.dt _) => tk E1 fun k E2 => match E2[i]? with
    | some (.dt kvs) => keyB k = true ∧ kvs.length < sizeLine ∧ DE.nx (E2.set i (.dt (putN kvs k d)))
    | _ => False
  | _ => False
theorem sd_dputV (i : Nat) (hu : X.A.units + 65 < cLine) (hk : ED X G e tk) (hx : ED X G f tv) (hN : X.N[i]? = some x := by rfl) (hv : Vis X.env.scope x := by first | exact Or.inl rfl | exact Or.inr (Or.inl rfl) | exact Or.inr (Or.inr rfl)) (hd : (x == ("__debug__" : Str)) = false := by decide)
    (hcd : (x == ("__classdict__" : Str)) = false := by decide) (hs : swapsWith f (some (.Subscript (.Name x p0) e pos')) pos.line X.env = pure false := by rfl) : SD X G (.Assign [.Subscript (.Name x p0) e pos'] f pos) (sDPutV i tk tv) :=
  ⟨PS.weak (ps_dputN hu (pe_var hN hv hd hcd) hk.pe hx.pe hs) fun F σ H ⟨E, DE, r, q, k1, k2, k3, k4⟩ => ⟨E, _, r, q, fun d E1 v H1 q1 x1 r1 p1 => by
    split at q1
    · rename_i kvs0 he0
      obtain ⟨p, e1, e2⟩ := r1.mutAt he0 rfl
      refine ⟨_, e1, E1, _, r1, q1, fun kd E2 w H2 q2 x2 r2 p2 => ?_⟩
      split at q2
      · rename_i kvs he
        obtain ⟨p', f1, es, f2, l, nd, sm⟩ := r2.mutAt he rfl
        rw [e1] at f1; cases f1
        refine ⟨p, es, kvs, kd, d, rfl, f2, l, nd, sm, q2.1, p2, p1.ext x2, q2.2.1, fun es' l' => ?_⟩
        have x3 : Ext H2 (upd H2 p (dO p es')) := Ext.putS f2 (fun _ z => by cases z) (fun _ _ z => by cases z)
        exact k1 _ _ _ q2.2.2 ((x1.trans x2).trans x3) (r2.putM he rfl e1 (s1 := .dt _) ⟨es', upd_same, l', putN_nodup nd, sm⟩)
      · exact q2.elim
    · exact q1.elim⟩⟩
/-! ### new mutable things -/
abbrev TM := Env → (S → Env → Prop) → Prop
def liftM (K : PySem.W.Frag) (G : Gh) (t : TM) : TE := fun σ H Q => ∃ (E : Env) (QE : S → Env → Prop), RelE K G H E σ ∧ t E QE ∧
  ∀ s E' a H', QE s E' → Ext H H' → RelX K G [a] H' E' σ → G.H0 a = none → a ∉ G.addrs → RelM K H' s a → Q (.ref a) H'
structure EM (X : Cx) (G : Gh) (e : Expr) (t : TM) : Prop where
  pe : PE X e (liftM X.K G t)
def mDt : TM := fun E Q => Q (.dt []) E
theorem em_dt : EM X G (.Dict [] [] pos) mDt := ⟨PE.weak pe_dnewN fun σ H Q ⟨E, QE, r, q, k⟩ p hp sm => by
  obtain ⟨r2, h0, na⟩ := r.fresh (o := dO p []) hp
  exact k _ _ _ _ q (PExt.new hp).ext r2 h0 na ⟨[], upd_same, .nil, List.nodup_nil, sm⟩⟩
def mDk : TM := fun E Q => Q (.dk []) E
def sSetM (i : Nat) (t : TM) : TSd := fun DE E => t E fun s E1 => DE.nx (E1.set i s)
theorem sd_setM {i : Nat} {t : TM} (hi : i ∉ G.slots) (hN : X.N.Nodup) (hx : X.N[i]? = some x) (hl : Loc X.env.scope x) (h : EM X G e t) (hs : swapsWith e (some (.Name x pos')) pos.line X.env = pure false := by rfl)
    (hf : X.fn x = true ∨ X.env.scope.names.lookup x = some .local := by first | exact .inl rfl | exact .inr rfl | assumption) : SD X G (.Assign [.Name x pos'] e pos) (sSetM i t) :=
  ⟨PS.weak (ps_set hN hx hl h.pe hs hf) fun F σ H ⟨E, DE, r, q, k1, k2, k3, k4⟩ => ⟨E, _, r, q, fun d E1 a H1 q1 x1 r1 h0 na p1 => k1 _ _ _ q1 x1 (r1.setM (by simp) hi h0 p1)⟩⟩
def pM (t : TM) (u : TPs) : TPs := fun E Q => t E fun s E1 => u E1 fun ss E2 => Q (s :: ss) E2
theorem eps_m {t : TM} {u : TPs} (h : EM X G e t) (hr : ∀ G' : Gh, G'.slots = G.slots → EPs X G' es u) (hs : starEach (e :: es) X.env = (false, eval e X.env) :: starEach es X.env := by rfl) : EPs X G (e :: es) (pM t u) := by
  have hp : PA X es (fun σ H Q => ∃ G' : Gh, G'.slots = G.slots ∧ liftPs X.K G' u σ H Q) := ⟨fun pos pins s σ H Q I ⟨G', hG', q⟩ => (hr G' hG').pa.run pos pins s σ H Q I q⟩
  refine ⟨PA.weak (pa_cons h.pe hp hs) fun σ H Q ⟨E, QE, r, q, k⟩ => ⟨E, _, r, q, fun s0 E1 a H1 q1 x1 r1 h0 na p1 => ?_⟩⟩
  obtain ⟨u0, ha, _⟩ := p1.soft
  refine ⟨pend G a u0, rfl, E1, _, r1.toPend ha na, q1, fun ss E2 vs H2 ex q2 x2 r2 p2 => ?_⟩
  obtain ⟨r3, ha3⟩ := RelX.ofPend r2 h0 na
  obtain ⟨p3, nx⟩ := PVs.ofPend p2
  exact k _ _ _ _ (a :: ex) q2 (x1.trans x2) r3 (.m (p1.move x2 (by rw [ha3, ha])) h0 na nx p3)
end
end DL
set_option Elab.async false
set_option linter.all false
set_option maxRecDepth 100000
set_option maxHeartbeats 1000000
/-! DL32: defs that may raise: raise X(), calls of such defs, try .. except X. -/
namespace DL
open PySem PySem.Spec PyProof.Rows L2
/-- X() -/
theorem pmk_own0 {X : Cx} {C : Addr} {bmB : List Value} {B newId initId : String} {x : Str} {p pos : Pos} (F : ExcBaseFacts B newId initId bmB) (q : PySem.W.excIn X.K C bmB newId = true) (gC : X.mg x = some (.ref C)) (kC : PySem.W.keepIn X.K (.ref C) = true) (r : Raises X (.ref C)) (hg : Gl X x)
    (hdb : (x == ("__debug__" : Str)) = false := by decide) : PMk X (.Call (.Name x p) [] [] pos) (fun _ H Q => Q (.ref C) none H) := by
  intro pins s σ H Q I h
  refine wpAny_Call_Name_kw (ld_glob I hg gC ?_ hdb)
  refine PySem.W.callWith_K0 I.kIn kC ?_
  show wpAny _ _ (call (.ref C) []) _ _ _
  obtain ⟨bm, N, nm, qn, bs, hdct, sn, sub, ab, col, dd, k0, k1, k2, k3, k5, mN, hC, hN, hni, T⟩ := exc_obj I.kIn q
  refine wpAny_call_exc_subT F T hC hN hni (fun h' e hm => ?_) (by show 0 ≤ sizeLine; exact Nat.zero_le _)
  exact mk_of I hm r h (I.hok.gone hm.new)
/-- an own class catches itself, and what stands below it -/
theorem exm_sub {K : PySem.W.Frag} {S T : Addr} {b : Bool} (h1 : PySem.W.subIn K (.ref T) (.type "BaseException") = some true) (h2 : PySem.W.isClsIn K T = true) (h3 : PySem.W.typeIn K (.ref T) = some (.type "type")) (h4 : PySem.W.subIn K (.ref S) (.ref T) = some b) : PySem.W.exmOne K (.ref S) (.ref T) = some b := by
  unfold PySem.W.exmOne
  rw [h1, if_pos (by rfl)]
  have e2 : ((PySem.W.clsIn K T).isSome && PySem.W.typeIn K (.ref T) == some (.type "type")) = true := by
    have h2' : (PySem.W.clsIn K T).isSome = true := h2
    rw [h2', h3] <;> rfl
  show (if ((PySem.W.clsIn K T).isSome && PySem.W.typeIn K (.ref T) == some (.type "type")) = true then PySem.W.subIn K (.ref S) (.ref T) else none) = some b
  rw [if_pos e2]
  exact h4
/-- a def's promise: what it gives, what it raises -/
abbrev SpX := List S → (D → List S → Prop) → (Value → List S → Prop) → Prop
def spLX (K : PySem.W.Frag) (sp : SpX) : Sp := fun vs H Q E => ∃ (ss : List S) (as : List Addr) (QD : D → List S → Prop) (QX : Value → List S → Prop), sp ss QD QX ∧ AR K H ss vs as ∧ as.Nodup ∧
  (∀ d outs v H', QD d outs → (∀ p o, H p = some o → p ∉ as → H' p = some o) → Paired (RelM K H') outs as → Rp K H' d v → Q v H') ∧
  ∀ cls outs H', QX cls outs → (∀ p o, H p = some o → p ∉ as → H' p = some o) → Paired (RelM K H') outs as → E cls none H'
/-- what is wished of an exception, over data -/
abbrev WDt := Value → Env → Prop
def Wish (K : PySem.W.Frag) (G : Gh) (WD : WDt) (W : WX) : Prop := ∀ cls E σ H, WD cls E → RelE K G H E σ → W cls none σ H
section
variable {X : Cx} {G : Gh} {e : Expr} {pos : Pos}
def sRaise (WD : WDt) (c : Value) : TSd := fun _ E => WD c E
theorem sd_raise {W : WX} {WD : WDt} {c : Value} (hc : X.calm = true) (tk : Takes X W) (hW : Wish X.K G WD W) (mk : PMk X e (fun _ H Q => Q c none H)) : SD X G (.Raise (some e) none pos) (sRaise WD c) :=
  ⟨PS.weak (ps_raise hc tk mk) fun F σ H ⟨E, DE, r, q, _⟩ => hW c E σ H q r⟩
theorem SDs.nox {st : List Stmt} {t : TSd} (h : SDs X.nox G st t) : SDs X G st t := ⟨PSs.nox h.pss⟩
theorem SD.nox {st : Stmt} {t : TSd} (h : SD X.nox G st t) : SDs X G [st] t := SDs.nox (sds_one h)
end
/-- THE RULE for a def that may raise -/
theorem fn_okX {P : Program} {w : World} {K : PySem.W.Frag} {mg : Str → Option Value} {base : Heap} {x qual : Str} {st : Stmt} {f : Addr} {fd : FuncData} {N ps : List Str} {k : Nat} {sp : SpX} {slots : List Nat} {tb : WDt → TSd}
    (F : Fun K x qual st f fd) (Sc : FnScope N ps (defScope st)) (shape : ∀ ss QD QX, sp ss QD QX → ss.length = ps.length ∧ mpos 0 ss = slots)
    (body : ∀ (cdv : Value) (A : Around) (outer : List PySem.Env) (s : Shared) (H : Hp) (E : XK), Room k (A.deeper (envOfC qual (defScope st) s.heap.objs.size f cdv)) → ∀ G : Gh, G.slots = slots → ∀ WD : WDt, Wish K G WD (fun cls d _ H' => E cls d H') →
      SDs (cxOf (L2.CX P w) P w K mg base N qual (defScope st) f cdv A outer s H E) G (defBody st) (tb WD))
    (read : ∀ ss QD QX, sp ss QD QX → tb (fun cls E' => finO slots E' (QX cls)) { nx := fun E' => finO slots E' (QD .none), rt := fun d E' => finO slots E' (QD d) } (ss ++ List.replicate (N.length - ps.length) .un)) :
    FnOk P w K mg base (L2.CX P w) (k + 1) f fd ps (spLX K sp) := by
  refine F.okX Sc (fun vs H Q E h => ?_) (fun cdv A outer s H vs Q E hr h => ?_)
  · obtain ⟨ss, as, QD, QX, h1, h2, _⟩ := h
    rw [← h2.length]; exact (shape ss QD QX h1).1
  · obtain ⟨ss, as, QD, QX, h1, h2, nd, h4, h5⟩ := h
    obtain ⟨hl, hm⟩ := shape ss QD QX h1
    have ml := h2.mlen 0
    have hG : (⟨H, (mpos 0 ss).zip as, fun _ => none, []⟩ : Gh).slots = slots := by show ((mpos 0 ss).zip as).map (·.1) = slots; rw [zip_fst ml, hm]
    have hA : (⟨H, (mpos 0 ss).zip as, fun _ => none, []⟩ : Gh).addrs = as := by show ((mpos 0 ss).zip as).map (·.2) ++ [] = as; rw [zip_snd ml, List.append_nil]
    have hW : Wish K ⟨H, (mpos 0 ss).zip as, fun _ => none, []⟩ (fun cls E' => finO slots E' (QX cls)) (fun cls d _ H' => E cls d H') := fun cls E' σ H' q r => by
      obtain ⟨outs, q1, p1⟩ := finO_rel r (as := as) (by rw [← hm]; exact ml) (by rw [← hm]; exact fun p hp => hp) q
      exact h5 cls outs H' q1 (fun p o e ne => r.keep p o e (by rw [hA]; exact ne)) p1
    refine ⟨_, (body cdv A outer s H E hr ⟨H, (mpos 0 ss).zip as, fun _ => none, []⟩ hG _ hW).pss, ?_⟩
    have hst : L2.start N vs = vs.map some ++ List.replicate (N.length - ps.length) none := by unfold L2.start; rw [← h2.length, hl]
    refine ⟨ss ++ List.replicate (N.length - ps.length) .un, { nx := fun E' => finO slots E' (QD .none), rt := fun d E' => finO slots E' (QD d) }, by rw [hst]; exact h2.start nd, read ss QD QX h1, fun E' σ' H' q x r => ?_, fun d E' v σ' H' q x r p => ?_, fun _ _ _ q => False.elim q, fun _ _ _ q => False.elim q⟩
    · obtain ⟨outs, q1, p1⟩ := finO_rel r (as := as) (by rw [← hm]; exact ml) (by rw [← hm]; exact fun p hp => hp) q
      exact h4 .none outs .non H' q1 (fun p o e ne => r.keep p o e (by rw [hA]; exact ne)) p1 .non
    · obtain ⟨outs, q1, p1⟩ := finO_rel r (as := as) (by rw [← hm]; exact ml) (by rw [← hm]; exact fun p hp => hp) q
      exact h4 d outs v H' q1 (fun p o e ne => r.keep p o e (by rw [hA]; exact ne)) p1 p
/-! ### a call of such a def -/
def tCallX (sp : SpX) (ta : TAd) (WD : WDt) : TD := fun E Q => ta E fun as E1 => match argS E1 as with
  | some ss => ndp (oixs as) = true ∧ sp ss (fun r outs => Q r (putO as outs E1)) (fun cls outs => WD cls (putO as outs E1))
  | none => False
section
variable {X : Cx} {G : Gh} {e : Expr} {es : List Expr} {pos p : Pos} {x : Str} {f : Addr} {fd : FuncData} {ps : List Str} {k : Nat} {sp : SpX} {ta : TAd}
theorem ed_callX {W : WX} {WD : WDt} (F : FnOk X.prog X.w X.K X.mg X.base (L2.CX X.prog X.w) k f fd ps (spLX X.K sp)) (tk : Takes X W) (hW : Wish X.K G WD W) (hr : Room k X.A) (hg : Gl X x) (hm : X.mg x = some (.ref f)) (hk : PySem.W.keepIn X.K (.ref f) = true) (hb : Binds X.K fd ps []) (ha : EA X G (e :: es) ta) (hdb : (x == ("__debug__" : Str)) = false := by decide)
    (hs : starEach (e :: es) X.env = (false, eval e X.env) :: starEach es X.env := by rfl) (hplain : (backTo pos (starEach es X.env)).any (·.1) = false := by rfl) : ED X G (.Call (.Name x p) (e :: es) [] pos) (tCallX sp ta WD) := by
  refine ⟨PE.weak (pe_callS (E := WE W) F hr hg hm hk hb (fun σ => passAt tk σ) ha.pa (hdb := hdb) (he := hs) (hpl := hplain)) fun σ H Q ⟨E0, QE, r, q, kk⟩ => ?_⟩
  refine ⟨E0, _, r, q, fun as E1 vs H1 q1 x1 r1 p1 => ?_⟩
  show spLX X.K sp vs H1 Q _
  split at q1
  · rename_i ss hs
    obtain ⟨nd, q1⟩ := q1
    obtain ⟨ad, ar, po⟩ := RelA.args r1 p1 hs
    have adn := addrs_nodup r1 nd po
    have islst : ∀ a ∈ ad, Soft H1 a := fun a ha => by
      obtain ⟨i, hi, e1, s, e2, m⟩ := Paired.mem2 po ha
      obtain ⟨b, f1, f2⟩ := r1.mutAt e2 m
      rw [e1] at f1; cases f1; exact f2.soft
    refine ⟨ss, ad, _, _, q1, ar, adn, fun d outs v H' q2 keep pr pd => ?_, fun cls outs H' q2 keep pr => ?_⟩
    · exact kk d _ v H' q2 (x1.trans (Ext.ofSoft keep islst)) (RelX.puts nd r1 keep islst pr po) pd
    · exact hW _ _ _ _ q2 (RelX.puts nd r1 keep islst pr po)
  · exact q1.elim
end
/-! ### try .. except X -/
end DL
set_option Elab.async false
set_option linter.all false
set_option maxRecDepth 100000
set_option maxHeartbeats 1000000
/-! DL33: a call without arguments. -/
namespace DL
open PySem PySem.Spec PyProof.Rows L2
def tCall0D (sp : SpD) : TD := fun E Q => sp [] fun r _ => Q r E
end DL
set_option Elab.async false
set_option linter.all false
set_option maxRecDepth 100000
set_option maxHeartbeats 1000000
/-! DL34: a call whose last argument is a new mutable thing; list(range(n)). -/
namespace DL
open PySem PySem.Spec PyProof.Rows L2
abbrev TAm := Env → (List D → S → Env → Prop) → Prop
def amM (t : TM) : TAm := fun E Q => t E fun s E1 => s.isMut = true ∧ Q [] s E1
def amV (t : TD) (u : TAm) : TAm := fun E Q => t E fun d E1 => u E1 fun ds s E2 => Q (d :: ds) s E2
def tCallM (sp : SpD) (ta : TAm) : TD := fun E Q => ta E fun ds s E1 => sp (ds.map S.d ++ [s]) fun r _ => Q r E1
theorem AR.data {K : PySem.W.Frag} {H : Hp} {s : S} {a : Addr} (hm : s.isMut = true) (h : RelM K H s a) : ∀ {ds : List D} {vs : List V}, RpL K H ds vs → AR K H (ds.map S.d ++ [s]) (vs ++ [.ref a]) [a]
  | _, _, .nil => .o hm h .nil
  | _, _, .cons p t => .d p (AR.data hm h t)
section
variable {X : Cx} {G : Gh} {e : Expr} {es : List Expr} {pos p p1 p2 : Pos} {x : Str} {f : Addr} {fd : FuncData} {ps : List Str} {k : Nat} {sp : SpD} {ta : TAm}
/-- list(range(n)) -/
def tListRg (ta : TD) : TLd := fun E Q => ta E fun d E1 => match d with
  | .int n => (0 ≤ n ∧ n ≤ 10000000) ∧ Q (rangeD 0 n.toNat) E1
  | _ => False
end
end DL
set_option Elab.async false
set_option linter.all false
set_option maxRecDepth 100000
set_option maxHeartbeats 1000000
/-! DL35: a, b = a list -/
namespace DL
open PySem PySem.Spec PyProof.Rows L2
section
variable {X : Cx} {G : Gh} {e : Expr} {es : List Expr} {pos : Pos}
def gLstD (n : Nat) (u : TGsd) : TGd := fun d E Q => match d with
  | .list ds => ds.length = n ∧ u ds E Q
  | _ => False
end
end DL
set_option Elab.async false
set_option linter.all false
set_option maxRecDepth 100000
set_option maxHeartbeats 1000000
/-! DL36: dicts as data, walked: keys, values, pairs; list(d), list(d.values()). -/
namespace DL
open PySem PySem.Spec PyProof.Rows L2
/-- what stands in the entries -/
abbrev KVs (ps : List (V × V)) (es : List DictEntry) : Prop := Paired (fun p e => RelV p.1 e.key ∧ RelV p.2 e.val) ps es
theorem RpD.kvs {K : PySem.W.Frag} {H : Hp} : ∀ {kvs : List (D × D)} {es : List DictEntry}, RpD K H kvs es → ∃ ps, KVs ps es ∧ RpL K H (kvs.map (·.1)) (ps.map (·.1)) ∧ RpL K H (kvs.map (·.2)) (ps.map (·.2))
  | _, _, .nil => ⟨[], .nil, .nil, .nil⟩
  | _, _, .cons (b := b) (v := v) t n1 n2 n3 e1 h g r l => by
    obtain ⟨ps, h1, h2, h3⟩ := RpD.kvs l
    exact ⟨(.ref b, v) :: ps, .cons ⟨by rw [e1]; rfl, r⟩ h1, .cons h h2, .cons g h3⟩
section
variable {X : Cx} {pins : List (Addr × Obj)} {σ : St} {H : Hp} {s : Shared} {d : Addr} {o : Obj} {es : List DictEntry}
theorem frz_raw (I : Inv X pins σ H s) (h : H d = some (.frz o (dO d es))) : ∃ ep, o.data = .dict es.toArray ep ∧ s.heap.DictRaw d es.toArray ep ∧ d < s.heap.objs.size := by
  obtain ⟨g, ⟨q, ep, h1, h2, h3⟩, _⟩ := I.hok d _ h
  rw [g] at h1; cases h1
  exact ⟨ep, h3, ⟨o, g, h2, h3⟩, Heap.lt_size g⟩
end
/-- the walks: the dict stays as it is -/
def ItDk (d : Addr) (o : Obj) (es : List DictEntry) (ps : List (V × V)) : It :=
  ⟨fun i H => H d = some (.frz o (dO d es)) ∧ i < ps.length, fun i H x H' => H' = H ∧ ∃ p, ps[i]? = some p ∧ x = p.1, fun i H => H d = some (.frz o (dO d es)) ∧ ps.length ≤ i⟩
def ItDi (d : Addr) (o : Obj) (es : List DictEntry) (ps : List (V × V)) : It :=
  ⟨fun i H => H d = some (.frz o (dO d es)) ∧ i < ps.length, fun i H x H' => ∃ T p, ps[i]? = some p ∧ x = .ref T ∧ H T = none ∧ H' = upd H T (.tup [p.1, p.2]), fun i H => H d = some (.frz o (dO d es)) ∧ ps.length ≤ i⟩
section
variable {P : Program} {w : World} {K : PySem.W.Frag} {tg : Expr} {d : Addr} {o : Obj} {es : List DictEntry} {ps : List (V × V)} {ep : Nat}
theorem kv_at (hp : KVs ps es) {i : Nat} (hi : i < ps.length) : ∃ p, ps[i]? = some p ∧ ∃ h : i < es.toArray.size, RelV p.1 (es.toArray[i]'h).key ∧ RelV p.2 (es.toArray[i]'h).val := by
  obtain ⟨e, h1, h2⟩ := paired_get hp (List.getElem?_eq_getElem hi)
  obtain ⟨hl, h3⟩ := List.getElem?_eq_some_iff.mp h1
  refine ⟨_, List.getElem?_eq_getElem hi, by simpa using hl, ?_⟩
  have : (es.toArray[i]'(by simpa using hl)) = e := by simpa using h3
  rw [this]; exact h2
theorem turn_dk (it : Addr) (hp : KVs ps es) (hod : o.data = .dict es.toArray ep) : Turn P w K tg (ItDk d o es ps) [it] it (fun i h => h.IsKeyIter it d i es.toArray.size ep) where
  mem := List.mem_singleton.mpr rfl
  obj := fun i h st b hb => by
    rw [List.mem_singleton.mp hb]
    obtain ⟨q, e, c, z⟩ := st
    exact ⟨q, e, fun v y => by rw [z] at y; cases y⟩
  keep := fun i h h' st k => st.at fun q e => k it (List.mem_singleton.mpr rfl) q e
  item := by
    intro X hP hw hK hc i pins s σ H E I hf st ⟨hd, hi⟩
    subst hP hw hK
    obtain ⟨f0, f1, f2, f3, f4, f5⟩ := hf it (List.mem_singleton.mpr rfl)
    obtain ⟨ep', h1, raw, _⟩ := frz_raw I hd
    have : ep' = ep := by rw [hod] at h1; injection h1 with _ z; exact z.symm
    subst this
    obtain ⟨p, hpi, hl, rk, rv⟩ := kv_at hp hi
    refine wpAny_pyNext_keys_item_raw st raw hl fun h' st' sb => ?_
    have I' : Inv X pins σ H { s with heap := h' } := I.turned (t' := s.toks) (fun b ob hb e => (sb.2 b hb).trans e) f0 f1 f3 f4 f5
    obtain ⟨q, e, c, z⟩ := id st'
    exact ⟨_, rfl, go_of (s := { s with heap := h' }) e c z (by decide) ⟨p.1, H, I', rk, ⟨rfl, p, hpi, rfl⟩, st', fun b hb => (hf b hb).1⟩⟩
  done := by
    intro X hP hw hK hc i pins s σ H E I hf st ⟨hd, hi⟩
    subst hP hw hK
    obtain ⟨f0, f1, f2, f3, f4, f5⟩ := hf it (List.mem_singleton.mpr rfl)
    obtain ⟨ep', h1, raw, _⟩ := frz_raw I hd
    have : ep' = ep := by rw [hod] at h1; injection h1 with _ z; exact z.symm
    subst this
    have hl : ps.length = es.length := Paired.length hp
    exact wpAny_pyNext_keys_end_raw (I.ok.hd hc) st raw (by simp; omega) fun h' eb => ⟨rfl, I.turned (t' := s.toks) (fun b ob hb e => eb b ob hb e) f0 f1 f3 f4 f5⟩
  self := fun A i s Q E st h => by
    refine wpAny_pyIter_slot st.typeIs F.slot_dict_keyiterator_iter (wpAny_call_entry F.slot_dict_keyiterator_iter st.typeIs F.entry_dict_keyiterator_iter ?_ (F.args_dict_keyiterator_iter_1 _))
    show wpAny (model P w) _ (ret (Value.ref it)) _ _ s
    exact wpAny_pure ⟨_, rfl, "dict_keyiterator", _, st.typeIs, F.slot_dict_keyiterator_next.lookup, h⟩
theorem turn_di {elts : List Expr} {kk : Nat} {tpos : Pos} (it : Addr) (hp : KVs ps es) (hod : o.data = .dict es.toArray ep) : Turn P w K (.Tuple elts kk tpos) (ItDi d o es ps) [it] it (fun i h => ∃ a b, IsItemIter h it d i es.toArray.size ep a b) where
  mem := List.mem_singleton.mpr rfl
  obj := fun i h st b hb => by
    rw [List.mem_singleton.mp hb]
    obtain ⟨q, r, e⟩ := st
    exact ⟨_, e, fun v y => nomatch y⟩
  keep := fun i h h' st k => let ⟨q, r, e⟩ := st; ⟨q, r, k it (List.mem_singleton.mpr rfl) _ e⟩
  item := by
    intro X hP hw hK hc i pins s σ H E I hf st ⟨hd, hi⟩
    subst hP hw hK
    obtain ⟨ep', h1, raw, _⟩ := frz_raw I hd
    have : ep' = ep := by rw [hod] at h1; injection h1 with _ z; exact z.symm
    subst this
    obtain ⟨p, hpi, hl, rk, rv⟩ := kv_at hp hi
    obtain ⟨ak, av, he⟩ := st
    have ilt : it < s.heap.objs.size := Heap.lt_size he
    refine wpAny_pyNext_items_item_raw he raw hl fun h' ho hT hz hk => ?_
    refine ⟨_, rfl, wpAny_letOwnedTupleGo_items (s := { s with heap := h' }) ho fun h'' he' sb => ?_⟩
    generalize (es.toArray[i]'hl).key = ku at *
    generalize (es.toArray[i]'hl).val = vu at *
    have hT' : h''.get? s.heap.objs.size = some { cls := .type "tuple", data := .seq #[ku, vu] } := (sb.2 _ (Nat.ne_of_gt ilt)).trans hT
    have new : ObjOk X.prog X.w (upd H s.heap.objs.size (.tup [p.1, p.2])) h'' s.heap.objs.size (.tup [p.1, p.2]) := ⟨by show 2 ≤ sizeLine; decide, [ku, vu], .cons rk (.cons rv .nil), ⟨_, hT', rfl, _, rfl⟩⟩
    have I' : Inv X pins σ (upd H s.heap.objs.size (.tup [p.1, p.2])) { s with heap := h'' } :=
      I.turnedNew (t' := s.toks) (ch := [it]) (fun b ob hb e => (sb.2 b (fun z => hb (List.mem_singleton.mpr z))).trans (hk b ob (fun z => hb (List.mem_singleton.mpr z)) e)) hf (Nat.le_refl _) new
    refine ⟨.ref s.heap.objs.size, _, I', rfl, ⟨_, p, hpi, rfl, I.hok.fresh (Nat.le_refl _), rfl⟩, ⟨ku, vu, he'⟩, fun b hb => ?_⟩
    rw [List.mem_singleton.mp hb, upd_ne (Nat.ne_of_lt ilt)]
    exact (hf it (List.mem_singleton.mpr rfl)).1
  done := by
    intro X hP hw hK hc i pins s σ H E I hf st ⟨hd, hi⟩
    subst hP hw hK
    obtain ⟨f0, f1, f2, f3, f4, f5⟩ := hf it (List.mem_singleton.mpr rfl)
    obtain ⟨ep', h1, raw, _⟩ := frz_raw I hd
    have : ep' = ep := by rw [hod] at h1; injection h1 with _ z; exact z.symm
    subst this
    have hl : ps.length = es.length := Paired.length hp
    obtain ⟨ak, av, he⟩ := st
    exact wpAny_pyNext_items_end_raw (I.ok.hd hc) he raw (by simp; omega) fun h' eb => ⟨rfl, I.turned (t' := s.toks) (fun b ob hb e => eb b ob hb e) f0 f1 f3 f4 f5⟩
  self := fun A i s Q E st h => let ⟨_, _, e⟩ := st; PySem.W.kcp_self e h
end
section
variable {X : Cx} {tg e : Expr} {td : TE} {apos cpos : Pos}
theorem pi_dk (he : PE X e td) : PI X tg e (fun σ H R => td σ H fun x H1 => ∃ d o es ps, x = .ref d ∧ H1 d = some (.frz o (dO d es)) ∧ KVs ps es ∧ (d == sysModules) = false ∧ R (ItDk d o es ps) H1) := by
  refine ⟨fun pins s σ H R I h => ?_⟩
  refine thn (he.run pins s σ H _ I h) fun u s1 ⟨x, H1, I1, rx, d, o, es, ps, ex, hd, hp, sm, q⟩ => ?_
  subst ex
  obtain rfl : u = Value.ref d := rx
  obtain ⟨ep, h1, raw, _⟩ := frz_raw I1 hd
  exact wpAny_pyIter_dict_raw sm raw (pi_one (tk := s1.toks) I1 _ (turn_dk _ hp h1) ⟨_, Heap.get?_push_size _ rfl, rfl, rfl⟩ q)
theorem pi_di {elts : List Expr} {kk : Nat} {tpos : Pos} (he : PE X e td) (hbase : attributeBase e "items" X.env (eval e X.env) = eval e X.env := by rfl) (hline : (apos.endLine == cpos.line) = true := by rfl) :
    PI X (.Tuple elts kk tpos) (.Call (.Attribute e "items" apos) [] [] cpos) (fun σ H R => td σ H fun x H1 => ∃ d o es ps, x = .ref d ∧ H1 d = some (.frz o (dO d es)) ∧ KVs ps es ∧ (d == sysModules) = false ∧ R (ItDi d o es ps) H1) := by
  refine ⟨fun pins s σ H R I h => ?_⟩
  refine wpAny_Call_method (T := "dict") (id := "dict.items") hbase rfl hline F.plainAttrs_dict F.slot_dict_items F.type_dict_items (thn (he.run pins s σ H _ I h) fun u s1 ⟨x, H1, I1, rx, d, o, es, ps, ex, hd, hp, sm, q⟩ => ?_)
  subst ex
  obtain rfl : u = Value.ref d := rx
  obtain ⟨ep, h1, raw, _⟩ := frz_raw I1 hd
  refine ⟨raw.typeIs, fun b z => ?_, ?_⟩
  · cases z; obtain ⟨q, g1, g2, _⟩ := raw; exact ⟨q, g1, g2.2.1⟩
  have I2 : Inv X pins σ H1 { s1 with heap := s1.heap.push { cls := .type "dict_items", data := .fields #[.ref d] } } := I1.kept (t' := s1.toks) fun b ob z => Heap.get?_push_of_some _ z
  have fin : wpAny (model X.prog X.w) X.A (pyIter (.ref s1.heap.objs.size)) (PIE X pins σ (.Tuple elts kk tpos) R) X.xe { s1 with heap := s1.heap.push { cls := .type "dict_items", data := .fields #[.ref d] } } :=
    wpAny_pyIter_items_raw (d := d) ⟨_, Heap.get?_push_size _ rfl, rfl, rfl⟩ (raw.push _) (pi_one (tk := s1.toks) I2 _ (turn_di _ hp h1) ⟨.none, .none, Heap.get?_push_size _ rfl⟩ q)
  show wpAny _ _ (callWith cpos (.builtin "dict.items") [.ref d] [] []) _ X.xe s1
  exact method_meetsIn F.slot_dict_items F.entry_dict_items rfl (PySem.evalArgs_none ⟨rfl, raw.typeIs, F.args_dict_items_1 _, _, meets_dict_items_raw d sm, ⟨_, _, raw⟩, fin⟩)
end
/-! over data -/
section
variable {K : PySem.W.Frag} {H : Hp}
theorem dict_tup {kvs : List (D × D)} {v : V} (p : Rp K H (.dict kvs) v) (ht : tupKeys kvs = true) : ∃ a o es ps, v = .ref a ∧ H a = some (.frz o (dO a es)) ∧ KVs ps es ∧ (a == sysModules) = false ∧ RpL K H (kvs.map (·.1)) (ps.map (·.1)) ∧ RpL K H (kvs.map (·.2)) (ps.map (·.2)) := by
  generalize e : PyData.dict kvs = d at p
  cases p with
  | dct h l n m =>
    cases e
    obtain ⟨ps, h1, h2, h3⟩ := l.kvs
    exact ⟨_, _, _, ps, rfl, h, h1, m, h2, h3⟩
  | hdl a => cases e; cases ht
  | dck h e1 l n =>
    cases e
    cases kvs with
    | nil => exact absurd rfl n
    | cons p kvs =>
      rename_i us
      cases us with
      | nil => cases e1
      | cons u us =>
        rw [List.map_cons, List.map_cons] at e1
        injection e1 with e1 _
        unfold tupKeys at ht
        rw [List.all_cons, e1] at ht
        cases h : u.1 with
        | inl i => rw [h] at ht; simp [keyDt] at ht
        | inr x => rw [h] at ht; simp [keyDt] at ht
  | _ => cases e
theorem rpl_fst {kvs : List (D × D)} {ps : List (V × V)} (l : RpL K H (kvs.map (·.1)) (ps.map (·.1))) {i : Nat} {p : V × V} (h : ps[i]? = some p) : ∃ q, kvs[i]? = some q ∧ Rp K H q.1 p.1 := by
  obtain ⟨d, h1, h2⟩ := l.getV (i := i) (v := p.1) (by rw [List.getElem?_map, h]; rfl)
  rw [List.getElem?_map] at h1
  obtain ⟨q, h3, rfl⟩ := Option.map_eq_some_iff.mp h1
  exact ⟨q, h3, h2⟩
theorem rpl_snd {kvs : List (D × D)} {ps : List (V × V)} (l : RpL K H (kvs.map (·.2)) (ps.map (·.2))) {i : Nat} {p : V × V} (h : ps[i]? = some p) : ∃ q, kvs[i]? = some q ∧ Rp K H q.2 p.2 := by
  obtain ⟨d, h1, h2⟩ := l.getV (i := i) (v := p.2) (by rw [List.getElem?_map, h]; rfl)
  rw [List.getElem?_map] at h1
  obtain ⟨q, h3, rfl⟩ := Option.map_eq_some_iff.mp h1
  exact ⟨q, h3, h2⟩
def pairD (p : D × D) : D := .tuple [p.1, p.2]
variable {d : Addr} {o : Obj} {es : List DictEntry} {ps : List (V × V)} {kvs : List (D × D)}
theorem walk_dk (h : H d = some (.frz o (dO d es))) (l1 : RpL K H (kvs.map (·.1)) (ps.map (·.1))) : WalkD false K (ItDk d o es ps) H (kvs.map (·.1)) where
  goes := fun i H' x hi => ⟨x.frz _ _ _ h, by have := l1.length; simp at this hi; omega⟩
  yld := fun i H' v H2 x hi hy => by
    obtain ⟨rfl, p, hp, rfl⟩ := hy
    obtain ⟨q, h1, h2⟩ := rpl_fst l1 hp
    exact ⟨PExt.refl _, q.1, by rw [List.getElem?_map, h1]; rfl, h2.ext x⟩
  stops := fun H' x => ⟨x.frz _ _ _ h, by have := l1.length; simp at this ⊢; omega⟩
theorem walk_di (h : H d = some (.frz o (dO d es))) (l1 : RpL K H (kvs.map (·.1)) (ps.map (·.1))) (l2 : RpL K H (kvs.map (·.2)) (ps.map (·.2))) : WalkD true K (ItDi d o es ps) H (kvs.map pairD) where
  goes := fun i H' x hi => ⟨x.frz _ _ _ h, by have := l1.length; simp at this hi; omega⟩
  yld := fun i H' v H2 x hi hy => by
    obtain ⟨T, p, hp, rfl, hT, rfl⟩ := hy
    obtain ⟨q, h1, h2⟩ := rpl_fst l1 hp
    obtain ⟨q', h1', h2'⟩ := rpl_snd l2 hp
    rw [h1] at h1'; cases h1'
    refine ⟨PExt.new hT, pairD q, by rw [List.getElem?_map, h1]; rfl, ?_⟩
    have x2 := x.trans (PExt.new (o := .tup [p.1, p.2]) hT).ext
    exact .pair (.inl (.inl upd_same)) (.cons (h2.ext x2) (.cons (h2'.ext x2) .nil))
  stops := fun H' x => ⟨x.frz _ _ _ h, by have := l1.length; simp at this ⊢; omega⟩
end
section
variable {X : Cx} {G : Gh} {tg e : Expr} {ta : TD} {apos cpos : Pos}
def iDk (ta : TD) : TDs := fun E Q => ta E fun x E1 => match x with
  | .dict kvs => tupKeys kvs = true ∧ Q (kvs.map (·.1)) E1
  | _ => False
def iDv (ta : TD) : TDs := fun E Q => ta E fun x E1 => match x with
  | .dict kvs => tupKeys kvs = true ∧ Q (kvs.map (·.2)) E1
  | _ => False
def iDi (ta : TD) : TDs := fun E Q => ta E fun x E1 => match x with
  | .dict kvs => tupKeys kvs = true ∧ Q (kvs.map pairD) E1
  | _ => False
theorem id_dk (h : ED X G e ta) : ID X G false tg e (iDk ta) :=
  ⟨PI.weak (pi_dk h.pe) fun σ H R ⟨E, QE, r, q, k⟩ => ⟨E, _, r, q, fun x E1 v H1 q1 x1 r1 p1 => by
    split at q1
    · obtain ⟨a, o, es, ps, rfl, h1, h2, h3, l1, l2⟩ := dict_tup p1 q1.1
      exact ⟨a, o, es, ps, rfl, h1, h2, h3, k _ _ _ _ q1.2 x1 r1 (walk_dk h1 l1)⟩
    · exact q1.elim⟩⟩
theorem id_di {elts : List Expr} {kk : Nat} {tpos : Pos} (h : ED X G e ta) (hbase : attributeBase e "items" X.env (eval e X.env) = eval e X.env := by rfl) (hline : (apos.endLine == cpos.line) = true := by rfl) : ID X G true (.Tuple elts kk tpos) (.Call (.Attribute e "items" apos) [] [] cpos) (iDi ta) :=
  ⟨PI.weak (pi_di h.pe hbase hline) fun σ H R ⟨E, QE, r, q, k⟩ => ⟨E, _, r, q, fun x E1 v H1 q1 x1 r1 p1 => by
    split at q1
    · obtain ⟨a, o, es, ps, rfl, h1, h2, h3, l1, l2⟩ := dict_tup p1 q1.1
      exact ⟨a, o, es, ps, rfl, h1, h2, h3, k _ _ _ _ q1.2 x1 r1 (walk_di h1 l1 l2)⟩
    · exact q1.elim⟩⟩
end
end DL
set_option Elab.async false
set_option linter.all false
set_option maxRecDepth 100000
set_option maxHeartbeats 1000000
/-! DL37: list(d), list(d.values()), if d, {k: v} of dicts with tuple keys; new mutable things frozen. -/
namespace DL
open PySem PySem.Spec PyProof.Rows L2
theorem RelX.putS {K : PySem.W.Frag} {G : Gh} {H : Hp} {E : Env} {σ : St} {a : Addr} {u u' : HO} (r : RelX K G [a] H E σ) (h0 : G.H0 a = none) (na : a ∉ G.addrs) (ha : H a = some u) (s1 : ∀ xs, u ≠ .tup xs) (s2 : ∀ o v, u ≠ .frz o v) : RelX K G [a] (upd H a u') E σ := by
  have x : Ext H (upd H a u') := Ext.putS ha s1 s2
  obtain ⟨l, k, pn, dm, x0, A, h1, h2, h3⟩ := r
  refine ⟨l, fun q w he ne => ?_, pn, fun q hq => ?_, x0.trans x, A, h1, h2, fun i s e => (h3 i s e).move x fun p hp => upd_ne (by rintro rfl; exact (h2 i p hp).2 (List.mem_singleton.mpr rfl))⟩
  · rw [upd_ne (by rintro rfl; rw [h0] at he; cases he)]; exact k q w he ne
  · rw [upd_ne (by rintro rfl; exact na hq)]; exact dm q hq
def vwO (p d : Addr) : HO := .ext fun h => h.IsValuesView p d
section
variable {X : Cx} {G : Gh} {e k v : Expr} {td tk tv : TE} {apos cpos pos : Pos}
theorem items_vals {P : Nat → Value → Prop} {acc : Array Value} {us : List V} (h : ItemsOf P acc us.length) (hp : ∀ i u w, us[i]? = some u → P i w → RelV u w) : Vals us acc.toList := by
  refine vals_of_at (by rw [Array.length_toList]; exact h.1.symm) fun j x u h1 h2 => hp j x u h1 (h.2 j u (by rw [← Array.getElem?_toList]; exact h2))
theorem call_list_dk (hc : X.calm = true) : CallR X (.type "list") (fun xs H Q => ∃ d o es ps, xs = [V.ref d] ∧ H d = some (.frz o (dO d es)) ∧ KVs ps es ∧ (d == sysModules) = false ∧ ps.length ≤ sizeLine ∧ ∀ p, H p = none → Q (.ref p) (upd H p (.lst (ps.map (·.1))))) := by
  intro pins s σ H xs us Q I r h
  obtain ⟨d, o, es, ps, rfl, hd, hp, sm, z, q⟩ := h
  rw [Vals.ref1 r]
  obtain ⟨ep, h1, raw, _⟩ := frz_raw I hd
  have hl : ps.length = es.length := Paired.length hp
  refine PySem.W.kdl_call (KdlSrc.rawDict (ep := ep) sm) (I.ok.hd hc) raw (by simpa [← hl] using z) fun h' tk acc c hk hS hacc => ?_
  refine ⟨.ref s.heap.objs.size, upd H s.heap.objs.size (.lst (ps.map (·.1))), I.laid hk (Nat.le_refl _) (show ObjOk X.prog X.w _ _ _ (.lst (ps.map (·.1))) from ⟨by rw [List.length_map]; exact z, acc.toList, c, ?_, by rw [Array.toArray_toList]; exact hS⟩), rfl, q _ (I.hok.fresh (Nat.le_refl _))⟩
  have hacc' : ItemsOf (fun i v => ∃ hi : i < es.toArray.size, v = es.toArray[i].key) acc (ps.map (·.1)).length := by rw [List.length_map, hl]; simpa using hacc
  refine items_vals hacc' fun i u w hu hw => ?_
  rw [List.getElem?_map] at hu
  obtain ⟨p, hpi, rfl⟩ := Option.map_eq_some_iff.mp hu
  obtain ⟨p', hp', hh, rk, rv⟩ := kv_at hp (List.getElem?_eq_some_iff.mp hpi).1
  rw [hpi] at hp'; cases hp'
  obtain ⟨hi, rfl⟩ := hw
  exact rk
theorem pe_valuesV (he : PE X e td) (hbase : attributeBase e "values" X.env (eval e X.env) = eval e X.env := by rfl) (hline : (apos.endLine == cpos.line) = true := by rfl) :
    PE X (.Call (.Attribute e "values" apos) [] [] cpos) (fun σ H Q => td σ H fun x H1 => ∃ d o es, x = .ref d ∧ H1 d = some (.frz o (dO d es)) ∧ (d == sysModules) = false ∧ ∀ p, H1 p = none → Q (.ref p) (upd H1 p (vwO p d))) := by
  refine ⟨fun pins s σ H Q I h => ?_⟩
  refine wpAny_Call_method (T := "dict") (id := "dict.values") hbase rfl hline F.plainAttrs_dict F.slot_dict_values F.type_dict_values (thn (he.run pins s σ H _ I h) fun u s1 ⟨x, H1, I1, rx, d, o, es, ex, hd, sm, q⟩ => ?_)
  subst ex
  obtain rfl : u = Value.ref d := rx
  obtain ⟨ep, h1, raw, _⟩ := frz_raw I1 hd
  refine ⟨raw.typeIs, fun b z => ?_, ?_⟩
  · cases z; obtain ⟨q, g1, g2, _⟩ := raw; exact ⟨q, g1, g2.2.1⟩
  show wpAny _ _ (callWith cpos (.builtin "dict.values") [.ref d] [] []) _ X.xe s1
  refine method_meetsIn F.slot_dict_values F.entry_dict_values rfl (PySem.evalArgs_none ⟨rfl, raw.typeIs, F.args_dict_values_1 _, _, meets_dict_values_raw d sm, ⟨_, _, raw⟩, ?_⟩)
  exact ⟨.ref s1.heap.objs.size, _, I1.laid (a := s1.heap.objs.size) (o := vwO s1.heap.objs.size d) (t' := s1.toks) (fun b ob z => Heap.get?_push_of_some _ z) (Nat.le_refl _) ⟨⟨_, Heap.get?_push_size _ rfl, rfl, rfl⟩, ⟨_, Heap.get?_push_size _ rfl⟩, fun g1 g2 ⟨ob, y1, y2⟩ kk => ⟨ob, kk ob y1, y2⟩⟩, rfl, q _ (I1.hok.fresh (Nat.le_refl _))⟩
theorem call_list_dv (hc : X.calm = true) : CallR X (.type "list") (fun xs H Q => ∃ r d o es ps, xs = [V.ref r] ∧ H r = some (vwO r d) ∧ H d = some (.frz o (dO d es)) ∧ KVs ps es ∧ (d == sysModules) = false ∧ ps.length ≤ sizeLine ∧ ∀ p, H p = none → Q (.ref p) (upd H p (.lst (ps.map (·.2))))) := by
  intro pins s σ H xs us Q I r h
  obtain ⟨rr, d, o, es, ps, rfl, hr, hd, hp, sm, z, q⟩ := h
  rw [Vals.ref1 r]
  obtain ⟨ep, h1, raw, _⟩ := frz_raw I hd
  have vw : s.heap.IsValuesView rr d := (I.hok rr _ hr).1
  have hl : ps.length = es.length := Paired.length hp
  refine PySem.W.kdl_call (KdlSrc.rawValues (ep := ep)) (I.ok.hd hc) ⟨vw, raw⟩ (by simpa [← hl] using z) fun h' tk acc c hk hS hacc => ?_
  refine ⟨.ref s.heap.objs.size, upd H s.heap.objs.size (.lst (ps.map (·.2))), I.laid hk (Nat.le_refl _) (show ObjOk X.prog X.w _ _ _ (.lst (ps.map (·.2))) from ⟨by rw [List.length_map]; exact z, acc.toList, c, ?_, by rw [Array.toArray_toList]; exact hS⟩), rfl, q _ (I.hok.fresh (Nat.le_refl _))⟩
  have hacc' : ItemsOf (fun i v => ∃ hi : i < es.toArray.size, v = es.toArray[i].val) acc (ps.map (·.2)).length := by rw [List.length_map, hl]; simpa using hacc
  refine items_vals hacc' fun i u w hu hw => ?_
  rw [List.getElem?_map] at hu
  obtain ⟨p, hpi, rfl⟩ := Option.map_eq_some_iff.mp hu
  obtain ⟨p', hp', hh, rk, rv⟩ := kv_at hp (List.getElem?_eq_some_iff.mp hpi).1
  rw [hpi] at hp'; cases hp'
  obtain ⟨hi, rfl⟩ := hw
  exact rv
/-! ### {k: v} -/
theorem pe_disp1N (hu : X.A.units + 65 < cLine) (hk : PE X k tk) (hv : PE X v tv) : PE X (.Dict [some k] [v] pos)
    (fun σ H Q => ∀ p, H p = none → (p == sysModules) = false → tk σ (upd H p (dO p [])) fun y H1 => tv σ H1 fun z H2 => ∃ kd d, keyB kd = true ∧ Rp X.K H2 kd y ∧ Rp X.K H2 d z ∧ H2 p = some (dO p []) ∧ ∀ es, RpD X.K (upd H2 p (dO p es)) [(kd, d)] es → Q (.ref p) (upd H2 p (dO p es))) := by
  refine ⟨fun pins s σ H Q I h => ?_⟩
  have hsm : (s.heap.objs.size == sysModules) = false := beq_eq_false_iff_ne.mpr (Ne.symm (Nat.ne_of_lt I.big))
  have hn := I.hok.fresh (Nat.le_refl s.heap.objs.size)
  have I1 : Inv X pins σ (upd H s.heap.objs.size (dO s.heap.objs.size [])) { s with heap := s.heap.push { cls := .type "dict", data := .dict #[] } } :=
    I.laid (a := s.heap.objs.size) (o := dO s.heap.objs.size []) (t' := s.toks) (fun _ _ q => Heap.get?_push_of_some _ q) (Nat.le_refl _) ⟨⟨_, 0, Heap.get?_push_size _ rfl, ⟨rfl, rfl, rfl⟩, rfl⟩, ⟨_, Heap.get?_push_size _ rfl⟩, fun h1 h2 ⟨o, ep, g1, g2, g3⟩ kk => ⟨o, ep, kk o g1, g2, g3⟩⟩
  rw [arm_eval_Dict, zip_pairTrees [some k] [v] X.env pos rfl rfl, dictDisplay_pairs _ (by simp [pairTrees]) (by simp [pairTrees])]
  refine wpAny_bind (wpAny_standAt (wpAny_bind (wpAny_subDictH (knd := nestedKind X.prog X.w) (show X.A.units + 8 < cLine by omega) (by simp [pairTrees]) ?_)))
  refine thn ((pps_cons hk hv pps_nil).run pins _ σ _ (fun ps H2 => match ps with
    | [(y, z)] => ∃ kd d, keyB kd = true ∧ Rp X.K H2 kd y ∧ Rp X.K H2 d z ∧ H2 s.heap.objs.size = some (dO s.heap.objs.size []) ∧ ∀ es, RpD X.K (upd H2 s.heap.objs.size (dO s.heap.objs.size es)) [(kd, d)] es → Q (.ref s.heap.objs.size) (upd H2 s.heap.objs.size (dO s.heap.objs.size es))
    | _ => False) I1 (h s.heap.objs.size hn hsm)) fun ws s2 ⟨ps, H2, I2, rel, q⟩ => ?_
  match ps, rel, q with
  | [(y, z)], rel, ⟨kd, d, hkb, rk, rd, hp, q⟩ =>
    cases rel with
    | @cons _ w _ _ r1 r2 =>
      cases r2
      obtain ⟨w1, w2⟩ := w
      obtain ⟨xs, tr, dd, _⟩ := DN.at I2 (⟨[], .inl hp, .nil, List.nodup_nil, hsm⟩ : DN X.K H2 s.heap.objs.size [])
      have hx : xs = [] := by cases tr; rfl
      subst hx
      obtain ⟨nk, b, e1, e2, rfl, eb, ki⟩ := key_is I2 hkb rk r1.1
      have eb : w1 = Value.ref b := eb
      subst eb
      refine ⟨[(nk, b, w2)], ⟨rfl, rfl, ki, trivial⟩, dd, fun h' tk2 dk hs => wpAny_pure ?_⟩
      obtain ⟨o', es', ep', g1, g2, g3, g4, g5, g6⟩ := dk
      have tr' : TR X.K H2 (putN [] kd d) (storedH [] nk b w2) := TR.put (kvs := []) .nil (keyB_ok hkb).1 e1 e2 rk rd r1.2
      have hes : es' = ((storedH [] nk b w2).map (entryOfKey (nestedKind X.prog X.w))).toArray := by
        have g4 : es'.toList = (storedH [] nk b w2).map (entryOfKey (nestedKind X.prog X.w)) := g4
        rw [← g4]
      have x2 : Ext H2 (upd H2 s.heap.objs.size (dO s.heap.objs.size ((storedH [] nk b w2).map (entryOfKey (nestedKind X.prog X.w))))) := Ext.putS hp (fun _ z => by cases z) (fun _ _ z => by cases z)
      refine ⟨.ref s.heap.objs.size, _, d_write I2 (ob := dO s.heap.objs.size ((storedH [] nk b w2).map (entryOfKey (nestedKind X.prog X.w)))) (by rw [hp]; exact True.intro) hs ⟨o', g1⟩ ⟨⟨o', ep', g1, g2, by rw [g3, hes]⟩, ⟨o', g1⟩, fun h1 h2 ⟨o, ep, y1, y2, y3⟩ kk => ⟨o, ep, kk o y1, y2, y3⟩⟩, rfl, q _ ((tr'.rpd).ext x2)⟩
end
/-! ### if d -/
section
variable {X : Cx} {G : Gh} {e : Expr} {ta : TD} {p p1 p2 apos cpos pos : Pos}
def tTruDk (ta : TD) : TTd := fun E Q => ta E fun x E1 => match x with
  | .dict kvs => tupKeys kvs = true ∧ kvs.length ≤ sizeLine ∧ Q (!kvs.isEmpty) E1
  | _ => False
/-! ### list(d), list(d.values()) -/
def tLDk (ta : TD) : TLd := fun E Q => ta E fun x E1 => match x with
  | .dict kvs => tupKeys kvs = true ∧ kvs.length ≤ sizeLine ∧ Q (kvs.map (·.1)) E1
  | _ => False
def tLDv (ta : TD) : TLd := fun E Q => ta E fun x E1 => match x with
  | .dict kvs => tupKeys kvs = true ∧ kvs.length ≤ sizeLine ∧ Q (kvs.map (·.2)) E1
  | _ => False
theorem el_listDk (h : ED X G e ta) (hg : Gl X "list") (hm : X.mg "list" = none) (hc : X.calm = true := by rfl) (hs : starEach [e] X.env = (false, eval e X.env) :: starEach [] X.env := by rfl) : EL X G (.Call (.Name "list" p) [e] [] pos) (tLDk ta) :=
  ⟨PE.weak (pe_callTy (call_list_dk hc) hg hm bb_list (pa_cons h.pe pa_nil hs) (by decide) (by decide) hs) fun σ H Q ⟨E, QE, r, q, k⟩ => ⟨E, _, r, q, fun x E1 v H1 q1 x1 r1 p1 => by
    split at q1
    · obtain ⟨a, o, es, ps, rfl, h1, h2, h3, l1, l2⟩ := dict_tup p1 q1.1
      refine ⟨a, o, es, ps, rfl, h1, h2, h3, by have := l1.length; simp at this; have := q1.2.1; omega, fun p hp => ?_⟩
      obtain ⟨r2, h0, na⟩ := r1.fresh (o := .lst (ps.map (·.1))) hp
      exact k _ _ _ _ _ q1.2.2 (x1.trans (PExt.new hp).ext) r2 h0 na upd_same (l1.ext (PExt.new hp).ext)
    · exact q1.elim⟩⟩
theorem el_listDv (h : ED X G e ta) (hg : Gl X "list") (hm : X.mg "list" = none) (hc : X.calm = true := by rfl) (hbase : attributeBase e "values" X.env (eval e X.env) = eval e X.env := by rfl) (hline : (apos.endLine == cpos.line) = true := by rfl)
    (hs : starEach [.Call (.Attribute e "values" apos) [] [] cpos] X.env = (false, eval (.Call (.Attribute e "values" apos) [] [] cpos) X.env) :: starEach [] X.env := by rfl) : EL X G (.Call (.Name "list" p) [.Call (.Attribute e "values" apos) [] [] cpos] [] pos) (tLDv ta) :=
  ⟨PE.weak (pe_callTy (call_list_dv hc) hg hm bb_list (pa_cons (pe_valuesV h.pe hbase hline) pa_nil hs) (by decide) (by decide) hs) fun σ H Q ⟨E, QE, r, q, k⟩ => ⟨E, _, r, q, fun x E1 v H1 q1 x1 r1 p1 => by
    split at q1
    · obtain ⟨a, o, es, ps, rfl, h1, h2, h3, l1, l2⟩ := dict_tup p1 q1.1
      refine ⟨a, o, es, rfl, h1, h3, fun p hp => ⟨p, a, o, es, ps, rfl, upd_same, by rw [upd_ne (ne_of_none h1 hp)]; exact h1, h2, h3, by have := l2.length; simp at this; have := q1.2.1; omega, fun p' hp' => ?_⟩⟩
      have x2 : PExt H1 (upd H1 p (vwO p a)) := PExt.new hp
      obtain ⟨r2, h0, na⟩ := (r1.pext x2).fresh (o := .lst (ps.map (·.2))) hp'
      exact k _ _ _ _ _ q1.2.2 (x1.trans (x2.trans (PExt.new hp')).ext) r2 h0 na upd_same (l2.ext (x2.trans (PExt.new hp')).ext)
    · exact q1.elim⟩⟩
/-! ### new mutable things: one entry; frozen -/
def mDt1 (tk tv : TD) : TM := fun E Q => tk E fun k E1 => tv E1 fun d E2 => keyB k = true ∧ Q (.dt [(k, d)]) E2
theorem em_dt1 {k v : Expr} {tk tv : TD} (hu : X.A.units + 65 < cLine) (hk : ∀ G' : Gh, G'.slots = G.slots → ED X G' k tk) (hv : ∀ G' : Gh, G'.slots = G.slots → ED X G' v tv) : EM X G (.Dict [some k] [v] pos) (mDt1 tk tv) := by
  have pk : PE X k (fun σ H Q => ∃ G' : Gh, G'.slots = G.slots ∧ liftE X.K G' tk σ H Q) := ⟨fun pins s σ H Q I ⟨G', hG, q⟩ => (hk G' hG).pe.run pins s σ H Q I q⟩
  have pv : PE X v (fun σ H Q => ∃ G' : Gh, G'.slots = G.slots ∧ liftE X.K G' tv σ H Q) := ⟨fun pins s σ H Q I ⟨G', hG, q⟩ => (hv G' hG).pe.run pins s σ H Q I q⟩
  refine ⟨PE.weak (pe_disp1N hu pk pv) fun σ H Q ⟨E, QE, r, q, kk⟩ p hp sm => ?_⟩
  obtain ⟨r2, h0, na⟩ := r.fresh (o := dO p []) hp
  have x0 : Ext H (upd H p (dO p [])) := (PExt.new hp).ext
  refine ⟨pend G p (dO p []), rfl, E, _, r2.toPend upd_same na, q, fun kd E1 y H1 q1 x1 r1 p1 => ⟨pend G p (dO p []), rfl, E1, _, r1, q1, fun d E2 z H2 q2 x2 r3 p2 => ?_⟩⟩
  obtain ⟨r4, hp2⟩ := RelX.ofPend r3 h0 na
  refine ⟨kd, d, q2.1, p1.ext x2, p2, hp2, fun es l => ?_⟩
  have x3 : Ext H2 (upd H2 p (dO p es)) := Ext.putS hp2 (fun _ z => by cases z) (fun _ _ z => by cases z)
  refine kk _ _ _ _ q2.2 (((x0.trans x1).trans x2).trans x3) (r4.putS (u' := dO p es) h0 na hp2 (fun _ z => by cases z) (fun _ _ z => by cases z)) h0 na ⟨es, upd_same, l, by simp, sm⟩
def tFzM (t : TM) : TD := fun E Q => t E fun s E1 => match s with
  | .dt kvs => Q (.dict kvs) E1
  | .ol xs => Q (.list xs) E1
  | _ => False
theorem EM.ed {t : TM} (h : EM X G e t) : ED X G e (tFzM t) :=
  ⟨PE.weak (PE.fzIf h.pe) fun σ H Q ⟨E, QE, r, q, k⟩ => ⟨E, _, r, q, fun s E1 a H1 q1 x1 r1 h0 na m => by
    split at q1
    · rename_i kvs
      obtain ⟨es, e2, l, nd, sm⟩ := m
      refine .inr ⟨a, _, rfl, e2, trivial, fun o => ?_⟩
      have x2 : Ext H1 (upd H1 a (.frz o (dO a es))) := Ext.putS e2 (fun _ z => by cases z) (fun _ _ z => by cases z)
      exact k _ _ _ _ q1 (x1.trans x2) (r1.freezeS h0 na e2 (fun _ z => by cases z) (fun _ _ z => by cases z)) (.dct upd_same (l.ext x2) nd sm)
    · rename_i xs
      obtain ⟨vs, e2, l⟩ := m
      refine .inr ⟨a, _, rfl, e2, trivial, fun o => ?_⟩
      exact k _ _ _ _ q1 (x1.trans (Ext.put e2)) (r1.freeze h0 na e2) (.lst (.of upd_same) (l.ext (Ext.put e2)))
    · exact q1.elim⟩⟩
end
end DL
set_option Elab.async false
set_option linter.all false
set_option maxRecDepth 100000
set_option maxHeartbeats 1000000
/-! DL38: objects: where they stand in the environment, and how they change. -/
namespace DL
open PySem PySem.Spec PyProof.Rows L2
def obsAt (E : Env) : List Nat → Option (List S)
  | [] => some []
  | j :: js => match E[j]?, obsAt E js with
    | some (.ob a C fs), some os => some (.ob a C fs :: os)
    | _, _ => none
def putOb : List Nat → List S → Env → Env
  | j :: js, s :: os, E => putOb js os (E.set j s)
  | _, _, E => E
theorem RelOb.soft {K : PySem.W.Frag} {H : Hp} {a C : Addr} {fs : List (Str × FS)} {fp : List Addr} (h : RelOb K H a C fs fp) : ∀ p ∈ fp, Soft H p := RelS.indom (s := .ob a C fs) (o := none) h
end DL
set_option Elab.async false
set_option linter.all false
set_option maxRecDepth 100000
set_option maxHeartbeats 1000000
/-! DL39: defs and methods over objects: promises, calls. -/
namespace DL
open PySem PySem.Spec PyProof.Rows L2
/-- a promise: arguments (data), objects; what it gives, what it raises -/
abbrev SpO := List D → List S → (D → List S → Prop) → (Value → List S → Prop) → Prop
/-! ### calls -/
/-- the objects that go along: js says where they stand -/
def tObs (sp : SpO) (ds : List D) (E : Env) (Q : D → Env → Prop) (WD : WDt) : Prop := ∃ js os, js.Nodup ∧ obsAt E js = some os ∧
  sp ds os (fun d os' => os'.length = js.length ∧ Q d (putOb js os' E)) (fun cls os' => os'.length = js.length ∧ WD cls (putOb js os' E))
end DL
set_option Elab.async false
set_option linter.all false
set_option maxRecDepth 100000
set_option maxHeartbeats 1000000
/-! DL40: objects: fields read and written, their lists, methods. -/
namespace DL
open PySem PySem.Spec PyProof.Rows L2
/-- whose name it is -/
def unH : D → Option Addr
  | .dict [(.none, .int (.ofNat a))] => some a
  | _ => none
theorem unH_hdl (a : Addr) : unH (hdl a) = some a := rfl
def obGet (a : Addr) : Env → Option (Addr × List (Str × FS))
  | [] => none
  | .ob b C fs :: E => if b = a then some (C, fs) else obGet a E
  | _ :: E => obGet a E
def setOb (a : Addr) (fs : List (Str × FS)) : Env → Env
  | [] => []
  | .ob b C gs :: E => if b = a then .ob b C fs :: E else .ob b C gs :: setOb a fs E
  | s :: E => s :: setOb a fs E
/-- the fields of the object that d names, of the class at C -/
def obD (C : Addr) (d : D) (E : Env) : Option (List (Str × FS)) := match unH d with
  | some a => match obGet a E with
    | some (C', fs) => if C' = C then some fs else none
    | none => none
  | none => none
def putOD (d : D) (fs : List (Str × FS)) (E : Env) : Env := match unH d with
  | some a => setOb a fs E
  | none => E
def putFS (f : Str) (x : FS) : List (Str × FS) → List (Str × FS)
  | [] => [(f, x)]
  | (g, y) :: r => if g = f then (g, x) :: r else (g, y) :: putFS f x r
section
variable {K : PySem.W.Frag} {H H' : Hp}
theorem lk_cons {α : Type} {f g : Str} {x : α} {r : List (Str × α)} : ((g, x) :: r).lookup f = if f = g then some x else r.lookup f := by
  by_cases h : f = g
  · subst h; simp [List.lookup]
  · have hb : (f == g) = false := beq_eq_false_iff_ne.mpr h
    rw [if_neg h]; simp only [List.lookup, hb]
theorem FsR.getD {f : Str} {x : D} : ∀ {fs : List (Str × FS)} {vs : List (Str × V)} {ls : List Addr}, FsR K H fs vs ls → fs.lookup f = some (.d x) → ∃ v, vs.lookup f = some v ∧ Rp K H x v
  | _, _, _, .nil, h => by cases h
  | _, _, _, FsR.d r t, h => by
    rw [lk_cons] at h ⊢
    split at h
    · rename_i e; cases h; rw [if_pos e]; exact ⟨_, rfl, r⟩
    · rename_i e; rw [if_neg e]; exact FsR.getD t h
  | _, _, _, FsR.l r q t, h => by
    rw [lk_cons] at h ⊢
    split at h
    · cases h
    · rename_i e; rw [if_neg e]; exact FsR.getD t h
theorem FsR.len : ∀ {fs : List (Str × FS)} {vs : List (Str × V)} {ls : List Addr}, FsR K H fs vs ls → fs.length = vs.length
  | _, _, _, .nil => rfl
  | _, _, _, FsR.d _ t => by simp [FsR.len t]
  | _, _, _, FsR.l _ _ t => by simp [FsR.len t]
theorem FsR.putL {f : Str} {xs : List D} {l : Addr} {us : List V} (hl : H l = some (.lst us)) (p : RpL K H xs us) : ∀ {fs : List (Str × FS)} {vs : List (Str × V)} {ls : List Addr}, FsR K H fs vs ls → ls.Nodup → l ∉ ls → ∃ ls', FsR K H (putFS f (.l xs) fs) (putF f (.ref l) vs) ls' ∧ ls'.Nodup ∧ ∀ b ∈ ls', b ∈ ls ∨ b = l
  | _, _, _, .nil, _, _ => ⟨[l], FsR.l hl p .nil, by simp, by simp⟩
  | _, _, _, FsR.d (f := g) r t, nd, ni => by
    unfold putFS putF
    by_cases e : g = f
    · rw [if_pos e, if_pos e]; exact ⟨_, FsR.l hl p t, List.nodup_cons.mpr ⟨ni, nd⟩, fun b hb => (List.mem_cons.mp hb).elim .inr .inl⟩
    · rw [if_neg e, if_neg e]
      obtain ⟨ls', h1, h2, h3⟩ := FsR.putL (f := f) hl p t nd ni
      exact ⟨_, FsR.d r h1, h2, h3⟩
  | _, _, _, FsR.l (f := g) (a := b0) r q t, nd, ni => by
    obtain ⟨n1, n2⟩ := List.nodup_cons.mp nd
    have ni2 : l ∉ _ := fun z => ni (List.mem_cons_of_mem _ z)
    unfold putFS putF
    by_cases e : g = f
    · rw [if_pos e, if_pos e]; exact ⟨_, FsR.l hl p t, List.nodup_cons.mpr ⟨ni2, n2⟩, fun b hb => (List.mem_cons.mp hb).elim .inr fun z => .inl (List.mem_cons_of_mem _ z)⟩
    · rw [if_neg e, if_neg e]
      obtain ⟨ls', h1, h2, h3⟩ := FsR.putL (f := f) hl p t n2 ni2
      refine ⟨_, FsR.l r q h1, List.nodup_cons.mpr ⟨fun z => ?_, h2⟩, fun b hb => ?_⟩
      · rcases h3 _ z with w | w
        · exact n1 w
        · exact ni (by rw [w]; exact List.mem_cons_self ..)
      · rcases List.mem_cons.mp hb with w | w
        · exact .inl (by rw [w]; exact List.mem_cons_self ..)
        · exact (h3 b w).elim (fun z => .inl (List.mem_cons_of_mem _ z)) .inr
end
/-! ### rules -/
def fldD (C : Addr) (f : Str) (d : D) (E : Env) : Option D := match obD C d E with
  | some fs => match fs.lookup f with
    | some (.d x) => some x
    | _ => none
  | none => none
def fldL (C : Addr) (f : Str) (d : D) (E : Env) : Option (List D) := match obD C d E with
  | some fs => match fs.lookup f with
    | some (.l x) => some x
    | _ => none
  | none => none
/-- x.f, data -/
def tFldD (C : Addr) (f : Str) (i : Nat) : TD := fun E Q => match E[i]? with
  | some (.d d) => match fldD C f d E with
    | some x => Q x E
    | none => False
  | _ => False
/-- x.f, a list of its own, read now -/
def tFldR (C : Addr) (f : Str) (i : Nat) : TD := fun E Q => match E[i]? with
  | some (.d d) => match fldL C f d E with
    | some xs => Q (.list xs) E
    | none => False
  | _ => False
/-- x.f = e -/
def sFldD (C : Addr) (f : Str) (i : Nat) (tv : TD) : TSd := fun DE E => tv E fun x E1 => match E1[i]? with
  | some (.d d) => match obD C d E1 with
    | some fs => fs.length < 1000 ∧ DE.nx (putOD d (putFS f (.d x) fs) E1)
    | none => False
  | _ => False
/-- x.f = a new list -/
def sFldL (C : Addr) (f : Str) (i : Nat) (tv : TLd) : TSd := fun DE E => tv E fun xs E1 => match E1[i]? with
  | some (.d d) => match obD C d E1 with
    | some fs => fs.length < 1000 ∧ DE.nx (putOD d (putFS f (.l xs) fs) E1)
    | none => False
  | _ => False
/-- x.f.append((x.g, y)) -/
def tAppF (C : Addr) (f g : Str) (i k : Nat) : TD := fun E Q => match E[i]? with
  | some (.d d) => match obD C d E, fldL C f d E, fldD C g d E, E[k]? with
    | some fs, some xs, some x, some (.d y) => xs.length < sizeLine ∧ Q .none (putOD d (putFS f (.l (xs ++ [.tuple [x, y]])) fs) E)
    | _, _, _, _ => False
  | _ => False
/-- x.f.pop() -/
def tPopF (C : Addr) (f : Str) (i : Nat) : TD := fun E Q => match E[i]? with
  | some (.d d) => match obD C d E, fldL C f d E with
    | some fs, some xs => match xs.getLast? with
      | some y => Q y (putOD d (putFS f (.l xs.dropLast) fs) E)
      | none => False
    | _, _ => False
  | _ => False
/-- o.m(..) -/
def tMethO (C : Addr) (m : Str) (sp : SpO) (to : TD) (ta : TDs) (WD : WDt) : TD := fun E Q => to E fun d E1 => (match obD C d E1 with
  | some fs => fs.lookup m = none
  | none => False) ∧ ta E1 fun ds E2 => tObs sp (d :: ds) E2 Q WD
/-! ### methods -/
end DL
set_option Elab.async false
set_option linter.all false
set_option maxRecDepth 100000
set_option maxHeartbeats 1000000
/-! DL41: objects are made; a def with defaults; a comprehension over a field's list. -/
namespace DL
open PySem PySem.Spec PyProof.Rows L2
/-! ### a new object -/
/-! ### a comprehension over a list that stands in the heap and may change later -/
end DL
set_option Elab.async false
set_option linter.all false
set_option maxRecDepth 100000
set_option maxHeartbeats 1000000
/-! DL42: except X as e: got = word(e); a def that tells an exception's class by a text. -/
namespace DL
open PySem PySem.Spec PyProof.Rows L2
/-! ### isinstance of it -/
/-! ### try .. except X as e: got = word(e) -/
end DL
set_option Elab.async false
set_option linter.all false
set_option maxRecDepth 100000
/-! DL43: small things for defs over objects. -/
namespace DL
open PySem PySem.Spec PyProof.Rows L2
end DL
set_option Elab.async false
set_option linter.all false
set_option maxRecDepth 100000
set_option maxHeartbeats 3200000
/-! DL44: tuple * int, any int from 0 on. -/
namespace DL
open PySem PySem.Spec PyProof.Rows L2
end DL
set_option Elab.async false
set_option linter.all false
set_option maxRecDepth 100000
set_option maxHeartbeats 3200000
/-! DL45: len(o), str(o) by own __len__, __str__; f-strings. -/
namespace DL
open PySem PySem.Spec PyProof.Rows L2
/-! ### f-strings -/
end DL
set_option Elab.async false
set_option linter.all false
set_option maxRecDepth 100000
set_option maxHeartbeats 3200000
/-! DL46: own dicts with int and text keys: d[k]. -/
namespace DL
open PySem PySem.Spec PyProof.Rows L2
end DL
set_option Elab.async false
set_option linter.all false
set_option maxRecDepth 100000
set_option maxHeartbeats 3200000
/-! DL47: {k: v, ..}: a new dict with int and text keys. -/
namespace DL
open PySem PySem.Spec PyProof.Rows L2
def putD2 (kvs : List (Key × D)) (k : Key) (v : D) : List (Key × D) :=
  if (kvs.any fun kv => decide (kv.1 = k)) = true then kvs.map (fun kv => if kv.1 = k then (kv.1, v) else kv) else kvs ++ [(k, v)]
/-- keys alike, values stand for data -/
def KR (K : PySem.W.Frag) (H : Hp) (kvs : List (Key × D)) (us : List (Key × V)) : Prop := us.map (·.1) = kvs.map (·.1) ∧ RpL K H (kvs.map (·.2)) (us.map (·.2))
theorem KR.nil {K : PySem.W.Frag} {H : Hp} : KR K H [] [] := ⟨rfl, .nil⟩
theorem KR.cons {K : PySem.W.Frag} {H : Hp} {k : Key} {d : D} {v : V} {kvs : List (Key × D)} {us : List (Key × V)} (h : Rp K H d v) (r : KR K H kvs us) : KR K H ((k, d) :: kvs) ((k, v) :: us) := ⟨by simp [r.1], .cons h r.2⟩
theorem KR.ext {K : PySem.W.Frag} {H H' : Hp} {kvs : List (Key × D)} {us : List (Key × V)} (r : KR K H kvs us) (x : Ext H H') : KR K H' kvs us := ⟨r.1, r.2.ext x⟩
theorem KR.any {K : PySem.W.Frag} {H : Hp} {kvs : List (Key × D)} {us : List (Key × V)} (r : KR K H kvs us) (k : Key) : (us.any fun kv => decide (kv.1 = k)) = kvs.any fun kv => decide (kv.1 = k) := by
  have e1 : (us.any fun kv => decide (kv.1 = k)) = (us.map (·.1)).any fun j => decide (j = k) := by rw [List.any_map]; rfl
  have e2 : (kvs.any fun kv => decide (kv.1 = k)) = (kvs.map (·.1)).any fun j => decide (j = k) := by rw [List.any_map]; rfl
  rw [e1, e2, r.1]
theorem KR.mapPut {K : PySem.W.Frag} {H : Hp} {k : Key} {d : D} {v : V} (h : Rp K H d v) : ∀ {kvs : List (Key × D)} {us : List (Key × V)}, KR K H kvs us → KR K H (kvs.map fun kv => if kv.1 = k then (kv.1, d) else kv) (us.map fun kv => if kv.1 = k then (kv.1, v) else kv)
  | [], [], _ => .nil
  | [], u :: us, r => by have := r.1; simp at this
  | p :: kvs, [], r => by have := r.1; simp at this
  | (a, x) :: kvs, (b, y) :: us, r => by
    obtain ⟨r1, r2⟩ := r
    simp only [List.map_cons, List.cons.injEq] at r1
    obtain ⟨e, r1⟩ := r1
    have e : b = a := e
    subst e
    cases r2 with
    | cons q qs =>
      have ih := KR.mapPut (k := k) h (kvs := kvs) (us := us) ⟨r1, qs⟩
      simp only [List.map_cons]
      split
      · exact .cons h ih
      · exact .cons q ih
theorem KR.put {K : PySem.W.Frag} {H : Hp} {k : Key} {d : D} {v : V} {kvs : List (Key × D)} {us : List (Key × V)} (r : KR K H kvs us) (h : Rp K H d v) : KR K H (putD2 kvs k d) (putK us k v) := by
  unfold putD2 putK
  rw [r.any k]
  split
  · exact r.mapPut h
  · exact ⟨by simp [r.1], by rw [List.map_append, List.map_append]; exact r.2.append (.cons h .nil)⟩
end DL
set_option Elab.async false
set_option linter.all false
set_option maxRecDepth 100000
set_option maxHeartbeats 3200000
/-! DL48: {k: v, ..} as a new dict of one's own; d.update({..}); d[k] = v; d.get(k, x). -/
namespace DL
open PySem PySem.Spec PyProof.Rows L2
theorem KR.length {K : PySem.W.Frag} {H : Hp} {l : List (Key × D)} {us : List (Key × V)} (r : KR K H l us) : us.length = l.length := by
  have := congrArg List.length r.1
  simpa using this
end DL
set_option Elab.async false
set_option linter.all false
set_option maxRecDepth 100000
set_option maxHeartbeats 4000000
/-! FnBase: _law_draw, _law_pick, _law_same -/
namespace DL
open PySem PySem.Spec PyProof.Rows L2
local macro_rules | `(tactic| walk_at "dl") => `(tactic| simp only [tV, tVr, tFzV, turnD, DL.wipeE, tK, tOpD, tUnD, tBo, tAndD, tOrD, tNotD, tIfE, DL.tAndV, DL.tOrV, DL.tNotV, tTru, truD, okLen, sSet, sSetL, sExpr, sRet, sIf, sNx, tTupD, dNil, dCons, tLstD, tFzD, tApp, tExtd, tPopAt, sSetIx, tIxO, tChainD, tChain3D, tRevT, caStr, opRepT, opAdd, opSub, opMul, opDiv, opMod, opPow, DL.opI, DL.opI0, opB0, opLt, opLe, opGt, opGtD, opLtD, opGe, opEq, opNe, opIs, opIsN, isNone, opIn, opNotIn, opIx, atD_0, atD_1, atD_2, atD_3, putD_0, unNeg, tCa1, tCa2, tCaL1, caLen, caAbs, caMax2, caMin2, caSum, caMax, caMin, caSumT, caMaxT, caMinT, caAll, caTuple, caList, caInt, tIsi, isInt, isBool, isStr, isTuple, isList, notDict, sAsg, gSet, gTupD, gsNil, gsCons, sPar, pNil, pD, pL, setAll, tCallD, aNil, aV, aO, argS, oixs, ndp, putO, tOpL, opCat, opRep, tSlD, slD, tSlL, oNo, oE, tRevD, iLstD, iTupD, iRange1, iRange2, iZipD, iZipM, finO, tTrue, Option.map, eqv_int, eqv_bool, eqv_none, shaped_int, shaped_bool, shaped_none, tLenRange, tSortSet, tLenSet, tLenSetP, tSortSetP, tCountL, tCountT, tIndexL, tIndexT, DL.tOrT, DL.tAndT, DL.tNotT, tSortRev, caSorted, iEnumL, iEnumT, decide_eq_true_eq, and_self, List.cons_append, List.nil_append, List.replicate, List.getElem?_cons_zero, List.getElem?_cons_succ, List.set_cons_zero, List.set_cons_succ, List.length_cons, List.length_nil, true_and, and_true, if_true, if_false, Bool.false_eq_true, List.contains_nil, Bool.not_false, Bool.not_true, Bool.and_self, Bool.and_true, Bool.true_and, decide_true, decide_false, beq_self_eq_true])
def tb_law_draw : TSd :=
  sSeq (sIf (tNotD (tTru (tVr 1))) (sExpr (tApp 1 (tCa1 caMax (tFzD (tOpL opCat (tFzD (tComp (iLstD (tV 0)) (gSet 4) (tTrue) (tCa1 caAbs (tV 4)) [4])) (tFzD (tLstD (dCons (tK (.int 0)) (dNil))))))))) (sNx))
      (sSeq (sExpr (tApp 1 (tK (.int 0))))
      (sSeq (sSet 3 (tCa1 caLen (tVr 1)))
      (sSeq (sSet 4 (tIfE (tTru (tV 0)) (tOpD opIx (tV 0) (tOpD opMod (tV 3) (tCa1 caLen (tV 0)))) (tK (.int 0))))
      (sSeq (sSet 5 (tOpD opMod (tIxO 1 (tK (.int 0))) (tK (.int 65536))))
      (sSeq (sSetIx 1 (tK (.int 0)) (tOpD opDiv (tIxO 1 (tK (.int 0))) (tK (.int 65536))))
      (sSeq (sSet 6 (tOpD opMod (tOpD opAdd (tOpD opAdd (tV 4) (tOpD opMul (tK (.int 40503)) (tV 5))) (tOpD opMul (tK (.int 104729)) (tV 3))) (tK (.int 4294967291))))
      (sSeq (sSet 6 (tOpD opMod (tOpD opMul (tOpD opMod (tOpD opMul (tV 6) (tV 6)) (tK (.int 4294967279))) (tK (.int 48271))) (tK (.int 4294967291))))
      (sSeq (sSet 7 (tOpD opMod (tOpD opMul (tOpD opMod (tOpD opMul (tV 6) (tV 6)) (tK (.int 4294967279))) (tK (.int 69621))) (tK (.int 4294967291))))
      (sRet (tOpD opMod (tOpD opAdd (tOpD opMul (tOpD opDiv (tV 6) (tK (.int 64))) (tK (.int 67108864))) (tOpD opDiv (tV 7) (tK (.int 64)))) (tV 2)))))))))))
def tb_law_pick (sp_law_draw : SpD) : TSd :=
  sRet (tOpD opIx (tV 2) (tCallD sp_law_draw (aV (tV 0) (aO 1 (aV (tCa1 caLen (tV 2)) (aNil))))))
def tb_law_same (sp_law_same : SpD) : TSd :=
  sSeq (sIf (tBo (tOpD opIs (tV 1) (tK .none))) (sRet (tOpD opIs (tV 0) (tK .none))) (sNx))
      (sSeq (sIf (tTru (tIsi isBool (tV 1))) (sRet (tAndV (tIsi isBool (tV 0)) (tOpD opEq (tV 0) (tV 1)))) (sNx))
      (sSeq (sIf (tTru (tIsi isTuple (tV 1))) (sSeq (sIf (tOrD (tNotD (tTru (tIsi isTuple (tV 0)))) (tBo (tOpD opNe (tCa1 caLen (tV 0)) (tCa1 caLen (tV 1))))) (sRet (tK (.bool false))) (sNx))
      (sRet (tCa1 caAll (tFzD (tComp (iZipD (tV 0) (tV 1)) (gTupD 2 (gsCons (gSet 2) (gsCons (gSet 3) (gsNil)))) (tTrue) (tCallD sp_law_same (aV (tV 2) (aV (tV 3) (aNil)))) [2, 3]))))) (sNx))
      (sSeq (sIf (tTru (tIsi isStr (tV 1))) (sRet (tAndV (tIsi isStr (tV 0)) (tOpD opEq (tV 0) (tV 1)))) (sNx))
      (sRet (tAndV (tIsi isInt (tV 0)) (tAndV (tNotV (tIsi isBool (tV 0))) (tOpD opEq (tV 0) (tV 1))))))))
def TownOk (t : List D) (b : Nat) : Prop := t.length ≤ b ∧ (t = [] ∨ ∃ (h : Int) (r : List D), t = .int h :: r)
theorem TownOk.mono {t : List D} {b b' : Nat} (h : TownOk t b) (hb : b ≤ b') : TownOk t b' := ⟨Nat.le_trans h.1 hb, h.2⟩
def spDraw : SpD := fun ss Q => ∃ (ns : List Int) (t : List D) (m : Int) (b : Nat), ss = [.d (.list (ns.map PyData.int)), .ol t, .d (.int m)] ∧ 0 < m ∧ ns.length ≤ 63 ∧ TownOk t b ∧ b ≤ 10000000 ∧
  ∀ r t', 0 ≤ r → r < m → TownOk t' (b + 2) → Q (.int r) [.ol t']
theorem small_line {n : Nat} (h : n ≤ 10000010) : n ≤ sizeLine := by rw [sizeLine_eq]; omega
theorem cmul_small {i j : Int} (h1 : i.natAbs < 2 ^ 64) (h2 : j.natAbs < 2 ^ 64) : CMulW i j := wide_mul (a := 64) (b := 64) h1 h2 (by decide) (by decide) (by decide)
theorem cdiv_small {i j : Int} (h0 : 0 < j) (h1 : j < 2 ^ 64) : CDivW i j := wide_div (b := 64) h0 (by omega) (by decide) (by decide)
theorem rd_law_draw : ∀ ss QD, spDraw ss QD → tb_law_draw { nx := fun E' => finO [1] E' (QD .none), rt := fun d E' => finO [1] E' (QD d) } (ss ++ List.replicate 5 .un) := by
  rintro ss QD ⟨ns, t, m, b, rfl, hm, hn, ht, hb, k⟩
  unfold tb_law_draw
  refine seq_step fun R hR => ?_
  have main : ∀ (h : Int) (r : List D), (h' : (PyData.int h :: r).length ≤ b + 1) → R [.d (.list (ns.map PyData.int)), .ol (.int h :: r), .d (.int m), .un, .un, .un, .un, .un] := by
    intro h r h'
    refine hR _ ?_
    rw [List.length_cons] at h'
    refine seq_step fun R hR => ?_
    walk_at "dl"
    refine ⟨Nat.lt_of_lt_of_le (show r.length + 1 < 10000002 by omega) (small_line (by omega)), hR _ ?_⟩
    refine seq_step fun R hR => ?_
    walk_at "dl"
    refine hR _ ?_
    generalize hk : (((r ++ [PyData.int 0]).length + 1 : Nat) : Int) = kk
    have hkk : 0 ≤ kk ∧ kk ≤ 10000003 := by rw [List.length_append, List.length_cons, List.length_nil] at hk; omega
    refine seq_step fun R hR => ?_
    have c4 : ∀ c : Int, R [.d (.list (ns.map PyData.int)), .ol (.int h :: (r ++ [.int 0])), .d (.int m), .d (.int kk), .d (.int c), .un, .un, .un] := by
      intro c
      refine hR _ ?_
      refine seq_step fun R hR => ?_
      walk_at "dl"
      refine ⟨by decide, hR _ ?_⟩
      have hd0 : 0 ≤ h % 65536 := Int.emod_nonneg _ (by decide)
      have hd1 : h % 65536 < 65536 := Int.emod_lt_of_pos _ (by decide)
      generalize h % 65536 = dg at hd0 hd1 ⊢
      refine seq_step fun R hR => ?_
      walk_at "dl"
      refine ⟨cdiv_small (by decide) (by decide), hR _ ?_⟩
      generalize h / 65536 = h2
      refine seq_step fun R hR => ?_
      walk_at "dl"
      refine ⟨cmul_small (by omega) (by omega), cmul_small (by omega) (by omega), by decide, hR _ ?_⟩
      generalize hn1 : (c + 40503 * dg + 104729 * kk) % 4294967291 = n1
      have h10 : 0 ≤ n1 := by rw [← hn1]; exact Int.emod_nonneg _ (by decide)
      have h11 : n1 < 4294967291 := by rw [← hn1]; exact Int.emod_lt_of_pos _ (by decide)
      refine seq_step fun R hR => ?_
      walk_at "dl"
      have g0 : 0 ≤ n1 * n1 % 4294967279 := Int.emod_nonneg _ (by decide)
      have g1 : n1 * n1 % 4294967279 < 4294967279 := Int.emod_lt_of_pos _ (by decide)
      generalize n1 * n1 % 4294967279 = n2 at g0 g1 ⊢
      refine ⟨cmul_small (by omega) (by omega), by decide, cmul_small (by omega) (by omega), by decide, hR _ ?_⟩
      generalize hn3 : n2 * 48271 % 4294967291 = n3
      have h30 : 0 ≤ n3 := by rw [← hn3]; exact Int.emod_nonneg _ (by decide)
      have h31 : n3 < 4294967291 := by rw [← hn3]; exact Int.emod_lt_of_pos _ (by decide)
      refine seq_step fun R hR => ?_
      walk_at "dl"
      have g0 : 0 ≤ n3 * n3 % 4294967279 := Int.emod_nonneg _ (by decide)
      have g1 : n3 * n3 % 4294967279 < 4294967279 := Int.emod_lt_of_pos _ (by decide)
      generalize n3 * n3 % 4294967279 = n4 at g0 g1 ⊢
      refine ⟨cmul_small (by omega) (by omega), by decide, cmul_small (by omega) (by omega), by decide, hR _ ?_⟩
      generalize n4 * 69621 % 4294967291 = n5
      walk_at "dl"
      refine ⟨cdiv_small (by decide) (by decide), cmul_small (by omega) (by omega), cdiv_small (by decide) (by decide), hm, ?_⟩
      refine k _ _ (Int.emod_nonneg _ (by omega)) (Int.emod_lt_of_pos _ hm) ⟨?_, .inr ⟨_, _, rfl⟩⟩
      rw [List.length_cons, List.length_append, List.length_cons, List.length_nil]; omega
    walk_at "dl"
    refine ifB (fun e => ?_) (fun e => c4 0)
    have hp : 0 < ns.length := by
      cases ns with
      | nil => simp at e
      | cons a l => simp
    rw [List.length_map]
    refine ⟨by omega, ?_⟩
    have i0 : 0 ≤ kk % (ns.length : Int) := Int.emod_nonneg _ (by omega)
    have i1 : kk % (ns.length : Int) < ns.length := Int.emod_lt_of_pos _ (by omega)
    exact atD_at i0 (getElem_map_int (by omega)) (c4 _)
  walk_at "dl"
  refine ifB (fun e => ?_) (fun e => ?_)
  · have e0 : t = [] := by
      cases t with
      | nil => rfl
      | cons a l => simp at e
    subst e0
    refine comp_map (E1 := [.d (.list (ns.map PyData.int)), .ol [], .d (.int m), .un, .un, .un, .un, .un]) ns PyData.int (fun i => .int (if i < 0 then -i else i)) (fun R h => h) (un1 rfl) (small_line (by omega)) (fun i _ R hq => hq _ rfl) ?_
    · refine ⟨small_line (by omega), ?_, (ns.map fun i => if i < 0 then -i else i) ++ [0], ?_, ?_, fun mm _ _ => ?_⟩
      · rw [List.length_map]; exact small_line (by omega)
      · rw [List.map_append, List.map_map]; rfl
      · simp
      · refine ⟨small_line (by decide), ?_⟩
        exact main mm [] (by rw [List.length_cons, List.length_nil]; omega)
  · rcases ht.2 with e0 | ⟨h, r, e0⟩
    · subst e0; simp at e
    · subst e0
      exact main h r (by have := ht.1; omega)
theorem sh_law_draw : ∀ ss QD, spDraw ss QD → ss.length = 3 ∧ mpos 0 ss = [1] := by
  rintro ss QD ⟨ns, t, m, b, rfl, _⟩
  exact ⟨rfl, rfl⟩
/-- some[..]: any item -/
def spPick : SpD := fun ss Q => ∃ (ns : List Int) (t : List D) (sm : D) (xs : List D) (b : Nat), ss = [.d (.list (ns.map PyData.int)), .ol t, .d sm] ∧ (sm = .list xs ∨ sm = .tuple xs) ∧ xs ≠ [] ∧ ns.length ≤ 63 ∧ TownOk t b ∧ b ≤ 10000000 ∧
  ∀ x t', x ∈ xs → TownOk t' (b + 2) → Q x [.ol t']
theorem sh_law_pick : ∀ ss QD, spPick ss QD → ss.length = 3 ∧ mpos 0 ss = [1] := by
  rintro ss QD ⟨ns, t, sm, xs, b, rfl, _⟩
  exact ⟨rfl, rfl⟩
theorem rd_law_pick : ∀ ss QD, spPick ss QD → tb_law_pick spDraw { nx := fun E' => finO [1] E' (QD .none), rt := fun d E' => finO [1] E' (QD d) } (ss ++ List.replicate 0 .un) := by
  rintro ss QD ⟨ns, t, sm, xs, b, rfl, hs, hx, hn, ht, hb, k⟩
  unfold tb_law_pick
  have hp : 0 < xs.length := by
    cases xs with
    | nil => exact absurd rfl hx
    | cons a l => simp
  have mem : ∀ (r : Int) (t' : List D), 0 ≤ r → r < xs.length → TownOk t' (b + 2) → atD xs r fun x => QD x [.ol t'] := fun r t' h0 h1 h2 =>
    atD_at (d := xs[r.toNat]) h0 (List.getElem?_eq_getElem (by omega)) (k _ _ (List.getElem_mem _) h2)
  rcases hs with rfl | rfl
  · walk_at "dl"
    exact ⟨ns, t, _, b, rfl, by omega, hn, ht, hb, mem⟩
  · walk_at "dl"
    exact ⟨ns, t, _, b, rfl, by omega, hn, ht, hb, mem⟩
/-- data without lists, n tuples deep at most -/
def sameOk : Nat → D → Bool
  | _, .none => true
  | _, .bool _ => true
  | _, .int _ => true
  | _, .str x => PyData.strOk x
  | n + 1, .tuple ds => ds.all (sameOk n) && decide (ds.length ≤ 10000000)
  | _, _ => false
def spSame (n : Nat) : SpD := fun ss Q => ∃ d, ss = [.d d, .d d] ∧ sameOk n d = true ∧ Q (.bool true) []
theorem sh_law_same (n : Nat) : ∀ ss QD, spSame n ss QD → ss.length = 2 ∧ mpos 0 ss = [] := by
  rintro ss QD ⟨d, rfl, _⟩
  exact ⟨rfl, rfl⟩
def spNo : SpD := fun _ _ => False
theorem eqv_scal {d : D} (h : (match d with | .tuple _ => False | .list _ => False | .dict _ => False | _ => True)) : PyData.eqv d d = true := by
  cases d <;> first | exact h.elim | simp [PyData.eqv]
theorem zip_self {α : Type} : ∀ l : List α, l.zip l = l.map fun x => (x, x)
  | [] => rfl
  | a :: l => by rw [List.zip_cons_cons, zip_self l]; rfl
theorem rd_law_same (n : Nat) (sp : SpD) (hsp : ∀ m, n = m + 1 → sp = spSame m) : ∀ ss QD, spSame n ss QD → tb_law_same sp { nx := fun E' => finO [] E' (QD .none), rt := fun d E' => finO [] E' (QD d) } (ss ++ List.replicate 2 .un) := by
  rintro ss QD ⟨d, rfl, hd, q⟩
  unfold tb_law_same
  cases d with
  | none => exact q
  | bool b =>
    refine seq_step fun R hR => ?_
    walk_at "dl"
    refine hR _ ?_
    refine seq_step fun R hR => ?_
    walk_at "dl"
    exact q
  | int i =>
    refine seq_step fun R hR => ?_
    walk_at "dl"
    refine hR _ ?_
    refine seq_step fun R hR => ?_
    walk_at "dl"
    refine hR _ ?_
    refine seq_step fun R hR => ?_
    walk_at "dl"
    refine hR _ ?_
    refine seq_step fun R hR => ?_
    walk_at "dl"
    refine hR _ ?_
    walk_at "dl"
    exact q
  | str x =>
    refine seq_step fun R hR => ?_
    walk_at "dl"
    refine hR _ ?_
    refine seq_step fun R hR => ?_
    walk_at "dl"
    refine hR _ ?_
    refine seq_step fun R hR => ?_
    walk_at "dl"
    refine hR _ ?_
    refine seq_step fun R hR => ?_
    have hs : SeqAt.shaped (.str x) = true := by
      have : PyData.strOk x = true := by cases n <;> exact hd
      show (PyData.strOk x && decide ((0 : Nat) ≤ 64)) = true
      rw [this]; rfl
    walk_at "dl"
    refine ⟨hs, ?_⟩
    rw [eqv_scal trivial]; exact q
  | list _ => cases n <;> cases hd
  | dict _ => cases n <;> cases hd
  | tuple ds =>
    cases n with
    | zero => cases hd
    | succ m =>
      have hsp := hsp m rfl
      subst hsp
      have hd : (ds.all (sameOk m) && decide (ds.length ≤ 10000000)) = true := hd
      rw [Bool.and_eq_true] at hd
      have hl : ds.length ≤ 10000000 := of_decide_eq_true hd.2
      have ha := List.all_eq_true.mp hd.1
      refine seq_step fun R hR => ?_
      walk_at "dl"
      refine hR _ ?_
      refine seq_step fun R hR => ?_
      walk_at "dl"
      refine hR _ ?_
      refine seq_step fun R hR => ?_
      refine ⟨trivial, trivial, ifT (b := isTuple (.tuple ds)) rfl ?_⟩
      refine seq_step fun R2 hR2 => ?_
      walk_at "dl"
      refine hR2 _ ?_
      show tComp _ _ _ _ _ _ _
      refine comp_map (E1 := [.d (.tuple ds), .d (.tuple ds), .un, .un]) ds (fun x => PyData.tuple [x, x]) (fun _ => PyData.bool true) (fun R h => ?_) (un2 rfl rfl) (small_line (by omega)) (fun x hx R hq => ?_) ?_
      · show R (zipD ds ds) _
        unfold zipD
        rw [zip_self, List.map_map]
        exact h
      · exact ⟨rfl, rfl, x, rfl, ha x hx, hq _ rfl⟩
      · refine ⟨ds.map fun _ => true, by rw [List.map_map]; rfl, ?_⟩
        have : (ds.map fun _ => true).all id = true := by simp
        rw [this]; exact q
end DL
set_option Elab.async false
set_option linter.all false
set_option maxRecDepth 100000
set_option maxHeartbeats 4000000
namespace DL
open PySem PySem.Spec PyProof.Rows L2
local macro_rules | `(tactic| walk_at "dl") => `(tactic| simp only [tV, tVr, tFzV, turnD, DL.wipeE, tK, tOpD, tUnD, tBo, tAndD, tOrD, tNotD, tIfE, DL.tAndV, DL.tOrV, DL.tNotV, tTru, truD, okLen, sSet, sSetL, sExpr, sRet, sIf, sNx, tTupD, dNil, dCons, tLstD, tFzD, tApp, tExtd, tPopAt, sSetIx, tIxO, tChainD, tChain3D, tRevT, caStr, opRepT, opAdd, opSub, opMul, opDiv, opMod, opPow, DL.opI, DL.opI0, opB0, opLt, opLe, opGt, opGtD, opLtD, opGe, opEq, opNe, opIs, opIsN, isNone, opIn, opNotIn, opIx, atD_0, atD_1, atD_2, atD_3, putD_0, unNeg, tCa1, tCa2, tCaL1, caLen, caAbs, caMax2, caMin2, caSum, caMax, caMin, caSumT, caMaxT, caMinT, caAll, caTuple, caList, caInt, tIsi, isInt, isBool, isStr, isTuple, isList, notDict, sAsg, gSet, gTupD, gsNil, gsCons, sPar, pNil, pD, pL, setAll, tCallD, aNil, aV, aO, argS, oixs, ndp, putO, tOpL, opCat, opRep, tSlD, slD, tSlL, oNo, oE, tRevD, iLstD, iTupD, iRange1, iRange2, iZipD, iZipM, finO, tTrue, Option.map, eqv_int, eqv_bool, eqv_none, shaped_int, shaped_bool, shaped_none, tLenRange, tSortSet, tLenSet, tCountL, tCountT, tIndexL, tIndexT, DL.tOrT, DL.tAndT, DL.tNotT, tSortRev, caSorted, iEnumL, iEnumT, decide_eq_true_eq, and_self, List.cons_append, List.nil_append, List.replicate, List.getElem?_cons_zero, List.getElem?_cons_succ, List.set_cons_zero, List.set_cons_succ, List.length_cons, List.length_nil, true_and, and_true, if_true, if_false, Bool.false_eq_true, List.contains_nil, Bool.not_false, Bool.not_true, Bool.and_self, Bool.and_true, Bool.true_and, decide_true, decide_false, beq_self_eq_true])
/-! ### _law_bent -/
end DL
set_option Elab.async false
set_option linter.all false
set_option maxRecDepth 100000
set_option maxHeartbeats 4000000
namespace DL
open PySem PySem.Spec PyProof.Rows L2
local macro_rules | `(tactic| walk_at "dl") => `(tactic| simp only [tV, tVr, tFzV, turnD, DL.wipeE, tK, tOpD, tUnD, tBo, tAndD, tOrD, tNotD, tIfE, DL.tAndV, DL.tOrV, DL.tNotV, tTru, truD, okLen, sSet, sSetL, sExpr, sRet, sIf, sNx, tTupD, dNil, dCons, tLstD, tFzD, tApp, tExtd, tPopAt, sSetIx, tIxO, tChainD, tChain3D, tRevT, caStr, opRepT, opAdd, opSub, opMul, opDiv, opMod, opPow, DL.opI, DL.opI0, opB0, opLt, opLe, opGt, opGtD, opLtD, opGe, opEq, opNe, opIs, opIsN, isNone, opIn, opNotIn, opIx, atD_0, atD_1, atD_2, atD_3, putD_0, unNeg, tCa1, tCa2, tCaL1, caLen, caAbs, caMax2, caMin2, caSum, caMax, caMin, caSumT, caMaxT, caMinT, caAll, caTuple, caList, caInt, tIsi, isInt, isBool, isStr, isTuple, isList, notDict, sAsg, gSet, gTupD, gsNil, gsCons, sPar, pNil, pD, pL, setAll, tCallD, aNil, aV, aO, argS, oixs, ndp, putO, tOpL, opCat, opRep, tSlD, slD, tSlL, oNo, oE, tRevD, iLstD, iTupD, iRange1, iRange2, iZipD, iZipM, finO, tTrue, Option.map, eqv_int, eqv_bool, eqv_none, shaped_int, shaped_bool, shaped_none, tLenRange, tSortSet, tLenSet, tLenSetP, tSortSetP, tCountL, tCountT, tIndexL, tIndexT, DL.tOrT, DL.tAndT, DL.tNotT, tSortRev, caSorted, iEnumL, iEnumT, decide_eq_true_eq, and_self, List.cons_append, List.nil_append, List.replicate, List.getElem?_cons_zero, List.getElem?_cons_succ, List.set_cons_zero, List.set_cons_succ, List.length_cons, List.length_nil, true_and, and_true, if_true, if_false, Bool.false_eq_true, List.contains_nil, Bool.not_false, Bool.not_true, Bool.and_self, Bool.and_true, Bool.true_and, decide_true, decide_false, beq_self_eq_true])
def tb_law_all_cards : TSd :=
  sSeq (sSetL 1 (tLstD (dNil)))
      (sSeq (sFor (iRange1 (tK (.int 4))) (gSet 2) (sExpr (tExtd 1 (tComp (iRange2 (tK (.int 1)) (tOpD opAdd (tV 0) (tK (.int 1)))) (gSet 3) (tTrue) (tTupD (dCons (tV 2) (dCons (tV 3) (dNil)))) [3]))))
      (sRet (tFzV 1)))
/-! cards: a card is a pair of ints -/
abbrev Card := Int × Int
def cE (b : Card) : D := .tuple [.int b.1, .int b.2]
def handD (h : List Card) : D := .tuple (h.map cE)
def allC (R : Nat) : List Card := (List.range 4).flatMap fun s : Nat => (List.range R).map fun r : Nat => ((s : Int), (r : Int) + 1)
theorem allC_len (R : Nat) : (allC R).length = 4 * R := by
  unfold allC
  simp [List.range_succ]
  omega
theorem range_1 (n : Nat) : rangeD 1 n = (List.range n).map fun i : Nat => PyData.int ((i : Int) + 1) := by
  unfold rangeD; exact List.map_congr_left fun i _ => by rw [Int.add_comm]
/-! ### _law_mixed -/
/-! ### _law_all_cards -/
def spAllC : SpD := fun ss Q => ∃ R : Nat, ss = [.d (.int R)] ∧ R ≤ 100 ∧ Q (.list ((allC R).map cE)) []
theorem sh_law_all_cards : ∀ ss QD, spAllC ss QD → ss.length = 1 ∧ mpos 0 ss = [] := by rintro ss QD ⟨R, rfl, _⟩; exact ⟨rfl, rfl⟩
def cardsTo (R n : Nat) : List Card := (List.range n).flatMap fun s : Nat => (List.range R).map fun r : Nat => ((s : Int), (r : Int) + 1)
theorem cardsTo_succ (R n : Nat) : cardsTo R (n + 1) = cardsTo R n ++ (List.range R).map fun r : Nat => ((n : Int), (r : Int) + 1) := by
  unfold cardsTo
  rw [show List.range (n + 1) = List.range n ++ [n] from List.range_succ, List.flatMap_append]; simp
theorem cardsTo_len (R n : Nat) : (cardsTo R n).length = n * R := by
  induction n with
  | zero => simp [cardsTo]
  | succ n ih => rw [cardsTo_succ, List.length_append, ih]; simp [Nat.add_mul]
theorem rd_law_all_cards : ∀ ss QD, spAllC ss QD → tb_law_all_cards { nx := fun E' => finO [] E' (QD .none), rt := fun d E' => finO [] E' (QD d) } (ss ++ List.replicate 3 .un) := by
  rintro ss QD ⟨RR, rfl, hRR, q⟩
  unfold tb_law_all_cards
  refine seq_step fun R hR => ?_
  walk_at "dl"
  refine ⟨small_line (by decide), hR _ ?_⟩
  refine seq_step fun R hR => ?_
  refine for_inv (ds := rangeD 0 4) (E1 := [.d (.int RR), .ol [], .un, .un]) (fun Q h => ⟨⟨by decide, by decide⟩, h⟩)
    (fun i E => ∃ a2, E = [.d (.int RR), .ol ((cardsTo RR i).map cE), a2, .un]) ⟨_, rfl⟩ (fun i d E hd hE R2 hR2 => ?_) (fun E hE => ?_)
  · obtain ⟨a2, rfl⟩ := hE
    have hi : i < 4 := by have := (List.getElem?_eq_some_iff.mp hd).1; rwa [rangeD_length] at this
    rw [rangeD_get hi] at hd
    cases hd
    walk_at "dl"
    refine comp_map (E1 := [.d (.int RR), .ol ((cardsTo RR i).map cE), .d (.int (0 + (i : Int))), .un]) (List.range RR) (fun s : Nat => .int ((s : Int) + 1)) (fun s : Nat => cE (0 + (i : Int), (s : Int) + 1)) (fun Q h => ⟨⟨by decide, by decide, by omega, by omega⟩, by rw [show ((RR : Int) + 1 - 1).toNat = RR by omega, range_1]; exact h⟩) (un1 rfl) (by rw [List.length_range]; exact small_line (by omega)) (fun x hx R hq => ?_) ?_
    · exact ⟨small_line (by simp), hq _ rfl⟩
    · refine ⟨?_, hR2 _ ⟨.d (.int (0 + (i : Int))), ?_⟩⟩
      · rw [List.length_map, cardsTo_len, List.length_map, List.length_range]
        have : i * RR ≤ 3 * RR := Nat.mul_le_mul_right _ (by omega)
        exact small_line (by omega)
      · rw [cardsTo_succ, List.map_append, List.map_map, Int.zero_add]; rfl
  · obtain ⟨a2, rfl⟩ := hE
    rw [rangeD_length]
    exact hR _ q
/-! ### sorted hands -/
/-! ### _law_drawn_deal -/
end DL
set_option Elab.async false
set_option linter.all false
set_option maxRecDepth 100000
set_option maxHeartbeats 4000000
namespace DL
open PySem PySem.Spec PyProof.Rows L2
local macro_rules | `(tactic| walk_at "dl") => `(tactic| simp only [tV, tVr, tFzV, turnD, DL.wipeE, tK, tOpD, tUnD, tBo, tAndD, tOrD, tNotD, tIfE, DL.tAndV, DL.tOrV, DL.tNotV, tTru, truD, okLen, sSet, sSetL, sExpr, sRet, sIf, sNx, tTupD, dNil, dCons, tLstD, tFzD, tApp, tExtd, tPopAt, sSetIx, tIxO, tChainD, tChain3D, tRevT, caStr, opRepT, opAdd, opSub, opMul, opDiv, opMod, opPow, DL.opI, DL.opI0, opB0, opLt, opLe, opGt, opGtD, opLtD, opGe, opEq, opNe, opIs, opIsN, isNone, opIn, opNotIn, opIx, atD_0, atD_1, atD_2, atD_3, putD_0, unNeg, tCa1, tCa2, tCaL1, caLen, caAbs, caMax2, caMin2, caSum, caMax, caMin, caSumT, caMaxT, caMinT, caAll, caTuple, caList, caInt, tIsi, isInt, isBool, isStr, isTuple, isList, notDict, sAsg, gSet, gTupD, gsNil, gsCons, sPar, pNil, pD, pL, setAll, tCallD, aNil, aV, aO, argS, oixs, ndp, putO, tOpL, opCat, opRep, tSlD, slD, tSlL, oNo, oE, tRevD, iLstD, iTupD, iRange1, iRange2, iZipD, iZipM, finO, tTrue, Option.map, eqv_int, eqv_bool, eqv_none, shaped_int, shaped_bool, shaped_none, tLenRange, tSortSet, tLenSet, tLenSetP, tSortSetP, tCountL, tCountT, tIndexL, tIndexT, DL.tOrT, DL.tAndT, DL.tNotT, tSortRev, caSorted, iEnumL, iEnumT, tDGetV, tDGetD, tDGet2V, dictAt, sDPutV, sSetM, mDt, mDk, pM, tInN, tNotInN, keyB_2, keyB_3, keyB_4, decide_eq_true_eq, and_self, List.cons_append, List.nil_append, List.replicate, List.getElem?_cons_zero, List.getElem?_cons_succ, List.set_cons_zero, List.set_cons_succ, List.length_cons, List.length_nil, true_and, and_true, if_true, if_false, Bool.false_eq_true, List.contains_nil, Bool.not_false, Bool.not_true, Bool.and_self, Bool.and_true, Bool.true_and, decide_true, decide_false, beq_self_eq_true])
/-! ### plain: hands and deals -/
instance (a b : Card) : Decidable (ltC a b) := by unfold ltC; infer_instance
def goodR (R : Nat) : Prop := R ∈ ([1, 2, 3, 4, 5, 6, 8, 13] : List Nat)
theorem goodR.le {R : Nat} (h : goodR R) : 1 ≤ R ∧ R ≤ 13 := (by decide : ∀ z ∈ ([1, 2, 3, 4, 5, 6, 8, 13] : List Nat), 1 ≤ z ∧ z ≤ 13) R h
/-! ### is_whole, is_card -/
end DL
set_option Elab.async false
set_option linter.all false
set_option maxRecDepth 100000
set_option maxHeartbeats 4000000
namespace DL
open PySem PySem.Spec PyProof.Rows L2
local macro_rules | `(tactic| walk_at "dl") => `(tactic| simp only [tV, tVr, tFzV, turnD, DL.wipeE, tK, tOpD, tUnD, tBo, tAndD, tOrD, tNotD, tIfE, DL.tAndV, DL.tOrV, DL.tNotV, tTru, truD, okLen, sSet, sSetL, sExpr, sRet, sIf, sNx, tTupD, dNil, dCons, tLstD, tFzD, tApp, tExtd, tPopAt, sSetIx, tIxO, tChainD, tChain3D, tRevT, caStr, opRepT, opAdd, opSub, opMul, opDiv, opMod, opPow, DL.opI, DL.opI0, opB0, opLt, opLe, opGt, opGtD, opLtD, opGe, opEq, opNe, opIs, opIsN, isNone, opIn, opNotIn, opIx, atD_0, atD_1, atD_2, atD_3, putD_0, unNeg, tCa1, tCa2, tCaL1, caLen, caAbs, caMax2, caMin2, caSum, caMax, caMin, caSumT, caMaxT, caMinT, caAll, caTuple, caList, caInt, tIsi, isInt, isBool, isStr, isTuple, isList, notDict, sAsg, gSet, gTupD, gsNil, gsCons, sPar, pNil, pD, pL, setAll, tCallD, aNil, aV, aO, argS, oixs, ndp, putO, tOpL, opCat, opRep, tSlD, slD, tSlL, oNo, oE, tRevD, iLstD, iTupD, iRange1, iRange2, iZipD, iZipM, finO, tTrue, Option.map, eqv_int, eqv_bool, eqv_none, shaped_int, shaped_bool, shaped_none, tLenRange, tSortSet, tLenSet, tLenSetP, tSortSetP, tCountL, tCountT, tIndexL, tIndexT, DL.tOrT, DL.tAndT, DL.tNotT, tSortRev, caSorted, iEnumL, iEnumT, tDGetV, tDGetD, tDGet2V, dictAt, sDPutV, sSetM, mDt, mDk, pM, tInN, tNotInN, keyB_2, keyB_3, keyB_4, decide_eq_true_eq, and_self, List.cons_append, List.nil_append, List.replicate, List.getElem?_cons_zero, List.getElem?_cons_succ, List.set_cons_zero, List.set_cons_succ, List.length_cons, List.length_nil, true_and, and_true, if_true, if_false, Bool.false_eq_true, List.contains_nil, Bool.not_false, Bool.not_true, Bool.and_self, Bool.and_true, Bool.true_and, decide_true, decide_false, beq_self_eq_true])
theorem range_0 (n : Nat) : rangeD 0 n = (List.range n).map fun i : Nat => PyData.int (i : Int) := by
  unfold rangeD; exact List.map_congr_left fun i _ => by rw [Int.zero_add]
end DL
set_option Elab.async false
set_option linter.all false
set_option maxRecDepth 100000
set_option maxHeartbeats 4000000
/-! FnNumT: choices numbered -/
namespace DL
open PySem PySem.Spec PyProof.Rows L2
def ch : Nat → Nat → Nat
  | _, 0 => 1
  | 0, _ + 1 => 0
  | n + 1, k + 1 => ch n k + ch n (k + 1)
theorem ch_0 (n : Nat) : ch n 0 = 1 := by cases n <;> rfl
theorem ch_ss (n k : Nat) : ch (n + 1) (k + 1) = ch n k + ch n (k + 1) := rfl
theorem ch_lt : ∀ {n k : Nat}, n < k → ch n k = 0
  | _, 0, h => by omega
  | 0, k + 1, _ => rfl
  | n + 1, k + 1, h => by rw [ch_ss, ch_lt (by omega), ch_lt (by omega)]
theorem ch_step : ∀ n k : Nat, ch n k * (n - k) = ch n (k + 1) * (k + 1)
  | 0, 0 => rfl
  | 0, k + 1 => by show 0 * _ = 0 * _; omega
  | n + 1, 0 => by
    have := ch_step n 0
    rw [ch_0] at this
    rw [ch_0, ch_ss, ch_0]; omega
  | n + 1, k + 1 => by
    have a := ch_step n k
    have b := ch_step n (k + 1)
    rw [ch_ss, ch_ss n (k + 1)]
    rcases Nat.lt_or_ge n (k + 1) with h | h
    · have z : ch n (k + 1) = 0 := ch_lt h
      have z2 : ch n (k + 1 + 1) = 0 := ch_lt (by omega)
      rw [z, z2, show n + 1 - (k + 1) = 0 by omega]; simp
    · rw [Nat.add_mul, Nat.add_mul, ← b, show n + 1 - (k + 1) = n - k by omega, a, ← Nat.mul_add, ← Nat.mul_add]
      congr 1; omega
theorem ch_le : ∀ n k : Nat, ch n k ≤ 2 ^ n
  | _, 0 => by rw [ch_0]; exact Nat.one_le_two_pow
  | 0, k + 1 => Nat.zero_le _
  | n + 1, k + 1 => by
    have a := ch_le n k
    have b := ch_le n (k + 1)
    rw [ch_ss, Nat.pow_succ]; omega
section
variable {α : Type} [DecidableEq α]
/-- how many choices are ahead -/
def pl : List α → List α → Nat
  | _, [] => 0
  | [], _ :: _ => 0
  | c :: cs, h :: hs => if c = h then pl cs hs else ch cs.length hs.length + pl cs (h :: hs)
/-- the choice of a number -/
def un : List α → Nat → Nat → List α
  | _, 0, _ => []
  | [], _ + 1, _ => []
  | c :: cs, n + 1, k => if k < ch cs.length n then c :: un cs n k else un cs (n + 1) (k - ch cs.length n)
theorem un_0 (pool : List α) (k : Nat) : un pool 0 k = [] := by cases pool <;> rfl
theorem un_cons (c : α) (cs : List α) (n k : Nat) : un (c :: cs) (n + 1) k = if k < ch cs.length n then c :: un cs n k else un cs (n + 1) (k - ch cs.length n) := rfl
theorem un_sub : ∀ (pool : List α) (n k : Nat), (un pool n k).Sublist pool
  | pool, 0, k => by rw [un_0]; exact List.nil_sublist _
  | [], n + 1, k => List.nil_sublist _
  | c :: cs, n + 1, k => by
    rw [un_cons]
    split
    · exact (un_sub cs n k).cons_cons c
    · exact (un_sub cs (n + 1) _).cons c
theorem un_len : ∀ {pool : List α} {n k : Nat}, k < ch pool.length n → (un pool n k).length = n
  | pool, 0, k, _ => by rw [un_0]; rfl
  | [], n + 1, k, h => by exact absurd h (Nat.not_lt_zero k)
  | c :: cs, n + 1, k, h => by
    have h : k < ch (cs.length + 1) (n + 1) := h
    rw [ch_ss] at h
    rw [un_cons]
    split
    · rename_i z; rw [List.length_cons, un_len z]
    · exact un_len (by omega)
end
end DL
set_option Elab.async false
set_option linter.all false
set_option maxRecDepth 100000
set_option maxHeartbeats 4000000
namespace DL
open PySem PySem.Spec PyProof.Rows L2
local macro_rules | `(tactic| walk_at "dl") => `(tactic| simp only [tV, tVr, tFzV, turnD, DL.wipeE, tK, tOpD, tUnD, tBo, tAndD, tOrD, tNotD, tIfE, DL.tAndV, DL.tOrV, DL.tNotV, tTru, truD, okLen, sSet, sSetL, sExpr, sRet, sIf, sNx, tTupD, dNil, dCons, tLstD, tFzD, tApp, tExtd, tPopAt, sSetIx, tIxO, tChainD, tChain3D, tRevT, caStr, opRepT, opAdd, opSub, opMul, opDiv, opMod, opPow, DL.opI, DL.opI0, opB0, opLt, opLe, opGt, opGtD, opLtD, opGe, opEq, opNe, opIs, opIsN, isNone, opIn, opNotIn, opIx, atD_0, atD_1, atD_2, atD_3, putD_0, unNeg, tCa1, tCa2, tCaL1, caLen, caAbs, caMax2, caMin2, caSum, caMax, caMin, caSumT, caMaxT, caMinT, caAll, caTuple, caList, caInt, tIsi, isInt, isBool, isStr, isTuple, isList, notDict, sAsg, gSet, gTupD, gsNil, gsCons, sPar, pNil, pD, pL, setAll, tCallD, aNil, aV, aO, argS, oixs, ndp, putO, tOpL, opCat, opRep, tSlD, slD, tSlL, oNo, oE, tRevD, iLstD, iTupD, iRange1, iRange2, iZipD, iZipM, finO, tTrue, Option.map, eqv_int, eqv_bool, eqv_none, shaped_int, shaped_bool, shaped_none, tLenRange, tSortSet, tLenSet, tLenSetP, tSortSetP, tCountL, tCountT, tIndexL, tIndexT, DL.tOrT, DL.tAndT, DL.tNotT, tSortRev, caSorted, iEnumL, iEnumT, tDGetV, tDGetD, tDGet2V, dictAt, sDPutV, sSetM, mDt, mDk, pM, tInN, tNotInN, keyB_2, keyB_3, keyB_4, decide_eq_true_eq, and_self, List.cons_append, List.nil_append, List.replicate, List.getElem?_cons_zero, List.getElem?_cons_succ, List.set_cons_zero, List.set_cons_succ, List.length_cons, List.length_nil, true_and, and_true, if_true, if_false, Bool.false_eq_true, List.contains_nil, Bool.not_false, Bool.not_true, Bool.and_self, Bool.and_true, Bool.true_and, decide_true, decide_false, beq_self_eq_true])
def tb_choose : TSd :=
  sSeq (sIf (tNotD (tBo (tChainD opLe opLe (tK (.int 0)) (tV 1) (tV 0)))) (sRet (tK (.int 0))) (sNx))
      (sSeq (sSet 2 (tK (.int 1)))
      (sSeq (sFor (iRange1 (tV 1)) (gSet 3) (sSet 2 (tOpD opDiv (tOpD opMul (tV 2) (tOpD opSub (tV 0) (tV 3))) (tOpD opAdd (tV 3) (tK (.int 1))))))
      (sRet (tV 2))))
def tb_hands_in_all (sp_choose : SpD) : TSd :=
  sRet (tCallD sp_choose (aV (tOpD opMul (tK (.int 4)) (tV 0)) (aV (tV 0) (aNil))))
def tb_all_cards : TSd :=
  sSeq (sSetL 1 (tLstD (dNil)))
      (sSeq (sFor (iRange1 (tK (.int 4))) (gSet 2) (sExpr (tExtd 1 (tComp (iRange2 (tK (.int 1)) (tOpD opAdd (tV 0) (tK (.int 1)))) (gSet 3) (tTrue) (tTupD (dCons (tV 2) (dCons (tV 3) (dNil)))) [3]))))
      (sRet (tFzV 1)))
def tb_taken_at (sp_choose : SpD) : TSd :=
  sSeq (sSetL 3 (tLstD (dNil)))
      (sSeq (sFor (iEnumL (tV 0)) (gTupD 2 (gsCons (gSet 4) (gsCons (gSet 5) (gsNil)))) (sSeq (sSet 6 (tCallD sp_choose (aV (tOpD opSub (tOpD opSub (tCa1 caLen (tV 0)) (tV 4)) (tK (.int 1))) (aV (tOpD opSub (tOpD opSub (tV 1) (tCa1 caLen (tVr 3))) (tK (.int 1))) (aNil)))))
      (sIf (tAndD (tBo (tOpD opLt (tCa1 caLen (tVr 3)) (tV 1))) (tBo (tOpD opLt (tV 2) (tV 6)))) (sExpr (tApp 3 (tV 5))) (sIf (tBo (tOpD opLt (tCa1 caLen (tVr 3)) (tV 1))) (sSet 2 (tOpD opSub (tV 2) (tV 6))) (sNx)))))
      (sRet (tCa1 caTuple (tVr 3))))
def tb_hand_at (sp_all_cards : SpD) (sp_taken_at : SpD) (sp_hands_in_all : SpD) (c_NoHand : Value) (WD : WDt) : TSd :=
  sSeq (sIf (tNotD (tBo (tChainD opLe opLt (tK (.int 0)) (tV 1) (tCallD sp_hands_in_all (aV (tV 0) (aNil)))))) (sRaise WD c_NoHand) (sNx))
      (sRet (tCallD sp_taken_at (aV (tCallD sp_all_cards (aV (tV 0) (aNil))) (aV (tV 0) (aV (tV 1) (aNil))))))
def chI (m k : Int) : Int := if k < 0 then 0 else (ch m.toNat k.toNat : Int)
def spChoose : SpD := fun ss Q => ∃ (m : Nat) (k : Int), ss = [.d (.int (m : Int)), .d (.int k)] ∧ m ≤ 60 ∧ Q (.int (chI m k)) []
theorem sh_choose : ∀ ss QD, spChoose ss QD → ss.length = 2 ∧ mpos 0 ss = [] := by rintro ss QD ⟨m, k, rfl, _⟩; exact ⟨rfl, rfl⟩
theorem ch_small {m k : Nat} (h : m ≤ 60) : ch m k < 2 ^ 61 := Nat.lt_of_le_of_lt (ch_le m k) (Nat.pow_lt_pow_right (by decide) (by omega))
theorem rd_choose : ∀ ss QD, spChoose ss QD → tb_choose { nx := fun E' => finO [] E' (QD .none), rt := fun d E' => finO [] E' (QD d) } (ss ++ List.replicate 2 .un) := by
  rintro ss QD ⟨m, k, rfl, hm, q⟩
  unfold tb_choose
  refine seq_step fun R hR => ?_
  walk_at "dl"
  have zero : (k < 0 ∨ (m : Int) < k) → QD (.int 0) [] := fun h => by
    have : chI m k = 0 := by
      unfold chI
      split
      · rfl
      · rw [ch_lt (by omega)]; rfl
    rw [this] at q; exact q
  have go : 0 ≤ k → k ≤ (m : Int) → R [.d (.int (m : Int)), .d (.int k), .un, .un] := fun h0 h1 => by
    refine hR _ ?_
    refine seq_step fun R hR => ?_
    walk_at "dl"
    refine hR _ ?_
    refine seq_step fun R hR => ?_
    obtain ⟨n, rfl⟩ : ∃ n : Nat, k = (n : Int) := ⟨k.toNat, by omega⟩
    refine for_inv (ds := rangeD 0 n) (E1 := [.d (.int (m : Int)), .d (.int (n : Int)), .d (.int 1), .un]) (fun Q h => ⟨⟨by omega, by omega⟩, by rw [Int.toNat_natCast]; exact h⟩)
      (fun i E => ∃ a3, E = [.d (.int (m : Int)), .d (.int (n : Int)), .d (.int ((ch m i : Nat) : Int)), a3]) ⟨_, by rw [ch_0]; rfl⟩ (fun i d E hd hE R2 hR2 => ?_) (fun E hE => ?_)
    · obtain ⟨a3, rfl⟩ := hE
      have hi : i < n := by have := (List.getElem?_eq_some_iff.mp hd).1; rwa [rangeD_length] at this
      rw [rangeD_get hi] at hd
      cases hd
      have hc := ch_small (k := i) hm
      walk_at "dl"
      refine ⟨cmul_small (by omega) (by omega), cdiv_small (by omega) (by omega), ?_⟩
      have e : ((ch m i : Nat) : Int) * ((m : Int) - (0 + (i : Int))) / (0 + (i : Int) + 1) = ((ch m (i + 1) : Nat) : Int) := by
        have h1 := ch_step m i
        have h2 : ((ch m i : Nat) : Int) * ((m : Int) - (0 + (i : Int))) = ((ch m (i + 1) : Nat) : Int) * (0 + (i : Int) + 1) := by
          have h3 : ((ch m i * (m - i) : Nat) : Int) = ((ch m (i + 1) * (i + 1) : Nat) : Int) := by rw [h1]
          rw [Int.natCast_mul, Int.natCast_mul] at h3
          rw [show ((m : Int) - (0 + (i : Int))) = ((m - i : Nat) : Int) by omega, h3]
          congr 1; omega
        rw [h2, Int.mul_ediv_cancel _ (by omega)]
      rw [e]
      exact hR2 _ ⟨_, rfl⟩
    · obtain ⟨a3, rfl⟩ := hE
      rw [rangeD_length]
      refine hR _ ?_
      walk_at "dl"
      have : chI m (n : Int) = ((ch m n : Nat) : Int) := by unfold chI; rw [if_neg (by omega), Int.toNat_natCast, Int.toNat_natCast]
      rw [this] at q; exact q
  by_cases h0 : 0 ≤ k
  · rw [decide_eq_true h0]
    by_cases h1 : k ≤ (m : Int)
    · exact ifF (by show (!decide (k ≤ (m : Int))) = false; rw [decide_eq_true h1]; rfl) (go h0 h1)
    · exact ifT (by show (!decide (k ≤ (m : Int))) = true; rw [decide_eq_false h1]; rfl) (zero (.inr (by omega)))
  · rw [decide_eq_false h0]; exact zero (.inl (by omega))
theorem chI_nat {m k : Int} (hm : 0 ≤ m) (hk : 0 ≤ k) : chI m k = ((ch m.toNat k.toNat : Nat) : Int) := by unfold chI; rw [if_neg (by omega)]
def spHandsA : SpD := fun ss Q => ∃ (R : Nat), ss = [.d (.int (R : Int))] ∧ R ≤ 13 ∧ Q (.int ((ch (4 * R) R : Nat) : Int)) []
theorem sh_hands_in_all : ∀ ss QD, spHandsA ss QD → ss.length = 1 ∧ mpos 0 ss = [] := by rintro ss QD ⟨R, rfl, _⟩; exact ⟨rfl, rfl⟩
theorem rd_hands_in_all : ∀ ss QD, spHandsA ss QD → tb_hands_in_all spChoose { nx := fun E' => finO [] E' (QD .none), rt := fun d E' => finO [] E' (QD d) } (ss ++ List.replicate 0 .un) := by
  rintro ss QD ⟨R, rfl, hR, q⟩
  unfold tb_hands_in_all
  walk_at "dl"
  refine ⟨cmul_small (by decide) (by omega), 4 * R, (R : Int), by simp, by omega, ?_⟩
  walk_at "dl"
  rw [chI_nat (by omega) (by omega), Int.toNat_natCast, Int.toNat_natCast]; exact q
theorem sh_all_cards : ∀ ss QD, spAllC ss QD → ss.length = 1 ∧ mpos 0 ss = [] := sh_law_all_cards
theorem rd_all_cards : ∀ ss QD, spAllC ss QD → tb_all_cards { nx := fun E' => finO [] E' (QD .none), rt := fun d E' => finO [] E' (QD d) } (ss ++ List.replicate 3 .un) := rd_law_all_cards
/-! ### place_in -/
theorem enum_cards {cs : List Card} {i : Nat} {d : D} (h : (enumD (cs.map cE))[i]? = some d) : ∃ c, cs[i]? = some c ∧ d = .tuple [.int (i : Int), cE c] := by
  have hl : i < cs.length := by have := (List.getElem?_eq_some_iff.mp h).1; rwa [enumD_len, List.length_map] at this
  refine ⟨cs[i], List.getElem?_eq_getElem hl, ?_⟩
  rw [enumD_get (d := cE cs[i]) (by rw [List.getElem?_map, List.getElem?_eq_getElem hl]; rfl)] at h
  exact (Option.some.inj h).symm
theorem gs2' {i j : Nat} {a b : D} {E : Env} {Q : Env → Prop} (h : Q ((E.set i (.d a)).set j (.d b))) : gTupD 2 (gsCons (gSet i) (gsCons (gSet j) gsNil)) (.tuple [a, b]) E Q := ⟨rfl, h⟩
/-! ### taken_at -/
def spTaken : SpD := fun ss Q => ∃ (pool : List Card) (n k : Nat), ss = [.d (.list (pool.map cE)), .d (.int (n : Int)), .d (.int (k : Int))] ∧ pool.length ≤ 52 ∧ n ≤ 52 ∧ k < ch pool.length n ∧ Q (handD (un pool n k)) []
theorem sh_taken_at : ∀ ss QD, spTaken ss QD → ss.length = 3 ∧ mpos 0 ss = [] := by rintro ss QD ⟨p, n, k, rfl, _⟩; exact ⟨rfl, rfl⟩
theorem rd_taken_at : ∀ ss QD, spTaken ss QD → tb_taken_at spChoose { nx := fun E' => finO [] E' (QD .none), rt := fun d E' => finO [] E' (QD d) } (ss ++ List.replicate 4 .un) := by
  rintro ss QD ⟨pool, n, k, rfl, hp, hn, hk, q⟩
  unfold tb_taken_at
  refine seq_step fun R hR => ?_
  walk_at "dl"
  refine ⟨small_line (by decide), hR _ ?_⟩
  refine seq_step fun R hR => ?_
  refine for_inv (ds := enumD (pool.map cE)) (E1 := [.d (.list (pool.map cE)), .d (.int (n : Int)), .d (.int (k : Int)), .ol [], .un, .un, .un]) (fun Q h => h)
    (fun i E => ∃ (k' m : Nat) (fd : List Card) (a4 a5 a6 : S), E = [.d (.list (pool.map cE)), .d (.int (n : Int)), .d (.int (k' : Int)), .ol (fd.map cE), a4, a5, a6] ∧ fd.length + m = n ∧ fd ++ un (pool.drop i) m k' = un pool n k) ⟨k, n, [], _, _, _, rfl, by simp, by simp⟩ (fun i d E hd hE R2 hR2 => ?_) (fun E hE => ?_)
  · obtain ⟨k', m, fd, a4, a5, a6, rfl, hl, he⟩ := hE
    obtain ⟨c, hc, rfl⟩ := enum_cards hd
    have hi := (List.getElem?_eq_some_iff.mp hc).1
    have hdr : pool.drop i = c :: pool.drop (i + 1) := by
      rw [List.drop_eq_getElem_cons hi]
      rw [List.getElem?_eq_getElem hi] at hc
      rw [Option.some.inj hc]
    rw [hdr] at he
    refine gs2' ?_
    refine seq_step fun R3 hR3 => ?_
    walk_at "dl"
    rw [List.length_map, List.length_map]
    refine ⟨pool.length - i - 1, (n : Int) - (fd.length : Int) - 1, by congr 3; omega, by omega, ?_⟩
    walk_at "dl"
    refine hR3 _ ?_
    walk_at "dl"
    rw [List.length_map]
    cases m with
    | zero =>
      rw [if_neg (by omega), if_neg (by omega)]
      refine hR2 _ ⟨k', 0, fd, _, _, _, rfl, hl, ?_⟩
      rw [un_0] at he ⊢; exact he
    | succ m =>
      have hch : chI ((pool.length - i - 1 : Nat) : Int) ((n : Int) - (fd.length : Int) - 1) = ((ch (pool.length - i - 1) m : Nat) : Int) := by
        rw [chI_nat (by omega) (by omega), Int.toNat_natCast, show ((n : Int) - (fd.length : Int) - 1).toNat = m by omega]
      rw [hch]
      rw [un_cons, List.length_drop, show pool.length - (i + 1) = pool.length - i - 1 by omega] at he
      rw [if_pos (show ((fd.length : Nat) : Int) < (n : Int) by omega)]
      by_cases hlt : k' < ch (pool.length - i - 1) m
      · rw [if_pos hlt] at he
        rw [if_pos (show (k' : Int) < ((ch (pool.length - i - 1) m : Nat) : Int) by omega)]
        refine ⟨by rw [sizeLine_eq]; omega, hR2 _ ⟨k', m, fd ++ [c], _, _, _, by rw [List.map_append]; rfl, by rw [List.length_append]; simp; omega, ?_⟩⟩
        rw [List.append_assoc]; exact he
      · rw [if_neg hlt] at he
        rw [if_neg (show ¬ (k' : Int) < ((ch (pool.length - i - 1) m : Nat) : Int) by omega), if_pos (by omega)]
        have ek : ((k' - ch (pool.length - i - 1) m : Nat) : Int) = (k' : Int) - ((ch (pool.length - i - 1) m : Nat) : Int) := by omega
        rw [← ek]
        exact hR2 _ ⟨k' - ch (pool.length - i - 1) m, m + 1, fd, _, _, _, rfl, hl, he⟩
  · obtain ⟨k', m, fd, a4, a5, a6, rfl, hl, he⟩ := hE
    refine hR _ ?_
    walk_at "dl"
    rw [enumD_len, List.length_map, List.drop_length] at he
    have hu : un ([] : List Card) m k' = [] := by cases m <;> rfl
    rw [hu, List.append_nil] at he
    rw [he]; exact q
/-! ### hand_number, hand_at -/
end DL
set_option Elab.async false
set_option linter.all false
set_option maxRecDepth 100000
set_option maxHeartbeats 4000000
namespace DL
open PySem PySem.Spec PyProof.Rows L2
local macro_rules | `(tactic| walk_at "dl") => `(tactic| simp only [tV, tVr, tFzV, turnD, DL.wipeE, tK, tOpD, tUnD, tBo, tAndD, tOrD, tNotD, tIfE, DL.tAndV, DL.tOrV, DL.tNotV, tTru, truD, okLen, sSet, sSetL, sExpr, sRet, sIf, sNx, tTupD, dNil, dCons, tLstD, tFzD, tApp, tExtd, tPopAt, sSetIx, tIxO, tChainD, tChain3D, tRevT, caStr, opRepT, opAdd, opSub, opMul, opDiv, opMod, opPow, DL.opI, DL.opI0, opB0, opLt, opLe, opGt, opGtD, opLtD, opGe, opEq, opNe, opIs, opIsN, isNone, opIn, opNotIn, opIx, atD_0, atD_1, atD_2, atD_3, putD_0, unNeg, tCa1, tCa2, tCaL1, caLen, caAbs, caMax2, caMin2, caSum, caMax, caMin, caSumT, caMaxT, caMinT, caAll, caTuple, caList, caInt, tIsi, isInt, isBool, isStr, isTuple, isList, notDict, sAsg, gSet, gTupD, gsNil, gsCons, sPar, pNil, pD, pL, setAll, tCallD, aNil, aV, aO, argS, oixs, ndp, putO, tOpL, opCat, opRep, tSlD, slD, tSlL, oNo, oE, tRevD, iLstD, iTupD, iRange1, iRange2, iZipD, iZipM, finO, tTrue, Option.map, eqv_int, eqv_bool, eqv_none, shaped_int, shaped_bool, shaped_none, tLenRange, tSortSet, tLenSet, tLenSetP, tSortSetP, tCountL, tCountT, tIndexL, tIndexT, DL.tOrT, DL.tAndT, DL.tNotT, tSortRev, caSorted, iEnumL, iEnumT, decide_eq_true_eq, and_self, List.cons_append, List.nil_append, List.replicate, List.getElem?_cons_zero, List.getElem?_cons_succ, List.set_cons_zero, List.set_cons_succ, List.length_cons, List.length_nil, true_and, and_true, if_true, if_false, Bool.false_eq_true, List.contains_nil, Bool.not_false, Bool.not_true, Bool.and_self, Bool.and_true, Bool.true_and, decide_true, decide_false, beq_self_eq_true])
def tb_shape_of : TSd :=
  sSeq (sSet 1 (tFzD (tComp (iTupD (tV 0)) (gTupD 2 (gsCons (gSet 2) (gsCons (gSet 3) (gsNil)))) (tTrue) (tV 2) [2, 3])))
      (sRet (tTupD (dCons (tCountL (tV 1) (tK (.int 0))) (dCons (tCountL (tV 1) (tK (.int 1))) (dCons (tCountL (tV 1) (tK (.int 2))) (dCons (tCountL (tV 1) (tK (.int 3))) (dNil)))))))
def tb_pattern_of (sp_shape_of : SpD) : TSd :=
  sRet (tCa1 caTuple (tFzD (tSortRev (tCallD sp_shape_of (aV (tV 0) (aNil))))))
def tb_is_even_shape : TSd :=
  sRet (tAndV (tOpD opGe (tCa1 caMinT (tV 0)) (tK (.int 2))) (tOpD opLe (tCountT (tV 0) (tK (.int 2))) (tK (.int 1))))
def tb_is_even (sp_shape_of : SpD) (sp_is_even_shape : SpD) : TSd :=
  sRet (tCallD sp_is_even_shape (aV (tCallD sp_shape_of (aV (tV 0) (aNil))) (aNil)))
theorem cnt_int (ns : List Int) (k : Int) : cntD (ns.map PyData.int) (.int k) = ns.count k := by
  unfold cntD
  rw [List.countP_map, List.count_eq_countP]
  refine List.countP_congr fun a _ => ?_
  show (PyData.eqv (.int a) (.int k) = true) ↔ (a == k) = true
  rw [eqv_int]; simp
theorem okAll_int (ns : List Int) (k : Int) : okAll (ns.map PyData.int) (.int k) := ⟨all_ints ns, rfl⟩
def suitN (h : List Card) (s : Int) : Int := ((h.map (·.1)).count s : Nat)
def shapeF (h : List Card) : List Int := [suitN h 0, suitN h 1, suitN h 2, suitN h 3]
def spShape : SpD := fun ss Q => ∃ (h : List Card), ss = [.d (handD h)] ∧ h.length ≤ 1000 ∧ Q (.tuple ((shapeF h).map PyData.int)) []
theorem sh_shape_of : ∀ ss QD, spShape ss QD → ss.length = 1 ∧ mpos 0 ss = [] := by rintro ss QD ⟨h, rfl, _⟩; exact ⟨rfl, rfl⟩
theorem rd_shape_of : ∀ ss QD, spShape ss QD → tb_shape_of { nx := fun E' => finO [] E' (QD .none), rt := fun d E' => finO [] E' (QD d) } (ss ++ List.replicate 3 .un) := by
  rintro ss QD ⟨h, rfl, hl, q⟩
  unfold tb_shape_of handD
  refine seq_step fun R hR => ?_
  refine comp_map (E1 := [.d (.tuple (h.map cE)), .un, .un, .un]) h cE (fun c => .int c.1) (fun Q h => h) (un2 rfl rfl) (small_line (by omega)) (fun c hc R2 hq => ?_) ?_
  · exact ⟨rfl, hq _ rfl⟩
  refine hR _ ?_
  rw [show h.map (fun c => PyData.int c.1) = (h.map (·.1)).map PyData.int by rw [List.map_map]; rfl]
  walk_at "dl"
  rw [cnt_int, cnt_int, cnt_int, cnt_int]
  exact ⟨okAll_int _ _, okAll_int _ _, okAll_int _ _, okAll_int _ _, small_line (by simp), q⟩
/-! ### sorted ints -/
def upI (ns : List Int) : List Int := ns.mergeSort fun a b => decide (a ≤ b)
def dnI (ns : List Int) : List Int := ns.mergeSort fun a b => decide (b ≤ a)
theorem sort_up (ns : List Int) : sortD false (ns.map PyData.int) = (upI ns).map PyData.int := by
  unfold sortD upI
  refine (PySem.W.sort_maps (r := fun a b => decide (a ≤ b)) (s := PySem.W.dataLe false fun d : D => d) PyData.int fun a _ b _ => ?_).symm
  exact (congrFun (congrFun (PySem.W.dataLe_int (β := Int) (fun b => b)) a) b).symm
theorem sort_dn (ns : List Int) : sortD true (ns.map PyData.int) = (dnI ns).map PyData.int := by
  unfold sortD dnI
  refine (PySem.W.sort_maps (r := fun a b => decide (b ≤ a)) (s := PySem.W.dataLe true fun d : D => d) PyData.int fun a _ b _ => ?_).symm
  exact (congrFun (congrFun (PySem.W.dataGe_int (β := Int) (fun b => b)) a) b).symm
theorem sortOk_ints (ns : List Int) : sortOk (ns.map PyData.int) := by
  refine ⟨fun d hd e he => ?_, .inr fun d hd => ?_, fun d hd => ?_⟩
  · obtain ⟨a, _, rfl⟩ := List.mem_map.mp hd
    obtain ⟨b, _, rfl⟩ := List.mem_map.mp he
    rfl
  · obtain ⟨a, _, rfl⟩ := List.mem_map.mp hd
    exact ⟨(fun h => nomatch h), fun xs h => nomatch h⟩
  · obtain ⟨a, _, rfl⟩ := List.mem_map.mp hd
    exact ⟨Nat.zero_le _, rfl⟩
theorem upI_perm (ns : List Int) : (upI ns).Perm ns := List.mergeSort_perm _ _
theorem dnI_perm (ns : List Int) : (dnI ns).Perm ns := List.mergeSort_perm _ _
theorem upI_up (ns : List Int) : (upI ns).Pairwise (· ≤ ·) := by
  have := List.pairwise_mergeSort (le := fun a b : Int => decide (a ≤ b)) (fun a b c h1 h2 => by simp at *; omega) (fun a b => by simp; omega) ns
  exact this.imp fun h => of_decide_eq_true h
theorem dnI_dn (ns : List Int) : (dnI ns).Pairwise (· ≥ ·) := by
  have := List.pairwise_mergeSort (le := fun a b : Int => decide (b ≤ a)) (fun a b c h1 h2 => by simp at *; omega) (fun a b => by simp; omega) ns
  exact this.imp fun h => of_decide_eq_true h
theorem dn_unique {a b : List Int} (hp : a.Perm b) (ha : a.Pairwise (· ≥ ·)) (hb : b.Pairwise (· ≥ ·)) : a = b := hp.eq_of_pairwise (fun x y _ _ h1 h2 => by omega) ha hb
theorem dn_rev (ns : List Int) : dnI ns = (upI ns).reverse :=
  dn_unique ((dnI_perm ns).trans ((upI_perm ns).symm.trans (List.reverse_perm _).symm)) (dnI_dn ns) (List.pairwise_reverse.mpr ((upI_up ns).imp fun h => h))
def spPattern : SpD := fun ss Q => ∃ (h : List Card), ss = [.d (handD h)] ∧ h.length ≤ 1000 ∧ Q (.tuple ((dnI (shapeF h)).map PyData.int)) []
theorem sh_pattern_of : ∀ ss QD, spPattern ss QD → ss.length = 1 ∧ mpos 0 ss = [] := by rintro ss QD ⟨h, rfl, _⟩; exact ⟨rfl, rfl⟩
theorem rd_pattern_of : ∀ ss QD, spPattern ss QD → tb_pattern_of spShape { nx := fun E' => finO [] E' (QD .none), rt := fun d E' => finO [] E' (QD d) } (ss ++ List.replicate 0 .un) := by
  rintro ss QD ⟨h, rfl, hl, q⟩
  unfold tb_pattern_of
  walk_at "dl"
  refine ⟨h, rfl, hl, ?_⟩
  walk_at "dl"
  refine ⟨sortOk_ints _, ?_⟩
  rw [sort_dn]
  exact q
def evenF (ns : List Int) : Bool := decide (∀ x ∈ ns, 2 ≤ x) && decide (ns.count 2 ≤ 1)
def spEvenS : SpD := fun ss Q => ∃ ns : List Int, ss = [.d (.tuple (ns.map PyData.int))] ∧ 0 < ns.length ∧ Q (.bool (evenF ns)) []
theorem sh_is_even_shape : ∀ ss QD, spEvenS ss QD → ss.length = 1 ∧ mpos 0 ss = [] := by rintro ss QD ⟨ns, rfl, _⟩; exact ⟨rfl, rfl⟩
theorem rd_is_even_shape : ∀ ss QD, spEvenS ss QD → tb_is_even_shape { nx := fun E' => finO [] E' (QD .none), rt := fun d E' => finO [] E' (QD d) } (ss ++ List.replicate 0 .un) := by
  rintro ss QD ⟨ns, rfl, hl, q⟩
  unfold tb_is_even_shape
  walk_at "dl"
  refine ⟨ns, rfl, hl, fun m hm hmin => ?_⟩
  unfold evenF at q
  by_cases h : 2 ≤ m
  · rw [decide_eq_true h]
    rw [decide_eq_true (show ∀ x ∈ ns, 2 ≤ x from fun x hx => by have := hmin x hx; omega), Bool.true_and] at q
    refine ⟨okAll_int _ _, ?_⟩
    rw [cnt_int, show decide ((ns.count 2 : Int) ≤ 1) = decide (ns.count 2 ≤ 1) by by_cases z : ns.count 2 ≤ 1 <;> simp [z] <;> omega]
    exact q
  · rw [decide_eq_false h]
    rw [decide_eq_false (show ¬ ∀ x ∈ ns, 2 ≤ x from fun z => h (z m hm)), Bool.false_and] at q
    exact q
def spEven : SpD := fun ss Q => ∃ (h : List Card), ss = [.d (handD h)] ∧ h.length ≤ 1000 ∧ Q (.bool (evenF (shapeF h))) []
theorem sh_is_even : ∀ ss QD, spEven ss QD → ss.length = 1 ∧ mpos 0 ss = [] := by rintro ss QD ⟨h, rfl, _⟩; exact ⟨rfl, rfl⟩
theorem rd_is_even : ∀ ss QD, spEven ss QD → tb_is_even spShape spEvenS { nx := fun E' => finO [] E' (QD .none), rt := fun d E' => finO [] E' (QD d) } (ss ++ List.replicate 0 .un) := by
  rintro ss QD ⟨h, rfl, hl, q⟩
  unfold tb_is_even
  walk_at "dl"
  refine ⟨h, rfl, hl, ?_⟩
  walk_at "dl"
  exact ⟨shapeF h, rfl, by simp [shapeF], q⟩
end DL
set_option Elab.async false
set_option linter.all false
set_option maxRecDepth 100000
set_option maxHeartbeats 4000000
/-! FnDictT: dicts of counts by typed keys (plain) -/
namespace DL
open PySem PySem.Spec PyProof.Rows L2
section
variable {κ : Type} [DecidableEq κ]
def encL (enc : κ → D) (l : List (κ × Int)) : List (D × D) := l.map fun p => (enc p.1, .int p.2)
def getL (l : List (κ × Int)) (k : κ) : Option Int := (l.find? fun p => decide (p.1 = k)).map (·.2)
def addL (l : List (κ × Int)) (k : κ) (w : Int) : List (κ × Int) := if k ∈ l.map (·.1) then l.map (fun p => if p.1 = k then (p.1, p.2 + w) else p) else l ++ [(k, w)]
def wtL (V : κ → Int) (l : List (κ × Int)) : Int := (l.map fun p => p.2 * V p.1).sum
theorem getL_cons (p : κ × Int) (l : List (κ × Int)) (k : κ) : getL (p :: l) k = if p.1 = k then some p.2 else getL l k := by
  unfold getL
  rw [List.find?_cons]
  by_cases h : p.1 = k
  · rw [if_pos h, decide_eq_true h]; rfl
  · rw [if_neg h, decide_eq_false h]
theorem getL_none {l : List (κ × Int)} {k : κ} : getL l k = none ↔ k ∉ l.map (·.1) := by
  induction l with
  | nil => exact ⟨(fun _ h => nomatch h), fun _ => rfl⟩
  | cons p l ih =>
    rw [getL_cons, List.map_cons, List.mem_cons, not_or]
    by_cases h : p.1 = k
    · rw [if_pos h]; exact ⟨(fun z => nomatch z), fun z => absurd h.symm z.1⟩
    · rw [if_neg h, ih]; exact ⟨fun z => ⟨fun y => h y.symm, z⟩, fun z => z.2⟩
theorem wtL_cons (V : κ → Int) (p : κ × Int) (l : List (κ × Int)) : wtL V (p :: l) = p.2 * V p.1 + wtL V l := by unfold wtL; rw [List.map_cons, List.sum_cons]
theorem wtL_nil (V : κ → Int) : wtL V ([] : List (κ × Int)) = 0 := rfl
theorem wtL_app (V : κ → Int) (a b : List (κ × Int)) : wtL V (a ++ b) = wtL V a + wtL V b := by unfold wtL; rw [List.map_append, List.sum_append]
theorem bump_off {l : List (κ × Int)} {k : κ} {w : Int} (h : k ∉ l.map (·.1)) : l.map (fun p => if p.1 = k then (p.1, p.2 + w) else p) = l := by
  have : l.map (fun p => if p.1 = k then (p.1, p.2 + w) else p) = l.map id := List.map_congr_left fun p hp => by
    rw [if_neg (fun z => h (by rw [← z]; exact List.mem_map.mpr ⟨p, hp, rfl⟩))]; rfl
  rw [this, List.map_id]
theorem wtL_add (V : κ → Int) {l : List (κ × Int)} (nd : (l.map (·.1)).Nodup) (k : κ) (w : Int) : wtL V (addL l k w) = wtL V l + w * V k := by
  unfold addL
  split
  · rename_i h
    induction l with
    | nil => cases h
    | cons p l ih =>
      obtain ⟨n1, n2⟩ := List.nodup_cons.mp nd
      rw [List.map_cons, wtL_cons, wtL_cons]
      by_cases e : p.1 = k
      · rw [if_pos e, bump_off (by rw [← e]; exact n1), e]
        show (p.2 + w) * V k + _ = _
        rw [Int.add_mul]; omega
      · rw [if_neg e, ih n2 (by rcases List.mem_cons.mp h with z | z; exact absurd z.symm e; exact z)]
        omega
  · rw [wtL_app, wtL_cons, wtL_nil]
    show _ + (w * V k + 0) = _
    omega
theorem addL_keys (l : List (κ × Int)) (k : κ) (w : Int) : (addL l k w).map (·.1) = if k ∈ l.map (·.1) then l.map (·.1) else l.map (·.1) ++ [k] := by
  unfold addL
  split
  · rw [List.map_map]; refine List.map_congr_left fun p _ => ?_
    show (if p.1 = k then (p.1, p.2 + w) else p).1 = p.1
    split <;> rfl
  · rw [List.map_append]; rfl
theorem addL_nodup {l : List (κ × Int)} (nd : (l.map (·.1)).Nodup) (k : κ) (w : Int) : ((addL l k w).map (·.1)).Nodup := by
  rw [addL_keys]
  split
  · exact nd
  · rename_i h
    exact List.nodup_append.mpr ⟨nd, by simp, fun a ha b hb e => by rw [List.mem_singleton.mp hb] at e; subst e; exact h ha⟩
theorem addL_mem {l : List (κ × Int)} {k x : κ} {w : Int} : x ∈ (addL l k w).map (·.1) ↔ x ∈ l.map (·.1) ∨ x = k := by
  rw [addL_keys]
  split
  · rename_i h; exact ⟨.inl, fun z => z.elim id fun e => by rw [e]; exact h⟩
  · rw [List.mem_append, List.mem_singleton]
theorem addL_len (l : List (κ × Int)) (k : κ) (w : Int) : (addL l k w).length ≤ l.length + 1 := by
  unfold addL
  split
  · rw [List.length_map]; omega
  · rw [List.length_append]; simp
variable {enc : κ → D}
theorem valN_encL (inj : ∀ a b, nkOf (enc a) = nkOf (enc b) ↔ a = b) (l : List (κ × Int)) (k : κ) : valN (encL enc l) (enc k) = (getL l k).map PyData.int := by
  induction l with
  | nil => rfl
  | cons p l ih =>
    show valN ((enc p.1, .int p.2) :: encL enc l) (enc k) = _
    rw [valN_cons, getL_cons, ih]
    by_cases e : p.1 = k
    · rw [if_pos ((inj _ _).mpr e), if_pos e]; rfl
    · rw [if_neg (fun z => e ((inj _ _).mp z)), if_neg e]
/-- d[k] = d.get(k, 0) + w -/
theorem putN_encL (inj : ∀ a b, nkOf (enc a) = nkOf (enc b) ↔ a = b) {l : List (κ × Int)} (nd : (l.map (·.1)).Nodup) (k : κ) (w : Int) : putN (encL enc l) (enc k) (.int ((getL l k).getD 0 + w)) = encL enc (addL l k w) := by
  unfold putN addL
  rw [valN_encL inj]
  by_cases h : k ∈ l.map (·.1)
  · rw [if_pos h]
    have hs : ((getL l k).map PyData.int).isSome = true := by
      cases g : getL l k with
      | none => exact absurd h (getL_none.mp g)
      | some v => rfl
    rw [if_pos hs]
    clear hs
    induction l with
    | nil => cases h
    | cons p l ih =>
      obtain ⟨n1, n2⟩ := List.nodup_cons.mp nd
      rw [getL_cons]
      show (if nkOf (enc p.1) = nkOf (enc k) then (enc p.1, PyData.int _) else (enc p.1, PyData.int p.2)) :: (encL enc l).map _ = (enc (if p.1 = k then (p.1, p.2 + w) else p).1, PyData.int (if p.1 = k then (p.1, p.2 + w) else p).2) :: encL enc (l.map _)
      by_cases e : p.1 = k
      · rw [if_pos e, if_pos ((inj _ _).mpr e), if_pos e, bump_off (by rw [← e]; exact n1)]
        congr 1
        have : (encL enc l).map (fun q => if nkOf q.1 = nkOf (enc k) then (q.1, PyData.int ((some p.2 : Option Int).getD 0 + w)) else q) = (encL enc l).map id := List.map_congr_left fun q hq => by
          obtain ⟨r, hr, rfl⟩ := List.mem_map.mp hq
          rw [if_neg fun z => n1 (List.mem_map.mpr ⟨r, hr, ((inj _ _).mp z).trans e.symm⟩)]; rfl
        rw [this, List.map_id]
      · have hk : k ∈ l.map (·.1) := by rcases List.mem_cons.mp h with z | z; exact absurd z.symm e; exact z
        rw [if_neg e, if_neg (fun z => e ((inj _ _).mp z)), if_neg e, ih n2 hk]
  · have hg := getL_none.mpr h
    rw [hg, if_neg h]
    show encL enc l ++ [(enc k, PyData.int (0 + w))] = encL enc (l ++ [(k, w)])
    unfold encL
    rw [List.map_append, Int.zero_add]; rfl
theorem tupKeys_encL (ht : ∀ k, ∃ xs, enc k = .tuple xs) (l : List (κ × Int)) : tupKeys (encL enc l) = true := by
  unfold tupKeys encL
  rw [List.all_map, List.all_eq_true]
  intro p _
  obtain ⟨xs, e⟩ := ht p.1
  show (match enc p.1 with | .tuple _ => true | _ => false) = true
  rw [e]
theorem encL_len (l : List (κ × Int)) : (encL enc l).length = l.length := List.length_map ..
end
end DL
set_option Elab.async false
set_option linter.all false
set_option maxRecDepth 100000
set_option maxHeartbeats 4000000
/-! FnCntT: hands counted, plain Lean. -/
namespace DL
open PySem PySem.Spec PyProof.Rows L2
/-! ### rows of choices -/
def rowP : Nat → List Nat
  | 0 => [1]
  | m + 1 => List.zipWith (· + ·) (0 :: rowP m) (rowP m ++ [0])
theorem rowP_len : ∀ m, (rowP m).length = m + 1
  | 0 => rfl
  | m + 1 => by
    show (List.zipWith (· + ·) (0 :: rowP m) (rowP m ++ [0])).length = _
    rw [List.length_zipWith, List.length_cons, List.length_append, rowP_len m]; simp
theorem rowP_get : ∀ m k, (rowP m).getD k 0 = ch m k
  | 0, 0 => rfl
  | 0, k + 1 => rfl
  | m + 1, 0 => by
    have h := rowP_get m 0
    have hl := rowP_len m
    show (List.zipWith (· + ·) (0 :: rowP m) (rowP m ++ [0])).getD 0 0 = ch (m + 1) 0
    rw [ch_0] at h ⊢
    cases hr : rowP m with
    | nil => rw [hr] at hl; simp at hl
    | cons a l =>
      rw [hr] at h
      simpa using h
  | m + 1, k + 1 => by
    have h1 := rowP_get m k
    have h2 := rowP_get m (k + 1)
    have hl := rowP_len m
    show (List.zipWith (· + ·) (0 :: rowP m) (rowP m ++ [0])).getD (k + 1) 0 = ch (m + 1) (k + 1)
    rw [ch_ss, ← h1, ← h2]
    simp only [List.getD_eq_getElem?_getD, List.getElem?_zipWith, List.getElem?_cons_succ]
    rcases Nat.lt_trichotomy k m with hk | hk | hk
    · have e1 : (rowP m)[k]? = some ((rowP m)[k]'(by omega)) := List.getElem?_eq_getElem (by omega)
      have e2 : (rowP m ++ [0])[k + 1]? = (rowP m)[k + 1]? := List.getElem?_append_left (by omega)
      have e3 : (rowP m)[k + 1]? = some ((rowP m)[k + 1]'(by omega)) := List.getElem?_eq_getElem (by omega)
      rw [e1, e2, e3]; rfl
    · subst hk
      have e1 : (rowP k)[k]? = some ((rowP k)[k]'(by omega)) := List.getElem?_eq_getElem (by omega)
      have e2 : (rowP k ++ [0])[k + 1]? = some 0 := by rw [← hl, List.getElem?_concat_length]
      have e3 : (rowP k)[k + 1]? = none := List.getElem?_eq_none (by omega)
      rw [e1, e2, e3]; rfl
    · have e1 : (rowP m)[k]? = none := List.getElem?_eq_none (by omega)
      have e3 : (rowP m)[k + 1]? = none := List.getElem?_eq_none (by omega)
      rw [e1, e3]
      cases (rowP m ++ [0])[k + 1]? <;> rfl
/-! ### shapes -/
def shapesA (r : Nat) : List (List Int) := (List.range (r + 1)).flatMap fun a : Nat => (List.range (r + 1 - a)).flatMap fun b : Nat => (List.range (r + 1 - a - b)).map fun c : Nat => [(a : Int), (b : Int), (c : Int), (r : Int) - a - b - c]
theorem shapes_mem {r : Nat} {ns : List Int} (h : ns ∈ shapesA r) : ∃ a b c d : Nat, ns = [(a : Int), (b : Int), (c : Int), (d : Int)] ∧ a + b + c + d = r := by
  unfold shapesA at h
  obtain ⟨a, ha, h⟩ := List.mem_flatMap.mp h
  obtain ⟨b, hb, h⟩ := List.mem_flatMap.mp h
  obtain ⟨c, hc, rfl⟩ := List.mem_map.mp h
  have ha := List.mem_range.mp ha
  have hb := List.mem_range.mp hb
  have hc := List.mem_range.mp hc
  exact ⟨a, b, c, r - a - b - c, by simp; omega, by omega⟩
theorem shapes_all {r a b c d : Nat} (h : a + b + c + d = r) : [(a : Int), (b : Int), (c : Int), (d : Int)] ∈ shapesA r := by
  unfold shapesA
  refine List.mem_flatMap.mpr ⟨a, List.mem_range.mpr (by omega), List.mem_flatMap.mpr ⟨b, List.mem_range.mpr (by omega), List.mem_map.mpr ⟨c, List.mem_range.mpr (by omega), ?_⟩⟩⟩
  simp; omega
def prodC (r : Nat) : List Int → Int
  | [] => 1
  | n :: ns => chI r n * prodC r ns
def cntS (r : Nat) (ns : List Int) : Int := if ns.sum = (r : Int) then prodC r ns else 0
/-- the same, by a row -/
def prodR (row : List Nat) : List Int → Nat
  | [] => 1
  | n :: ns => row.getD n.toNat 0 * prodR row ns
theorem prod_row (r : Nat) : ∀ {ns : List Int}, (∀ n ∈ ns, 0 ≤ n) → prodC r ns = (prodR (rowP r) ns : Int)
  | [], _ => rfl
  | n :: ns, h => by
    have h0 := h n (List.mem_cons_self ..)
    show chI r n * prodC r ns = ((_ * _ : Nat) : Int)
    rw [prod_row r fun m hm => h m (List.mem_cons_of_mem _ hm), Int.natCast_mul, rowP_get]
    unfold chI
    rw [if_neg (by omega), Int.toNat_natCast]
theorem ch_pos : ∀ {n k : Nat}, k ≤ n → 0 < ch n k
  | _, 0, _ => by rw [ch_0]; exact Nat.one_pos
  | 0, k + 1, h => by omega
  | n + 1, k + 1, h => by rw [ch_ss]; have := ch_pos (n := n) (k := k) (by omega); omega
theorem prod_pos {r : Nat} : ∀ {ns : List Int}, (∀ n ∈ ns, 0 ≤ n ∧ n ≤ r) → 0 < prodC r ns
  | [], _ => by show (0 : Int) < 1; decide
  | n :: ns, h => by
    have h0 := h n (List.mem_cons_self ..)
    show 0 < chI r n * prodC r ns
    refine Int.mul_pos ?_ (prod_pos fun m hm => h m (List.mem_cons_of_mem _ hm))
    unfold chI
    rw [if_neg (by omega)]
    have := ch_pos (n := (r : Int).toNat) (k := n.toNat) (by omega)
    omega
theorem chI_bd {r : Nat} (hr : r ≤ 13) (n : Int) : 0 ≤ chI r n ∧ chI r n ≤ 8192 := by
  unfold chI
  split
  · omega
  · have h1 := ch_le (r : Int).toNat n.toNat
    rw [Int.toNat_natCast] at h1 ⊢
    have h2 : 2 ^ r ≤ 2 ^ 13 := Nat.pow_le_pow_right (by decide) hr
    have h3 : (2 : Nat) ^ 13 = 8192 := by decide
    omega
theorem prod_bd {r : Nat} (hr : r ≤ 13) : ∀ (ns : List Int), 0 ≤ prodC r ns ∧ prodC r ns ≤ 8192 ^ ns.length
  | [] => ⟨by show (0 : Int) ≤ 1; decide, by show (1 : Int) ≤ 1; decide⟩
  | n :: ns => by
    have h1 := chI_bd hr n
    have h2 := prod_bd hr ns
    show 0 ≤ chI r n * prodC r ns ∧ chI r n * prodC r ns ≤ 8192 ^ (ns.length + 1)
    refine ⟨Int.mul_nonneg h1.1 h2.1, ?_⟩
    rw [Int.pow_succ, Int.mul_comm (8192 ^ ns.length)]
    exact Int.mul_le_mul h1.2 h2.2 h2.1 (by decide)
theorem shapes_whole : ∀ r ∈ List.range 14, ((shapesA r).map fun ns => prodR (rowP r) ns).sum = (rowP (4 * r)).getD r 0 := by decide +kernel
theorem natsum_int (l : List Nat) : ((l.sum : Nat) : Int) = (l.map fun n : Nat => (n : Int)).sum := by
  induction l with
  | nil => rfl
  | cons a l ih => rw [List.sum_cons, List.map_cons, List.sum_cons, Int.natCast_add, ih]
theorem shapes_pos {r : Nat} {ns : List Int} (h : ns ∈ shapesA r) : ns.length = 4 ∧ (∀ n ∈ ns, 0 ≤ n ∧ n ≤ r) ∧ ns.sum = (r : Int) := by
  obtain ⟨a, b, c, d, rfl, e⟩ := shapes_mem h
  refine ⟨rfl, fun n hn => ?_, by simp [List.sum_cons]; omega⟩
  simp only [List.mem_cons, List.not_mem_nil, or_false] at hn
  rcases hn with rfl | rfl | rfl | rfl <;> omega
theorem cnt_shape {r : Nat} {ns : List Int} (h : ns ∈ shapesA r) : cntS r ns = prodC r ns := by unfold cntS; rw [if_pos (shapes_pos h).2.2]
theorem shapes_sum {r : Nat} (hr : r ≤ 13) : ((shapesA r).map (prodC r)).sum = ((ch (4 * r) r : Nat) : Int) := by
  have h := shapes_whole r (List.mem_range.mpr (by omega))
  rw [rowP_get] at h
  rw [← h, natsum_int, List.map_map]
  congr 1
  exact List.map_congr_left fun ns hns => prod_row r fun n hn => ((shapes_pos hns).2.1 n hn).1
/-! ### sums over lists, groups -/
section
variable {α κ : Type} [DecidableEq κ]
def grpL (f : α → κ) (w : α → Int) (l : List α) : List (κ × Int) := l.foldl (fun acc x => addL acc (f x) (w x)) []
theorem grp_snoc (f : α → κ) (w : α → Int) (l : List α) (x : α) : grpL f w (l ++ [x]) = addL (grpL f w l) (f x) (w x) := by unfold grpL; rw [List.foldl_append]; rfl
theorem grp_ind {P : List α → Prop} (h0 : P []) (hs : ∀ l x, P l → P (l ++ [x])) (l : List α) : P l := by
  have : ∀ n (l : List α), l.length = n → P l := by
    intro n
    induction n with
    | zero => intro l h; rw [List.length_eq_zero_iff.mp h]; exact h0
    | succ n ih =>
      intro l h
      have hne : l ≠ [] := by rintro rfl; simp at h
      rw [← List.dropLast_concat_getLast hne]
      exact hs _ _ (ih _ (by rw [List.length_dropLast]; omega))
  exact this _ l rfl
theorem grp_nd (f : α → κ) (w : α → Int) (l : List α) : ((grpL f w l).map (·.1)).Nodup := by
  refine grp_ind (P := fun l => ((grpL f w l).map (·.1)).Nodup) List.nodup_nil (fun l x h => ?_) l
  rw [grp_snoc]; exact addL_nodup h _ _
theorem grp_keys (f : α → κ) (w : α → Int) (l : List α) (k : κ) : k ∈ (grpL f w l).map (·.1) ↔ k ∈ l.map f := by
  refine grp_ind (P := fun l => k ∈ (grpL f w l).map (·.1) ↔ k ∈ l.map f) Iff.rfl (fun l x h => ?_) l
  rw [grp_snoc, addL_mem, h, List.map_append, List.mem_append]; simp
theorem grp_wt (f : α → κ) (w : α → Int) (V : κ → Int) (l : List α) : wtL V (grpL f w l) = (l.map fun x => w x * V (f x)).sum := by
  refine grp_ind (P := fun l => wtL V (grpL f w l) = (l.map fun x => w x * V (f x)).sum) rfl (fun l x h => ?_) l
  rw [grp_snoc, wtL_add V (grp_nd f w l), h, List.map_append, List.sum_append]; simp
theorem grp_len (f : α → κ) (w : α → Int) (l : List α) : (grpL f w l).length ≤ l.length := by
  refine grp_ind (P := fun l => (grpL f w l).length ≤ l.length) (Nat.le_refl 0) (fun l x h => ?_) l
  rw [grp_snoc, List.length_append]
  have := addL_len (grpL f w l) (f x) (w x)
  simp; omega
/-- what stands at a key, by weights -/
theorem get_wt {l : List (κ × Int)} (nd : (l.map (·.1)).Nodup) (k : κ) : (getL l k).getD 0 = wtL (fun j => if j = k then 1 else 0) l := by
  induction l with
  | nil => rfl
  | cons p l ih =>
    obtain ⟨n1, n2⟩ := List.nodup_cons.mp nd
    rw [getL_cons, wtL_cons, ← ih n2]
    by_cases h : p.1 = k
    · rw [if_pos h, if_pos h]
      have : getL l k = none := getL_none.mpr (by rw [← h]; exact n1)
      rw [this]; simp
    · rw [if_neg h, if_neg h]; simp
theorem sum_filter (p : α → Bool) (w : α → Int) (l : List α) : ((l.filter p).map w).sum = (l.map fun x => w x * (if p x = true then 1 else 0)).sum := by
  induction l with
  | nil => rfl
  | cons a l ih =>
    rw [List.filter_cons, List.map_cons, List.sum_cons, ← ih]
    split
    · rw [List.map_cons, List.sum_cons]; omega
    · simp
theorem grp_get (f : α → κ) (w : α → Int) {l : List α} {k : κ} (h : k ∈ l.map f) : getL (grpL f w l) k = some (((l.filter fun x => decide (f x = k)).map w).sum) := by
  have h2 := get_wt (grp_nd f w l) k
  rw [grp_wt] at h2
  cases g : getL (grpL f w l) k with
  | none => exact absurd ((grp_keys f w l k).mpr h) (getL_none.mp g)
  | some v =>
    rw [g] at h2
    rw [sum_filter]
    congr 1
    rw [show (some v).getD 0 = v from rfl] at h2
    rw [h2]
    congr 1
    refine List.map_congr_left fun x _ => ?_
    by_cases z : f x = k <;> simp [z]
theorem sum_nonneg {w : α → Int} : ∀ {l : List α}, (∀ x ∈ l, 0 ≤ w x) → 0 ≤ (l.map w).sum
  | [], _ => Int.le_refl 0
  | a :: l, h => by
    rw [List.map_cons, List.sum_cons]
    have h1 := h a (List.mem_cons_self ..)
    have h2 := sum_nonneg (l := l) fun x hx => h x (List.mem_cons_of_mem _ hx)
    omega
theorem sum_ge {w : α → Int} : ∀ {l : List α} {x : α}, (∀ y ∈ l, 0 ≤ w y) → x ∈ l → w x ≤ (l.map w).sum
  | [], x, _, h => by cases h
  | a :: l, x, h, hx => by
    rw [List.map_cons, List.sum_cons]
    have h2 := sum_nonneg (l := l) (w := w) fun y hy => h y (List.mem_cons_of_mem _ hy)
    rcases List.mem_cons.mp hx with rfl | hx
    · omega
    · have h1 := h a (List.mem_cons_self ..)
      have h3 := sum_ge (l := l) (fun y hy => h y (List.mem_cons_of_mem _ hy)) hx
      omega
end
/-! ### even shapes -/
theorem even_dn {ns : List Int} {a b c d : Int} (hl : dnI ns = [a, b, c, d]) : evenF ns = (decide (d > 1) && decide (c > 2)) := by
  have hp : ([a, b, c, d] : List Int).Perm ns := by rw [← hl]; exact dnI_perm ns
  have hd := dnI_dn ns
  rw [hl] at hd
  simp only [List.pairwise_cons, List.mem_cons, List.not_mem_nil, or_false, forall_eq_or_imp, forall_eq, List.Pairwise.nil, and_true, false_imp_iff, implies_true] at hd
  unfold evenF
  have e1 : (∀ x ∈ ns, 2 ≤ x) ↔ d > 1 := by
    constructor
    · intro h; have := h d (hp.mem_iff.mp (by simp)); omega
    · intro h x hx
      have := hp.mem_iff.mpr hx
      simp only [List.mem_cons, List.not_mem_nil, or_false] at this
      rcases this with rfl | rfl | rfl | rfl <;> omega
  have e2 : d > 1 → (ns.count 2 ≤ 1 ↔ c > 2) := by
    intro h
    rw [← hp.count_eq]
    simp only [List.count_cons, List.count_nil, beq_iff_eq]
    constructor
    · intro z
      by_cases hc : c = 2
      · have : d = 2 := by omega
        simp [hc, this] at z
        split at z <;> split at z <;> omega
      · omega
    · intro z
      have h1 : ¬ a = 2 := by omega
      have h2 : ¬ b = 2 := by omega
      have h3 : ¬ c = 2 := by omega
      rw [if_neg h1, if_neg h2, if_neg h3]
      split <;> omega
  by_cases h : d > 1
  · rw [decide_eq_true h, decide_eq_true (e1.mpr h), Bool.true_and, Bool.true_and]
    exact decide_eq_decide.mpr (e2 h)
  · rw [decide_eq_false h, decide_eq_false (fun z => h (e1.mp z)), Bool.false_and, Bool.false_and]
theorem dn_four {ns : List Int} (h : ns.length = 4) : ∃ a b c d, dnI ns = [a, b, c, d] := by
  have hl : (dnI ns).length = 4 := by rw [(dnI_perm ns).length_eq, h]
  match hd : dnI ns, hl with
  | [a, b, c, d], _ => exact ⟨a, b, c, d, rfl⟩
end DL
set_option Elab.async false
set_option linter.all false
set_option maxRecDepth 100000
set_option maxHeartbeats 4000000
/-! FnCntU: points spread, plain Lean. -/
namespace DL
open PySem PySem.Spec PyProof.Rows L2
abbrev KP := Int × Int
/-! ### dicts by two numbers, all counts above 0 -/
structure GoodD (r B : Int) (l : List (KP × Int)) : Prop where
  nd : (l.map (·.1)).Nodup
  key : ∀ p ∈ l, (0 ≤ p.1.1 ∧ p.1.1 ≤ r) ∧ 0 ≤ p.1.2 ∧ p.1.2 ≤ B
  pos : ∀ p ∈ l, 0 < p.2
theorem GoodD.nil (r B : Int) : GoodD r B [] := ⟨List.nodup_nil, (fun p h => nomatch h), fun p h => nomatch h⟩
theorem mem_addL {l : List (KP × Int)} {k : KP} {w : Int} {p : KP × Int} (h : p ∈ addL l k w) : p ∈ l ∨ p = (k, w) ∨ ∃ v, (k, v) ∈ l ∧ p = (k, v + w) := by
  unfold addL at h
  split at h
  · obtain ⟨q, hq, rfl⟩ := List.mem_map.mp h
    split
    · rename_i e
      exact .inr (.inr ⟨q.2, by rw [← e]; exact hq, by rw [e]⟩)
    · exact .inl hq
  · rcases List.mem_append.mp h with z | z
    · exact .inl z
    · exact .inr (.inl (List.mem_singleton.mp z))
theorem GoodD.add {r B : Int} {l : List (KP × Int)} (g : GoodD r B l) {k : KP} {w : Int} (h1 : 0 ≤ k.1 ∧ k.1 ≤ r) (h2 : 0 ≤ k.2 ∧ k.2 ≤ B) (hw : 0 < w) : GoodD r B (addL l k w) := by
  refine ⟨addL_nodup g.nd k w, fun p hp => ?_, fun p hp => ?_⟩
  · rcases mem_addL hp with z | rfl | ⟨v, _, rfl⟩
    · exact g.key p z
    · exact ⟨h1, h2⟩
    · exact ⟨h1, h2⟩
  · rcases mem_addL hp with z | rfl | ⟨v, hv, rfl⟩
    · exact g.pos p z
    · exact hw
    · have := g.pos _ hv
      show 0 < v + w
      have h3 : 0 < v := this
      omega
theorem nd_sub {α : Type} [DecidableEq α] : ∀ {l D : List α}, l.Nodup → (∀ x ∈ l, x ∈ D) → l.length ≤ D.length
  | [], _, _, _ => Nat.zero_le _
  | a :: l, D, h, s => by
    obtain ⟨n1, n2⟩ := List.nodup_cons.mp h
    have ha := s a (List.mem_cons_self ..)
    have h2 := nd_sub (l := l) (D := D.erase a) n2 fun x hx => (List.mem_erase_of_ne (show x ≠ a from fun z => n1 (by rw [← z]; exact hx))).mpr (s x (List.mem_cons_of_mem _ hx))
    rw [List.length_erase_of_mem ha] at h2
    have := List.length_pos_of_mem ha
    rw [List.length_cons]; omega
theorem GoodD.len {r B : Nat} {l : List (KP × Int)} (g : GoodD r B l) : l.length ≤ (r + 1) * (B + 1) := by
  have h : (l.map (·.1)).length ≤ ((List.range (r + 1)).flatMap fun a : Nat => (List.range (B + 1)).map fun b : Nat => ((a : Int), (b : Int))).length := nd_sub g.nd fun x hx => by
    obtain ⟨p, hp, rfl⟩ := List.mem_map.mp hx
    have := g.key p hp
    refine List.mem_flatMap.mpr ⟨p.1.1.toNat, List.mem_range.mpr (by omega), List.mem_map.mpr ⟨p.1.2.toNat, List.mem_range.mpr (by omega), ?_⟩⟩
    rw [Int.toNat_of_nonneg this.1.1, Int.toNat_of_nonneg this.2.1]
  rw [List.length_map, List.length_flatMap] at h
  simp only [List.length_map, List.length_range, List.map_const', List.sum_replicate_nat] at h
  exact h
abbrev one : KP → Int := fun _ => 1
theorem wt_nonneg {V : KP → Int} {l : List (KP × Int)} (hv : ∀ k, 0 ≤ V k) (h : ∀ p ∈ l, 0 < p.2) : 0 ≤ wtL V l := sum_nonneg fun p hp => Int.mul_nonneg (Int.le_of_lt (h p hp)) (hv _)
theorem GoodD.le {r B : Int} {l : List (KP × Int)} (g : GoodD r B l) {p : KP × Int} (hp : p ∈ l) : p.2 ≤ wtL one l := by
  have := sum_ge (w := fun p : KP × Int => p.2 * one p.1) (l := l) (x := p) (fun y hy => by have := g.pos y hy; show 0 ≤ y.2 * 1; omega) hp
  have e : p.2 * one p.1 = p.2 := Int.mul_one _
  rw [e] at this
  exact this
theorem GoodD.getBd {r B : Int} {l : List (KP × Int)} (g : GoodD r B l) (k : KP) : 0 ≤ (getL l k).getD 0 ∧ (getL l k).getD 0 ≤ wtL one l := by
  cases h : getL l k with
  | none => exact ⟨Int.le_refl 0, wt_nonneg (fun _ => by show (0 : Int) ≤ 1; decide) g.pos⟩
  | some v =>
    have hm : (k, v) ∈ l := by
      unfold getL at h
      obtain ⟨p, hp, rfl⟩ := Option.map_eq_some_iff.mp h
      have h1 := List.find?_some hp
      have h2 := List.mem_of_find?_eq_some hp
      simp only [decide_eq_true_eq] at h1
      rw [← h1]; exact h2
    have h1 := g.pos _ hm
    have h2 := g.le hm
    have h3 : 0 < v := h1
    have h4 : v ≤ wtL one l := h2
    exact ⟨Int.le_of_lt h3, h4⟩
/-! ### all pairs of two dicts -/
def crossA (r : Int) (acc : List (KP × Int)) (p q : KP × Int) : List (KP × Int) := if p.1.1 + q.1.1 ≤ r then addL acc (p.1.1 + q.1.1, p.1.2 + q.1.2) (p.2 * q.2) else acc
def crossI (r : Int) (ways acc : List (KP × Int)) (p : KP × Int) : List (KP × Int) := ways.foldl (fun acc q => crossA r acc p q) acc
def crossD (r : Int) (rows ways : List (KP × Int)) : List (KP × Int) := rows.foldl (fun acc p => crossI r ways acc p) []
def valA (r : Int) (V : KP → Int) (p q : KP × Int) : Int := if p.1.1 + q.1.1 ≤ r then p.2 * q.2 * V (p.1.1 + q.1.1, p.1.2 + q.1.2) else 0
theorem crossA_ok {r B C : Int} {acc : List (KP × Int)} (g : GoodD r B acc) {p q : KP × Int} (hp : (0 ≤ p.1.1 ∧ p.1.1 ≤ r) ∧ 0 ≤ p.1.2 ∧ p.1.2 + C ≤ B) (hq : (0 ≤ q.1.1 ∧ q.1.1 ≤ r) ∧ 0 ≤ q.1.2 ∧ q.1.2 ≤ C) (h1 : 0 < p.2) (h2 : 0 < q.2) : GoodD r B (crossA r acc p q) := by
  unfold crossA
  split
  · exact g.add ⟨by dsimp only; omega, by dsimp only; omega⟩ ⟨by dsimp only; omega, by dsimp only; omega⟩ (Int.mul_pos h1 h2)
  · exact g
theorem crossA_wt {r : Int} {V : KP → Int} {acc : List (KP × Int)} (nd : (acc.map (·.1)).Nodup) (p q : KP × Int) : wtL V (crossA r acc p q) = wtL V acc + valA r V p q := by
  unfold crossA valA
  split
  · rw [wtL_add V nd]
  · omega
theorem crossI_spec {r B C : Int} {V : KP → Int} {p : KP × Int} (hp : (0 ≤ p.1.1 ∧ p.1.1 ≤ r) ∧ 0 ≤ p.1.2 ∧ p.1.2 + C ≤ B) (h1 : 0 < p.2) : ∀ {ways acc : List (KP × Int)}, (∀ q ∈ ways, ((0 ≤ q.1.1 ∧ q.1.1 ≤ r) ∧ 0 ≤ q.1.2 ∧ q.1.2 ≤ C) ∧ 0 < q.2) → GoodD r B acc →
    GoodD r B (crossI r ways acc p) ∧ wtL V (crossI r ways acc p) = wtL V acc + (ways.map fun q => valA r V p q).sum
  | [], acc, _, g => ⟨g, by show wtL V acc = wtL V acc + 0; omega⟩
  | q :: ways, acc, h, g => by
    have hq := h q (List.mem_cons_self ..)
    have g1 := crossA_ok g hp hq.1 h1 hq.2
    obtain ⟨g2, e⟩ := crossI_spec (V := V) hp h1 (ways := ways) (fun q hq => h q (List.mem_cons_of_mem _ hq)) g1
    refine ⟨g2, ?_⟩
    show wtL V (crossI r ways (crossA r acc p q) p) = _
    rw [e, crossA_wt g.nd, List.map_cons, List.sum_cons]; omega
theorem crossD_spec {r B C : Int} {V : KP → Int} {ways : List (KP × Int)} (gw : GoodD r C ways) : ∀ {rows acc : List (KP × Int)}, (∀ p ∈ rows, ((0 ≤ p.1.1 ∧ p.1.1 ≤ r) ∧ 0 ≤ p.1.2 ∧ p.1.2 + C ≤ B) ∧ 0 < p.2) → GoodD r B acc →
    GoodD r B (rows.foldl (fun acc p => crossI r ways acc p) acc) ∧ wtL V (rows.foldl (fun acc p => crossI r ways acc p) acc) = wtL V acc + (rows.map fun p => (ways.map fun q => valA r V p q).sum).sum
  | [], acc, _, g => ⟨g, by show wtL V acc = wtL V acc + 0; omega⟩
  | p :: rows, acc, h, g => by
    have hp := h p (List.mem_cons_self ..)
    obtain ⟨g1, e1⟩ := crossI_spec (V := V) hp.1 hp.2 (ways := ways) (fun q hq => ⟨gw.key q hq, gw.pos q hq⟩) g
    obtain ⟨g2, e2⟩ := crossD_spec (V := V) gw (rows := rows) (fun q hq => h q (List.mem_cons_of_mem _ hq)) g1
    refine ⟨g2, ?_⟩
    rw [List.foldl_cons, e2, e1, List.map_cons, List.sum_cons]; omega
theorem crossD_ok {r B C : Int} {rows ways : List (KP × Int)} (gw : GoodD r C ways) (gr : GoodD r B rows) : GoodD r (B + C) (crossD r rows ways) :=
  (crossD_spec (V := one) gw (acc := []) (fun p hp => ⟨⟨(gr.key p hp).1, (gr.key p hp).2.1, by have := (gr.key p hp).2.2; omega⟩, gr.pos p hp⟩) (.nil _ _)).1
theorem crossD_wt {r B C : Int} {rows ways : List (KP × Int)} (gw : GoodD r C ways) (gr : GoodD r B rows) (V : KP → Int) : wtL V (crossD r rows ways) = (rows.map fun p => (ways.map fun q => valA r V p q).sum).sum := by
  have := (crossD_spec (V := V) gw (acc := []) (fun p hp => ⟨⟨(gr.key p hp).1, (gr.key p hp).2.1, by have := (gr.key p hp).2.2; omega⟩, gr.pos p hp⟩) (.nil r (B + C))).2
  rw [wtL_nil, Int.zero_add] at this
  exact this
theorem sum_mul {α : Type} (c : Int) (f : α → Int) (l : List α) : (l.map fun x => c * f x).sum = c * (l.map f).sum := by
  induction l with
  | nil => simp
  | cons a l ih => rw [List.map_cons, List.sum_cons, List.map_cons, List.sum_cons, ih, Int.mul_add]
theorem sum_plus {α : Type} (f g : α → Int) (l : List α) : (l.map fun x => f x + g x).sum = (l.map f).sum + (l.map g).sum := by
  induction l with
  | nil => rfl
  | cons a l ih => rw [List.map_cons, List.sum_cons, List.map_cons, List.sum_cons, List.map_cons, List.sum_cons, ih]; omega
theorem sum_le {α : Type} {f g : α → Int} {l : List α} (h : ∀ x ∈ l, f x ≤ g x) : (l.map f).sum ≤ (l.map g).sum := by
  induction l with
  | nil => exact Int.le_refl _
  | cons a l ih =>
    rw [List.map_cons, List.sum_cons, List.map_cons, List.sum_cons]
    have h1 := h a (List.mem_cons_self ..)
    have h2 := ih fun x hx => h x (List.mem_cons_of_mem _ hx)
    omega
/-- all counts together: at most the product -/
theorem crossD_tot {r B C : Int} {rows ways : List (KP × Int)} (gw : GoodD r C ways) (gr : GoodD r B rows) : wtL one (crossD r rows ways) ≤ wtL one rows * wtL one ways := by
  rw [crossD_wt gw gr]
  refine Int.le_trans (sum_le (g := fun p : KP × Int => p.2 * wtL one ways) fun p hp => ?_) ?_
  · have h1 := gr.pos p hp
    rw [show wtL one ways = (ways.map fun q : KP × Int => q.2 * 1).sum from rfl, ← sum_mul]
    refine sum_le fun q hq => ?_
    have h2 := gw.pos q hq
    have h3 := Int.mul_pos h1 h2
    unfold valA
    split
    · rw [← Int.mul_assoc]; exact Int.le_refl _
    · rw [Int.mul_one]; exact Int.le_of_lt h3
  · rw [show (fun p : KP × Int => p.2 * wtL one ways) = fun p : KP × Int => wtL one ways * p.2 from funext fun p => Int.mul_comm _ _, sum_mul, Int.mul_comm]
    rw [show (rows.map fun p : KP × Int => p.2) = rows.map fun p : KP × Int => p.2 * one p.1 from List.map_congr_left fun p _ => (Int.mul_one p.2).symm]
    exact Int.le_refl _
/-! ### by numbers of cards -/
def indA (m : Int) : KP → Int := fun k => if k.1 = m then 1 else 0
def indB (m : Int) : KP → Int := fun k => if k.1 = m then k.2 else 0
def convAt (X Y : Nat → Int) (m : Nat) : Int := ((List.range (m + 1)).map fun i => X i * Y (m - i)).sum
theorem sum_at (X : Nat → Int) (k : Int) (c : Int) : ∀ n : Nat, ((List.range n).map fun i : Nat => (if k = (i : Int) then c else 0) * X i).sum = if 0 ≤ k ∧ k < n then c * X k.toNat else 0
  | 0 => by rw [if_neg (by omega)]; rfl
  | n + 1 => by
    rw [List.range_succ, List.map_append, List.sum_append, sum_at X k c n, List.map_cons, List.map_nil, List.sum_cons, List.sum_nil]
    by_cases h : k = (n : Int)
    · rw [if_pos h, if_neg (by omega), if_pos (by omega), h, Int.toNat_natCast]; omega
    · rw [if_neg h]
      by_cases h2 : 0 ≤ k ∧ k < (n : Int)
      · rw [if_pos h2, if_pos (by omega)]; omega
      · rw [if_neg h2, if_neg (by omega)]; omega
theorem conv_lin (Y : Nat → Int) (m : Nat) (u : KP → Int) : ∀ l : List (KP × Int), convAt (fun i => wtL (fun k => if k.1 = (i : Int) then u k else 0) l) Y m = (l.map fun p => if 0 ≤ p.1.1 ∧ p.1.1 ≤ (m : Int) then p.2 * u p.1 * Y (m - p.1.1.toNat) else 0).sum
  | [] => by
    unfold convAt
    have : ((List.range (m + 1)).map fun i : Nat => wtL (fun k : KP => if k.1 = (i : Int) then u k else 0) [] * Y (m - i)) = (List.range (m + 1)).map fun _ => 0 := List.map_congr_left fun i _ => by rw [wtL_nil]; omega
    rw [this]
    have z : ∀ n : Nat, ((List.range n).map fun _ => (0 : Int)).sum = 0 := fun n => by
      induction n with
      | zero => rfl
      | succ n ih => rw [List.range_succ, List.map_append, List.sum_append, ih]; rfl
    rw [z]; rfl
  | p :: l => by
    have ih := conv_lin Y m u l
    unfold convAt at ih ⊢
    rw [List.map_cons, List.sum_cons, ← ih]
    have e : ((List.range (m + 1)).map fun i : Nat => wtL (fun k : KP => if k.1 = (i : Int) then u k else 0) (p :: l) * Y (m - i)) = (List.range (m + 1)).map fun i : Nat => (if p.1.1 = (i : Int) then p.2 * u p.1 else 0) * (fun j : Nat => Y (m - j)) i + wtL (fun k : KP => if k.1 = (i : Int) then u k else 0) l * Y (m - i) := List.map_congr_left fun i _ => by
      rw [wtL_cons, Int.add_mul]
      congr 2
      split
      · rfl
      · omega
    rw [e, sum_plus, sum_at (fun j : Nat => Y (m - j)) p.1.1 (p.2 * u p.1) (m + 1)]
    congr 1
    by_cases h : 0 ≤ p.1.1 ∧ p.1.1 ≤ (m : Int)
    · rw [if_pos h, if_pos (by omega)]
    · rw [if_neg h, if_neg (by omega)]
theorem wt_mul (c : Int) (V : KP → Int) (l : List (KP × Int)) : c * wtL V l = wtL (fun k => c * V k) l := by
  unfold wtL
  rw [← sum_mul]
  congr 1
  exact List.map_congr_left fun p _ => by rw [Int.mul_left_comm]
theorem crossD_A {r B C : Int} {rows ways : List (KP × Int)} (gw : GoodD r C ways) (gr : GoodD r B rows) {m : Nat} (hm : (m : Int) ≤ r) : wtL (indA m) (crossD r rows ways) = convAt (fun i => wtL (indA i) rows) (fun i => wtL (indA i) ways) m := by
  have := conv_lin (fun i => wtL (indA i) ways) m (fun _ => 1) rows
  rw [show (fun i : Nat => wtL (indA i) rows) = fun i : Nat => wtL (fun k : KP => if k.1 = (i : Int) then 1 else 0) rows from rfl, this, crossD_wt gw gr]
  congr 1
  refine List.map_congr_left fun p hp => ?_
  have kp := gr.key p hp
  by_cases h : 0 ≤ p.1.1 ∧ p.1.1 ≤ (m : Int)
  · rw [if_pos h, Int.mul_one, wt_mul]
    unfold wtL
    congr 1
    refine List.map_congr_left fun q hq => ?_
    have kq := gw.key q hq
    unfold valA indA
    dsimp only
    by_cases h2 : p.1.1 + q.1.1 = (m : Int)
    · rw [if_pos (by omega), if_pos h2, if_pos (by omega)]; simp [Int.mul_comm]
    · rw [if_neg h2, if_neg (show ¬ q.1.1 = ((m - p.1.1.toNat : Nat) : Int) by omega)]
      split <;> simp
  · rw [if_neg h]
    have : (ways.map fun q => valA r (indA m) p q) = ways.map fun q => (0 : Int) * q.2 := List.map_congr_left fun q hq => by
      have kq := gw.key q hq
      unfold valA indA
      dsimp only
      rw [if_neg (show ¬ p.1.1 + q.1.1 = (m : Int) by omega)]
      split <;> simp
    rw [this, sum_mul]; omega
theorem crossD_B {r B C : Int} {rows ways : List (KP × Int)} (gw : GoodD r C ways) (gr : GoodD r B rows) {m : Nat} (hm : (m : Int) ≤ r) : wtL (indB m) (crossD r rows ways) = convAt (fun i => wtL (indB i) rows) (fun i => wtL (indA i) ways) m + convAt (fun i => wtL (indA i) rows) (fun i => wtL (indB i) ways) m := by
  have t1 := conv_lin (fun i => wtL (indA i) ways) m (fun k => k.2) rows
  have t2 := conv_lin (fun i => wtL (indB i) ways) m (fun _ => 1) rows
  rw [show (fun i : Nat => wtL (indA i) rows) = fun i : Nat => wtL (fun k : KP => if k.1 = (i : Int) then 1 else 0) rows from rfl, show (fun i : Nat => wtL (indB i) rows) = fun i : Nat => wtL (fun k : KP => if k.1 = (i : Int) then k.2 else 0) rows from rfl, t1, t2, ← sum_plus, crossD_wt gw gr]
  congr 1
  refine List.map_congr_left fun p hp => ?_
  have kp := gr.key p hp
  by_cases h : 0 ≤ p.1.1 ∧ p.1.1 ≤ (m : Int)
  · rw [if_pos h, if_pos h, Int.mul_one, wt_mul, wt_mul]
    unfold wtL
    rw [← sum_plus]
    congr 1
    refine List.map_congr_left fun q hq => ?_
    have kq := gw.key q hq
    unfold valA indA indB
    dsimp only
    by_cases h2 : p.1.1 + q.1.1 = (m : Int)
    · have h3 : q.1.1 = ((m - p.1.1.toNat : Nat) : Int) := by omega
      rw [if_pos (by omega), if_pos h2, if_pos h3, if_pos h3, Int.mul_one, Int.mul_add, Int.mul_left_comm q.2 p.2 p.1.2, Int.mul_left_comm q.2 p.2 q.1.2, ← Int.mul_assoc p.2 q.2 q.1.2, ← Int.mul_assoc p.2 q.2 p.1.2]
    · rw [if_neg h2, if_neg (show ¬ q.1.1 = ((m - p.1.1.toNat : Nat) : Int) by omega), if_neg (show ¬ q.1.1 = ((m - p.1.1.toNat : Nat) : Int) by omega)]
      split <;> simp
  · rw [if_neg h, if_neg h]
    have : (ways.map fun q => valA r (indB m) p q) = ways.map fun q => (0 : Int) * q.2 := List.map_congr_left fun q hq => by
      have kq := gw.key q hq
      unfold valA indB
      dsimp only
      rw [if_neg (show ¬ p.1.1 + q.1.1 = (m : Int) by omega)]
      split <;> simp
    rw [this, sum_mul]; omega
end DL
set_option Elab.async false
set_option linter.all false
set_option maxRecDepth 100000
set_option maxHeartbeats 4000000
/-! FnCntV: the ways of a suit, all points; plain Lean. -/
namespace DL
open PySem PySem.Spec PyProof.Rows L2
def honN (r : Nat) : List Int := [4, 3, 2, 1].filter fun p => decide (4 - p < (r : Int))
def setsT (hs : List Int) : List KP := hs.foldl (fun s p => s ++ s.map fun q => (q.1 + 1, q.2 + p)) [(0, 0)]
def wayI (n : Nat) (acc : List (KP × Int)) (q : KP) (m : Nat) : List (KP × Int) := addL acc (q.1 + (m : Int), q.2) ((ch n m : Nat) : Int)
def wayA (n : Nat) (acc : List (KP × Int)) (q : KP) : List (KP × Int) := (List.range (n + 1)).foldl (fun acc m => wayI n acc q m) acc
def waysT (r : Nat) : List (KP × Int) := (setsT (honN r)).foldl (fun acc q => wayA (r - (honN r).length) acc q) []
/-- the ways, by a check -/
def goodB (r B : Int) (l : List (KP × Int)) : Bool := decide ((l.map (·.1)).Nodup) && l.all fun p => decide (0 ≤ p.1.1) && decide (p.1.1 ≤ r) && (decide (0 ≤ p.1.2) && decide (p.1.2 ≤ B)) && decide (0 < p.2)
theorem good_of {r B : Int} {l : List (KP × Int)} (h : goodB r B l = true) : GoodD r B l := by
  unfold goodB at h
  rw [Bool.and_eq_true, decide_eq_true_eq, List.all_eq_true] at h
  obtain ⟨h1, h2⟩ := h
  refine ⟨h1, fun p hp => ?_, fun p hp => ?_⟩
  · have := h2 p hp
    simp only [Bool.and_eq_true, decide_eq_true_eq] at this
    exact ⟨this.1.1, this.1.2⟩
  · have := h2 p hp
    simp only [Bool.and_eq_true, decide_eq_true_eq] at this
    exact this.2
def rows0 : List (KP × Int) := [((0, 0), 1)]
def rowsT (r : Nat) : Nat → List (KP × Int)
  | 0 => rows0
  | s + 1 => crossD r (rowsT r s) (waysT r)
def tblA (r : Nat) (l : List (KP × Int)) : List Int := (List.range (r + 1)).map fun m : Nat => wtL (indA m) l
def tblB (r : Nat) (l : List (KP × Int)) : List Int := (List.range (r + 1)).map fun m : Nat => wtL (indB m) l
def atL (X : List Int) (i : Nat) : Int := X.getD i 0
def convL (r : Nat) (X Y : List Int) : List Int := (List.range (r + 1)).map fun m => convAt (atL X) (atL Y) m
def addLs (X Y : List Int) : List Int := List.zipWith (· + ·) X Y
/-- numbers of hands, all points by numbers of cards: of s suits -/
def abT (r : Nat) (WA WB : List Int) : Nat → List Int × List Int
  | 0 => (tblA r rows0, tblB r rows0)
  | s + 1 => (convL r (abT r WA WB s).1 WA, addLs (convL r (abT r WA WB s).2 WA) (convL r (abT r WA WB s).1 WB))
def honS (r : Nat) : Int := (([4, 3, 2, 1] : List Int).take r).sum
def chkR (r : Nat) : Bool :=
  let W := waysT r
  let t := abT r (tblA r W) (tblB r W) 4
  goodB r 10 W && decide (wtL one W ≤ 8192) && decide (W.length ≤ 1000) && (t.1.getD r 0 == ((rowP (4 * r)).getD r 0 : Int)) && (t.2.getD r 0 == ((rowP (4 * r)).getD r 0 : Int) * honS r) && decide (0 < (rowP (4 * r)).getD r 0) && decide ((honN r).length ≤ r) && decide ((honN r).length ≤ 4) && decide ((setsT (honN r)).length ≤ 16) &&
  decide ((rowP (4 * r)).getD r 0 < 2 ^ 60)
theorem chk_all : ∀ r ∈ List.range 14, 1 ≤ r → chkR r = true := by decide +kernel
section
variable {r : Nat}
theorem atL_tblA (l : List (KP × Int)) {m : Nat} (h : m ≤ r) : atL (tblA r l) m = wtL (indA m) l := by
  unfold atL tblA
  rw [List.getD_eq_getElem?_getD, List.getElem?_map, List.getElem?_range (by omega)]; rfl
theorem atL_tblB (l : List (KP × Int)) {m : Nat} (h : m ≤ r) : atL (tblB r l) m = wtL (indB m) l := by
  unfold atL tblB
  rw [List.getD_eq_getElem?_getD, List.getElem?_map, List.getElem?_range (by omega)]; rfl
theorem convAt_congr {X X' Y Y' : Nat → Int} {m : Nat} (h1 : ∀ i, i ≤ m → X i = X' i) (h2 : ∀ i, i ≤ m → Y i = Y' i) : convAt X Y m = convAt X' Y' m := by
  unfold convAt
  congr 1
  exact List.map_congr_left fun i hi => by
    have := List.mem_range.mp hi
    rw [h1 i (by omega), h2 (m - i) (by omega)]
theorem atL_conv (X Y : List Int) {m : Nat} (h : m ≤ r) : atL (convL r X Y) m = convAt (atL X) (atL Y) m := by
  unfold convL
  show ((List.range (r + 1)).map fun m => convAt (atL X) (atL Y) m).getD m 0 = _
  rw [List.getD_eq_getElem?_getD, List.getElem?_map, List.getElem?_range (by omega)]; rfl
theorem atL_add {X Y : List Int} (hx : X.length = r + 1) (hy : Y.length = r + 1) {m : Nat} (h : m ≤ r) : atL (addLs X Y) m = atL X m + atL Y m := by
  unfold atL addLs
  rw [List.getD_eq_getElem?_getD, List.getD_eq_getElem?_getD, List.getD_eq_getElem?_getD, List.getElem?_zipWith, List.getElem?_eq_getElem (by omega : m < X.length), List.getElem?_eq_getElem (by omega : m < Y.length)]; rfl
theorem convL_len (X Y : List Int) : (convL r X Y).length = r + 1 := by unfold convL; simp
structure ROk (r : Nat) : Prop where
  gw : GoodD r 10 (waysT r)
  tot : wtL one (waysT r) ≤ 8192
  wl : (waysT r).length ≤ 1000
  a4 : atL (abT r (tblA r (waysT r)) (tblB r (waysT r)) 4).1 r = ((ch (4 * r) r : Nat) : Int)
  b4 : atL (abT r (tblA r (waysT r)) (tblB r (waysT r)) 4).2 r = ((ch (4 * r) r : Nat) : Int) * honS r
  pos : 0 < ch (4 * r) r
  hl : (honN r).length ≤ r ∧ (honN r).length ≤ 4
  sl : (setsT (honN r)).length ≤ 16
  lt : ch (4 * r) r < 2 ^ 60
theorem r_ok (h1 : 1 ≤ r) (h2 : r ≤ 13) : ROk r := by
  have := chk_all r (List.mem_range.mpr (by omega)) h1
  unfold chkR at this
  simp only [Bool.and_eq_true, decide_eq_true_eq, beq_iff_eq, rowP_get] at this
  obtain ⟨⟨⟨⟨⟨⟨⟨⟨⟨g1, g2⟩, g3⟩, g4⟩, g5⟩, g6⟩, g7⟩, g8⟩, g9⟩, g10⟩ := this
  exact ⟨good_of g1, g2, g3, g4, g5, g6, ⟨g7, g8⟩, g9, g10⟩
theorem good0 : GoodD r 0 rows0 := ⟨by decide, (fun p hp => by rw [List.mem_singleton.mp hp]; exact ⟨⟨Int.le_refl 0, Int.natCast_nonneg r⟩, Int.le_refl 0, Int.le_refl 0⟩), fun p hp => by rw [List.mem_singleton.mp hp]; exact (by decide : (0 : Int) < 1)⟩
theorem rows_good (k : ROk r) : ∀ s : Nat, GoodD r (10 * s : Nat) (rowsT r s)
  | 0 => good0
  | s + 1 => by
    have := crossD_ok k.gw (rows_good k s)
    rw [show ((10 * s : Nat) : Int) + 10 = ((10 * (s + 1) : Nat) : Int) by omega] at this
    exact this
theorem rows_tot (k : ROk r) : ∀ s : Nat, wtL one (rowsT r s) ≤ 8192 ^ s ∧ 0 ≤ wtL one (rowsT r s)
  | 0 => (by decide : wtL one rows0 ≤ 8192 ^ 0 ∧ 0 ≤ wtL one rows0)
  | s + 1 => by
    have ih := rows_tot k s
    have h1 := crossD_tot k.gw (rows_good k s)
    have h0 : ∀ l : List (KP × Int), (∀ p ∈ l, 0 < p.2) → 0 ≤ wtL one l := fun l hl => wt_nonneg (fun _ => by show (0 : Int) ≤ 1; decide) hl
    refine ⟨Int.le_trans h1 ?_, h0 _ (rows_good k (s + 1)).pos⟩
    rw [Int.pow_succ]
    exact Int.mul_le_mul ih.1 k.tot (h0 _ k.gw.pos) (Int.le_trans ih.2 ih.1)
theorem rows_ab (k : ROk r) : ∀ s : Nat, (abT r (tblA r (waysT r)) (tblB r (waysT r)) s).1.length = r + 1 ∧ (abT r (tblA r (waysT r)) (tblB r (waysT r)) s).2.length = r + 1 ∧ ∀ m, m ≤ r → wtL (indA m) (rowsT r s) = atL (abT r (tblA r (waysT r)) (tblB r (waysT r)) s).1 m ∧ wtL (indB m) (rowsT r s) = atL (abT r (tblA r (waysT r)) (tblB r (waysT r)) s).2 m
  | 0 => ⟨by simp [abT, tblA], by simp [abT, tblB], fun m hm => ⟨(atL_tblA rows0 hm).symm, (atL_tblB rows0 hm).symm⟩⟩
  | s + 1 => by
    obtain ⟨l1, l2, ih⟩ := rows_ab k s
    have g := rows_good k s
    refine ⟨convL_len _ _, ?_, fun m hm => ⟨?_, ?_⟩⟩
    · show (addLs _ _).length = _
      unfold addLs
      rw [List.length_zipWith, convL_len, convL_len]; omega
    · show wtL (indA m) (crossD r (rowsT r s) (waysT r)) = atL (convL r _ _) m
      rw [atL_conv _ _ hm, crossD_A k.gw g (by omega)]
      exact convAt_congr (fun i hi => (ih i (by omega)).1) fun i hi => (atL_tblA _ (by omega)).symm
    · show wtL (indB m) (crossD r (rowsT r s) (waysT r)) = atL (addLs (convL r _ _) (convL r _ _)) m
      rw [atL_add (convL_len _ _) (convL_len _ _) hm, atL_conv _ _ hm, atL_conv _ _ hm, crossD_B k.gw g (by omega)]
      congr 1
      · exact convAt_congr (fun i hi => (ih i (by omega)).2) fun i hi => (atL_tblA _ (by omega)).symm
      · exact convAt_congr (fun i hi => (ih i (by omega)).1) fun i hi => (atL_tblB _ (by omega)).symm
theorem rows_A (k : ROk r) : wtL (indA r) (rowsT r 4) = ((ch (4 * r) r : Nat) : Int) := by rw [((rows_ab k 4).2.2 r (Nat.le_refl r)).1, k.a4]
theorem rows_B (k : ROk r) : wtL (indB r) (rowsT r 4) = ((ch (4 * r) r : Nat) : Int) * honS r := by rw [((rows_ab k 4).2.2 r (Nat.le_refl r)).2, k.b4]
/-! ### the spread -/
def spreadT (r most : Nat) : List Int := (List.range (most + 1)).map fun p : Nat => (getL (rowsT r 4) ((r : Int), (p : Int))).getD 0
/-- the greatest number of points -/
def Most (r most : Nat) : Prop := (∃ v, (((r : Int), (most : Int)), v) ∈ rowsT r 4) ∧ ∀ p ∈ rowsT r 4, p.1.1 = (r : Int) → p.1.2 ≤ (most : Int)
theorem spread_wt {l : List (KP × Int)} (nd : (l.map (·.1)).Nodup) (u : Nat → Int) {most : Nat} (hk : ∀ p ∈ l, p.1.1 = (r : Int) → 0 ≤ p.1.2 ∧ p.1.2 ≤ (most : Int)) :
    ((List.range (most + 1)).map fun p : Nat => (getL l ((r : Int), (p : Int))).getD 0 * u p).sum = wtL (fun k => if k.1 = (r : Int) then u k.2.toNat else 0) l := by
  induction l with
  | nil =>
    have z : ∀ n : Nat, ((List.range n).map fun p : Nat => (getL ([] : List (KP × Int)) ((r : Int), (p : Int))).getD 0 * u p).sum = 0 := fun n => by
      induction n with
      | zero => rfl
      | succ n ih =>
        rw [List.range_succ, List.map_append, List.sum_append, ih]
        show 0 + (0 * u n + 0) = (0 : Int)
        omega
    rw [z]; rfl
  | cons q l ih =>
    obtain ⟨n1, n2⟩ := List.nodup_cons.mp nd
    rw [wtL_cons, ← ih n2 fun p hp => hk p (List.mem_cons_of_mem _ hp)]
    have e : ((List.range (most + 1)).map fun p : Nat => (getL (q :: l) ((r : Int), (p : Int))).getD 0 * u p) = (List.range (most + 1)).map fun p : Nat => (if q.1.2 = (p : Int) then (if q.1.1 = (r : Int) then q.2 else 0) else 0) * u p + (getL l ((r : Int), (p : Int))).getD 0 * u p := List.map_congr_left fun p _ => by
      rw [← Int.add_mul]
      congr 1
      rw [getL_cons]
      by_cases h : q.1 = ((r : Int), (p : Int))
      · have hn : getL l ((r : Int), (p : Int)) = none := getL_none.mpr (by rw [← h]; exact n1)
        rw [if_pos h, hn, if_pos (by rw [h]), if_pos (by rw [h])]; simp
      · rw [if_neg h]
        by_cases h2 : q.1.2 = (p : Int)
        · rw [if_pos h2, if_neg (fun z => h (Prod.ext z h2))]; omega
        · rw [if_neg h2]; omega
    rw [e, sum_plus, sum_at u q.1.2 (if q.1.1 = (r : Int) then q.2 else 0) (most + 1)]
    congr 1
    by_cases h : q.1.1 = (r : Int)
    · have := hk q (List.mem_cons_self ..) h
      rw [if_pos (by omega), if_pos h, if_pos h]
    · rw [if_neg h, if_neg h]
      split <;> simp
theorem spread_sum (k : ROk r) {most : Nat} (hm : Most r most) : (spreadT r most).sum = ((ch (4 * r) r : Nat) : Int) := by
  have g := rows_good k 4
  have := spread_wt (r := r) g.nd (fun _ => 1) (most := most) fun p hp h => ⟨(g.key p hp).2.1, hm.2 p hp h⟩
  rw [show wtL (fun k : KP => if k.1 = (r : Int) then (fun _ => (1 : Int)) k.2.toNat else 0) (rowsT r 4) = wtL (indA r) (rowsT r 4) from rfl, rows_A k] at this
  rw [← this]
  unfold spreadT
  congr 1
  exact List.map_congr_left fun p _ => (Int.mul_one _).symm
theorem spread_pts (k : ROk r) {most : Nat} (hm : Most r most) : ((List.range (most + 1)).map fun p : Nat => (p : Int) * (getL (rowsT r 4) ((r : Int), (p : Int))).getD 0).sum = ((ch (4 * r) r : Nat) : Int) * honS r := by
  have g := rows_good k 4
  have := spread_wt (r := r) g.nd (fun p => (p : Int)) (most := most) fun p hp h => ⟨(g.key p hp).2.1, hm.2 p hp h⟩
  have e : wtL (fun k : KP => if k.1 = (r : Int) then ((k.2.toNat : Nat) : Int) else 0) (rowsT r 4) = wtL (indB r) (rowsT r 4) := by
    unfold wtL
    congr 1
    refine List.map_congr_left fun p hp => ?_
    have := (g.key p hp).2.1
    unfold indB
    dsimp only
    split
    · rw [Int.toNat_of_nonneg this]
    · rfl
  rw [e, rows_B k] at this
  rw [← this]
  congr 1
  exact List.map_congr_left fun p _ => Int.mul_comm _ _
theorem spread_nonneg (k : ROk r) (most : Nat) : ∀ x ∈ spreadT r most, 0 ≤ x ∧ x ≤ 8192 ^ 4 := fun x hx => by
  obtain ⟨p, _, rfl⟩ := List.mem_map.mp hx
  have := (rows_good k 4).getBd ((r : Int), (p : Int))
  have h2 := (rows_tot k 4).1
  exact ⟨this.1, Int.le_trans this.2 h2⟩
theorem spread_last (k : ROk r) {most : Nat} (hm : Most r most) : ∃ v, (spreadT r most).getLast? = some v ∧ 0 < v := by
  obtain ⟨⟨v, hv⟩, _⟩ := hm
  have g := rows_good k 4
  refine ⟨(getL (rowsT r 4) ((r : Int), (most : Int))).getD 0, ?_, ?_⟩
  · unfold spreadT
    rw [List.range_succ, List.map_append, List.map_cons, List.map_nil, List.getLast?_concat]
  · cases h : getL (rowsT r 4) ((r : Int), (most : Int)) with
    | none => exact absurd (List.mem_map.mpr ⟨_, hv, rfl⟩) (getL_none.mp h)
    | some w =>
      show 0 < w
      unfold getL at h
      obtain ⟨p, hp, rfl⟩ := Option.map_eq_some_iff.mp h
      exact g.pos p (List.mem_of_find?_eq_some hp)
end
end DL
set_option Elab.async false
set_option linter.all false
set_option maxRecDepth 100000
set_option maxHeartbeats 4000000
namespace DL
open PySem PySem.Spec PyProof.Rows L2
local macro_rules | `(tactic| walk_at "dl") => `(tactic| simp only [tV, tVr, tFzV, turnD, DL.wipeE, tK, tOpD, tUnD, tBo, tAndD, tOrD, tNotD, tIfE, DL.tAndV, DL.tOrV, DL.tNotV, tTru, truD, okLen, sSet, sSetL, sExpr, sRet, sIf, sNx, tTupD, dNil, dCons, tLstD, tFzD, tApp, tExtd, tPopAt, sSetIx, tIxO, tChainD, tChain3D, tRevT, caStr, opRepT, opAdd, opSub, opMul, opDiv, opMod, opPow, DL.opI, DL.opI0, opB0, opLt, opLe, opGt, opGtD, opLtD, opGe, opEq, opNe, opIs, opIsN, isNone, opIn, opNotIn, opIx, atD_0, atD_1, atD_2, atD_3, putD_0, unNeg, tCa1, tCa2, tCaL1, caLen, caAbs, caMax2, caMin2, caSum, caMax, caMin, caSumT, caMaxT, caMinT, caAll, caTuple, caList, caInt, tIsi, isInt, isBool, isStr, isTuple, isList, notDict, sAsg, gSet, gTupD, gLstD, gsNil, gsCons, sPar, pNil, pD, pL, setAll, tCallD, aNil, aV, aO, argS, oixs, ndp, putO, tOpL, opCat, opRep, tSlD, slD, tSlL, oNo, oE, tRevD, iLstD, iTupD, iRange1, iRange2, iZipD, iZipM, finO, tTrue, Option.map, eqv_int, eqv_bool, eqv_none, shaped_int, shaped_bool, shaped_none, tLenRange, tSortSet, tLenSet, tLenSetP, tSortSetP, tCountL, tCountT, tIndexL, tIndexT, DL.tOrT, DL.tAndT, DL.tNotT, tSortRev, caSorted, iEnumL, iEnumT, tDGetV, tDGetD, tDGet2V, dictAt, sDPutV, sSetM, mDt, mDk, pM, tInN, tNotInN, tCallM, amM, amV, tListRg, iDk, iDv, iDi, tLDk, tLDv, tTruDk, mDt1, tFzM, tCall0D, tFldD, tFldR, fldD, fldL, obD, unH_hdl, obGet, setOb, putOD, sFldD, sFldL, tMethO, tAppF, tPopF, sRaise, keyB_2, keyB_3, keyB_4, decide_eq_true_eq, and_self, List.cons_append, List.nil_append, List.replicate, List.getElem?_cons_zero, List.getElem?_cons_succ, List.set_cons_zero, List.set_cons_succ, List.length_cons, List.length_nil, true_and, and_true, if_true, if_false, Bool.false_eq_true, List.contains_nil, Bool.not_false, Bool.not_true, Bool.and_self, Bool.and_true, Bool.true_and, decide_true, decide_false, beq_self_eq_true])
def tb_hands_of_shape (sp_choose : SpD) : TSd :=
  sSeq (sIf (tBo (tOpD opNe (tCa1 caSumT (tV 1)) (tV 0))) (sRet (tK (.int 0))) (sNx))
      (sSeq (sSet 2 (tK (.int 1)))
      (sSeq (sFor (iTupD (tV 1)) (gSet 3) (sSet 2 (tOpD opMul (tV 2) (tCallD sp_choose (aV (tV 0) (aV (tV 3) (aNil)))))))
      (sRet (tV 2))))
def tb_all_shapes : TSd :=
  sSeq (sSetL 1 (tLstD (dNil)))
      (sSeq (sFor (iRange1 (tOpD opAdd (tV 0) (tK (.int 1)))) (gSet 2) (sFor (iRange1 (tOpD opSub (tOpD opAdd (tV 0) (tK (.int 1))) (tV 2))) (gSet 3) (sFor (iRange1 (tOpD opSub (tOpD opSub (tOpD opAdd (tV 0) (tK (.int 1))) (tV 2)) (tV 3))) (gSet 4) (sExpr (tApp 1 (tTupD (dCons (tV 2) (dCons (tV 3) (dCons (tV 4) (dCons (tOpD opSub (tOpD opSub (tOpD opSub (tV 0) (tV 2)) (tV 3)) (tV 4)) (dNil)))))))))))
      (sRet (tFzV 1)))
def tb_hands_of_pattern (sp_hands_of_shape : SpD) (sp_all_shapes : SpD) : TSd :=
  sSeq (sSet 2 (tFzD (tComp (iLstD (tCallD sp_all_shapes (aV (tV 0) (aNil)))) (gSet 3) (tBo (tOpD opEq (tCa1 caTuple (tFzD (tSortRev (tV 3)))) (tV 1))) (tV 3) [3])))
      (sRet (tCa1 caSum (tFzD (tComp (iLstD (tV 2)) (gSet 3) (tTrue) (tCallD sp_hands_of_shape (aV (tV 0) (aV (tV 3) (aNil)))) [3]))))
def tb_even_hands (sp_all_shapes : SpD) (sp_is_even_shape : SpD) (sp_hands_of_shape : SpD) : TSd :=
  sRet (tCa1 caSum (tFzD (tComp (iLstD (tCallD sp_all_shapes (aV (tV 0) (aNil)))) (gSet 1) (tTru (tCallD sp_is_even_shape (aV (tV 1) (aNil)))) (tCallD sp_hands_of_shape (aV (tV 0) (aV (tV 1) (aNil)))) [1])))
def tb_suit_ways (sp_choose : SpD) : TSd :=
  sSeq (sSet 1 (tFzD (tComp (iTupD (tTupD (dCons (tK (.int 4)) (dCons (tK (.int 3)) (dCons (tK (.int 2)) (dCons (tK (.int 1)) (dNil))))))) (gSet 3) (tBo (tOpD opLt (tOpD opSub (tK (.int 4)) (tV 3)) (tV 0))) (tV 3) [3])))
      (sSeq (sSet 2 (tFzD (tLstD (dCons (tTupD (dCons (tK (.int 0)) (dCons (tK (.int 0)) (dNil)))) (dNil)))))
      (sSeq (sFor (iLstD (tV 1)) (gSet 3) (sSet 2 (tFzD (tOpL opCat (tV 2) (tFzD (tComp (iLstD (tV 2)) (gTupD 2 (gsCons (gSet 5) (gsCons (gSet 6) (gsNil)))) (tTrue) (tTupD (dCons (tOpD opAdd (tV 5) (tK (.int 1))) (dCons (tOpD opAdd (tV 6) (tV 3)) (dNil)))) [5, 6]))))))
      (sSeq (sSetM 4 (mDt))
      (sSeq (sFor (iLstD (tV 2)) (gTupD 2 (gsCons (gSet 5) (gsCons (gSet 6) (gsNil)))) (sFor (iRange1 (tOpD opAdd (tOpD opSub (tV 0) (tCa1 caLen (tV 1))) (tK (.int 1)))) (gSet 7) (sSeq (sSet 8 (tTupD (dCons (tOpD opAdd (tV 5) (tV 7)) (dCons (tV 6) (dNil)))))
      (sDPutV 4 (tV 8) (tOpD opAdd (tDGet2V 4 (tV 8) (tK (.int 0))) (tCallD sp_choose (aV (tOpD opSub (tV 0) (tCa1 caLen (tV 1))) (aV (tV 7) (aNil)))))))))
      (sRet (tFzV 4))))))
def tb_points_spread (sp_suit_ways : SpD) : TSd :=
  sSeq (sPar [1, 2] (pD (tCallD sp_suit_ways (aV (tV 0) (aNil))) (pD (tFzM (mDt1 (tTupD (dCons (tK (.int 0)) (dCons (tK (.int 0)) (dNil)))) (tK (.int 1)))) (pNil))))
      (sSeq (sFor (iRange1 (tK (.int 4))) (gSet 3) (sSeq (sSetM 4 (mDt))
      (sSeq (sFor (iDi (tV 2)) (gTupD 2 (gsCons (gTupD 2 (gsCons (gSet 5) (gsCons (gSet 6) (gsNil)))) (gsCons (gSet 7) (gsNil)))) (sFor (iDi (tV 1)) (gTupD 2 (gsCons (gTupD 2 (gsCons (gSet 8) (gsCons (gSet 9) (gsNil)))) (gsCons (gSet 10) (gsNil)))) (sIf (tBo (tOpD opLe (tOpD opAdd (tV 5) (tV 8)) (tV 0))) (sSeq (sSet 11 (tTupD (dCons (tOpD opAdd (tV 5) (tV 8)) (dCons (tOpD opAdd (tV 6) (tV 9)) (dNil)))))
      (sDPutV 4 (tV 11) (tOpD opAdd (tDGet2V 4 (tV 11) (tK (.int 0))) (tOpD opMul (tV 7) (tV 10))))) (sNx))))
      (sSet 2 (tFzV 4)))))
      (sSeq (sSet 12 (tCa1 caMax (tFzD (tComp (iDk (tV 2)) (gTupD 2 (gsCons (gSet 5) (gsCons (gSet 6) (gsNil)))) (tBo (tOpD opEq (tV 5) (tV 0))) (tV 6) [5, 6]))))
      (sRet (tCa1 caTuple (tFzD (tComp (iRange1 (tOpD opAdd (tV 12) (tK (.int 1)))) (gSet 9) (tTrue) (tDGet2V 2 (tTupD (dCons (tV 0) (dCons (tV 9) (dNil)))) (tK (.int 0))) [9]))))))
theorem prod_snoc (r : Nat) (n : Int) : ∀ l : List Int, prodC r (l ++ [n]) = prodC r l * chI r n
  | [] => by show chI r n * 1 = 1 * chI r n; omega
  | a :: l => by show chI r a * prodC r (l ++ [n]) = chI r a * prodC r l * chI r n; rw [prod_snoc r n l, Int.mul_assoc]
theorem prod_lt {r : Nat} (hr : r ≤ 13) {ns : List Int} (hl : ns.length ≤ 4) : (prodC r ns).natAbs < 2 ^ 64 := by
  have h := prod_bd hr ns
  have h2 : (8192 : Int) ^ ns.length ≤ 8192 ^ 4 := by
    have := Nat.pow_le_pow_right (show 0 < 8192 by decide) hl
    exact_mod_cast this
  have h3 : (8192 : Int) ^ 4 = 4503599627370496 := by decide
  omega
def spHShape : SpD := fun ss Q => ∃ (r : Nat) (ns : List Int), ss = [.d (.int (r : Int)), .d (.tuple (ns.map PyData.int))] ∧ r ≤ 13 ∧ ns.length = 4 ∧ Q (.int (cntS r ns)) []
theorem sh_hands_of_shape : ∀ ss QD, spHShape ss QD → ss.length = 2 ∧ mpos 0 ss = [] := by rintro ss QD ⟨_, _, rfl, _⟩; exact ⟨rfl, rfl⟩
theorem rd_hands_of_shape : ∀ ss QD, spHShape ss QD → tb_hands_of_shape spChoose { nx := fun E' => finO [] E' (QD .none), rt := fun d E' => finO [] E' (QD d) } (ss ++ List.replicate 2 .un) := by
  rintro ss QD ⟨r, ns, rfl, hr, hl, q⟩
  unfold tb_hands_of_shape
  refine seq_step fun R hR => ?_
  walk_at "dl"
  refine ⟨ns, rfl, ?_⟩
  unfold cntS at q
  by_cases hs : ns.sum = (r : Int)
  · rw [if_pos hs] at q
    refine ifF (by rw [decide_eq_true hs]; rfl) (hR _ ?_)
    clear hR
    refine seq_step fun R hR => ?_
    walk_at "dl"
    refine hR _ ?_
    clear hR
    refine seq_step fun R hR => ?_
    refine for_inv (ds := ns.map PyData.int) (E1 := [.d (.int (r : Int)), .d (.tuple (ns.map PyData.int)), .d (.int 1), .un]) (fun Q h => h)
      (fun i E => ∃ a3, E = [.d (.int (r : Int)), .d (.tuple (ns.map PyData.int)), .d (.int (prodC r (ns.take i))), a3]) ⟨_, rfl⟩ (fun i d E hd hE R2 hR2 => ?_) (fun E hE => ?_)
    · obtain ⟨a3, rfl⟩ := hE
      rw [List.getElem?_map] at hd
      obtain ⟨n, hn, rfl⟩ := Option.map_eq_some_iff.mp hd
      have ht : ns.take (i + 1) = ns.take i ++ [n] := by rw [List.take_add_one, hn]; rfl
      walk_at "dl"
      refine ⟨r, n, rfl, by omega, ?_⟩
      walk_at "dl"
      have hb := chI_bd hr n
      refine ⟨cmul_small (prod_lt hr (by rw [List.length_take]; omega)) (by omega), hR2 _ ⟨.d (.int n), ?_⟩⟩
      rw [ht, prod_snoc]
    · obtain ⟨a3, rfl⟩ := hE
      rw [List.length_map, List.take_length]
      refine hR _ ?_
      walk_at "dl"
      exact q
  · rw [if_neg hs] at q
    exact ifT (by rw [decide_eq_false hs]; rfl) q
/-! ### all shapes -/
def shE (ns : List Int) : D := .tuple (ns.map PyData.int)
def shH (r a b c : Nat) : List Int := [(a : Int), (b : Int), (c : Int), (r : Int) - a - b - c]
def shG (r a b : Nat) : List (List Int) := (List.range (r + 1 - a - b)).map (shH r a b)
def shF (r a : Nat) : List (List Int) := (List.range (r + 1 - a)).flatMap (shG r a)
theorem shapesA_eq (r : Nat) : shapesA r = (List.range (r + 1)).flatMap (shF r) := rfl
theorem fm_len {α β : Type} {f : α → List β} {m : Nat} : ∀ {l : List α}, (∀ x ∈ l, (f x).length ≤ m) → (l.flatMap f).length ≤ l.length * m
  | [], _ => Nat.zero_le _
  | a :: l, h => by
    have h1 := h a (List.mem_cons_self ..)
    have h2 := fm_len (l := l) fun x hx => h x (List.mem_cons_of_mem _ hx)
    rw [List.flatMap_cons, List.length_append, List.length_cons, Nat.succ_mul]; omega
theorem shG_len {r : Nat} (hr : r ≤ 13) (a b : Nat) : (shG r a b).length ≤ 14 := by unfold shG; rw [List.length_map, List.length_range]; omega
theorem shF_len {r : Nat} (hr : r ≤ 13) (a n : Nat) (hn : n ≤ 14) : ((List.range n).flatMap (shG r a)).length ≤ 196 := by
  have := fm_len (l := List.range n) (f := shG r a) (m := 14) fun x _ => shG_len hr a x
  rw [List.length_range] at this; omega
theorem shA_len {r : Nat} (hr : r ≤ 13) (n : Nat) (hn : n ≤ 14) : ((List.range n).flatMap (shF r)).length ≤ 2744 := by
  have := fm_len (l := List.range n) (f := shF r) (m := 196) fun x _ => shF_len hr x _ (by omega)
  rw [List.length_range] at this; omega
theorem fm_succ {β : Type} (f : Nat → List β) (n : Nat) : (List.range (n + 1)).flatMap f = (List.range n).flatMap f ++ f n := by rw [List.range_succ, List.flatMap_append]; simp
def spShapes : SpD := fun ss Q => ∃ r : Nat, ss = [.d (.int (r : Int))] ∧ r ≤ 13 ∧ Q (.list ((shapesA r).map shE)) []
theorem sh_all_shapes : ∀ ss QD, spShapes ss QD → ss.length = 1 ∧ mpos 0 ss = [] := by rintro ss QD ⟨_, rfl, _⟩; exact ⟨rfl, rfl⟩
theorem rd_all_shapes : ∀ ss QD, spShapes ss QD → tb_all_shapes { nx := fun E' => finO [] E' (QD .none), rt := fun d E' => finO [] E' (QD d) } (ss ++ List.replicate 4 .un) := by
  rintro ss QD ⟨r, rfl, hr, q⟩
  unfold tb_all_shapes
  refine seq_step fun R hR => ?_
  walk_at "dl"
  refine ⟨Nat.zero_le _, hR _ ?_⟩
  clear hR
  refine seq_step fun R hR => ?_
  refine for_inv (ds := rangeD 0 (r + 1)) (E1 := [.d (.int (r : Int)), .ol [], .un, .un, .un]) (fun Q h => ⟨⟨by omega, by omega⟩, by rw [show ((r : Int) + 1).toNat = r + 1 by omega]; exact h⟩)
    (fun i E => ∃ a2 a3 a4, E = [.d (.int (r : Int)), .ol (((List.range i).flatMap (shF r)).map shE), a2, a3, a4]) ⟨_, _, _, rfl⟩ (fun i d E hd hE R2 hR2 => ?_) (fun E hE => ?_)
  · obtain ⟨a2, a3, a4, rfl⟩ := hE
    have hi : i < r + 1 := by have := (List.getElem?_eq_some_iff.mp hd).1; rwa [rangeD_length] at this
    rw [rangeD_get hi] at hd
    cases hd
    have l1 := shA_len hr i (by omega)
    walk_at "dl"
    refine for_inv (ds := rangeD 0 (r + 1 - i)) (E1 := [.d (.int (r : Int)), .ol (((List.range i).flatMap (shF r)).map shE), .d (.int (0 + (i : Int))), a3, a4]) (fun Q h => by walk_at "dl"; exact ⟨⟨by omega, by omega⟩, by rw [show ((r : Int) + 1 - (0 + (i : Int))).toNat = r + 1 - i by omega]; exact h⟩)
      (fun j E => ∃ a3 a4, E = [.d (.int (r : Int)), .ol (((List.range i).flatMap (shF r) ++ (List.range j).flatMap (shG r i)).map shE), .d (.int (0 + (i : Int))), a3, a4]) ⟨a3, a4, by simp⟩ (fun j d E hd hE R3 hR3 => ?_) (fun E hE => ?_)
    · obtain ⟨b3, b4, rfl⟩ := hE
      have hj : j < r + 1 - i := by have := (List.getElem?_eq_some_iff.mp hd).1; rwa [rangeD_length] at this
      rw [rangeD_get hj] at hd
      cases hd
      have l2 := shF_len hr i j (by omega)
      walk_at "dl"
      refine for_inv (ds := rangeD 0 (r + 1 - i - j)) (E1 := [.d (.int (r : Int)), .ol (((List.range i).flatMap (shF r) ++ (List.range j).flatMap (shG r i)).map shE), .d (.int (0 + (i : Int))), .d (.int (0 + (j : Int))), b4]) (fun Q h => by walk_at "dl"; exact ⟨⟨by omega, by omega⟩, by rw [show ((r : Int) + 1 - (0 + (i : Int)) - (0 + (j : Int))).toNat = r + 1 - i - j by omega]; exact h⟩)
        (fun k E => ∃ a4, E = [.d (.int (r : Int)), .ol (((List.range i).flatMap (shF r) ++ (List.range j).flatMap (shG r i) ++ (List.range k).map (shH r i j)).map shE), .d (.int (0 + (i : Int))), .d (.int (0 + (j : Int))), a4]) ⟨b4, by simp⟩ (fun k d E hd hE R4 hR4 => ?_) (fun E hE => ?_)
      · obtain ⟨c4, rfl⟩ := hE
        have hk : k < r + 1 - i - j := by have := (List.getElem?_eq_some_iff.mp hd).1; rwa [rangeD_length] at this
        rw [rangeD_get hk] at hd
        cases hd
        walk_at "dl"
        refine ⟨small_line (by decide), ?_, hR4 _ ⟨.d (.int (0 + (k : Int))), ?_⟩⟩
        · refine Nat.lt_of_lt_of_le (m := 10000) ?_ (small_line (by decide))
          rw [List.length_map, List.length_append, List.length_append, List.length_map, List.length_range]; omega
        · rw [List.range_succ, List.map_append (l₁ := List.range k), ← List.append_assoc, List.map_append (l₂ := [k].map _)]
          simp only [Int.zero_add]
          rfl
      · obtain ⟨c4, rfl⟩ := hE
        rw [rangeD_length]
        refine hR3 _ ⟨.d (.int (0 + (j : Int))), c4, ?_⟩
        rw [fm_succ, ← List.append_assoc]
        rfl
    · obtain ⟨b3, b4, rfl⟩ := hE
      rw [rangeD_length]
      refine hR2 _ ⟨.d (.int (0 + (i : Int))), b3, b4, ?_⟩
      rw [fm_succ]
      rfl
  · obtain ⟨a2, a3, a4, rfl⟩ := hE
    rw [rangeD_length]
    refine hR _ ?_
    walk_at "dl"
    exact q
/-! ### patterns, even ones -/
theorem len_shapes {r : Nat} (hr : r ≤ 13) : (shapesA r).length ≤ 2744 := by rw [shapesA_eq]; exact shA_len hr _ (by omega)
def patC (r : Nat) (ns : List Int) : Int := (((shapesA r).filter fun x => decide (dnI x = ns)).map (prodC r)).sum
theorem sum_cnt {r : Nat} {l : List (List Int)} (h : ∀ x ∈ l, x ∈ shapesA r) : (l.map (cntS r)).sum = (l.map (prodC r)).sum := by
  congr 1
  exact List.map_congr_left fun x hx => cnt_shape (h x hx)
def spHPat : SpD := fun ss Q => ∃ (r : Nat) (ns : List Int), ss = [.d (.int (r : Int)), .d (shE ns)] ∧ r ≤ 13 ∧ Q (.int (patC r ns)) []
theorem sh_hands_of_pattern : ∀ ss QD, spHPat ss QD → ss.length = 2 ∧ mpos 0 ss = [] := by rintro ss QD ⟨_, _, rfl, _⟩; exact ⟨rfl, rfl⟩
theorem rd_hands_of_pattern : ∀ ss QD, spHPat ss QD → tb_hands_of_pattern spHShape spShapes { nx := fun E' => finO [] E' (QD .none), rt := fun d E' => finO [] E' (QD d) } (ss ++ List.replicate 2 .un) := by
  rintro ss QD ⟨r, ns, rfl, hr, q⟩
  have hl := len_shapes hr
  unfold tb_hands_of_pattern
  refine seq_step fun R hR => ?_
  walk_at "dl"
  refine comp_filter (E1 := [.d (.int (r : Int)), .d (shE ns), .un, .un]) (shapesA r) shE (fun x => decide (dnI x = ns)) shE (fun Q h => ?_) (un1 rfl) (small_line (by omega)) (fun x hx R2 hq => ?_) ?_
  · walk_at "dl"
    exact ⟨r, rfl, hr, h⟩
  · unfold shE
    walk_at "dl"
    refine ⟨sortOk_ints _, ?_⟩
    rw [sort_dn]
    refine ⟨⟨shaped_ti _, shaped_ti _⟩, ?_⟩
    rw [eqv_ti]
    have hq := hq [.d (.int (r : Int)), .d (shE ns), .un, .d (shE x)] rfl
    by_cases h : dnI x = ns
    · rw [decide_eq_true h] at hq ⊢
      exact hq
    · rw [decide_eq_false h] at hq ⊢
      exact hq
  refine hR _ ?_
  clear hR
  walk_at "dl"
  refine comp_map (E1 := [.d (.int (r : Int)), .d (shE ns), .d (.list (((shapesA r).filter fun x => decide (dnI x = ns)).map shE)), .un]) ((shapesA r).filter fun x => decide (dnI x = ns)) shE (fun x => .int (cntS r x)) (fun Q h => h) (un1 rfl) (small_line (by have := List.length_filter_le (fun x => decide (dnI x = ns)) (shapesA r); omega)) (fun x hx R2 hq => ?_) ?_
  · walk_at "dl"
    exact ⟨r, x, rfl, hr, (shapes_pos ((List.mem_filter.mp hx).1)).1, hq _ rfl⟩
  · refine ⟨((shapesA r).filter fun x => decide (dnI x = ns)).map (cntS r), by rw [List.map_map]; rfl, ?_⟩
    rw [sum_cnt fun x hx => (List.mem_filter.mp hx).1]
    exact q
def evenC (r : Nat) : Int := (((shapesA r).filter evenF).map (prodC r)).sum
def spEvenH : SpD := fun ss Q => ∃ (r : Nat), ss = [.d (.int (r : Int))] ∧ r ≤ 13 ∧ Q (.int (evenC r)) []
theorem sh_even_hands : ∀ ss QD, spEvenH ss QD → ss.length = 1 ∧ mpos 0 ss = [] := by rintro ss QD ⟨_, rfl, _⟩; exact ⟨rfl, rfl⟩
theorem rd_even_hands : ∀ ss QD, spEvenH ss QD → tb_even_hands spShapes spEvenS spHShape { nx := fun E' => finO [] E' (QD .none), rt := fun d E' => finO [] E' (QD d) } (ss ++ List.replicate 1 .un) := by
  rintro ss QD ⟨r, rfl, hr, q⟩
  have hl := len_shapes hr
  unfold tb_even_hands
  walk_at "dl"
  refine comp_filter (E1 := [.d (.int (r : Int)), .un]) (shapesA r) shE evenF (fun x => .int (cntS r x)) (fun Q h => ?_) (un1 rfl) (small_line (by omega)) (fun x hx R2 hq => ?_) ?_
  · walk_at "dl"
    exact ⟨r, rfl, hr, h⟩
  · unfold shE
    walk_at "dl"
    have hx4 := (shapes_pos hx).1
    refine ⟨x, rfl, by omega, trivial, ?_⟩
    have hq := hq [.d (.int (r : Int)), .d (shE x)] rfl
    cases he : evenF x with
    | true =>
      rw [he] at hq
      exact ⟨r, x, rfl, hr, hx4, hq⟩
    | false =>
      rw [he] at hq
      exact hq
  · refine ⟨((shapesA r).filter evenF).map (cntS r), by rw [List.map_map]; rfl, ?_⟩
    rw [sum_cnt fun x hx => (List.mem_filter.mp hx).1]
    exact q
/-! ### the ways of a suit -/
def e2P (k : KP) : D := .tuple [.int k.1, .int k.2]
theorem e2P_inj (a b : KP) : nkOf (e2P a) = nkOf (e2P b) ↔ a = b := by
  constructor
  · intro h
    simp [e2P, nkOf, nksOf] at h
    exact Prod.ext h.1 h.2
  · rintro rfl; rfl
theorem tkP (l : List (KP × Int)) : tupKeys (encL e2P l) = true := tupKeys_encL (fun k => ⟨_, rfl⟩) l
theorem getD_mapP {o : Option Int} : (o.map PyData.int).getD (.int 0) = .int (o.getD 0) := by cases o <;> rfl
def spWays : SpD := fun ss Q => ∃ (r : Nat), ss = [.d (.int (r : Int))] ∧ 1 ≤ r ∧ r ≤ 13 ∧ Q (.dict (encL e2P (waysT r))) []
theorem sh_suit_ways : ∀ ss QD, spWays ss QD → ss.length = 1 ∧ mpos 0 ss = [] := by rintro ss QD ⟨_, rfl, _⟩; exact ⟨rfl, rfl⟩
theorem fold_snoc {α β : Type} (f : β → α → β) (l : List α) (x : α) (b : β) : (l ++ [x]).foldl f b = f (l.foldl f b) x := by rw [List.foldl_append]; rfl
theorem wayA_len (n : Nat) (q : KP) : ∀ (k : Nat) (acc : List (KP × Int)), ((List.range k).foldl (fun acc m => wayI n acc q m) acc).length ≤ acc.length + k
  | 0, acc => Nat.le_refl _
  | k + 1, acc => by
    rw [List.range_succ, fold_snoc]
    have h1 := wayA_len n q k acc
    have h2 := addL_len ((List.range k).foldl (fun acc m => wayI n acc q m) acc) (q.1 + (k : Int), q.2) ((ch n k : Nat) : Int)
    unfold wayI at h1 h2 ⊢
    omega
theorem wayA_nd (n : Nat) (q : KP) {acc : List (KP × Int)} (h : (acc.map (·.1)).Nodup) : ∀ (k : Nat), (((List.range k).foldl (fun acc m => wayI n acc q m) acc).map (·.1)).Nodup
  | 0 => h
  | k + 1 => by rw [List.range_succ, fold_snoc]; exact addL_nodup (wayA_nd n q h k) _ _
theorem ways_len (n : Nat) : ∀ (l : List KP) (acc : List (KP × Int)), (l.foldl (fun acc q => wayA n acc q) acc).length ≤ acc.length + l.length * (n + 1)
  | [], acc => by show acc.length ≤ acc.length + 0 * (n + 1); omega
  | q :: l, acc => by
    have h1 := ways_len n l (wayA n acc q)
    have h2 := wayA_len n q (n + 1) acc
    rw [List.foldl_cons, List.length_cons, Nat.succ_mul]
    unfold wayA at h1 ⊢
    omega
theorem ways_nd (n : Nat) : ∀ (l : List KP) (acc : List (KP × Int)), (acc.map (·.1)).Nodup → ((l.foldl (fun acc q => wayA n acc q) acc).map (·.1)).Nodup
  | [], acc, h => h
  | q :: l, acc, h => ways_nd n l _ (wayA_nd n q h (n + 1))
theorem sets_snoc (l : List Int) (p : Int) : setsT (l ++ [p]) = setsT l ++ (setsT l).map fun q => (q.1 + 1, q.2 + p) := by unfold setsT; rw [fold_snoc]
theorem sets_len : ∀ l : List Int, (setsT l).length = 2 ^ l.length := by
  intro l
  refine grp_ind (P := fun l => (setsT l).length = 2 ^ l.length) rfl (fun l x h => ?_) l
  rw [sets_snoc, List.length_append, List.length_map, h, List.length_append, List.length_singleton, Nat.pow_succ]; omega
theorem rd_suit_ways : ∀ ss QD, spWays ss QD → tb_suit_ways spChoose { nx := fun E' => finO [] E' (QD .none), rt := fun d E' => finO [] E' (QD d) } (ss ++ List.replicate 8 .un) := by
  rintro ss QD ⟨r, rfl, hr1, hr, q⟩
  have ko := r_ok hr1 hr
  have hl1 := ko.hl.1
  have hl4 := ko.hl.2
  have hsl := ko.sl
  unfold tb_suit_ways
  refine seq_step fun R hR => ?_
  walk_at "dl"
  refine comp_filter (E1 := [.d (.int (r : Int)), .un, .un, .un, .un, .un, .un, .un, .un]) ([4, 3, 2, 1] : List Int) PyData.int (fun p => decide (4 - p < (r : Int))) PyData.int (fun Q h => ?_) (un1 rfl) (small_line (by decide)) (fun x hx R2 hq => ?_) ?_
  · walk_at "dl"
    exact ⟨small_line (by decide), h⟩
  · walk_at "dl"
    have hq := hq [.d (.int (r : Int)), .un, .un, .d (.int x), .un, .un, .un, .un, .un] rfl
    by_cases h : 4 - x < (r : Int)
    · rw [decide_eq_true h] at hq
      rw [if_pos h]; exact hq
    · rw [decide_eq_false h] at hq
      rw [if_neg h]; exact hq
  refine hR _ ?_
  clear hR
  have hon : ([4, 3, 2, 1] : List Int).filter (fun p => decide (4 - p < (r : Int))) = honN r := rfl
  rw [hon]
  generalize hH : honN r = H at hl1 hl4 hsl
  refine seq_step fun R hR => ?_
  walk_at "dl"
  refine ⟨small_line (by decide), small_line (by decide), hR _ ?_⟩
  clear hR
  refine seq_step fun R hR => ?_
  refine for_inv (ds := H.map PyData.int) (E1 := [.d (.int (r : Int)), .d (.list (H.map PyData.int)), .d (.list ((setsT []).map e2P)), .un, .un, .un, .un, .un, .un]) (fun Q h => h)
    (fun i E => ∃ a3, E = [.d (.int (r : Int)), .d (.list (H.map PyData.int)), .d (.list ((setsT (H.take i)).map e2P)), a3, .un, .un, .un, .un, .un]) ⟨_, rfl⟩ (fun i d E hd hE R2 hR2 => ?_) (fun E hE => ?_)
  · obtain ⟨a3, rfl⟩ := hE
    rw [List.getElem?_map] at hd
    obtain ⟨n, hn, rfl⟩ := Option.map_eq_some_iff.mp hd
    have ht : H.take (i + 1) = H.take i ++ [n] := by rw [List.take_add_one, hn]; rfl
    have hsz : (setsT (H.take i)).length ≤ 16 := by
      rw [sets_len]
      have : (H.take i).length ≤ 4 := by rw [List.length_take]; omega
      exact Nat.pow_le_pow_right (by decide) this
    walk_at "dl"
    refine comp_map (E1 := [.d (.int (r : Int)), .d (.list (H.map PyData.int)), .d (.list ((setsT (H.take i)).map e2P)), .d (.int n), .un, .un, .un, .un, .un]) (setsT (H.take i)) e2P (fun k => e2P (k.1 + 1, k.2 + n)) (fun Q h => h) (un2 rfl rfl) (small_line (by omega)) (fun x hx R3 hq => ?_) ?_
    · unfold e2P
      walk_at "dl"
      exact ⟨small_line (by decide), hq _ rfl⟩
    · walk_at "dl"
      refine ⟨small_line (by rw [List.length_map, List.length_map]; omega), hR2 _ ⟨.d (.int n), ?_⟩⟩
      rw [ht, sets_snoc, List.map_append, List.map_map]
      rfl
  · obtain ⟨a3, rfl⟩ := hE
    rw [List.length_map, List.take_length]
    refine hR _ ?_
    clear hR
    refine seq_step fun R hR => ?_
    walk_at "dl"
    refine hR _ ?_
    clear hR
    refine seq_step fun R hR => ?_
    generalize hN : r - H.length = N
    have hrN : (r : Int) - (H.length : Int) = (N : Int) := by omega
    refine for_inv (ds := (setsT H).map e2P) (E1 := [.d (.int (r : Int)), .d (.list (H.map PyData.int)), .d (.list ((setsT H).map e2P)), a3, .dt [], .un, .un, .un, .un]) (fun Q h => h)
      (fun i E => ∃ a5 a6 a7 a8, E = [.d (.int (r : Int)), .d (.list (H.map PyData.int)), .d (.list ((setsT H).map e2P)), a3, .dt (encL e2P (((setsT H).take i).foldl (fun acc q => wayA N acc q) [])), a5, a6, a7, a8]) ⟨_, _, _, _, rfl⟩ (fun i d E hd hE R2 hR2 => ?_) (fun E hE => ?_)
    · obtain ⟨a5, a6, a7, a8, rfl⟩ := hE
      rw [List.getElem?_map] at hd
      obtain ⟨k, hk, rfl⟩ := Option.map_eq_some_iff.mp hd
      have ht : (setsT H).take (i + 1) = (setsT H).take i ++ [k] := by rw [List.take_add_one, hk]; rfl
      have hal := ways_len N ((setsT H).take i) []
      have han := ways_nd N ((setsT H).take i) [] List.nodup_nil
      have htl : ((setsT H).take i).length ≤ 16 := by rw [List.length_take]; omega
      have hal : (((setsT H).take i).foldl (fun acc q => wayA N acc q) []).length ≤ 224 := by
        have : ((setsT H).take i).length * (N + 1) ≤ 16 * 14 := Nat.mul_le_mul htl (by omega)
        simp only [List.length_nil, Nat.zero_add] at hal
        omega
      generalize hacc : ((setsT H).take i).foldl (fun acc q => wayA N acc q) [] = acc at hal han ⊢
      unfold e2P
      walk_at "dl"
      refine for_inv (ds := rangeD 0 (N + 1)) (E1 := [.d (.int (r : Int)), .d (.list (H.map PyData.int)), .d (.list ((setsT H).map e2P)), a3, .dt (encL e2P acc), .d (.int k.1), .d (.int k.2), a7, a8]) (fun Q h => ?_)
        (fun j E => ∃ a7 a8, E = [.d (.int (r : Int)), .d (.list (H.map PyData.int)), .d (.list ((setsT H).map e2P)), a3, .dt (encL e2P ((List.range j).foldl (fun acc m => wayI N acc k m) acc)), .d (.int k.1), .d (.int k.2), a7, a8]) ⟨a7, a8, rfl⟩ (fun j d E hd hE R3 hR3 => ?_) (fun E hE => ?_)
      · walk_at "dl"
        rw [List.length_map, hrN]
        exact ⟨⟨by omega, by omega⟩, by rw [show ((N : Int) + 1).toNat = N + 1 by omega]; exact h⟩
      · obtain ⟨b7, b8, rfl⟩ := hE
        have hj : j < N + 1 := by have := (List.getElem?_eq_some_iff.mp hd).1; rwa [rangeD_length] at this
        rw [rangeD_get hj] at hd
        cases hd
        have hbl := wayA_len N k j acc
        have hbn := wayA_nd N k han j
        walk_at "dl"
        refine seq_step fun R4 hR4 => ?_
        walk_at "dl"
        refine ⟨small_line (by decide), hR4 _ ?_⟩
        clear hR4
        walk_at "dl"
        refine ⟨tkP _, tkP _, N, (j : Int), by rw [List.length_map, hrN, Int.zero_add], by omega, ?_⟩
        have hkey : PyData.tuple [.int (k.1 + (0 + (j : Int))), .int k.2] = e2P (k.1 + (j : Int), k.2) := by rw [Int.zero_add]; rfl
        rw [hkey, valN_encL e2P_inj, getD_mapP, show chI N (j : Int) = ((ch N j : Nat) : Int) from chI_nat (by omega) (by omega)]
        refine ⟨Nat.lt_of_lt_of_le (m := 10000) (by rw [encL_len]; omega) (small_line (by decide)), hR3 _ ⟨.d (.int (0 + (j : Int))), .d (e2P (k.1 + (j : Int), k.2)), ?_⟩⟩
        rw [putN_encL e2P_inj hbn, List.range_succ, fold_snoc]
        rfl
      · obtain ⟨b7, b8, rfl⟩ := hE
        rw [rangeD_length]
        refine hR2 _ ⟨.d (.int k.1), .d (.int k.2), b7, b8, ?_⟩
        rw [ht, fold_snoc, hacc]
        rfl
    · obtain ⟨a5, a6, a7, a8, rfl⟩ := hE
      rw [List.length_map, List.take_length]
      refine hR _ ?_
      walk_at "dl"
      unfold waysT at q
      rw [hH, hN] at q
      exact q
/-! ### all points -/
def spSpread : SpD := fun ss Q => ∃ (r : Nat), ss = [.d (.int (r : Int))] ∧ 1 ≤ r ∧ r ≤ 13 ∧ ∀ most, Most r most → most ≤ 40 → Q (.tuple ((spreadT r most).map PyData.int)) []
theorem sh_points_spread : ∀ ss QD, spSpread ss QD → ss.length = 1 ∧ mpos 0 ss = [] := by rintro ss QD ⟨_, rfl, _⟩; exact ⟨rfl, rfl⟩
theorem crossI_len (r : Int) (p : KP × Int) : ∀ (ways acc : List (KP × Int)), (crossI r ways acc p).length ≤ acc.length + ways.length
  | [], acc => Nat.le_refl _
  | q :: ways, acc => by
    have h1 := crossI_len r p ways (crossA r acc p q)
    have h2 := addL_len acc (p.1.1 + q.1.1, p.1.2 + q.1.2) (p.2 * q.2)
    show (crossI r ways (crossA r acc p q) p).length ≤ _
    rw [List.length_cons]
    unfold crossA at h1 ⊢
    split at h1 <;> rename_i h
    · rw [if_pos h]; omega
    · rw [if_neg h]; omega
theorem un2d {E : Env} {i k : Nat} (h : E[i]? = some .un ∨ ∃ x, E[i]? = some (.d x)) (h' : E[k]? = some .un ∨ ∃ x, E[k]? = some (.d x)) : ∀ j ∈ [i, k], E[j]? = some .un ∨ (∃ x, E[j]? = some (.d x)) := fun j hj => by
  simp only [List.mem_cons, List.not_mem_nil, or_false] at hj
  rcases hj with rfl | rfl
  · exact h
  · exact h'
theorem un1d {E : Env} {i : Nat} (h : E[i]? = some .un ∨ ∃ x, E[i]? = some (.d x)) : ∀ j ∈ [i], E[j]? = some .un ∨ (∃ x, E[j]? = some (.d x)) := fun j hj => by
  rw [List.mem_singleton.mp hj]; exact h
def DU (s : S) : Prop := s = .un ∨ ∃ x, s = .d x
theorem rd_points_spread : ∀ ss QD, spSpread ss QD → tb_points_spread spWays { nx := fun E' => finO [] E' (QD .none), rt := fun d E' => finO [] E' (QD d) } (ss ++ List.replicate 12 .un) := by
  rintro ss QD ⟨r, rfl, hr1, hr, q⟩
  have ko := r_ok hr1 hr
  have gw := ko.gw
  have wl := ko.wl
  unfold tb_points_spread
  refine seq_step fun R hR => ?_
  walk_at "dl"
  refine ⟨r, rfl, hr1, hr, ?_⟩
  walk_at "dl"
  refine ⟨small_line (by decide), hR _ ?_⟩
  clear hR
  have h0 : PyData.dict [(PyData.tuple [.int 0, .int 0], PyData.int 1)] = .dict (encL e2P (rowsT r 0)) := rfl
  rw [h0]
  generalize hW : waysT r = W at gw wl
  refine seq_step fun R hR => ?_
  refine for_inv (ds := rangeD 0 4) (E1 := [.d (.int (r : Int)), .d (.dict (encL e2P W)), .d (.dict (encL e2P (rowsT r 0))), .un, .un, .un, .un, .un, .un, .un, .un, .un, .un]) (fun Q h => ⟨⟨by decide, by decide⟩, h⟩)
    (fun s E => ∃ a3 a4 a5 a6 a7 a8 a9 a10 a11, E = [.d (.int (r : Int)), .d (.dict (encL e2P W)), .d (.dict (encL e2P (rowsT r s))), a3, a4, a5, a6, a7, a8, a9, a10, a11, .un] ∧ DU a5 ∧ DU a6 ∧ DU a9) ⟨_, _, _, _, _, _, _, _, _, rfl, .inl rfl, .inl rfl, .inl rfl⟩ (fun s d E hd hE R2 hR2 => ?_) (fun E hE => ?_)
  · obtain ⟨a3, a4, a5, a6, a7, a8, a9, a10, a11, rfl, u5, u6, u9⟩ := hE
    have hs : s < 4 := by have := (List.getElem?_eq_some_iff.mp hd).1; rwa [rangeD_length] at this
    have gr := rows_good ko s
    have htot := (rows_tot ko s).1
    have hrl : (rowsT r s).length ≤ 1000 := by
      have := gr.len
      have h2 : (r + 1) * (10 * s + 1) ≤ 14 * 31 := Nat.mul_le_mul (by omega) (by omega)
      omega
    have hcr : crossD r (rowsT r s) W = rowsT r (s + 1) := by rw [← hW]; rfl
    generalize rowsT r s = RS at gr htot hrl hcr
    have htot : wtL one RS ≤ 8192 ^ 3 := Int.le_trans htot (by
      have : s = 0 ∨ s = 1 ∨ s = 2 ∨ s = 3 := by omega
      rcases this with rfl | rfl | rfl | rfl <;> decide)
    walk_at "dl"
    refine seq_step fun R3 hR3 => ?_
    walk_at "dl"
    refine hR3 _ ?_
    clear hR3
    refine seq_step fun R3 hR3 => ?_
    refine for_inv (ds := RS.map fun p => .tuple [e2P p.1, .int p.2]) (E1 := [.d (.int (r : Int)), .d (.dict (encL e2P W)), .d (.dict (encL e2P RS)), .d d, .dt [], a5, a6, a7, a8, a9, a10, a11, .un]) (fun Q h => ⟨tkP RS, by unfold encL; rw [List.map_map]; exact h⟩)
      (fun i E => ∃ a5 a6 a7 a8 a9 a10 a11, E = [.d (.int (r : Int)), .d (.dict (encL e2P W)), .d (.dict (encL e2P RS)), .d d, .dt (encL e2P ((RS.take i).foldl (fun acc p => crossI r W acc p) [])), a5, a6, a7, a8, a9, a10, a11, .un] ∧ DU a5 ∧ DU a6 ∧ DU a9) ⟨_, _, _, _, _, _, _, rfl, u5, u6, u9⟩ (fun i d2 E hd2 hE R4 hR4 => ?_) (fun E hE => ?_)
    · obtain ⟨b5, b6, b7, b8, b9, b10, b11, rfl, v5, v6, v9⟩ := hE
      rw [List.getElem?_map] at hd2
      obtain ⟨p, hp, rfl⟩ := Option.map_eq_some_iff.mp hd2
      have hpm := List.mem_of_getElem? hp
      have kp := gr.key p hpm
      have pp := gr.pos p hpm
      have pb := gr.le hpm
      have ht : RS.take (i + 1) = RS.take i ++ [p] := by rw [List.take_add_one, hp]; rfl
      have ga := (crossD_spec (V := one) (B := ((10 * s : Nat) : Int) + 10) gw (rows := RS.take i) (acc := []) (fun q hq => ⟨⟨(gr.key q (List.mem_of_mem_take hq)).1, (gr.key q (List.mem_of_mem_take hq)).2.1, by have := (gr.key q (List.mem_of_mem_take hq)).2.2; omega⟩, gr.pos q (List.mem_of_mem_take hq)⟩) (.nil _ _)).1
      generalize hacc : (RS.take i).foldl (fun acc p => crossI r W acc p) [] = acc at ga ⊢
      have hal : acc.length ≤ 1000 := by
        rw [show ((10 * s : Nat) : Int) + 10 = ((10 * s + 10 : Nat) : Int) by omega] at ga
        have := ga.len
        have h2 : (r + 1) * (10 * s + 10 + 1) ≤ 14 * 41 := Nat.mul_le_mul (by omega) (by omega)
        omega
      rw [show e2P p.1 = .tuple [.int p.1.1, .int p.1.2] from rfl]
      walk_at "dl"
      refine for_inv (ds := W.map fun p => .tuple [e2P p.1, .int p.2]) (E1 := [.d (.int (r : Int)), .d (.dict (encL e2P W)), .d (.dict (encL e2P RS)), .d d, .dt (encL e2P acc), .d (.int p.1.1), .d (.int p.1.2), .d (.int p.2), b8, b9, b10, b11, .un]) (fun Q h => ⟨tkP W, by unfold encL; rw [List.map_map]; exact h⟩)
        (fun j E => ∃ a8 a9 a10 a11, E = [.d (.int (r : Int)), .d (.dict (encL e2P W)), .d (.dict (encL e2P RS)), .d d, .dt (encL e2P (crossI r (W.take j) acc p)), .d (.int p.1.1), .d (.int p.1.2), .d (.int p.2), a8, a9, a10, a11, .un] ∧ DU a9) ⟨b8, b9, b10, b11, rfl, v9⟩ (fun j d3 E hd3 hE R5 hR5 => ?_) (fun E hE => ?_)
      · obtain ⟨c8, c9, c10, c11, rfl, w9⟩ := hE
        rw [List.getElem?_map] at hd3
        obtain ⟨k, hk, rfl⟩ := Option.map_eq_some_iff.mp hd3
        have hkm := List.mem_of_getElem? hk
        have kk := gw.key k hkm
        have kpos := gw.pos k hkm
        have kb := gw.le hkm
        have htw := ko.tot
        rw [hW] at htw
        have ht2 : W.take (j + 1) = W.take j ++ [k] := by rw [List.take_add_one, hk]; rfl
        have gc := (crossI_spec (V := one) (B := ((10 * s : Nat) : Int) + 10) (C := 10) (p := p) ⟨kp.1, kp.2.1, by omega⟩ pp (ways := W.take j) (acc := acc) (fun q hq => ⟨gw.key q (List.mem_of_mem_take hq), gw.pos q (List.mem_of_mem_take hq)⟩) ga).1
        have hcl := crossI_len r p (W.take j) acc
        have hwt : (W.take j).length ≤ 1000 := by rw [List.length_take]; omega
        have hsn : crossI r (W.take (j + 1)) acc p = crossA r (crossI r (W.take j) acc p) p k := by rw [ht2]; unfold crossI; rw [fold_snoc]
        simp only [hsn] at hR5
        clear hsn
        generalize crossI r (W.take j) acc p = acc2 at gc hcl hR5 ⊢
        rw [show e2P k.1 = .tuple [.int k.1.1, .int k.1.2] from rfl]
        walk_at "dl"
        unfold crossA at hR5
        by_cases hle : p.1.1 + k.1.1 ≤ (r : Int)
        · rw [if_pos hle]
          simp only [if_pos hle] at hR5
          refine seq_step fun R6 hR6 => ?_
          walk_at "dl"
          refine ⟨small_line (by decide), hR6 _ ?_⟩
          clear hR6
          walk_at "dl"
          have h3 : (8192 : Int) ^ 3 = 549755813888 := by decide
          refine ⟨tkP _, tkP _, cmul_small (by omega) (by omega), ?_⟩
          have hkey : PyData.tuple [.int (p.1.1 + k.1.1), .int (p.1.2 + k.1.2)] = e2P (p.1.1 + k.1.1, p.1.2 + k.1.2) := rfl
          rw [hkey, valN_encL e2P_inj, getD_mapP]
          refine ⟨Nat.lt_of_lt_of_le (m := 10000) (by rw [encL_len]; omega) (small_line (by decide)), hR5 _ ⟨.d (.int k.1.1), .d (.int k.1.2), .d (.int k.2), .d (e2P (p.1.1 + k.1.1, p.1.2 + k.1.2)), ?_, .inr ⟨_, rfl⟩⟩⟩
          rw [putN_encL e2P_inj gc.nd]
        · rw [if_neg hle]
          simp only [if_neg hle] at hR5
          exact hR5 _ ⟨_, _, _, _, rfl, .inr ⟨_, rfl⟩⟩
      · obtain ⟨c8, c9, c10, c11, rfl, w9⟩ := hE
        rw [List.length_map, List.take_length]
        refine hR4 _ ⟨.d (.int p.1.1), .d (.int p.1.2), .d (.int p.2), c8, c9, c10, c11, ?_, .inr ⟨_, rfl⟩, .inr ⟨_, rfl⟩, w9⟩
        rw [ht, fold_snoc, hacc]
    · obtain ⟨b5, b6, b7, b8, b9, b10, b11, rfl, v5, v6, v9⟩ := hE
      rw [List.length_map, List.take_length]
      refine hR3 _ ?_
      clear hR3
      walk_at "dl"
      refine hR2 _ ⟨.d d, .d (.dict (encL e2P (RS.foldl (fun acc p => crossI r W acc p) []))), b5, b6, b7, b8, b9, b10, b11, ?_, v5, v6, v9⟩
      rw [← hcr]
      rfl
  · obtain ⟨a3, a4, a5, a6, a7, a8, a9, a10, a11, rfl, u5, u6, u9⟩ := hE
    rw [rangeD_length]
    refine hR _ ?_
    clear hR
    have gr := rows_good ko 4
    have hA := rows_A ko
    have hrl : (rowsT r 4).length ≤ 1000 := by
      have := gr.len
      have h2 : (r + 1) * (10 * 4 + 1) ≤ 14 * 41 := Nat.mul_le_mul (by omega) (by omega)
      omega
    unfold Most spreadT at q
    generalize rowsT r 4 = RS at gr hA hrl q ⊢
    refine seq_step fun R hR => ?_
    walk_at "dl"
    refine comp_filter (E1 := [.d (.int (r : Int)), .d (.dict (encL e2P W)), .d (.dict (encL e2P RS)), a3, a4, a5, a6, a7, a8, a9, a10, a11, .un]) RS (fun p => e2P p.1) (fun p => decide (p.1.1 = (r : Int))) (fun p => .int p.1.2) (fun Q h => ⟨tkP RS, by unfold encL; rw [List.map_map]; exact h⟩) (un2d (u5.elim (fun h => .inl (by rw [h]; rfl)) fun ⟨x, h⟩ => .inr ⟨x, by rw [h]; rfl⟩) (u6.elim (fun h => .inl (by rw [h]; rfl)) fun ⟨x, h⟩ => .inr ⟨x, by rw [h]; rfl⟩)) (small_line (by omega)) (fun x hx R2 hq => ?_) ?_
    · show turnD _ _ _ (.tuple [.int x.1.1, .int x.1.2]) _ _
      walk_at "dl"
      have hq := hq [.d (.int (r : Int)), .d (.dict (encL e2P W)), .d (.dict (encL e2P RS)), a3, a4, .d (.int x.1.1), .d (.int x.1.2), a7, a8, a9, a10, a11, .un] rfl
      by_cases h : x.1.1 = (r : Int)
      · rw [decide_eq_true h] at hq
        rw [if_pos h]; exact hq
      · rw [decide_eq_false h] at hq
        rw [if_neg h]; exact hq
    · refine ⟨(RS.filter fun p => decide (p.1.1 = (r : Int))).map fun p => p.1.2, by rw [List.map_map]; rfl, ?_, fun m hm1 hm2 => ?_⟩
      · rw [List.length_map]
        refine List.length_pos_iff.mpr fun z => ?_
        have : wtL (indA r) RS = (RS.map fun p => (0 : Int) * p.2).sum := by
          unfold wtL
          congr 1
          refine List.map_congr_left fun p hp => ?_
          have : ¬ p.1.1 = (r : Int) := fun e => by
            have := List.mem_filter (p := fun p : KP × Int => decide (p.1.1 = (r : Int))).mpr ⟨hp, decide_eq_true e⟩
            rw [z] at this; cases this
          unfold indA
          rw [if_neg this]; omega
        rw [sum_mul] at this
        have := ko.pos
        omega
      obtain ⟨p0, hp0, rfl⟩ := List.mem_map.mp hm1
      obtain ⟨hp1, hp2⟩ := List.mem_filter.mp hp0
      have hp2 : p0.1.1 = (r : Int) := by simpa using hp2
      have kp := gr.key p0 hp1
      obtain ⟨most, hmo⟩ : ∃ n : Nat, p0.1.2 = (n : Int) := ⟨p0.1.2.toNat, by omega⟩
      have q := q most ⟨⟨p0.2, by rw [← hmo, ← hp2]; exact hp1⟩, fun p hp e => by
        have := hm2 p.1.2 (List.mem_map.mpr ⟨p, List.mem_filter.mpr ⟨hp, by simpa using e⟩, rfl⟩)
        omega⟩ (by omega)
      rw [hmo]
      refine hR _ ?_
      clear hR hm2
      walk_at "dl"
      refine comp_map (E1 := [.d (.int (r : Int)), .d (.dict (encL e2P W)), .d (.dict (encL e2P RS)), a3, a4, a5, a6, a7, a8, a9, a10, a11, .d (.int (most : Int))]) (List.range (most + 1)) (fun n : Nat => .int (n : Int)) (fun n : Nat => .int ((getL RS ((r : Int), (n : Int))).getD 0)) (fun Q h => ?_) (un1d (u9.elim (fun h => .inl (by rw [h]; rfl)) fun ⟨x, h⟩ => .inr ⟨x, by rw [h]; rfl⟩)) (small_line (by rw [List.length_range]; omega)) (fun x hx R2 hq => ?_) ?_
      · walk_at "dl"
        rw [show ((most : Int) + 1).toNat = most + 1 by omega, range_0]
        exact ⟨⟨by omega, by omega⟩, h⟩
      · walk_at "dl"
        refine ⟨tkP _, small_line (by decide), tkP _, ?_⟩
        have hkey : PyData.tuple [.int (r : Int), .int (x : Int)] = e2P ((r : Int), (x : Int)) := rfl
        rw [hkey, valN_encL e2P_inj, getD_mapP]
        exact hq _ rfl
      · rw [List.map_map] at q
        exact q
end DL
set_option Elab.async false
set_option linter.all false
set_option maxRecDepth 100000
set_option maxHeartbeats 4000000
namespace DL
open PySem PySem.Spec PyProof.Rows L2
local macro_rules | `(tactic| walk_at "dl") => `(tactic| simp only [tV, tVr, tFzV, turnD, DL.wipeE, tK, tOpD, tUnD, tBo, tAndD, tOrD, tNotD, tIfE, DL.tAndV, DL.tOrV, DL.tNotV, tTru, truD, okLen, sSet, sSetL, sExpr, sRet, sIf, sNx, tTupD, dNil, dCons, tLstD, tFzD, tApp, tExtd, tPopAt, sSetIx, tIxO, tChainD, tChain3D, tRevT, caStr, opRepT, opAdd, opSub, opMul, opDiv, opMod, opPow, DL.opI, DL.opI0, opB0, opLt, opLe, opGt, opGtD, opLtD, opGe, opEq, opNe, opIs, opIsN, isNone, opIn, opNotIn, opIx, atD_0, atD_1, atD_2, atD_3, putD_0, unNeg, tCa1, tCa2, tCaL1, caLen, caAbs, caMax2, caMin2, caSum, caMax, caMin, caSumT, caMaxT, caMinT, caAll, caTuple, caList, caInt, tIsi, isInt, isBool, isStr, isTuple, isList, notDict, sAsg, gSet, gTupD, gLstD, gsNil, gsCons, sPar, pNil, pD, pL, setAll, tCallD, aNil, aV, aO, argS, oixs, ndp, putO, tOpL, opCat, opRep, tSlD, slD, tSlL, oNo, oE, tRevD, iLstD, iTupD, iRange1, iRange2, iZipD, iZipM, finO, tTrue, Option.map, eqv_int, eqv_bool, eqv_none, shaped_int, shaped_bool, shaped_none, tLenRange, tSortSet, tLenSet, tLenSetP, tSortSetP, tCountL, tCountT, tIndexL, tIndexT, DL.tOrT, DL.tAndT, DL.tNotT, tSortRev, caSorted, iEnumL, iEnumT, tDGetV, tDGetD, tDGet2V, dictAt, sDPutV, sSetM, mDt, mDk, pM, tInN, tNotInN, tCallM, amM, amV, tListRg, iDk, iDv, iDi, tLDk, tLDv, tTruDk, mDt1, tFzM, tCall0D, tFldD, tFldR, fldD, fldL, obD, unH_hdl, obGet, setOb, putOD, sFldD, sFldL, tMethO, tAppF, tPopF, sRaise, keyB_2, keyB_3, keyB_4, decide_eq_true_eq, and_self, List.cons_append, List.nil_append, List.replicate, List.getElem?_cons_zero, List.getElem?_cons_succ, List.set_cons_zero, List.set_cons_succ, List.length_cons, List.length_nil, true_and, and_true, if_true, if_false, Bool.false_eq_true, List.contains_nil, Bool.not_false, Bool.not_true, Bool.and_self, Bool.and_true, Bool.true_and, decide_true, decide_false, beq_self_eq_true])
def tb_law_choose_k04 : TSd :=
  sSeq (sSet 2 (tFzD (tOpL opCat (tFzD (tLstD (dCons (tK (.int 1)) (dNil)))) (tFzD (tOpL opRep (tFzD (tLstD (dCons (tK (.int 0)) (dNil)))) (tV 0))))))
      (sSeq (sFor (iRange1 (tV 0)) (gSet 3) (sSet 2 (tFzD (tOpL opCat (tFzD (tLstD (dCons (tK (.int 1)) (dNil)))) (tFzD (tComp (iRange2 (tK (.int 1)) (tOpD opAdd (tV 0) (tK (.int 1)))) (gSet 4) (tTrue) (tOpD opAdd (tOpD opIx (tV 2) (tV 4)) (tOpD opIx (tV 2) (tOpD opSub (tV 4) (tK (.int 1))))) [4]))))))
      (sRet (tIfE (tBo (tChainD opLe opLe (tK (.int 0)) (tV 1) (tV 0))) (tOpD opIx (tV 2) (tV 1)) (tK (.int 0)))))
def tb_law_all_shapes_k04 : TSd :=
  sSeq (sSet 1 (tFzD (tLstD (dNil))))
      (sSeq (sFor (iRange1 (tOpD opAdd (tV 0) (tK (.int 1)))) (gSet 2) (sFor (iRange1 (tOpD opSub (tOpD opAdd (tV 0) (tK (.int 1))) (tV 2))) (gSet 3) (sSet 1 (tFzD (tOpL opCat (tV 1) (tFzD (tComp (iRange1 (tOpD opSub (tOpD opSub (tOpD opAdd (tV 0) (tK (.int 1))) (tV 2)) (tV 3))) (gSet 4) (tTrue) (tTupD (dCons (tV 2) (dCons (tV 3) (dCons (tV 4) (dCons (tOpD opSub (tOpD opSub (tOpD opSub (tV 0) (tV 2)) (tV 3)) (tV 4)) (dNil)))))) [4])))))))
      (sRet (tV 1)))
def tb_law_k04 (sp_pattern_of : SpD) (sp_is_even : SpD) (sp_shape_of : SpD) (sp_law_draw : SpD) (sp_hand_at : SpX) (sp_points_spread : SpD) (sp_hands_of_pattern : SpD) (sp_law_same : SpD) (sp_law_pick : SpD) (sp_even_hands : SpD) (sp_hands_in_all : SpD) (sp_law_choose : SpD) (sp_hands_of_shape : SpD) (sp_law_all_shapes : SpD) : TSd :=
  sSeq (sSetL 1 (tLstD (dNil)))
      (sSeq (sSet 2 (tCallD sp_law_pick (aV (tV 0) (aO 1 (aV (tFzD (tLstD (dCons (tK (.int 1)) (dCons (tK (.int 2)) (dCons (tK (.int 3)) (dCons (tK (.int 4)) (dCons (tK (.int 5)) (dCons (tK (.int 6)) (dCons (tK (.int 7)) (dCons (tK (.int 8)) (dCons (tK (.int 9)) (dCons (tK (.int 10)) (dCons (tK (.int 11)) (dCons (tK (.int 12)) (dCons (tK (.int 13)) (dCons (tK (.int 13)) (dNil))))))))))))))))) (aNil))))))
      (sSeq (sPar [3, 4] (pD (tCallD sp_law_all_shapes (aV (tV 2) (aNil))) (pD (tFzD (tComp (iRange1 (tOpD opAdd (tV 2) (tK (.int 1)))) (gSet 15) (tTrue) (tCallD sp_law_choose (aV (tV 2) (aV (tV 15) (aNil)))) [15])) (pNil))))
      (sSeq (sPar [5, 6] (pM (mDt) (pD (tK (.int 0)) (pNil))))
      (sSeq (sFor (iLstD (tV 3)) (gSet 7) (sSeq (sSet 8 (tOpD opMul (tOpD opIx (tV 4) (tOpD opIx (tV 7) (tK (.int 0)))) (tOpD opIx (tV 4) (tOpD opIx (tV 7) (tK (.int 1))))))
      (sSeq (sSet 8 (tOpD opMul (tOpD opMul (tV 8) (tOpD opIx (tV 4) (tOpD opIx (tV 7) (tK (.int 2))))) (tOpD opIx (tV 4) (tOpD opIx (tV 7) (tK (.int 3))))))
      (sSeq (sSet 9 (tCa1 caTuple (tFzD (tRevD (tFzD (tCaL1 caSorted (tV 7)))))))
      (sSeq (sDPutV 5 (tV 9) (tOpD opAdd (tDGet2V 5 (tV 9) (tK (.int 0))) (tV 8)))
      (sSeq (sSet 6 (tOpD opAdd (tV 6) (tOpD opMul (tV 8) (tCa1 caInt (tAndV (tOpD opGt (tOpD opIx (tV 9) (tK (.int 3))) (tK (.int 1))) (tOpD opGt (tOpD opIx (tV 9) (tK (.int 2))) (tK (.int 2))))))))
      (sIf (tNotD (tTru (tCallD sp_law_same (aV (tCallD sp_hands_of_shape (aV (tV 2) (aV (tV 7) (aNil)))) (aV (tV 8) (aNil)))))) (sRet (tK (.bool false))) (sNx))))))))
      (sSeq (sSet 10 (tCallD sp_law_choose (aV (tOpD opMul (tK (.int 4)) (tV 2)) (aV (tV 2) (aNil)))))
      (sSeq (sIf (tOrD (tNotD (tTru (tCallD sp_law_same (aV (tTupD (dCons (tCallD sp_hands_in_all (aV (tV 2) (aNil))) (dCons (tCallD sp_even_hands (aV (tV 2) (aNil))) (dNil)))) (aV (tTupD (dCons (tV 10) (dCons (tV 6) (dNil)))) (aNil)))))) (tBo (tOpD opNe (tCa1 caSum (tFzD (tLDv (tFzV 5)))) (tV 10)))) (sRet (tK (.bool false))) (sNx))
      (sSeq (sFor (iRange1 (tK (.int 4))) (gSet 11) (sSeq (sSet 12 (tCallD sp_law_pick (aV (tV 0) (aO 1 (aV (tFzD (tLDk (tFzV 5))) (aNil))))))
      (sIf (tNotD (tTru (tCallD sp_law_same (aV (tCallD sp_hands_of_pattern (aV (tV 2) (aV (tV 12) (aNil)))) (aV (tDGetV 5 (tV 12)) (aNil)))))) (sRet (tK (.bool false))) (sNx))))
      (sSeq (sSet 13 (tCallD sp_points_spread (aV (tV 2) (aNil))))
      (sSeq (sIf (tOrD (tBo (tOpD opNe (tCa1 caSumT (tV 13)) (tV 10))) (tOrD (tBo (tOpD opEq (tOpD opIx (tV 13) (tUnD unNeg (tK (.int 1)))) (tK (.int 0)))) (tBo (tOpD opLt (tCa1 caMinT (tV 13)) (tK (.int 0)))))) (sRet (tK (.bool false))) (sNx))
      (sSeq (sIf (tBo (tOpD opNe (tCa1 caSum (tFzD (tComp (iEnumT (tV 13)) (gTupD 2 (gsCons (gSet 16) (gsCons (gSet 8) (gsNil)))) (tTrue) (tOpD opMul (tV 16) (tV 8)) [16, 8]))) (tOpD opMul (tV 10) (tCa1 caSum (tFzD (tSlL (tFzD (tLstD (dCons (tK (.int 4)) (dCons (tK (.int 3)) (dCons (tK (.int 2)) (dCons (tK (.int 1)) (dNil))))))) (oNo) (oE (tV 2)))))))) (sRet (tK (.bool false))) (sNx))
      (sSeq (sSet 14 (tCallX sp_hand_at (aV (tV 2) (aV (tCallD sp_law_draw (aV (tV 0) (aO 1 (aV (tV 10) (aNil))))) (aNil))) (fun _ _ => False)))
      (sSeq (sSet 7 (tCallD sp_shape_of (aV (tV 14) (aNil))))
      (sRet (tAndV (tOpD opEq (tCa1 caSumT (tV 7)) (tV 2)) (tAndV (tOpD opGe (tDGetV 5 (tCallD sp_pattern_of (aV (tV 14) (aNil)))) (tOpD opIx (tV 4) (tCa1 caMaxT (tV 7)))) (tOpD opIn (tCallD sp_is_even (aV (tV 14) (aNil))) (tTupD (dCons (tOpD opGt (tV 6) (tK (.int 0))) (dCons (tK (.bool false)) (dNil))))))))))))))))))))
def spLChoose : SpD := fun ss Q => ∃ (m k : Nat), ss = [.d (.int (m : Int)), .d (.int (k : Int))] ∧ m ≤ 60 ∧ k ≤ m ∧ Q (.int ((ch m k : Nat) : Int)) []
theorem sh_law_choose : ∀ ss QD, spLChoose ss QD → ss.length = 2 ∧ mpos 0 ss = [] := by rintro ss QD ⟨m, k, rfl, _⟩; exact ⟨rfl, rfl⟩
def rowL (m k : Nat) : List D := (List.range (m + 1)).map fun a : Nat => .int ((ch k a : Nat) : Int)
theorem rowL_get {m k a : Nat} (h : a ≤ m) : (rowL m k)[a]? = some (.int ((ch k a : Nat) : Int)) := by
  unfold rowL
  rw [List.getElem?_map, List.getElem?_range (by omega)]; rfl
theorem rowL_cons (m k : Nat) : rowL m k = .int 1 :: (List.range m).map fun a : Nat => .int ((ch k (a + 1) : Nat) : Int) := by
  unfold rowL
  rw [List.range_succ_eq_map, List.map_cons, ch_0, List.map_map]; rfl
theorem rowL_zero (m : Nat) : rowL m 0 = .int 1 :: List.replicate m (.int 0) := by
  rw [rowL_cons]
  congr 1
  have : ((List.range m).map fun a : Nat => PyData.int ((ch 0 (a + 1) : Nat) : Int)) = (List.range m).map fun _ => PyData.int 0 := List.map_congr_left fun a _ => rfl
  rw [this, List.map_const', List.length_range]
theorem flat_one4 {x : D} (m : Nat) : (List.replicate m [x]).flatten = List.replicate m x := by
  induction m with
  | zero => rfl
  | succ m ih => rw [List.replicate_succ, List.replicate_succ, List.flatten_cons, ih]; rfl
theorem rd_law_choose_k04 : ∀ ss QD, spLChoose ss QD → tb_law_choose_k04 { nx := fun E' => finO [] E' (QD .none), rt := fun d E' => finO [] E' (QD d) } (ss ++ List.replicate 3 .un) := by
  rintro ss QD ⟨m, k, rfl, hm, hk, q⟩
  unfold tb_law_choose_k04
  refine seq_step fun R hR => ?_
  walk_at "dl"
  rw [show ((m : Int)).toNat = m by omega, flat_one4]
  refine ⟨small_line (by decide), small_line (by decide), ⟨by omega, by omega, small_line (by omega)⟩, small_line (by rw [List.length_replicate]; omega), hR _ ?_⟩
  clear hR
  rw [← rowL_zero m]
  refine seq_step fun R hR => ?_
  refine for_inv (ds := rangeD 0 m) (E1 := [.d (.int (m : Int)), .d (.int (k : Int)), .d (.list (rowL m 0)), .un, .un]) (fun Q h => ⟨⟨by omega, by omega⟩, by rw [show ((m : Int)).toNat = m by omega]; exact h⟩)
    (fun i E => ∃ a3, E = [.d (.int (m : Int)), .d (.int (k : Int)), .d (.list (rowL m i)), a3, .un]) ⟨_, rfl⟩ (fun i d E hd hE R2 hR2 => ?_) (fun E hE => ?_)
  · obtain ⟨a3, rfl⟩ := hE
    walk_at "dl"
    refine ⟨small_line (by decide), ?_⟩
    refine comp_map (E1 := [.d (.int (m : Int)), .d (.int (k : Int)), .d (.list (rowL m i)), .d d, .un]) (List.range m) (fun a : Nat => .int ((a : Int) + 1)) (fun a : Nat => .int ((ch (i + 1) (a + 1) : Nat) : Int)) (fun Q h => ?_) (un1 rfl) (small_line (by rw [List.length_range]; omega)) (fun x hx R3 hq => ?_) ?_
    · walk_at "dl"
      rw [show ((m : Int) + 1 - 1).toNat = m by omega, range_1]
      exact ⟨⟨by decide, by decide, by omega, by omega⟩, h⟩
    · have hx := List.mem_range.mp hx
      walk_at "dl"
      refine atD_at (by omega) (by rw [show ((x : Int) + 1).toNat = x + 1 by omega]; exact rowL_get (by omega)) ?_
      refine atD_at (by omega) (by rw [show ((x : Int) + 1 - 1).toNat = x by omega]; exact rowL_get (by omega)) ?_
      have e : ((ch i (x + 1) : Nat) : Int) + ((ch i x : Nat) : Int) = ((ch (i + 1) (x + 1) : Nat) : Int) := by rw [ch_ss]; omega
      show R3 (.int (((ch i (x + 1) : Nat) : Int) + ((ch i x : Nat) : Int))) _
      rw [e]
      exact hq _ rfl
    · walk_at "dl"
      refine ⟨small_line (by rw [List.length_map, List.length_range]; omega), hR2 _ ⟨.d d, ?_⟩⟩
      rw [rowL_cons]
  · obtain ⟨a3, rfl⟩ := hE
    rw [rangeD_length]
    refine hR _ ?_
    clear hR
    walk_at "dl"
    rw [decide_eq_true (show (0 : Int) ≤ (k : Int) by omega)]
    show (if ((k : Int) ≤ (m : Int)) then _ else _)
    rw [if_pos (by omega)]
    exact atD_at (by omega) (by rw [show ((k : Int)).toNat = k by omega]; exact rowL_get hk) q
theorem sh_law_all_shapes : ∀ ss QD, spShapes ss QD → ss.length = 1 ∧ mpos 0 ss = [] := sh_all_shapes
theorem rd_law_all_shapes_k04 : ∀ ss QD, spShapes ss QD → tb_law_all_shapes_k04 { nx := fun E' => finO [] E' (QD .none), rt := fun d E' => finO [] E' (QD d) } (ss ++ List.replicate 4 .un) := by
  rintro ss QD ⟨r, rfl, hr, q⟩
  unfold tb_law_all_shapes_k04
  refine seq_step fun R hR => ?_
  walk_at "dl"
  refine ⟨Nat.zero_le _, hR _ ?_⟩
  clear hR
  refine seq_step fun R hR => ?_
  refine for_inv (ds := rangeD 0 (r + 1)) (E1 := [.d (.int (r : Int)), .d (.list []), .un, .un, .un]) (fun Q h => ⟨⟨by omega, by omega⟩, by rw [show ((r : Int) + 1).toNat = r + 1 by omega]; exact h⟩)
    (fun i E => ∃ a2 a3, E = [.d (.int (r : Int)), .d (.list (((List.range i).flatMap (shF r)).map shE)), a2, a3, .un]) ⟨_, _, rfl⟩ (fun i d E hd hE R2 hR2 => ?_) (fun E hE => ?_)
  · obtain ⟨a2, a3, rfl⟩ := hE
    have hi : i < r + 1 := by have := (List.getElem?_eq_some_iff.mp hd).1; rwa [rangeD_length] at this
    rw [rangeD_get hi] at hd
    cases hd
    have l1 := shA_len hr i (by omega)
    walk_at "dl"
    refine for_inv (ds := rangeD 0 (r + 1 - i)) (E1 := [.d (.int (r : Int)), .d (.list (((List.range i).flatMap (shF r)).map shE)), .d (.int (0 + (i : Int))), a3, .un]) (fun Q h => by walk_at "dl"; exact ⟨⟨by omega, by omega⟩, by rw [show ((r : Int) + 1 - (0 + (i : Int))).toNat = r + 1 - i by omega]; exact h⟩)
      (fun j E => ∃ a3, E = [.d (.int (r : Int)), .d (.list (((List.range i).flatMap (shF r) ++ (List.range j).flatMap (shG r i)).map shE)), .d (.int (0 + (i : Int))), a3, .un]) ⟨a3, by simp⟩ (fun j d E hd hE R3 hR3 => ?_) (fun E hE => ?_)
    · obtain ⟨b3, rfl⟩ := hE
      have hj : j < r + 1 - i := by have := (List.getElem?_eq_some_iff.mp hd).1; rwa [rangeD_length] at this
      rw [rangeD_get hj] at hd
      cases hd
      have l2 := shF_len hr i j (by omega)
      walk_at "dl"
      refine comp_map (E1 := [.d (.int (r : Int)), .d (.list (((List.range i).flatMap (shF r) ++ (List.range j).flatMap (shG r i)).map shE)), .d (.int (0 + (i : Int))), .d (.int (0 + (j : Int))), .un]) (List.range (r + 1 - i - j)) (fun c : Nat => .int (c : Int)) (fun c : Nat => shE (shH r i j c)) (fun Q h => ?_) (un1 rfl) (small_line (by rw [List.length_range]; omega)) (fun x hx R4 hq => ?_) ?_
      · walk_at "dl"
        rw [show ((r : Int) + 1 - (0 + (i : Int)) - (0 + (j : Int))).toNat = r + 1 - i - j by omega, range_0]
        exact ⟨⟨by omega, by omega⟩, h⟩
      · walk_at "dl"
        refine ⟨small_line (by decide), ?_⟩
        have e : PyData.tuple [.int (0 + (i : Int)), .int (0 + (j : Int)), .int (x : Int), .int ((r : Int) - (0 + (i : Int)) - (0 + (j : Int)) - (x : Int))] = shE (shH r i j x) := by simp only [Int.zero_add]; rfl
        rw [e]
        exact hq _ rfl
      · walk_at "dl"
        refine ⟨small_line (by rw [List.length_map, List.length_append, List.length_map, List.length_range]; omega), hR3 _ ⟨.d (.int (0 + (j : Int))), ?_⟩⟩
        rw [fm_succ, ← List.append_assoc, List.map_append (l₂ := shG r i j)]
        unfold shG
        rw [List.map_map]
        rfl
    · obtain ⟨b3, rfl⟩ := hE
      rw [rangeD_length]
      refine hR2 _ ⟨.d (.int (0 + (i : Int))), b3, ?_⟩
      rw [fm_succ]
      rfl
  · obtain ⟨a2, a3, rfl⟩ := hE
    rw [rangeD_length]
    refine hR _ ?_
    walk_at "dl"
    exact q
/-! ### the law -/
def spLaw : SpD := fun ss Q => ∃ ns : List Int, ss = [.d (.list (ns.map PyData.int))] ∧ ns.length ≤ 63 ∧ Q (.bool true) []
theorem sh_law : ∀ ss QD, spLaw ss QD → ss.length = 1 ∧ mpos 0 ss = [] := by rintro ss QD ⟨ns, rfl, _⟩; exact ⟨rfl, rfl⟩
def spHandAt4 (c : Value) : SpX := fun ss Q QX => ∃ (R k : Nat), ss = [.d (.int (R : Int)), .d (.int (k : Int))] ∧ R ≤ 13 ∧ k < ch (4 * R) R ∧ Q (handD (un (allC R) R k)) []
theorem sh_hand_at4 (c : Value) : ∀ ss QD QX, spHandAt4 c ss QD QX → ss.length = 2 ∧ mpos 0 ss = [] := by rintro ss QD QX ⟨R, k, rfl, _⟩; exact ⟨rfl, rfl⟩
theorem rd_hand_at4 (c : Value) : ∀ ss QD QX, spHandAt4 c ss QD QX → tb_hand_at spAllC spTaken spHandsA c (fun cls E' => finO [] E' (QX cls)) { nx := fun E' => finO [] E' (QD .none), rt := fun d E' => finO [] E' (QD d) } (ss ++ List.replicate 0 .un) := by
  rintro ss QD QX ⟨R, k, rfl, hR, hk, q⟩
  unfold tb_hand_at
  refine seq_step fun R2 hR2 => ?_
  walk_at "dl"
  rw [decide_eq_true (show (0 : Int) ≤ (k : Int) by omega)]
  refine ⟨R, rfl, by omega, ?_⟩
  walk_at "dl"
  refine ifF (by show (!decide ((k : Int) < ((ch (4 * R) R : Nat) : Int))) = false; rw [decide_eq_true (by omega)]; rfl) (hR2 _ ?_)
  walk_at "dl"
  refine ⟨R, rfl, by omega, ?_⟩
  walk_at "dl"
  exact ⟨allC R, R, k, rfl, by rw [allC_len]; omega, by omega, by rw [allC_len]; omega, q⟩
def tE (ns : List Int) : D := .tuple (ns.map PyData.int)
theorem nks_ints : ∀ l : List Int, nksOf (l.map PyData.int) = some (l.map NestedKey.num)
  | [] => rfl
  | a :: l => by
    show (match nkOf (.int a), nksOf (l.map PyData.int) with | some k, some ks => some (k :: ks) | _, _ => none) = _
    rw [nks_ints l]; rfl
theorem tE_inj (a b : List Int) : nkOf (tE a) = nkOf (tE b) ↔ a = b := by
  constructor
  · intro h
    unfold tE nkOf at h
    rw [nks_ints, nks_ints] at h
    simp only [Option.map_some, Option.some.injEq, NestedKey.tup.injEq] at h
    exact (List.map_inj_right (fun x y e => by cases e; rfl)).mp h
  · rintro rfl; rfl
theorem tkE (l : List (List Int × Int)) : tupKeys (encL tE l) = true := tupKeys_encL (fun k => ⟨_, rfl⟩) l
theorem ch13 {r k : Nat} (hr : r ≤ 13) : ch r k ≤ 8192 := by
  have h1 := ch_le r k
  have h2 : 2 ^ r ≤ 2 ^ 13 := Nat.pow_le_pow_right (by decide) hr
  have h3 : (2 : Nat) ^ 13 = 8192 := by decide
  omega
theorem prod4 (r a b c d : Nat) : ((ch r a : Nat) : Int) * ((ch r b : Nat) : Int) * ((ch r c : Nat) : Int) * ((ch r d : Nat) : Int) = prodC r [(a : Int), (b : Int), (c : Int), (d : Int)] := by
  unfold prodC prodC prodC prodC prodC
  have e : ∀ n : Nat, chI r (n : Int) = ((ch r n : Nat) : Int) := fun n => by rw [chI_nat (by omega) (by omega)]; simp
  rw [e, e, e, e, Int.mul_one, Int.mul_assoc, Int.mul_assoc]
theorem cnt4 : ∀ {l : List Int}, (∀ x ∈ l, 0 ≤ x ∧ x ≤ 3) → l.count 0 + l.count 1 + l.count 2 + l.count 3 = l.length
  | [], _ => rfl
  | a :: l, h => by
    have ih := cnt4 (l := l) fun x hx => h x (List.mem_cons_of_mem _ hx)
    have ha := h a (List.mem_cons_self ..)
    simp only [List.count_cons, List.length_cons, beq_iff_eq]
    have : a = 0 ∨ a = 1 ∨ a = 2 ∨ a = 3 := by omega
    rcases this with rfl | rfl | rfl | rfl <;> simp <;> omega
theorem shape_in {r : Nat} {h : List Card} (hl : h.length = r) (hc : ∀ c ∈ h, 0 ≤ c.1 ∧ c.1 ≤ 3) : shapeF h ∈ shapesA r := by
  have := cnt4 (l := h.map (·.1)) fun x hx => by obtain ⟨c, hc', rfl⟩ := List.mem_map.mp hx; exact hc c hc'
  rw [List.length_map, hl] at this
  exact shapes_all this
theorem allC_suit {r : Nat} {c : Card} (h : c ∈ allC r) : 0 ≤ c.1 ∧ c.1 ≤ 3 := by
  unfold allC at h
  obtain ⟨s, hs, h⟩ := List.mem_flatMap.mp h
  obtain ⟨q, hq, rfl⟩ := List.mem_map.mp h
  have := List.mem_range.mp hs
  exact ⟨by show (0 : Int) ≤ (s : Int); omega, by show (s : Int) ≤ 3; omega⟩
theorem prod_ge {r : Nat} : ∀ {ns : List Int} {m : Int}, (∀ n ∈ ns, 0 ≤ n ∧ n ≤ r) → m ∈ ns → chI r m ≤ prodC r ns
  | [], m, _, h => by cases h
  | n :: ns, m, h, hm => by
    have h0 := h n (List.mem_cons_self ..)
    have hp := prod_pos (r := r) (ns := ns) fun x hx => h x (List.mem_cons_of_mem _ hx)
    have hc : ∀ x : Int, 0 ≤ x → x ≤ r → 1 ≤ chI r x := fun x hx0 hx1 => by
      rw [chI_nat (by omega) hx0]
      have := ch_pos (n := (r : Int).toNat) (k := x.toNat) (by omega)
      omega
    show chI r m ≤ chI r n * prodC r ns
    rcases List.mem_cons.mp hm with rfl | hm
    · have := Int.mul_le_mul_of_nonneg_left (show (1 : Int) ≤ prodC r ns by omega) (show 0 ≤ chI r m by have := hc m h0.1 h0.2; omega)
      omega
    · have ih := prod_ge (ns := ns) (fun x hx => h x (List.mem_cons_of_mem _ hx)) hm
      have := Int.mul_le_mul_of_nonneg_right (hc n h0.1 h0.2) (show 0 ≤ prodC r ns by omega)
      omega
theorem enum_range (f : Nat → D) (n : Nat) : enumD ((List.range n).map f) = (List.range n).map fun p : Nat => .tuple [.int (p : Int), f p] := by
  refine List.ext_getElem? fun i => ?_
  rcases Nat.lt_or_ge i n with h | h
  · rw [enumD_get (d := f i) (by rw [List.getElem?_map, List.getElem?_range h]; rfl), List.getElem?_map, List.getElem?_range h]; rfl
  · rw [List.getElem?_eq_none (by rw [enumD_len, List.length_map, List.length_range]; exact h), List.getElem?_eq_none (by rw [List.length_map, List.length_range]; exact h)]
theorem cut_to4 {xs : List D} (k : Nat) : cutD xs none (some (k : Int)) = xs.take k := by rw [cut_to (by omega), Int.toNat_natCast]
theorem atD_last4 {xs : List D} {d : D} {Q : D → Prop} (h : xs.getLast? = some d) (q : Q d) : atD xs (-1) Q := by
  have hne : xs ≠ [] := by rintro rfl; cases h
  have hl : 0 < xs.length := List.length_pos_iff.mpr hne
  refine atD_neg (by decide) (by omega) ?_ q
  rw [show (-1 + (xs.length : Int)).toNat = xs.length - 1 by omega, ← List.getLast?_eq_getElem?]; exact h
theorem rd_law_k04 {c : Value} : ∀ ss QD, spLaw ss QD → tb_law_k04 spPattern spEven spShape spDraw (spHandAt4 c) spSpread spHPat (spSame 3) spPick spEvenH spHandsA spLChoose spHShape spShapes { nx := fun E' => finO [] E' (QD .none), rt := fun d E' => finO [] E' (QD d) } (ss ++ List.replicate 16 .un) := by
  rintro ss QD ⟨ns, rfl, hn, q⟩
  unfold tb_law_k04
  refine seq_step fun R hR => ?_
  walk_at "dl"
  refine ⟨Nat.zero_le _, hR _ ?_⟩
  clear hR
  refine seq_step fun R hR => ?_
  walk_at "dl"
  refine ⟨small_line (by decide), ns, [], _, _, 0, rfl, .inl rfl, List.cons_ne_nil _ _, hn, ⟨Nat.le_refl 0, .inl rfl⟩, by decide, fun x t1 hx ht1 => ?_⟩
  have hx : x ∈ ([1, 2, 3, 4, 5, 6, 7, 8, 9, 10, 11, 12, 13, 13] : List Nat).map (fun n : Nat => PyData.int (n : Int)) := hx
  obtain ⟨r, hr, rfl⟩ := List.mem_map.mp hx
  obtain ⟨hr1, hr⟩ := (by decide : ∀ z ∈ ([1, 2, 3, 4, 5, 6, 7, 8, 9, 10, 11, 12, 13, 13] : List Nat), 1 ≤ z ∧ z ≤ 13) r hr
  have ko := r_ok hr1 hr
  walk_at "dl"
  refine hR _ ?_
  clear hR
  refine seq_step fun R hR => ?_
  walk_at "dl"
  refine ⟨r, rfl, hr, ?_⟩
  refine comp_map (E1 := [.d (.list (ns.map PyData.int)), .ol t1, .d (.int (r : Int)), .un, .un, .un, .un, .un, .un, .un, .un, .un, .un, .un, .un, .un, .un]) (List.range (r + 1)) (fun n : Nat => .int (n : Int)) (fun n : Nat => .int ((ch r n : Nat) : Int)) (fun Q h => ?_) (un1 rfl) (small_line (by rw [List.length_range]; omega)) (fun x hx R2 hq => ?_) ?_
  · walk_at "dl"
    rw [show ((r : Int) + 1).toNat = r + 1 by omega, range_0]
    exact ⟨⟨by omega, by omega⟩, h⟩
  · have hx := List.mem_range.mp hx
    walk_at "dl"
    exact ⟨r, x, rfl, by omega, by omega, hq _ rfl⟩
  walk_at "dl"
  refine hR _ ?_
  clear hR
  refine seq_step fun R hR => ?_
  walk_at "dl"
  refine hR _ ?_
  clear hR
  refine seq_step fun R hR => ?_
  have hsl := len_shapes hr
  refine for_inv (ds := (shapesA r).map shE) (E1 := [.d (.list (ns.map PyData.int)), .ol t1, .d (.int (r : Int)), .d (.list ((shapesA r).map shE)), .d (.list (rowL r r)), .dt (encL tE (grpL dnI (prodC r) [])), .d (.int 0), .un, .un, .un, .un, .un, .un, .un, .un, .un, .un]) (fun Q h => h)
    (fun i E => ∃ a7 a8 a9, E = [.d (.list (ns.map PyData.int)), .ol t1, .d (.int (r : Int)), .d (.list ((shapesA r).map shE)), .d (.list (rowL r r)), .dt (encL tE (grpL dnI (prodC r) ((shapesA r).take i))), .d (.int ((((shapesA r).take i).filter evenF).map (prodC r)).sum), a7, a8, a9, .un, .un, .un, .un, .un, .un, .un] ∧ DU a8) ⟨_, _, _, rfl, .inl rfl⟩ (fun i d E hd hE R2 hR2 => ?_) (fun E hE => ?_)
  · obtain ⟨a7, a8, a9, rfl, u8⟩ := hE
    rw [List.getElem?_map] at hd
    obtain ⟨sh, hsh, rfl⟩ := Option.map_eq_some_iff.mp hd
    have hm := List.mem_of_getElem? hsh
    have ht : (shapesA r).take (i + 1) = (shapesA r).take i ++ [sh] := by rw [List.take_add_one, hsh]; rfl
    have hpos := shapes_pos hm
    obtain ⟨a, b, c', d', rfl, hsum⟩ := shapes_mem hm
    obtain ⟨f0, f1, f2, f3, hdn⟩ := dn_four hpos.1
    have hev := even_dn hdn
    walk_at "dl"
    refine seq_step fun R3 hR3 => ?_
    have hE4 : shE [(a : Int), (b : Int), (c' : Int), (d' : Int)] = .tuple [.int (a : Int), .int (b : Int), .int (c' : Int), .int (d' : Int)] := rfl
    rw [hE4]
    walk_at "dl"
    have ba := ch13 (k := a) hr
    have bb := ch13 (k := b) hr
    have bc := ch13 (k := c') hr
    have bd := ch13 (k := d') hr
    refine atD_at (by omega) (by rw [Int.toNat_natCast]; exact rowL_get (by omega)) ?_
    refine atD_at (by omega) (by rw [Int.toNat_natCast]; exact rowL_get (by omega)) ?_
    refine ⟨cmul_small (by omega) (by omega), hR3 _ ?_⟩
    clear hR3
    have p2 : 0 ≤ ((ch r a : Nat) : Int) * ((ch r b : Nat) : Int) ∧ ((ch r a : Nat) : Int) * ((ch r b : Nat) : Int) ≤ 8192 * 8192 := ⟨Int.mul_nonneg (by omega) (by omega), Int.mul_le_mul (by omega) (by omega) (by omega) (by decide)⟩
    have p3 : 0 ≤ ((ch r a : Nat) : Int) * ((ch r b : Nat) : Int) * ((ch r c' : Nat) : Int) ∧ ((ch r a : Nat) : Int) * ((ch r b : Nat) : Int) * ((ch r c' : Nat) : Int) ≤ 8192 * 8192 * 8192 := ⟨Int.mul_nonneg p2.1 (by omega), Int.mul_le_mul p2.2 (by omega) (by omega) (by decide)⟩
    refine seq_step fun R3 hR3 => ?_
    walk_at "dl"
    refine atD_at (by omega) (by rw [Int.toNat_natCast]; exact rowL_get (by omega)) ?_
    refine ⟨cmul_small (by omega) (by omega), ?_⟩
    refine atD_at (by omega) (by rw [Int.toNat_natCast]; exact rowL_get (by omega)) ?_
    refine ⟨cmul_small (by omega) (by omega), hR3 _ ?_⟩
    clear hR3
    rw [prod4]
    clear p2 p3 ba bb bc bd
    have hP := prod_bd hr [(a : Int), (b : Int), (c' : Int), (d' : Int)]
    have hP4 := prod_lt hr (ns := [(a : Int), (b : Int), (c' : Int), (d' : Int)]) (by simp)
    have hcs := cnt_shape hm
    rw [← hE4]
    generalize hS : [(a : Int), (b : Int), (c' : Int), (d' : Int)] = sh at hdn hev hP hP4 hcs hm hsh ht hpos ⊢
    generalize hPP : prodC r sh = P at hP hP4 hcs ⊢
    refine seq_step fun R3 hR3 => ?_
    have hshE : shE sh = .tuple (sh.map PyData.int) := rfl
    rw [hshE]
    walk_at "dl"
    rw [sort_up, ← List.map_reverse, ← dn_rev]
    refine ⟨sortOk_ints _, hR3 _ ?_⟩
    clear hR3
    refine seq_step fun R3 hR3 => ?_
    have hgl := grp_len dnI (prodC r) ((shapesA r).take i)
    have hgn := grp_nd dnI (prodC r) ((shapesA r).take i)
    have htl : ((shapesA r).take i).length ≤ 2744 := by rw [List.length_take]; omega
    walk_at "dl"
    refine ⟨tkE _, ?_⟩
    have hke : PyData.tuple (List.map PyData.int (dnI sh)) = tE (dnI sh) := rfl
    have hkb : keyB (tE (dnI sh)) = true := by rw [hdn]; rfl
    rw [hke, valN_encL tE_inj, getD_mapP]
    refine ⟨hkb, tkE _, hkb, Nat.lt_of_lt_of_le (m := 10000) (by rw [encL_len]; omega) (small_line (by decide)), hR3 _ ?_⟩
    clear hR3
    rw [putN_encL tE_inj hgn]
    have hgs : addL (grpL dnI (prodC r) ((shapesA r).take i)) (dnI sh) P = grpL dnI (prodC r) ((shapesA r).take (i + 1)) := by rw [ht, grp_snoc, hPP]
    rw [hgs]
    have hes : ((((shapesA r).take (i + 1)).filter evenF).map (prodC r)).sum = ((((shapesA r).take i).filter evenF).map (prodC r)).sum + P * (if evenF sh = true then 1 else 0) := by
      rw [ht, List.filter_append, List.map_append, List.sum_append]
      congr 1
      cases he : evenF sh with
      | true => rw [List.filter_cons_of_pos he]; simp [hPP]
      | false => rw [List.filter_cons_of_neg (by rw [he]; decide)]; simp
    rw [hes] at hR2
    refine seq_step fun R3 hR3 => ?_
    have h9 : tE (dnI sh) = .tuple [.int f0, .int f1, .int f2, .int f3] := by rw [hdn]; rfl
    rw [h9]
    have main : ∀ b : Bool, evenF sh = b → R3 [.d (.list (ns.map PyData.int)), .ol t1, .d (.int (r : Int)), .d (.list ((shapesA r).map shE)), .d (.list (rowL r r)), .dt (encL tE (grpL dnI (prodC r) ((shapesA r).take (i + 1)))), .d (.int (((((shapesA r).take i).filter evenF).map (prodC r)).sum + P * (if b = true then 1 else 0))), .d (.tuple (sh.map PyData.int)), .d (.int P), .d (.tuple [.int f0, .int f1, .int f2, .int f3]), .un, .un, .un, .un, .un, .un, .un] := fun b hb => by
      refine hR3 _ ?_
      clear hR3
      walk_at "dl"
      refine ⟨r, sh, rfl, hr, hpos.1, ?_⟩
      walk_at "dl"
      rw [hcs]
      refine ⟨_, rfl, rfl, ?_⟩
      rw [hb] at hR2
      exact ⟨trivial, hR2 _ ⟨_, _, _, rfl, .inr ⟨_, rfl⟩⟩⟩
    walk_at "dl"
    by_cases g3 : 1 < f3
    · rw [decide_eq_true g3]
      by_cases g2 : 2 < f2
      · refine ⟨cmul_small hP4 (by split <;> decide), ?_⟩
        have := main true (by rw [hev, decide_eq_true (show f3 > 1 from g3), decide_eq_true (show f2 > 2 from g2)]; rfl)
        rw [if_pos g2]; exact this
      · refine ⟨cmul_small hP4 (by split <;> decide), ?_⟩
        have := main false (by rw [hev, decide_eq_true (show f3 > 1 from g3), decide_eq_false (show ¬ f2 > 2 from g2)]; rfl)
        rw [if_neg g2]; exact this
    · rw [decide_eq_false g3]
      exact ⟨cmul_small hP4 (by decide), main false (by rw [hev, decide_eq_false (show ¬ f3 > 1 from g3)]; rfl)⟩
  · obtain ⟨a7, a8, a9, rfl, u8⟩ := hE
    rw [List.length_map, List.take_length]
    refine hR _ ?_
    clear hR
    have hwl := ko.lt
    refine seq_step fun R hR => ?_
    walk_at "dl"
    refine ⟨cmul_small (by decide) (by omega), 4 * r, r, by rw [show ((4 * r : Nat) : Int) = 4 * (r : Int) by omega], by omega, by omega, ?_⟩
    walk_at "dl"
    refine hR _ ?_
    clear hR
    have hgl := grp_len dnI (prodC r) (shapesA r)
    have hgn := grp_nd dnI (prodC r) (shapesA r)
    have hgs : ((grpL dnI (prodC r) (shapesA r)).map (·.2)).sum = ((ch (4 * r) r : Nat) : Int) := by
      have h := grp_wt dnI (prodC r) (fun _ => 1) (shapesA r)
      rw [show (shapesA r).map (fun x => prodC r x * 1) = (shapesA r).map (prodC r) from List.map_congr_left fun x _ => Int.mul_one _, shapes_sum hr] at h
      rw [← h]
      unfold wtL
      congr 1
      exact List.map_congr_left fun p _ => (Int.mul_one _).symm
    have hgg : ∀ k, k ∈ (grpL dnI (prodC r) (shapesA r)).map (·.1) → getL (grpL dnI (prodC r) (shapesA r)) k = some (patC r k) := fun k hk => grp_get dnI (prodC r) ((grp_keys _ _ _ _).mp hk)
    have hgk : ∀ sh ∈ shapesA r, dnI sh ∈ (grpL dnI (prodC r) (shapesA r)).map (·.1) := fun sh h => (grp_keys _ _ _ _).mpr (List.mem_map.mpr ⟨sh, h, rfl⟩)
    have hgj : ∀ k, k ∈ (grpL dnI (prodC r) (shapesA r)).map (·.1) → ∃ sh ∈ shapesA r, dnI sh = k := fun k hk => List.mem_map.mp ((grp_keys _ _ _ _).mp hk)
    generalize grpL dnI (prodC r) (shapesA r) = GG at hgl hgn hgs hgg hgk hgj ⊢
    have hGl : GG.length ≤ 2744 := by omega
    refine seq_step fun R hR => ?_
    walk_at "dl"
    refine ⟨r, rfl, hr, ?_⟩
    walk_at "dl"
    refine ⟨r, rfl, hr, ?_⟩
    walk_at "dl"
    refine ⟨small_line (by decide), small_line (by decide), _, rfl, rfl, trivial, tkE _, small_line (by rw [encL_len]; omega), GG.map (·.2), by unfold encL; rw [List.map_map, List.map_map]; rfl, ifF (by rw [hgs, decide_eq_true rfl]; rfl) (hR _ ?_)⟩
    clear hR
    have hec : (((shapesA r).filter evenF).map (prodC r)).sum = evenC r := rfl
    rw [hec]
    have hevp : ∀ sh ∈ shapesA r, evenF sh = true → 0 < evenC r := fun sh h1 h2 => by
      have hb : ∀ x ∈ (shapesA r).filter evenF, 0 ≤ prodC r x := fun x _ => (prod_bd hr x).1
      have := sum_ge (w := prodC r) (l := (shapesA r).filter evenF) (x := sh) hb (List.mem_filter.mpr ⟨h1, h2⟩)
      have hp := prod_pos (r := r) (shapes_pos h1).2.1
      have h3 : prodC r sh ≤ evenC r := this
      omega
    have hpg : ∀ sh ∈ shapesA r, prodC r sh ≤ patC r (dnI sh) := fun sh h1 => by
      have hb : ∀ x ∈ (shapesA r).filter (fun x => decide (dnI x = dnI sh)), 0 ≤ prodC r x := fun x _ => (prod_bd hr x).1
      exact sum_ge (w := prodC r) (x := sh) hb (List.mem_filter.mpr ⟨h1, decide_eq_true rfl⟩)
    generalize evenC r = ev at hevp ⊢
    generalize hwh : ch (4 * r) r = wh at hwl hgs ⊢
    refine seq_step fun R hR => ?_
    refine for_inv (ds := rangeD 0 4) (E1 := [.d (.list (ns.map PyData.int)), .ol t1, .d (.int (r : Int)), .d (.list ((shapesA r).map shE)), .d (.list (rowL r r)), .d (.dict (encL tE GG)), .d (.int ev), a7, a8, a9, .d (.int (wh : Int)), .un, .un, .un, .un, .un, .un]) (fun Q h => ⟨⟨by decide, by decide⟩, h⟩)
      (fun i E => ∃ t a11 a12, E = [.d (.list (ns.map PyData.int)), .ol t, .d (.int (r : Int)), .d (.list ((shapesA r).map shE)), .d (.list (rowL r r)), .d (.dict (encL tE GG)), .d (.int ev), a7, a8, a9, .d (.int (wh : Int)), a11, a12, .un, .un, .un, .un] ∧ TownOk t (10 * i + 10)) ⟨t1, _, _, rfl, ht1.mono (by omega)⟩ (fun i d E hd hE R2 hR2 => ?_) (fun E hE => ?_)
    · obtain ⟨t, a11, a12, rfl, ht⟩ := hE
      have hi : i < 4 := by have := (List.getElem?_eq_some_iff.mp hd).1; rwa [rangeD_length] at this
      walk_at "dl"
      refine seq_step fun R3 hR3 => ?_
      walk_at "dl"
      refine ⟨tkE _, small_line (by rw [encL_len]; omega), ns, t, _, _, 10 * i + 10, rfl, .inl rfl, ?_, hn, ht, by omega, fun x t2 hx ht2 => ?_⟩
      · intro z
        have hz := hgk [(r : Int), 0, 0, 0] (shapes_all (r := r) (a := r) (b := 0) (c := 0) (d := 0) (by omega))
        have : GG = [] := by
          cases GG with
          | nil => rfl
          | cons a l => cases z
        rw [this] at hz
        cases hz
      obtain ⟨p, hp, rfl⟩ := List.mem_map.mp hx
      obtain ⟨p', hp', rfl⟩ := List.mem_map.mp hp
      walk_at "dl"
      refine hR3 _ ?_
      clear hR3
      have hk := hgg p'.1 (List.mem_map.mpr ⟨p', hp', rfl⟩)
      obtain ⟨sh, hsh1, hsh2⟩ := hgj p'.1 (List.mem_map.mpr ⟨p', hp', rfl⟩)
      obtain ⟨f0, f1, f2, f3, hdn⟩ := dn_four (shapes_pos hsh1).1
      walk_at "dl"
      refine ⟨r, p'.1, rfl, hr, by rw [← hsh2, hdn]; rfl, ?_⟩
      rw [valN_encL tE_inj, hk]
      refine ⟨_, rfl, rfl, trivial, hR2 _ ⟨t2, _, _, rfl, ht2.mono (by omega)⟩⟩
    · obtain ⟨t, a11, a12, rfl, ht⟩ := hE
      rw [rangeD_length] at ht
      refine hR _ ?_
      clear hR
      refine seq_step fun R hR => ?_
      walk_at "dl"
      refine ⟨r, rfl, hr1, hr, fun most hmo hm40 => ?_⟩
      walk_at "dl"
      refine hR _ ?_
      clear hR
      have sp1 := spread_sum ko hmo
      have sp2 := spread_pts ko hmo
      have sp3 := spread_nonneg ko most
      obtain ⟨v, sp4, sp5⟩ := spread_last ko hmo
      refine seq_step fun R hR => ?_
      walk_at "dl"
      rw [hwh] at sp1 sp2
      refine ⟨_, rfl, ifF (by rw [sp1, decide_eq_true rfl]; rfl) (atD_last4 (d := .int v) (by rw [List.getLast?_map, sp4]; rfl) ⟨rfl, ifF (by rw [eqv_int, decide_eq_false (by omega)]) ⟨_, rfl, by unfold spreadT; simp, fun m hm1 hm2 => ?_⟩⟩)⟩
      have hm0 := (sp3 m hm1).1
      rw [if_neg (by omega)]
      refine hR _ ?_
      clear hR hm2 hm1
      refine seq_step fun R hR => ?_
      walk_at "dl"
      refine comp_map (E1 := [.d (.list (ns.map PyData.int)), .ol t, .d (.int (r : Int)), .d (.list ((shapesA r).map shE)), .d (.list (rowL r r)), .d (.dict (encL tE GG)), .d (.int ev), a7, a8, a9, .d (.int (wh : Int)), a11, a12, .d (.tuple ((spreadT r most).map PyData.int)), .un, .un, .un]) (List.range (most + 1)) (fun n : Nat => .tuple [.int (n : Int), .int ((getL (rowsT r 4) ((r : Int), (n : Int))).getD 0)]) (fun n : Nat => .int ((n : Int) * (getL (rowsT r 4) ((r : Int), (n : Int))).getD 0)) (fun Q h => ?_) (un2d (.inl rfl) (u8.elim (fun h => .inl (by rw [h]; rfl)) fun ⟨x, h⟩ => .inr ⟨x, by rw [h]; rfl⟩)) (small_line (by rw [List.length_range]; omega)) (fun x hx R2 hq => ?_) ?_
      · walk_at "dl"
        have he : enumD ((spreadT r most).map PyData.int) = (List.range (most + 1)).map fun n : Nat => .tuple [.int (n : Int), .int ((getL (rowsT r 4) ((r : Int), (n : Int))).getD 0)] := by
          unfold spreadT
          rw [List.map_map, enum_range]; rfl
        rw [he]
        exact h
      · walk_at "dl"
        have hx := List.mem_range.mp hx
        have hb := sp3 _ (show (getL (rowsT r 4) ((r : Int), (x : Int))).getD 0 ∈ spreadT r most from List.mem_map.mpr ⟨x, List.mem_range.mpr hx, rfl⟩)
        have h4 : (8192 : Int) ^ 4 = 4503599627370496 := by decide
        exact ⟨cmul_small (by omega) (by omega), hq _ rfl⟩
      walk_at "dl"
      have hh : honS r ≤ 10 ∧ 0 ≤ honS r := (by decide : ∀ z ∈ List.range 14, honS z ≤ 10 ∧ 0 ≤ honS z) r (List.mem_range.mpr (by omega))
      refine ⟨(List.range (most + 1)).map fun n : Nat => (n : Int) * (getL (rowsT r 4) ((r : Int), (n : Int))).getD 0, by rw [List.map_map]; rfl, small_line (by decide), (([4, 3, 2, 1] : List Int).take r), ?_, cmul_small (by omega) (by show (honS r).natAbs < 2 ^ 64; omega), ifF (by rw [sp2, decide_eq_true (show (wh : Int) * honS r = (wh : Int) * (([4, 3, 2, 1] : List Int).take r).sum from rfl)]; rfl) (hR _ ?_)⟩
      · have := cut_to4 (xs := [PyData.int 4, .int 3, .int 2, .int 1]) r
        rw [this, List.map_take]; rfl
      clear hR sp1 sp2 sp3 sp4 hh
      have hwp := ko.pos
      rw [hwh] at hwp
      refine seq_step fun R hR => ?_
      walk_at "dl"
      unfold tCallX
      walk_at "dl"
      refine ⟨ns, t, (wh : Int), 50, rfl, by omega, hn, ht.mono (by omega), by decide, fun k t2 k0 k1 ht2 => ?_⟩
      obtain ⟨k, rfl⟩ : ∃ n : Nat, k = (n : Int) := ⟨k.toNat, by omega⟩
      walk_at "dl"
      refine ⟨r, k, rfl, hr, by omega, hR _ ?_⟩
      clear hR
      have hlen : (un (allC r) r k).length = r := un_len (by rw [allC_len]; omega)
      have hsub : ∀ c ∈ un (allC r) r k, 0 ≤ c.1 ∧ c.1 ≤ 3 := fun c hc => allC_suit ((un_sub (allC r) r k).subset hc)
      generalize un (allC r) r k = hd at hlen hsub ⊢
      have hin := shape_in hlen hsub
      refine seq_step fun R hR => ?_
      walk_at "dl"
      refine ⟨hd, rfl, by omega, hR _ ?_⟩
      clear hR
      have hps := shapes_pos hin
      have hpc := hpg _ hin
      have hev := hevp _ hin
      have hgd := hgg _ (hgk _ hin)
      have hfm : ∀ m ∈ shapeF hd, chI r m ≤ prodC r (shapeF hd) := fun m hm => prod_ge hps.2.1 hm
      obtain ⟨f0, f1, f2, f3, hdn⟩ := dn_four hps.1
      walk_at "dl"
      refine ⟨shapeF hd, rfl, ?_⟩
      rw [decide_eq_true hps.2.2]
      walk_at "dl"
      refine ⟨hd, rfl, by omega, ?_⟩
      have hke : PyData.tuple (List.map PyData.int (dnI (shapeF hd))) = tE (dnI (shapeF hd)) := rfl
      rw [hke]
      refine ⟨by rw [hdn]; rfl, ?_⟩
      rw [valN_encL tE_inj, hgd]
      show ∃ ns_1, _
      refine ⟨shapeF hd, rfl, by rw [hps.1]; decide, fun m hm _ => ?_⟩
      have hmr := hps.2.1 m hm
      obtain ⟨m, rfl⟩ : ∃ n : Nat, m = (n : Int) := ⟨m.toNat, by omega⟩
      have hcm := hfm _ hm
      rw [chI_nat (by omega) (by omega), Int.toNat_natCast, Int.toNat_natCast] at hcm
      refine atD_at (by omega) (by rw [Int.toNat_natCast]; exact rowL_get (by omega)) ?_
      show (match PyData.bool (decide (((ch r m : Nat) : Int) ≤ patC r (dnI (shapeF hd)))) with | .bool true => _ | .bool false => _ | x => False)
      rw [decide_eq_true (by omega)]
      refine ⟨hd, rfl, by omega, small_line (by decide), ⟨rfl, shaped_of (n := 1) rfl⟩, ?_⟩
      have : ([PyData.bool (decide (0 < ev)), .bool false].any fun z => z.eqv (.bool (evenF (shapeF hd)))) = true := by
        rw [List.any_cons, List.any_cons, eqv_bool, eqv_bool]
        cases he : evenF (shapeF hd) with
        | true => rw [decide_eq_true (hev he)]; rfl
        | false => simp
      rw [this]
      exact q
end DL
set_option Elab.async false
set_option linter.all false
set_option maxRecDepth 100000
set_option maxHeartbeats 4000000
namespace LW
open PySem PySem.Spec PyProof.Rows L2 DL
def topS (i : Nat) : Stmt := PySem.Challenge.pw_boardcalls_k04_whole_hands_by_shapes.main.body.getD i (.Pass ⟨0, 0, 0, 0⟩)
section
variable {P : Program} {w : World} {K : PySem.W.Frag} {mg : Str → Option Value} {base : Heap}
abbrev s_shape_of : Stmt := topS 1
abbrev N_shape_of : List Str := ["hand", "suits", "suit", "rank"]
theorem sc_shape_of : FnScope N_shape_of ["hand"] (defScope s_shape_of) := ⟨rfl, rfl, rfl, by decide +kernel, rfl, by decide +kernel, by decide +kernel⟩
theorem dv_shape_of {f : Addr} {k : Nat} (cdv : Value) (A : Around) (outer : List PySem.Env) (s : Shared) (H : Hp) (E : XK) (hr : Room k (A.deeper (envOfC "shape_of" (defScope s_shape_of) s.heap.objs.size f cdv))) (G : Gh) (hG : G.slots = []) :
    SDs (cxOf CX0 P w K mg base N_shape_of "shape_of" (defScope s_shape_of) f cdv A outer s H E).nox G (defBody s_shape_of) (tb_shape_of) := by
  unfold tb_shape_of
  exact sds_cons (sd_setC [("suit", 2), ("rank", 3)] (ns hG (by decide)) rfl sc_shape_of.nd rfl rfl (sw_true rfl rfl rfl (by decide +kernel)) rfl (nsA hG (by decide)) (id_tup (ed_var 0)) (blkOk_by (N := N_shape_of) (sc := defScope s_shape_of) (by decide +kernel)) (fun _ q1 _ _ _ _ _ => gd_tup rfl (gds_cons (gd_name (ns (q1.trans hG) (by decide)) (by decide) sc_shape_of.nd rfl (by first | exact Or.inl rfl | exact Or.inr rfl)) (gds_cons (gd_name (ns (q1.trans hG) (by decide)) (by decide) sc_shape_of.nd rfl (by first | exact Or.inl rfl | exact Or.inr rfl)) (gds_nil)))) (fun _ q1 _ _ _ _ _ => ebs_nil) (fun _ q1 _ _ _ _ _ => ed_var 2))
      (sds_one (sd_ret (ed_tup (eds_cons (ed_countL (u65 hr) (ed_var 1) (ed_int)) (eds_cons (ed_countL (u65 hr) (ed_var 1) (ed_int)) (eds_cons (ed_countL (u65 hr) (ed_var 1) (ed_int)) (eds_cons (ed_countL (u65 hr) (ed_var 1) (ed_int)) (eds_nil))))))))
abbrev s_pattern_of : Stmt := topS 2
abbrev N_pattern_of : List Str := ["hand"]
theorem sc_pattern_of : FnScope N_pattern_of ["hand"] (defScope s_pattern_of) := ⟨rfl, rfl, rfl, by decide +kernel, rfl, by decide +kernel, by decide +kernel⟩
theorem dv_pattern_of {f : Addr} {k : Nat} (b_sorted : mg "sorted" = none) (b_tuple : mg "tuple" = none) {sp_shape_of : SpD} {f_shape_of : Addr} {fd_shape_of : FuncData} {k_shape_of : Nat} (C_shape_of : FnOk P w K mg base CX0 k_shape_of f_shape_of fd_shape_of ["hand"] (spL K sp_shape_of)) (h_shape_of : k_shape_of ≤ k) (C_shape_of_g : mg "shape_of" = some (.ref f_shape_of)) (C_shape_of_k : PySem.W.keepIn K (.ref f_shape_of) = true) (C_shape_of_b : Binds K fd_shape_of ["hand"] []) (cdv : Value) (A : Around) (outer : List PySem.Env) (s : Shared) (H : Hp) (E : XK) (hr : Room k (A.deeper (envOfC "pattern_of" (defScope s_pattern_of) s.heap.objs.size f cdv))) (G : Gh) (hG : G.slots = []) :
    SDs (cxOf CX0 P w K mg base N_pattern_of "pattern_of" (defScope s_pattern_of) f cdv A outer s H E).nox G (defBody s_pattern_of) (tb_pattern_of sp_shape_of) := by
  unfold tb_pattern_of
  exact sds_one (sd_ret (ed_caT1 cd_tuple (ED.er (EL.ed (el_sortRev (u65 hr) (ED.er (ed_call C_shape_of (hr.mono h_shape_of) rfl C_shape_of_g C_shape_of_k C_shape_of_b (ea_v (ed_var 0) (ea_nil)))) rfl b_sorted))) rfl b_tuple bb_tuple))
abbrev s_is_even_shape : Stmt := topS 3
abbrev N_is_even_shape : List Str := ["shape"]
theorem sc_is_even_shape : FnScope N_is_even_shape ["shape"] (defScope s_is_even_shape) := ⟨rfl, rfl, rfl, by decide +kernel, rfl, by decide +kernel, by decide +kernel⟩
theorem dv_is_even_shape {f : Addr} {k : Nat} (b_min : mg "min" = none) (cdv : Value) (A : Around) (outer : List PySem.Env) (s : Shared) (H : Hp) (E : XK) (hr : Room k (A.deeper (envOfC "is_even_shape" (defScope s_is_even_shape) s.heap.objs.size f cdv))) (G : Gh) (hG : G.slots = []) :
    SDs (cxOf CX0 P w K mg base N_is_even_shape "is_even_shape" (defScope s_is_even_shape) f cdv A outer s H E).nox G (defBody s_is_even_shape) (tb_is_even_shape) := by
  unfold tb_is_even_shape
  exact sds_one (sd_ret (ed_and (ed_cmp od_ge (ed_ca1 (cd_minT rfl) (ED.er (ed_var 0)) rfl b_min bb_min) (ED.er (ed_int)) (nomark _)) (ed_one (ed_cmp od_le (ed_countT (u65 hr) (ed_var 0) (ed_int)) (ED.er (ed_int)) (nomark _)))))
abbrev s_is_even : Stmt := topS 4
abbrev N_is_even : List Str := ["hand"]
theorem sc_is_even : FnScope N_is_even ["hand"] (defScope s_is_even) := ⟨rfl, rfl, rfl, by decide +kernel, rfl, by decide +kernel, by decide +kernel⟩
theorem dv_is_even {f : Addr} {k : Nat} {sp_shape_of : SpD} {f_shape_of : Addr} {fd_shape_of : FuncData} {k_shape_of : Nat} (C_shape_of : FnOk P w K mg base CX0 k_shape_of f_shape_of fd_shape_of ["hand"] (spL K sp_shape_of)) (h_shape_of : k_shape_of ≤ k) (C_shape_of_g : mg "shape_of" = some (.ref f_shape_of)) (C_shape_of_k : PySem.W.keepIn K (.ref f_shape_of) = true) (C_shape_of_b : Binds K fd_shape_of ["hand"] []) {sp_is_even_shape : SpD} {f_is_even_shape : Addr} {fd_is_even_shape : FuncData} {k_is_even_shape : Nat} (C_is_even_shape : FnOk P w K mg base CX0 k_is_even_shape f_is_even_shape fd_is_even_shape ["shape"] (spL K sp_is_even_shape)) (h_is_even_shape : k_is_even_shape ≤ k) (C_is_even_shape_g : mg "is_even_shape" = some (.ref f_is_even_shape)) (C_is_even_shape_k : PySem.W.keepIn K (.ref f_is_even_shape) = true) (C_is_even_shape_b : Binds K fd_is_even_shape ["shape"] []) (cdv : Value) (A : Around) (outer : List PySem.Env) (s : Shared) (H : Hp) (E : XK) (hr : Room k (A.deeper (envOfC "is_even" (defScope s_is_even) s.heap.objs.size f cdv))) (G : Gh) (hG : G.slots = []) :
    SDs (cxOf CX0 P w K mg base N_is_even "is_even" (defScope s_is_even) f cdv A outer s H E).nox G (defBody s_is_even) (tb_is_even sp_shape_of sp_is_even_shape) := by
  unfold tb_is_even
  exact sds_one (sd_ret (ed_call C_is_even_shape (hr.mono h_is_even_shape) rfl C_is_even_shape_g C_is_even_shape_k C_is_even_shape_b (ea_v (ed_call C_shape_of (hr.mono h_shape_of) rfl C_shape_of_g C_shape_of_k C_shape_of_b (ea_v (ed_var 0) (ea_nil))) (ea_nil))))
abbrev s_law_draw : Stmt := topS 23
abbrev N_law_draw : List Str := ["script", "town", "many", "k", "cell", "digits", "number", "more"]
theorem sc_law_draw : FnScope N_law_draw ["script", "town", "many"] (defScope s_law_draw) := ⟨rfl, rfl, rfl, by decide +kernel, rfl, by decide +kernel, by decide +kernel⟩
theorem dv_law_draw {f : Addr} {k : Nat} (b_len : mg "len" = none) (b_abs : mg "abs" = none) (b_max : mg "max" = none) (cdv : Value) (A : Around) (outer : List PySem.Env) (s : Shared) (H : Hp) (E : XK) (hr : Room k (A.deeper (envOfC "_law_draw" (defScope s_law_draw) s.heap.objs.size f cdv))) (G : Gh) (hG : G.slots = [1]) :
    SDs (cxOf CX0 P w K mg base N_law_draw "_law_draw" (defScope s_law_draw) f cdv A outer s H E).nox G (defBody s_law_draw) (tb_law_draw) := by
  unfold tb_law_draw
  exact sds_cons (sd_if (eb_not (eb_tru (er_var 1))) (sds_one (sd_expr (ed_app 1 (ed_ca1 (cd_max rfl) (ED.er (EL.ed (el_op od_cat (EL.ed (el_comp [("cell", 4)] rfl sc_law_draw.nd rfl (nsA hG (by decide)) (id_lst (ed_var 0)) (blkOk_by (N := N_law_draw) (sc := defScope s_law_draw) (by decide +kernel)) (fun _ q1 _ _ _ _ _ => gd_name (ns (q1.trans hG) (by decide)) (by decide) sc_law_draw.nd rfl (by first | exact Or.inl rfl | exact Or.inr rfl)) (fun _ q1 _ _ _ _ _ => ebs_nil) (fun _ q1 _ _ _ _ _ => ed_ca1 cd_abs (ED.er (ed_var 4)) rfl b_abs bb_abs))) (ED.er (EL.ed (el_lst (eds_cons (ed_int) (eds_nil)))))))) rfl b_max bb_max)))) (sds_nil))
      (sds_cons (sd_expr (ed_app 1 (ed_int)))
      (sds_cons (sd_set (ns hG (by decide)) sc_law_draw.nd rfl (by first | exact Or.inl rfl | exact Or.inr rfl) (ed_ca1 cd_len (er_var 1) rfl b_len bb_len))
      (sds_cons (sd_set (ns hG (by decide)) sc_law_draw.nd rfl (by first | exact Or.inl rfl | exact Or.inr rfl) (ed_if (eb_tru (ED.er (ed_var 0))) (ed_ix (ed_var 0) (ed_op od_mod (ed_var 3) (ED.er (ed_ca1 cd_len (ED.er (ed_var 0)) rfl b_len bb_len)))) (ed_int)))
      (sds_cons (sd_set (ns hG (by decide)) sc_law_draw.nd rfl (by first | exact Or.inl rfl | exact Or.inr rfl) (ed_op od_mod (ed_ixO 1 (ed_int)) (ED.er (ed_int))))
      (sds_cons (sd_setIx 1 (ed_int) (ed_op od_div (ed_ixO 1 (ed_int)) (ED.er (ed_int))))
      (sds_cons (sd_set (ns hG (by decide)) sc_law_draw.nd rfl (by first | exact Or.inl rfl | exact Or.inr rfl) (ed_op od_mod (ed_op od_add (ed_op od_add (ed_var 4) (ED.er (ed_op od_mul (ed_int) (ED.er (ed_var 5))))) (ED.er (ed_op od_mul (ed_int) (ED.er (ed_var 3))))) (ED.er (ed_int))))
      (sds_cons (sd_set (ns hG (by decide)) sc_law_draw.nd rfl (by first | exact Or.inl rfl | exact Or.inr rfl) (ed_op od_mod (ed_op od_mul (ed_op od_mod (ed_op od_mul (ed_var 6) (ED.er (ed_var 6))) (ED.er (ed_int))) (ED.er (ed_int))) (ED.er (ed_int))))
      (sds_cons (sd_set (ns hG (by decide)) sc_law_draw.nd rfl (by first | exact Or.inl rfl | exact Or.inr rfl) (ed_op od_mod (ed_op od_mul (ed_op od_mod (ed_op od_mul (ed_var 6) (ED.er (ed_var 6))) (ED.er (ed_int))) (ED.er (ed_int))) (ED.er (ed_int))))
      (sds_one (sd_ret (ed_op od_mod (ed_op od_add (ed_op od_mul (ed_op od_div (ed_var 6) (ED.er (ed_int))) (ED.er (ed_int))) (ED.er (ed_op od_div (ed_var 7) (ED.er (ed_int))))) (ED.er (ed_var 2)))))))))))))
abbrev s_all_cards : Stmt := topS 18
abbrev N_all_cards : List Str := ["ranks", "found", "suit", "rank"]
theorem sc_all_cards : FnScope N_all_cards ["ranks"] (defScope s_all_cards) := ⟨rfl, rfl, rfl, by decide +kernel, rfl, by decide +kernel, by decide +kernel⟩
theorem dv_all_cards {f : Addr} {k : Nat} (b_range : mg "range" = none) (cdv : Value) (A : Around) (outer : List PySem.Env) (s : Shared) (H : Hp) (E : XK) (hr : Room k (A.deeper (envOfC "all_cards" (defScope s_all_cards) s.heap.objs.size f cdv))) (G : Gh) (hG : G.slots = []) :
    SDs (cxOf CX0 P w K mg base N_all_cards "all_cards" (defScope s_all_cards) f cdv A outer s H E).nox G (defBody s_all_cards) (tb_all_cards) := by
  unfold tb_all_cards
  exact sds_cons (sd_setL (ns hG (by decide)) sc_all_cards.nd rfl (by first | exact Or.inl rfl | exact Or.inr rfl) (el_lst (eds_nil)))
      (sds_cons (sd_for (ms := [2]) PassesOwn.never rfl (id_range1 rfl b_range (ed_int)) (gd_name (ns hG (by decide)) (by decide) sc_all_cards.nd rfl (by first | exact Or.inl rfl | exact Or.inr rfl)) (sds_one (sd_expr (ed_extd 1 (el_comp [("rank", 3)] rfl sc_all_cards.nd rfl (nsA hG (by decide)) (id_range2 rfl b_range (ed_int) (ed_op od_add (ed_var 0) (ED.er (ed_int)))) (blkOk_by (N := N_all_cards) (sc := defScope s_all_cards) (by decide +kernel)) (fun _ q1 _ _ _ _ _ => gd_name (ns (q1.trans hG) (by decide)) (by decide) sc_all_cards.nd rfl (by first | exact Or.inl rfl | exact Or.inr rfl)) (fun _ q1 _ _ _ _ _ => ebs_nil) (fun _ q1 _ _ _ _ _ => ed_tup (eds_cons (ed_var 2) (eds_cons (ed_var 3) (eds_nil)))))))))
      (sds_one (sd_ret (ed_fzv 1))))
abbrev s_choose : Stmt := topS 6
abbrev N_choose : List Str := ["many", "size", "found", "k"]
theorem sc_choose : FnScope N_choose ["many", "size"] (defScope s_choose) := ⟨rfl, rfl, rfl, by decide +kernel, rfl, by decide +kernel, by decide +kernel⟩
theorem dv_choose {f : Addr} {k : Nat} (b_range : mg "range" = none) (cdv : Value) (A : Around) (outer : List PySem.Env) (s : Shared) (H : Hp) (E : XK) (hr : Room k (A.deeper (envOfC "choose" (defScope s_choose) s.heap.objs.size f cdv))) (G : Gh) (hG : G.slots = []) :
    SDs (cxOf CX0 P w K mg base N_choose "choose" (defScope s_choose) f cdv A outer s H E).nox G (defBody s_choose) (tb_choose) := by
  unfold tb_choose
  exact sds_cons (sd_if (eb_not (eb_chain od_le od_le (ed_int) (ed_var 1) (ed_var 0))) (sds_one (sd_ret (ed_int))) (sds_nil))
      (sds_cons (sd_set (ns hG (by decide)) sc_choose.nd rfl (by first | exact Or.inl rfl | exact Or.inr rfl) (ed_int))
      (sds_cons (sd_for (ms := [3]) PassesOwn.never rfl (id_range1 rfl b_range (ed_var 1)) (gd_name (ns hG (by decide)) (by decide) sc_choose.nd rfl (by first | exact Or.inl rfl | exact Or.inr rfl)) (sds_one (sd_set (ns hG (by decide)) sc_choose.nd rfl (by first | exact Or.inl rfl | exact Or.inr rfl) (ed_op od_div (ed_op od_mul (ed_var 2) (ED.er (ed_op od_sub (ed_var 0) (ED.er (ed_var 3))))) (ED.er (ed_op od_add (ed_var 3) (ED.er (ed_int))))))))
      (sds_one (sd_ret (ed_var 2)))))
abbrev s_taken_at : Stmt := topS 19
abbrev N_taken_at : List Str := ["pool", "size", "number", "found", "at", "card", "ways"]
theorem sc_taken_at : FnScope N_taken_at ["pool", "size", "number"] (defScope s_taken_at) := ⟨rfl, rfl, rfl, by decide +kernel, rfl, by decide +kernel, by decide +kernel⟩
theorem dv_taken_at {f : Addr} {k : Nat} (b_tuple : mg "tuple" = none) (b_enumerate : mg "enumerate" = none) (b_len : mg "len" = none) {sp_choose : SpD} {f_choose : Addr} {fd_choose : FuncData} {k_choose : Nat} (C_choose : FnOk P w K mg base CX0 k_choose f_choose fd_choose ["many", "size"] (spL K sp_choose)) (h_choose : k_choose ≤ k) (C_choose_g : mg "choose" = some (.ref f_choose)) (C_choose_k : PySem.W.keepIn K (.ref f_choose) = true) (C_choose_b : Binds K fd_choose ["many", "size"] []) (cdv : Value) (A : Around) (outer : List PySem.Env) (s : Shared) (H : Hp) (E : XK) (hr : Room k (A.deeper (envOfC "taken_at" (defScope s_taken_at) s.heap.objs.size f cdv))) (G : Gh) (hG : G.slots = []) :
    SDs (cxOf CX0 P w K mg base N_taken_at "taken_at" (defScope s_taken_at) f cdv A outer s H E).nox G (defBody s_taken_at) (tb_taken_at sp_choose) := by
  unfold tb_taken_at
  exact sds_cons (sd_setL (ns hG (by decide)) sc_taken_at.nd rfl (by first | exact Or.inl rfl | exact Or.inr rfl) (el_lst (eds_nil)))
      (sds_cons (sd_for (ms := [4, 5]) PassesOwn.never rfl (id_enumL (ed_var 0) rfl b_enumerate) (gd_tup rfl (gds_cons (gd_name (ns hG (by decide)) (by decide) sc_taken_at.nd rfl (by first | exact Or.inl rfl | exact Or.inr rfl)) (gds_cons (gd_name (ns hG (by decide)) (by decide) sc_taken_at.nd rfl (by first | exact Or.inl rfl | exact Or.inr rfl)) (gds_nil)))) (sds_cons (sd_set (ns hG (by decide)) sc_taken_at.nd rfl (by first | exact Or.inl rfl | exact Or.inr rfl) (ed_call C_choose (hr.mono h_choose) rfl C_choose_g C_choose_k C_choose_b (ea_v (ed_op od_sub (ed_op od_sub (ed_ca1 cd_len (ED.er (ed_var 0)) rfl b_len bb_len) (ED.er (ed_var 4))) (ED.er (ed_int))) (ea_v (ed_op od_sub (ed_op od_sub (ed_var 1) (ED.er (ed_ca1 cd_len (er_var 3) rfl b_len bb_len))) (ED.er (ed_int))) (ea_nil)))))
      (sds_one (sd_if (EW.eb (ew_and (eb_cmp od_lt (ed_ca1 cd_len (er_var 3) rfl b_len bb_len) (ED.er (ed_var 1)) (nomark _)) (ew_and1 (eb_cmp od_lt (ed_var 2) (ED.er (ed_var 6)) (nomark _))))) (sds_one (sd_expr (ed_app 3 (ed_var 5)))) (sds_one (sd_if (eb_cmp od_lt (ed_ca1 cd_len (er_var 3) rfl b_len bb_len) (ED.er (ed_var 1)) (nomark _)) (sds_one (sd_set (ns hG (by decide)) sc_taken_at.nd rfl (by first | exact Or.inl rfl | exact Or.inr rfl) (ed_op od_sub (ed_var 2) (ED.er (ed_var 6))))) (sds_nil)))))))
      (sds_one (sd_ret (ed_caT1 cd_tuple (er_var 3) rfl b_tuple bb_tuple))))
abbrev s_hands_in_all : Stmt := topS 7
abbrev N_hands_in_all : List Str := ["ranks"]
theorem sc_hands_in_all : FnScope N_hands_in_all ["ranks"] (defScope s_hands_in_all) := ⟨rfl, rfl, rfl, by decide +kernel, rfl, by decide +kernel, by decide +kernel⟩
theorem dv_hands_in_all {f : Addr} {k : Nat} {sp_choose : SpD} {f_choose : Addr} {fd_choose : FuncData} {k_choose : Nat} (C_choose : FnOk P w K mg base CX0 k_choose f_choose fd_choose ["many", "size"] (spL K sp_choose)) (h_choose : k_choose ≤ k) (C_choose_g : mg "choose" = some (.ref f_choose)) (C_choose_k : PySem.W.keepIn K (.ref f_choose) = true) (C_choose_b : Binds K fd_choose ["many", "size"] []) (cdv : Value) (A : Around) (outer : List PySem.Env) (s : Shared) (H : Hp) (E : XK) (hr : Room k (A.deeper (envOfC "hands_in_all" (defScope s_hands_in_all) s.heap.objs.size f cdv))) (G : Gh) (hG : G.slots = []) :
    SDs (cxOf CX0 P w K mg base N_hands_in_all "hands_in_all" (defScope s_hands_in_all) f cdv A outer s H E).nox G (defBody s_hands_in_all) (tb_hands_in_all sp_choose) := by
  unfold tb_hands_in_all
  exact sds_one (sd_ret (ed_call C_choose (hr.mono h_choose) rfl C_choose_g C_choose_k C_choose_b (ea_v (ed_op od_mul (ed_int) (ED.er (ed_var 0))) (ea_v (ed_var 0) (ea_nil)))))
abbrev s_hand_at : Stmt := topS 20
abbrev N_hand_at : List Str := ["ranks", "number"]
theorem sc_hand_at : FnScope N_hand_at ["ranks", "number"] (defScope s_hand_at) := ⟨rfl, rfl, rfl, by decide +kernel, rfl, by decide +kernel, by decide +kernel⟩
theorem dv_hand_at {f : Addr} {k : Nat} {sp_all_cards : SpD} {f_all_cards : Addr} {fd_all_cards : FuncData} {k_all_cards : Nat} (C_all_cards : FnOk P w K mg base CX0 k_all_cards f_all_cards fd_all_cards ["ranks"] (spL K sp_all_cards)) (h_all_cards : k_all_cards ≤ k) (C_all_cards_g : mg "all_cards" = some (.ref f_all_cards)) (C_all_cards_k : PySem.W.keepIn K (.ref f_all_cards) = true) (C_all_cards_b : Binds K fd_all_cards ["ranks"] []) {sp_taken_at : SpD} {f_taken_at : Addr} {fd_taken_at : FuncData} {k_taken_at : Nat} (C_taken_at : FnOk P w K mg base CX0 k_taken_at f_taken_at fd_taken_at ["pool", "size", "number"] (spL K sp_taken_at)) (h_taken_at : k_taken_at ≤ k) (C_taken_at_g : mg "taken_at" = some (.ref f_taken_at)) (C_taken_at_k : PySem.W.keepIn K (.ref f_taken_at) = true) (C_taken_at_b : Binds K fd_taken_at ["pool", "size", "number"] []) {sp_hands_in_all : SpD} {f_hands_in_all : Addr} {fd_hands_in_all : FuncData} {k_hands_in_all : Nat} (C_hands_in_all : FnOk P w K mg base CX0 k_hands_in_all f_hands_in_all fd_hands_in_all ["ranks"] (spL K sp_hands_in_all)) (h_hands_in_all : k_hands_in_all ≤ k) (C_hands_in_all_g : mg "hands_in_all" = some (.ref f_hands_in_all)) (C_hands_in_all_k : PySem.W.keepIn K (.ref f_hands_in_all) = true) (C_hands_in_all_b : Binds K fd_hands_in_all ["ranks"] []) {A_NoHand : Addr} (x_NoHand : PySem.W.excIn K A_NoHand [.type "ValueError", .type "Exception", .type "BaseException", .type "object"] "ValueError.__new__" = true) (g_NoHand : mg "NoHand" = some (.ref A_NoHand)) (k_NoHand : PySem.W.keepIn K (.ref A_NoHand) = true) (b_NoHand : PySem.W.subIn K (.ref A_NoHand) (.type "BaseException") = some true) (t_NoHand : PySem.W.typeIn K (.ref A_NoHand) = some (.type "type")) (cdv : Value) (A : Around) (outer : List PySem.Env) (s : Shared) (H : Hp) (E : XK) (hr : Room k (A.deeper (envOfC "hand_at" (defScope s_hand_at) s.heap.objs.size f cdv))) (G : Gh) (hG : G.slots = []) (WD : WDt) (hW : Wish K G WD (fun cls d _ H' => E cls d H')) :
    SDs (cxOf (L2.CX P w) P w K mg base N_hand_at "hand_at" (defScope s_hand_at) f cdv A outer s H E) G (defBody s_hand_at) (tb_hand_at sp_all_cards sp_taken_at sp_hands_in_all (.ref A_NoHand) WD) := by
  unfold tb_hand_at
  exact sds_cons (sd_if (eb_not (eb_chain od_le od_lt (ed_int) (ed_var 1) (ed_call C_hands_in_all (hr.mono h_hands_in_all) rfl C_hands_in_all_g C_hands_in_all_k C_hands_in_all_b (ea_v (ed_var 0) (ea_nil))))) (sds_one (sd_raise rfl (takes_of rfl rfl rfl rfl) hW (pmk_own0 PySem.F.excBase_ValueError x_NoHand g_NoHand k_NoHand (raises_own b_NoHand t_NoHand) rfl))) (sds_nil))
      (SDs.nox (sds_one (sd_ret (ed_call C_taken_at (hr.mono h_taken_at) rfl C_taken_at_g C_taken_at_k C_taken_at_b (ea_v (ed_call C_all_cards (hr.mono h_all_cards) rfl C_all_cards_g C_all_cards_k C_all_cards_b (ea_v (ed_var 0) (ea_nil))) (ea_v (ed_var 0) (ea_v (ed_var 1) (ea_nil))))))))
abbrev s_suit_ways : Stmt := topS 12
abbrev N_suit_ways : List Str := ["ranks", "honours", "sets", "points", "found", "many", "have", "more", "key"]
theorem sc_suit_ways : FnScope N_suit_ways ["ranks"] (defScope s_suit_ways) := ⟨rfl, rfl, rfl, by decide +kernel, rfl, by decide +kernel, by decide +kernel⟩
theorem dv_suit_ways {f : Addr} {k : Nat} (b_len : mg "len" = none) (b_range : mg "range" = none) {sp_choose : SpD} {f_choose : Addr} {fd_choose : FuncData} {k_choose : Nat} (C_choose : FnOk P w K mg base CX0 k_choose f_choose fd_choose ["many", "size"] (spL K sp_choose)) (h_choose : k_choose ≤ k) (C_choose_g : mg "choose" = some (.ref f_choose)) (C_choose_k : PySem.W.keepIn K (.ref f_choose) = true) (C_choose_b : Binds K fd_choose ["many", "size"] []) (cdv : Value) (A : Around) (outer : List PySem.Env) (s : Shared) (H : Hp) (E : XK) (hr : Room k (A.deeper (envOfC "suit_ways" (defScope s_suit_ways) s.heap.objs.size f cdv))) (G : Gh) (hG : G.slots = []) :
    SDs (cxOf CX0 P w K mg base N_suit_ways "suit_ways" (defScope s_suit_ways) f cdv A outer s H E).nox G (defBody s_suit_ways) (tb_suit_ways sp_choose) := by
  unfold tb_suit_ways
  exact sds_cons (sd_setC [("points", 3)] (ns hG (by decide)) rfl sc_suit_ways.nd rfl rfl (sw_true rfl rfl rfl (by decide +kernel)) rfl (nsA hG (by decide)) (id_tup (ed_tup (eds_cons (ed_int) (eds_cons (ed_int) (eds_cons (ed_int) (eds_cons (ed_int) (eds_nil))))))) (blkOk_by (N := N_suit_ways) (sc := defScope s_suit_ways) (by decide +kernel)) (fun _ q2 _ _ _ _ _ => gd_name (ns (q2.trans hG) (by decide)) (by decide) sc_suit_ways.nd rfl (by first | exact Or.inl rfl | exact Or.inr rfl)) (fun _ q2 _ _ _ _ _ => ebs_one (eb_cmp od_lt (ed_op od_sub (ed_int) (ED.er (ed_var 3))) (ED.er (ed_var 0)) (nomark _))) (fun _ q2 _ _ _ _ _ => ed_var 3))
      (sds_cons (sd_set (ns hG (by decide)) sc_suit_ways.nd rfl (by first | exact Or.inl rfl | exact Or.inr rfl) (EL.ed (el_lst (eds_cons (ed_tup (eds_cons (ed_int) (eds_cons (ed_int) (eds_nil)))) (eds_nil)))))
      (sds_cons (sd_for (ms := [3]) PassesOwn.never rfl (id_lst (ed_var 1)) (gd_name (ns hG (by decide)) (by decide) sc_suit_ways.nd rfl (by first | exact Or.inl rfl | exact Or.inr rfl)) (sds_one (sd_set (ns hG (by decide)) sc_suit_ways.nd rfl (by first | exact Or.inl rfl | exact Or.inr rfl) (EL.ed (el_op od_cat (ed_var 2) (ED.er (EL.ed (el_comp [("many", 5), ("have", 6)] rfl sc_suit_ways.nd rfl (nsA hG (by decide)) (id_lst (ed_var 2)) (blkOk_by (N := N_suit_ways) (sc := defScope s_suit_ways) (by decide +kernel)) (fun _ q1 _ _ _ _ _ => gd_tup rfl (gds_cons (gd_name (ns (q1.trans hG) (by decide)) (by decide) sc_suit_ways.nd rfl (by first | exact Or.inl rfl | exact Or.inr rfl)) (gds_cons (gd_name (ns (q1.trans hG) (by decide)) (by decide) sc_suit_ways.nd rfl (by first | exact Or.inl rfl | exact Or.inr rfl)) (gds_nil)))) (fun _ q1 _ _ _ _ _ => ebs_nil) (fun _ q1 _ _ _ _ _ => ed_tup (eds_cons (ed_op od_add (ed_var 5) (ED.er (ed_int))) (eds_cons (ed_op od_add (ed_var 6) (ED.er (ed_var 3))) (eds_nil))))))))))))
      (sds_cons (sd_setM (ns hG (by decide)) sc_suit_ways.nd rfl (by first | exact Or.inl rfl | exact Or.inr rfl) (em_dt))
      (sds_cons (sd_for (ms := [5, 6]) PassesOwn.never rfl (id_lst (ed_var 2)) (gd_tup rfl (gds_cons (gd_name (ns hG (by decide)) (by decide) sc_suit_ways.nd rfl (by first | exact Or.inl rfl | exact Or.inr rfl)) (gds_cons (gd_name (ns hG (by decide)) (by decide) sc_suit_ways.nd rfl (by first | exact Or.inl rfl | exact Or.inr rfl)) (gds_nil)))) (sds_one (sd_for (ms := [7]) PassesOwn.never rfl (id_range1 rfl b_range (ed_op od_add (ed_op od_sub (ed_var 0) (ED.er (ed_ca1 cd_len (ED.er (ed_var 1)) rfl b_len bb_len))) (ED.er (ed_int)))) (gd_name (ns hG (by decide)) (by decide) sc_suit_ways.nd rfl (by first | exact Or.inl rfl | exact Or.inr rfl)) (sds_cons (sd_set (ns hG (by decide)) sc_suit_ways.nd rfl (by first | exact Or.inl rfl | exact Or.inr rfl) (ed_tup (eds_cons (ed_op od_add (ed_var 5) (ED.er (ed_var 7))) (eds_cons (ed_var 6) (eds_nil)))))
      (sds_one (sd_dputV 4 (u65 hr) (ed_var 8) (ed_op od_add (ed_dget2V 4 (u65 hr) (ed_var 8) (ed_int)) (ED.er (ed_call C_choose (hr.mono h_choose) rfl C_choose_g C_choose_k C_choose_b (ea_v (ed_op od_sub (ed_var 0) (ED.er (ed_ca1 cd_len (ED.er (ed_var 1)) rfl b_len bb_len))) (ea_v (ed_var 7) (ea_nil))))))))))))
      (sds_one (sd_ret (ed_fzv 4)))))))
abbrev s_points_spread : Stmt := topS 13
abbrev N_points_spread : List Str := ["ranks", "ways", "rows", "suit", "found", "many", "have", "old", "more", "points", "new", "key", "most"]
theorem sc_points_spread : FnScope N_points_spread ["ranks"] (defScope s_points_spread) := ⟨rfl, rfl, rfl, by decide +kernel, rfl, by decide +kernel, by decide +kernel⟩
theorem dv_points_spread {f : Addr} {k : Nat} (b_range : mg "range" = none) (b_tuple : mg "tuple" = none) (b_max : mg "max" = none) {sp_suit_ways : SpD} {f_suit_ways : Addr} {fd_suit_ways : FuncData} {k_suit_ways : Nat} (C_suit_ways : FnOk P w K mg base CX0 k_suit_ways f_suit_ways fd_suit_ways ["ranks"] (spL K sp_suit_ways)) (h_suit_ways : k_suit_ways ≤ k) (C_suit_ways_g : mg "suit_ways" = some (.ref f_suit_ways)) (C_suit_ways_k : PySem.W.keepIn K (.ref f_suit_ways) = true) (C_suit_ways_b : Binds K fd_suit_ways ["ranks"] []) (cdv : Value) (A : Around) (outer : List PySem.Env) (s : Shared) (H : Hp) (E : XK) (hr : Room k (A.deeper (envOfC "points_spread" (defScope s_points_spread) s.heap.objs.size f cdv))) (G : Gh) (hG : G.slots = []) :
    SDs (cxOf CX0 P w K mg base N_points_spread "points_spread" (defScope s_points_spread) f cdv A outer s H E).nox G (defBody s_points_spread) (tb_points_spread sp_suit_ways) := by
  unfold tb_points_spread
  exact sds_cons (sd_parC (nsA hG (by decide)) rfl (by decide) (eps_d (ed_call C_suit_ways (hr.mono h_suit_ways) rfl C_suit_ways_g C_suit_ways_k C_suit_ways_b (ea_v (ed_var 0) (ea_nil))) (eps_d (EM.ed (em_dt1 (u65 hr) (fun _ q3 => ed_tup (eds_cons (ed_int) (eds_cons (ed_int) (eds_nil)))) (fun _ q3 => ed_int))) (eps_nil))) rfl (pgs_nS sc_points_spread.nd rfl (by first | exact Or.inl rfl | exact Or.inr rfl) (pgs_nS sc_points_spread.nd rfl (by first | exact Or.inl rfl | exact Or.inr rfl) (pgs_n0))))
      (sds_cons (sd_for (ms := [3]) PassesOwn.never rfl (id_range1 rfl b_range (ed_int)) (gd_name (ns hG (by decide)) (by decide) sc_points_spread.nd rfl (by first | exact Or.inl rfl | exact Or.inr rfl)) (sds_cons (sd_setM (ns hG (by decide)) sc_points_spread.nd rfl (by first | exact Or.inl rfl | exact Or.inr rfl) (em_dt))
      (sds_cons (sd_for (ms := [5, 6, 7]) PassesOwn.never rfl (id_di (ed_var 2)) (gd_tup rfl (gds_cons (gd_tup rfl (gds_cons (gd_name (ns hG (by decide)) (by decide) sc_points_spread.nd rfl (by first | exact Or.inl rfl | exact Or.inr rfl)) (gds_cons (gd_name (ns hG (by decide)) (by decide) sc_points_spread.nd rfl (by first | exact Or.inl rfl | exact Or.inr rfl)) (gds_nil)))) (gds_cons (gd_name (ns hG (by decide)) (by decide) sc_points_spread.nd rfl (by first | exact Or.inl rfl | exact Or.inr rfl)) (gds_nil)))) (sds_one (sd_for (ms := [8, 9, 10]) PassesOwn.never rfl (id_di (ed_var 1)) (gd_tup rfl (gds_cons (gd_tup rfl (gds_cons (gd_name (ns hG (by decide)) (by decide) sc_points_spread.nd rfl (by first | exact Or.inl rfl | exact Or.inr rfl)) (gds_cons (gd_name (ns hG (by decide)) (by decide) sc_points_spread.nd rfl (by first | exact Or.inl rfl | exact Or.inr rfl)) (gds_nil)))) (gds_cons (gd_name (ns hG (by decide)) (by decide) sc_points_spread.nd rfl (by first | exact Or.inl rfl | exact Or.inr rfl)) (gds_nil)))) (sds_one (sd_if (eb_cmp od_le (ed_op od_add (ed_var 5) (ED.er (ed_var 8))) (ED.er (ed_var 0)) (nomark _)) (sds_cons (sd_set (ns hG (by decide)) sc_points_spread.nd rfl (by first | exact Or.inl rfl | exact Or.inr rfl) (ed_tup (eds_cons (ed_op od_add (ed_var 5) (ED.er (ed_var 8))) (eds_cons (ed_op od_add (ed_var 6) (ED.er (ed_var 9))) (eds_nil)))))
      (sds_one (sd_dputV 4 (u65 hr) (ed_var 11) (ed_op od_add (ed_dget2V 4 (u65 hr) (ed_var 11) (ed_int)) (ED.er (ed_op od_mul (ed_var 7) (ED.er (ed_var 10)))))))) (sds_nil))))))
      (sds_one (sd_set (ns hG (by decide)) sc_points_spread.nd rfl (by first | exact Or.inl rfl | exact Or.inr rfl) (ed_fzv 4))))))
      (sds_cons (sd_set (ns hG (by decide)) sc_points_spread.nd rfl (by first | exact Or.inl rfl | exact Or.inr rfl) (ed_ca1 (cd_max rfl) (ED.er (EL.ed (el_comp [("many", 5), ("have", 6)] rfl sc_points_spread.nd rfl (nsA hG (by decide)) (id_dk (ed_var 2)) (blkOk_by (N := N_points_spread) (sc := defScope s_points_spread) (by decide +kernel)) (fun _ q2 _ _ _ _ _ => gd_tup rfl (gds_cons (gd_name (ns (q2.trans hG) (by decide)) (by decide) sc_points_spread.nd rfl (by first | exact Or.inl rfl | exact Or.inr rfl)) (gds_cons (gd_name (ns (q2.trans hG) (by decide)) (by decide) sc_points_spread.nd rfl (by first | exact Or.inl rfl | exact Or.inr rfl)) (gds_nil)))) (fun _ q2 _ _ _ _ _ => ebs_one (eb_cmp (od_eq hr.units) (ed_var 5) (ED.er (ed_var 0)) (nomark _))) (fun _ q2 _ _ _ _ _ => ed_var 6)))) rfl b_max bb_max))
      (sds_one (sd_ret (ed_caT1 cd_tuple (ED.er (EL.ed (el_comp [("points", 9)] rfl sc_points_spread.nd rfl (nsA hG (by decide)) (id_range1 rfl b_range (ed_op od_add (ed_var 12) (ED.er (ed_int)))) (blkOk_by (N := N_points_spread) (sc := defScope s_points_spread) (by decide +kernel)) (fun _ q1 _ _ _ _ _ => gd_name (ns (q1.trans hG) (by decide)) (by decide) sc_points_spread.nd rfl (by first | exact Or.inl rfl | exact Or.inr rfl)) (fun _ q1 _ _ _ _ _ => ebs_nil) (fun _ q1 _ _ _ _ _ => ed_dget2V 2 (u65 hr) (ed_tup (eds_cons (ed_var 0) (eds_cons (ed_var 9) (eds_nil)))) (ed_int))))) rfl b_tuple bb_tuple)))))
abbrev s_hands_of_shape : Stmt := topS 8
abbrev N_hands_of_shape : List Str := ["ranks", "shape", "found", "many"]
theorem sc_hands_of_shape : FnScope N_hands_of_shape ["ranks", "shape"] (defScope s_hands_of_shape) := ⟨rfl, rfl, rfl, by decide +kernel, rfl, by decide +kernel, by decide +kernel⟩
theorem dv_hands_of_shape {f : Addr} {k : Nat} (b_sum : mg "sum" = none) {sp_choose : SpD} {f_choose : Addr} {fd_choose : FuncData} {k_choose : Nat} (C_choose : FnOk P w K mg base CX0 k_choose f_choose fd_choose ["many", "size"] (spL K sp_choose)) (h_choose : k_choose ≤ k) (C_choose_g : mg "choose" = some (.ref f_choose)) (C_choose_k : PySem.W.keepIn K (.ref f_choose) = true) (C_choose_b : Binds K fd_choose ["many", "size"] []) (cdv : Value) (A : Around) (outer : List PySem.Env) (s : Shared) (H : Hp) (E : XK) (hr : Room k (A.deeper (envOfC "hands_of_shape" (defScope s_hands_of_shape) s.heap.objs.size f cdv))) (G : Gh) (hG : G.slots = []) :
    SDs (cxOf CX0 P w K mg base N_hands_of_shape "hands_of_shape" (defScope s_hands_of_shape) f cdv A outer s H E).nox G (defBody s_hands_of_shape) (tb_hands_of_shape sp_choose) := by
  unfold tb_hands_of_shape
  exact sds_cons (sd_if (eb_cmp (od_ne hr.units) (ed_ca1 (cd_sumT rfl) (ED.er (ed_var 1)) rfl b_sum bb_sum) (ED.er (ed_var 0)) (nomark _)) (sds_one (sd_ret (ed_int))) (sds_nil))
      (sds_cons (sd_set (ns hG (by decide)) sc_hands_of_shape.nd rfl (by first | exact Or.inl rfl | exact Or.inr rfl) (ed_int))
      (sds_cons (sd_for (ms := [3]) PassesOwn.never rfl (id_tup (ed_var 1)) (gd_name (ns hG (by decide)) (by decide) sc_hands_of_shape.nd rfl (by first | exact Or.inl rfl | exact Or.inr rfl)) (sds_one (sd_set (ns hG (by decide)) sc_hands_of_shape.nd rfl (by first | exact Or.inl rfl | exact Or.inr rfl) (ed_op od_mul (ed_var 2) (ED.er (ed_call C_choose (hr.mono h_choose) rfl C_choose_g C_choose_k C_choose_b (ea_v (ed_var 0) (ea_v (ed_var 3) (ea_nil)))))))))
      (sds_one (sd_ret (ed_var 2)))))
abbrev s_all_shapes : Stmt := topS 9
abbrev N_all_shapes : List Str := ["ranks", "found", "one", "two", "three"]
theorem sc_all_shapes : FnScope N_all_shapes ["ranks"] (defScope s_all_shapes) := ⟨rfl, rfl, rfl, by decide +kernel, rfl, by decide +kernel, by decide +kernel⟩
theorem dv_all_shapes {f : Addr} {k : Nat} (b_range : mg "range" = none) (cdv : Value) (A : Around) (outer : List PySem.Env) (s : Shared) (H : Hp) (E : XK) (hr : Room k (A.deeper (envOfC "all_shapes" (defScope s_all_shapes) s.heap.objs.size f cdv))) (G : Gh) (hG : G.slots = []) :
    SDs (cxOf CX0 P w K mg base N_all_shapes "all_shapes" (defScope s_all_shapes) f cdv A outer s H E).nox G (defBody s_all_shapes) (tb_all_shapes) := by
  unfold tb_all_shapes
  exact sds_cons (sd_setL (ns hG (by decide)) sc_all_shapes.nd rfl (by first | exact Or.inl rfl | exact Or.inr rfl) (el_lst (eds_nil)))
      (sds_cons (sd_for (ms := [2]) PassesOwn.never rfl (id_range1 rfl b_range (ed_op od_add (ed_var 0) (ED.er (ed_int)))) (gd_name (ns hG (by decide)) (by decide) sc_all_shapes.nd rfl (by first | exact Or.inl rfl | exact Or.inr rfl)) (sds_one (sd_for (ms := [3]) PassesOwn.never rfl (id_range1 rfl b_range (ed_op od_sub (ed_op od_add (ed_var 0) (ED.er (ed_int))) (ED.er (ed_var 2)))) (gd_name (ns hG (by decide)) (by decide) sc_all_shapes.nd rfl (by first | exact Or.inl rfl | exact Or.inr rfl)) (sds_one (sd_for (ms := [4]) PassesOwn.never rfl (id_range1 rfl b_range (ed_op od_sub (ed_op od_sub (ed_op od_add (ed_var 0) (ED.er (ed_int))) (ED.er (ed_var 2))) (ED.er (ed_var 3)))) (gd_name (ns hG (by decide)) (by decide) sc_all_shapes.nd rfl (by first | exact Or.inl rfl | exact Or.inr rfl)) (sds_one (sd_expr (ed_app 1 (ed_tup (eds_cons (ed_var 2) (eds_cons (ed_var 3) (eds_cons (ed_var 4) (eds_cons (ed_op od_sub (ed_op od_sub (ed_op od_sub (ed_var 0) (ED.er (ed_var 2))) (ED.er (ed_var 3))) (ED.er (ed_var 4))) (eds_nil))))))))))))))
      (sds_one (sd_ret (ed_fzv 1))))
abbrev s_hands_of_pattern : Stmt := topS 10
abbrev N_hands_of_pattern : List Str := ["ranks", "pattern", "some", "shape"]
theorem sc_hands_of_pattern : FnScope N_hands_of_pattern ["ranks", "pattern"] (defScope s_hands_of_pattern) := ⟨rfl, rfl, rfl, by decide +kernel, rfl, by decide +kernel, by decide +kernel⟩
theorem dv_hands_of_pattern {f : Addr} {k : Nat} (b_sum : mg "sum" = none) (b_sorted : mg "sorted" = none) (b_tuple : mg "tuple" = none) {sp_hands_of_shape : SpD} {f_hands_of_shape : Addr} {fd_hands_of_shape : FuncData} {k_hands_of_shape : Nat} (C_hands_of_shape : FnOk P w K mg base CX0 k_hands_of_shape f_hands_of_shape fd_hands_of_shape ["ranks", "shape"] (spL K sp_hands_of_shape)) (h_hands_of_shape : k_hands_of_shape ≤ k) (C_hands_of_shape_g : mg "hands_of_shape" = some (.ref f_hands_of_shape)) (C_hands_of_shape_k : PySem.W.keepIn K (.ref f_hands_of_shape) = true) (C_hands_of_shape_b : Binds K fd_hands_of_shape ["ranks", "shape"] []) {sp_all_shapes : SpD} {f_all_shapes : Addr} {fd_all_shapes : FuncData} {k_all_shapes : Nat} (C_all_shapes : FnOk P w K mg base CX0 k_all_shapes f_all_shapes fd_all_shapes ["ranks"] (spL K sp_all_shapes)) (h_all_shapes : k_all_shapes ≤ k) (C_all_shapes_g : mg "all_shapes" = some (.ref f_all_shapes)) (C_all_shapes_k : PySem.W.keepIn K (.ref f_all_shapes) = true) (C_all_shapes_b : Binds K fd_all_shapes ["ranks"] []) (cdv : Value) (A : Around) (outer : List PySem.Env) (s : Shared) (H : Hp) (E : XK) (hr : Room k (A.deeper (envOfC "hands_of_pattern" (defScope s_hands_of_pattern) s.heap.objs.size f cdv))) (G : Gh) (hG : G.slots = []) :
    SDs (cxOf CX0 P w K mg base N_hands_of_pattern "hands_of_pattern" (defScope s_hands_of_pattern) f cdv A outer s H E).nox G (defBody s_hands_of_pattern) (tb_hands_of_pattern sp_hands_of_shape sp_all_shapes) := by
  unfold tb_hands_of_pattern
  exact sds_cons (sd_setC [("shape", 3)] (ns hG (by decide)) rfl sc_hands_of_pattern.nd rfl rfl (sw_true rfl rfl rfl (by decide +kernel)) rfl (nsA hG (by decide)) (id_lst (ed_call C_all_shapes (hr.mono h_all_shapes) rfl C_all_shapes_g C_all_shapes_k C_all_shapes_b (ea_v (ed_var 0) (ea_nil)))) (blkOk_by (N := N_hands_of_pattern) (sc := defScope s_hands_of_pattern) (by decide +kernel)) (fun _ q2 _ _ _ _ _ => gd_name (ns (q2.trans hG) (by decide)) (by decide) sc_hands_of_pattern.nd rfl (by first | exact Or.inl rfl | exact Or.inr rfl)) (fun _ q2 _ _ _ _ _ => ebs_one (eb_cmp (od_eq hr.units) (ed_caT1 cd_tuple (ED.er (EL.ed (el_sortRev (u65 hr) (ED.er (ed_var 3)) rfl b_sorted))) rfl b_tuple bb_tuple) (ED.er (ed_var 1)) (nomark _))) (fun _ q2 _ _ _ _ _ => ed_var 3))
      (sds_one (sd_ret (ed_ca1 (cd_sum rfl) (ED.er (EL.ed (el_comp [("shape", 3)] rfl sc_hands_of_pattern.nd rfl (nsA hG (by decide)) (id_lst (ed_var 2)) (blkOk_by (N := N_hands_of_pattern) (sc := defScope s_hands_of_pattern) (by decide +kernel)) (fun _ q1 _ _ _ _ _ => gd_name (ns (q1.trans hG) (by decide)) (by decide) sc_hands_of_pattern.nd rfl (by first | exact Or.inl rfl | exact Or.inr rfl)) (fun _ q1 _ _ _ _ _ => ebs_nil) (fun _ q1 _ _ _ _ _ => ed_call C_hands_of_shape (hr.mono h_hands_of_shape) rfl C_hands_of_shape_g C_hands_of_shape_k C_hands_of_shape_b (ea_v (ed_var 0) (ea_v (ed_var 3) (ea_nil))))))) rfl b_sum bb_sum)))
abbrev s_law_same : Stmt := topS 22
abbrev N_law_same : List Str := ["got", "due", "one", "other"]
theorem sc_law_same : FnScope N_law_same ["got", "due"] (defScope s_law_same) := ⟨rfl, rfl, rfl, by decide +kernel, rfl, by decide +kernel, by decide +kernel⟩
theorem dv_law_same {f : Addr} {k : Nat} (b_isinstance : mg "isinstance" = none) (b_int : mg "int" = none) (b_bool : mg "bool" = none) (b_str : mg "str" = none) (b_tuple : mg "tuple" = none) (b_zip : mg "zip" = none) (b_all : mg "all" = none) (b_len : mg "len" = none) {sp_law_same : SpD} {f_law_same : Addr} {fd_law_same : FuncData} {k_law_same : Nat} (C_law_same : FnOk P w K mg base CX0 k_law_same f_law_same fd_law_same ["got", "due"] (spL K sp_law_same)) (h_law_same : k_law_same ≤ k) (C_law_same_g : mg "_law_same" = some (.ref f_law_same)) (C_law_same_k : PySem.W.keepIn K (.ref f_law_same) = true) (C_law_same_b : Binds K fd_law_same ["got", "due"] []) (cdv : Value) (A : Around) (outer : List PySem.Env) (s : Shared) (H : Hp) (E : XK) (hr : Room k (A.deeper (envOfC "_law_same" (defScope s_law_same) s.heap.objs.size f cdv))) (G : Gh) (hG : G.slots = []) :
    SDs (cxOf CX0 P w K mg base N_law_same "_law_same" (defScope s_law_same) f cdv A outer s H E).nox G (defBody s_law_same) (tb_law_same sp_law_same) := by
  unfold tb_law_same
  exact sds_cons (sd_if (eb_cmp od_is (ed_var 1) (ED.er (ed_non)) (nomark _)) (sds_one (sd_ret (ed_cmp od_is (ed_var 0) (ED.er (ed_non)) (nomark _)))) (sds_nil))
      (sds_cons (sd_if (eb_tru (ED.er (ed_isi isi_bool (ed_var 1) rfl b_isinstance rfl b_bool bb_bool))) (sds_one (sd_ret (ed_and (ed_isi isi_bool (ed_var 0) rfl b_isinstance rfl b_bool bb_bool) (ed_one (ed_cmp (od_eq hr.units) (ed_var 0) (ED.er (ed_var 1)) (nomark _)))))) (sds_nil))
      (sds_cons (sd_if (eb_tru (ED.er (ed_isi isi_tuple (ed_var 1) rfl b_isinstance rfl b_tuple bb_tuple))) (sds_cons (sd_if (EW.eb (ew_or (eb_not (eb_tru (ED.er (ed_isi isi_tuple (ed_var 0) rfl b_isinstance rfl b_tuple bb_tuple)))) (ew_or1 (eb_cmp (od_ne hr.units) (ed_ca1 cd_len (ED.er (ed_var 0)) rfl b_len bb_len) (ED.er (ed_ca1 cd_len (ED.er (ed_var 1)) rfl b_len bb_len)) (nomark _))))) (sds_one (sd_ret (ed_bl))) (sds_nil))
      (sds_one (sd_ret (ed_ca1 (cd_all rfl) (ED.er (EL.ed (el_comp [("one", 2), ("other", 3)] rfl sc_law_same.nd rfl (nsA hG (by decide)) (id_zip (ed_var 0) (ed_var 1) rfl b_zip) (blkOk_by (N := N_law_same) (sc := defScope s_law_same) (by decide +kernel)) (fun _ q1 _ _ _ _ _ => gd_tup rfl (gds_cons (gd_name (ns (q1.trans hG) (by decide)) (by decide) sc_law_same.nd rfl (by first | exact Or.inl rfl | exact Or.inr rfl)) (gds_cons (gd_name (ns (q1.trans hG) (by decide)) (by decide) sc_law_same.nd rfl (by first | exact Or.inl rfl | exact Or.inr rfl)) (gds_nil)))) (fun _ q1 _ _ _ _ _ => ebs_nil) (fun _ q1 _ _ _ _ _ => ed_call C_law_same (hr.mono h_law_same) rfl C_law_same_g C_law_same_k C_law_same_b (ea_v (ed_var 2) (ea_v (ed_var 3) (ea_nil))))))) rfl b_all bb_all)))) (sds_nil))
      (sds_cons (sd_if (eb_tru (ED.er (ed_isi isi_str (ed_var 1) rfl b_isinstance rfl b_str bb_str))) (sds_one (sd_ret (ed_and (ed_isi isi_str (ed_var 0) rfl b_isinstance rfl b_str bb_str) (ed_one (ed_cmp (od_eq hr.units) (ed_var 0) (ED.er (ed_var 1)) (nomark _)))))) (sds_nil))
      (sds_one (sd_ret (ed_and (ed_isi isi_int (ed_var 0) rfl b_isinstance rfl b_int bb_int) (ed_and (ed_not (ed_isi isi_bool (ed_var 0) rfl b_isinstance rfl b_bool bb_bool)) (ed_one (ed_cmp (od_eq hr.units) (ed_var 0) (ED.er (ed_var 1)) (nomark _))))))))))
abbrev s_law_pick : Stmt := topS 24
abbrev N_law_pick : List Str := ["script", "town", "some"]
theorem sc_law_pick : FnScope N_law_pick ["script", "town", "some"] (defScope s_law_pick) := ⟨rfl, rfl, rfl, by decide +kernel, rfl, by decide +kernel, by decide +kernel⟩
theorem dv_law_pick {f : Addr} {k : Nat} (b_len : mg "len" = none) {sp_law_draw : SpD} {f_law_draw : Addr} {fd_law_draw : FuncData} {k_law_draw : Nat} (C_law_draw : FnOk P w K mg base CX0 k_law_draw f_law_draw fd_law_draw ["script", "town", "many"] (spL K sp_law_draw)) (h_law_draw : k_law_draw ≤ k) (C_law_draw_g : mg "_law_draw" = some (.ref f_law_draw)) (C_law_draw_k : PySem.W.keepIn K (.ref f_law_draw) = true) (C_law_draw_b : Binds K fd_law_draw ["script", "town", "many"] []) (cdv : Value) (A : Around) (outer : List PySem.Env) (s : Shared) (H : Hp) (E : XK) (hr : Room k (A.deeper (envOfC "_law_pick" (defScope s_law_pick) s.heap.objs.size f cdv))) (G : Gh) (hG : G.slots = [1]) :
    SDs (cxOf CX0 P w K mg base N_law_pick "_law_pick" (defScope s_law_pick) f cdv A outer s H E).nox G (defBody s_law_pick) (tb_law_pick sp_law_draw) := by
  unfold tb_law_pick
  exact sds_one (sd_ret (ed_ix (ed_var 2) (ed_call C_law_draw (hr.mono h_law_draw) rfl C_law_draw_g C_law_draw_k C_law_draw_b (ea_v (ed_var 0) (ea_o 1 (ea_v (ed_ca1 cd_len (ED.er (ed_var 2)) rfl b_len bb_len) (ea_nil)))))))
abbrev s_even_hands : Stmt := topS 11
abbrev N_even_hands : List Str := ["ranks", "shape"]
theorem sc_even_hands : FnScope N_even_hands ["ranks"] (defScope s_even_hands) := ⟨rfl, rfl, rfl, by decide +kernel, rfl, by decide +kernel, by decide +kernel⟩
theorem dv_even_hands {f : Addr} {k : Nat} (b_sum : mg "sum" = none) {sp_all_shapes : SpD} {f_all_shapes : Addr} {fd_all_shapes : FuncData} {k_all_shapes : Nat} (C_all_shapes : FnOk P w K mg base CX0 k_all_shapes f_all_shapes fd_all_shapes ["ranks"] (spL K sp_all_shapes)) (h_all_shapes : k_all_shapes ≤ k) (C_all_shapes_g : mg "all_shapes" = some (.ref f_all_shapes)) (C_all_shapes_k : PySem.W.keepIn K (.ref f_all_shapes) = true) (C_all_shapes_b : Binds K fd_all_shapes ["ranks"] []) {sp_is_even_shape : SpD} {f_is_even_shape : Addr} {fd_is_even_shape : FuncData} {k_is_even_shape : Nat} (C_is_even_shape : FnOk P w K mg base CX0 k_is_even_shape f_is_even_shape fd_is_even_shape ["shape"] (spL K sp_is_even_shape)) (h_is_even_shape : k_is_even_shape ≤ k) (C_is_even_shape_g : mg "is_even_shape" = some (.ref f_is_even_shape)) (C_is_even_shape_k : PySem.W.keepIn K (.ref f_is_even_shape) = true) (C_is_even_shape_b : Binds K fd_is_even_shape ["shape"] []) {sp_hands_of_shape : SpD} {f_hands_of_shape : Addr} {fd_hands_of_shape : FuncData} {k_hands_of_shape : Nat} (C_hands_of_shape : FnOk P w K mg base CX0 k_hands_of_shape f_hands_of_shape fd_hands_of_shape ["ranks", "shape"] (spL K sp_hands_of_shape)) (h_hands_of_shape : k_hands_of_shape ≤ k) (C_hands_of_shape_g : mg "hands_of_shape" = some (.ref f_hands_of_shape)) (C_hands_of_shape_k : PySem.W.keepIn K (.ref f_hands_of_shape) = true) (C_hands_of_shape_b : Binds K fd_hands_of_shape ["ranks", "shape"] []) (cdv : Value) (A : Around) (outer : List PySem.Env) (s : Shared) (H : Hp) (E : XK) (hr : Room k (A.deeper (envOfC "even_hands" (defScope s_even_hands) s.heap.objs.size f cdv))) (G : Gh) (hG : G.slots = []) :
    SDs (cxOf CX0 P w K mg base N_even_hands "even_hands" (defScope s_even_hands) f cdv A outer s H E).nox G (defBody s_even_hands) (tb_even_hands sp_all_shapes sp_is_even_shape sp_hands_of_shape) := by
  unfold tb_even_hands
  exact sds_one (sd_ret (ed_ca1 (cd_sum rfl) (ED.er (EL.ed (el_comp [("shape", 1)] rfl sc_even_hands.nd rfl (nsA hG (by decide)) (id_lst (ed_call C_all_shapes (hr.mono h_all_shapes) rfl C_all_shapes_g C_all_shapes_k C_all_shapes_b (ea_v (ed_var 0) (ea_nil)))) (blkOk_by (N := N_even_hands) (sc := defScope s_even_hands) (by decide +kernel)) (fun _ q1 _ _ _ _ _ => gd_name (ns (q1.trans hG) (by decide)) (by decide) sc_even_hands.nd rfl (by first | exact Or.inl rfl | exact Or.inr rfl)) (fun _ q1 _ _ _ _ _ => ebs_one (eb_tru (ED.er (ed_call C_is_even_shape (hr.mono h_is_even_shape) rfl C_is_even_shape_g C_is_even_shape_k C_is_even_shape_b (ea_v (ed_var 1) (ea_nil)))))) (fun _ q1 _ _ _ _ _ => ed_call C_hands_of_shape (hr.mono h_hands_of_shape) rfl C_hands_of_shape_g C_hands_of_shape_k C_hands_of_shape_b (ea_v (ed_var 0) (ea_v (ed_var 1) (ea_nil))))))) rfl b_sum bb_sum))
abbrev s_law_choose : Stmt := topS 25
abbrev N_law_choose : List Str := ["many", "size", "row", "k", "at"]
theorem sc_law_choose : FnScope N_law_choose ["many", "size"] (defScope s_law_choose) := ⟨rfl, rfl, rfl, by decide +kernel, rfl, by decide +kernel, by decide +kernel⟩
theorem dv_law_choose {f : Addr} {k : Nat} (b_range : mg "range" = none) (cdv : Value) (A : Around) (outer : List PySem.Env) (s : Shared) (H : Hp) (E : XK) (hr : Room k (A.deeper (envOfC "_law_choose" (defScope s_law_choose) s.heap.objs.size f cdv))) (G : Gh) (hG : G.slots = []) :
    SDs (cxOf CX0 P w K mg base N_law_choose "_law_choose" (defScope s_law_choose) f cdv A outer s H E).nox G (defBody s_law_choose) (tb_law_choose_k04) := by
  unfold tb_law_choose_k04
  exact sds_cons (sd_set (ns hG (by decide)) sc_law_choose.nd rfl (by first | exact Or.inl rfl | exact Or.inr rfl) (EL.ed (el_op od_cat (EL.ed (el_lst (eds_cons (ed_int) (eds_nil)))) (ED.er (EL.ed (el_op od_rep (EL.ed (el_lst (eds_cons (ed_int) (eds_nil)))) (ED.er (ed_var 0))))))))
      (sds_cons (sd_for (ms := [3]) PassesOwn.never rfl (id_range1 rfl b_range (ed_var 0)) (gd_name (ns hG (by decide)) (by decide) sc_law_choose.nd rfl (by first | exact Or.inl rfl | exact Or.inr rfl)) (sds_one (sd_set (ns hG (by decide)) sc_law_choose.nd rfl (by first | exact Or.inl rfl | exact Or.inr rfl) (EL.ed (el_op od_cat (EL.ed (el_lst (eds_cons (ed_int) (eds_nil)))) (ED.er (EL.ed (el_comp [("at", 4)] rfl sc_law_choose.nd rfl (nsA hG (by decide)) (id_range2 rfl b_range (ed_int) (ed_op od_add (ed_var 0) (ED.er (ed_int)))) (blkOk_by (N := N_law_choose) (sc := defScope s_law_choose) (by decide +kernel)) (fun _ q1 _ _ _ _ _ => gd_name (ns (q1.trans hG) (by decide)) (by decide) sc_law_choose.nd rfl (by first | exact Or.inl rfl | exact Or.inr rfl)) (fun _ q1 _ _ _ _ _ => ebs_nil) (fun _ q1 _ _ _ _ _ => ed_op od_add (ed_ix (ed_var 2) (ed_var 4)) (ED.er (ed_ix (ed_var 2) (ed_op od_sub (ed_var 4) (ED.er (ed_int))))))))))))))
      (sds_one (sd_ret (ed_if (eb_chain od_le od_le (ed_int) (ed_var 1) (ed_var 0)) (ed_ix (ed_var 2) (ed_var 1)) (ed_int)))))
abbrev s_law_all_shapes : Stmt := topS 26
abbrev N_law_all_shapes : List Str := ["ranks", "found", "one", "two", "three"]
theorem sc_law_all_shapes : FnScope N_law_all_shapes ["ranks"] (defScope s_law_all_shapes) := ⟨rfl, rfl, rfl, by decide +kernel, rfl, by decide +kernel, by decide +kernel⟩
theorem dv_law_all_shapes {f : Addr} {k : Nat} (b_range : mg "range" = none) (cdv : Value) (A : Around) (outer : List PySem.Env) (s : Shared) (H : Hp) (E : XK) (hr : Room k (A.deeper (envOfC "_law_all_shapes" (defScope s_law_all_shapes) s.heap.objs.size f cdv))) (G : Gh) (hG : G.slots = []) :
    SDs (cxOf CX0 P w K mg base N_law_all_shapes "_law_all_shapes" (defScope s_law_all_shapes) f cdv A outer s H E).nox G (defBody s_law_all_shapes) (tb_law_all_shapes_k04) := by
  unfold tb_law_all_shapes_k04
  exact sds_cons (sd_set (ns hG (by decide)) sc_law_all_shapes.nd rfl (by first | exact Or.inl rfl | exact Or.inr rfl) (EL.ed (el_lst (eds_nil))))
      (sds_cons (sd_for (ms := [2]) PassesOwn.never rfl (id_range1 rfl b_range (ed_op od_add (ed_var 0) (ED.er (ed_int)))) (gd_name (ns hG (by decide)) (by decide) sc_law_all_shapes.nd rfl (by first | exact Or.inl rfl | exact Or.inr rfl)) (sds_one (sd_for (ms := [3]) PassesOwn.never rfl (id_range1 rfl b_range (ed_op od_sub (ed_op od_add (ed_var 0) (ED.er (ed_int))) (ED.er (ed_var 2)))) (gd_name (ns hG (by decide)) (by decide) sc_law_all_shapes.nd rfl (by first | exact Or.inl rfl | exact Or.inr rfl)) (sds_one (sd_set (ns hG (by decide)) sc_law_all_shapes.nd rfl (by first | exact Or.inl rfl | exact Or.inr rfl) (EL.ed (el_op od_cat (ed_var 1) (ED.er (EL.ed (el_comp [("three", 4)] rfl sc_law_all_shapes.nd rfl (nsA hG (by decide)) (id_range1 rfl b_range (ed_op od_sub (ed_op od_sub (ed_op od_add (ed_var 0) (ED.er (ed_int))) (ED.er (ed_var 2))) (ED.er (ed_var 3)))) (blkOk_by (N := N_law_all_shapes) (sc := defScope s_law_all_shapes) (by decide +kernel)) (fun _ q1 _ _ _ _ _ => gd_name (ns (q1.trans hG) (by decide)) (by decide) sc_law_all_shapes.nd rfl (by first | exact Or.inl rfl | exact Or.inr rfl)) (fun _ q1 _ _ _ _ _ => ebs_nil) (fun _ q1 _ _ _ _ _ => ed_tup (eds_cons (ed_var 2) (eds_cons (ed_var 3) (eds_cons (ed_var 4) (eds_cons (ed_op od_sub (ed_op od_sub (ed_op od_sub (ed_var 0) (ED.er (ed_var 2))) (ED.er (ed_var 3))) (ED.er (ed_var 4))) (eds_nil))))))))))))))))
      (sds_one (sd_ret (ed_var 1))))
abbrev s_law : Stmt := topS 27
abbrev N_law : List Str := ["script", "town", "ranks", "shapes", "rows", "groups", "even", "shape", "many", "falling", "whole", "k", "pattern", "spread", "hand", "size", "points"]
theorem sc_law : FnScope N_law ["script"] (defScope s_law) := ⟨rfl, rfl, rfl, by decide +kernel, rfl, by decide +kernel, by decide +kernel⟩
theorem dv_law {f : Addr} {k : Nat} (b_sum : mg "sum" = none) (b_max : mg "max" = none) (b_enumerate : mg "enumerate" = none) (b_min : mg "min" = none) (b_range : mg "range" = none) (b_list : mg "list" = none) (b_int : mg "int" = none) (b_sorted : mg "sorted" = none) (b_tuple : mg "tuple" = none) {sp_pattern_of : SpD} {f_pattern_of : Addr} {fd_pattern_of : FuncData} {k_pattern_of : Nat} (C_pattern_of : FnOk P w K mg base CX0 k_pattern_of f_pattern_of fd_pattern_of ["hand"] (spL K sp_pattern_of)) (h_pattern_of : k_pattern_of ≤ k) (C_pattern_of_g : mg "pattern_of" = some (.ref f_pattern_of)) (C_pattern_of_k : PySem.W.keepIn K (.ref f_pattern_of) = true) (C_pattern_of_b : Binds K fd_pattern_of ["hand"] []) {sp_is_even : SpD} {f_is_even : Addr} {fd_is_even : FuncData} {k_is_even : Nat} (C_is_even : FnOk P w K mg base CX0 k_is_even f_is_even fd_is_even ["hand"] (spL K sp_is_even)) (h_is_even : k_is_even ≤ k) (C_is_even_g : mg "is_even" = some (.ref f_is_even)) (C_is_even_k : PySem.W.keepIn K (.ref f_is_even) = true) (C_is_even_b : Binds K fd_is_even ["hand"] []) {sp_shape_of : SpD} {f_shape_of : Addr} {fd_shape_of : FuncData} {k_shape_of : Nat} (C_shape_of : FnOk P w K mg base CX0 k_shape_of f_shape_of fd_shape_of ["hand"] (spL K sp_shape_of)) (h_shape_of : k_shape_of ≤ k) (C_shape_of_g : mg "shape_of" = some (.ref f_shape_of)) (C_shape_of_k : PySem.W.keepIn K (.ref f_shape_of) = true) (C_shape_of_b : Binds K fd_shape_of ["hand"] []) {sp_law_draw : SpD} {f_law_draw : Addr} {fd_law_draw : FuncData} {k_law_draw : Nat} (C_law_draw : FnOk P w K mg base CX0 k_law_draw f_law_draw fd_law_draw ["script", "town", "many"] (spL K sp_law_draw)) (h_law_draw : k_law_draw ≤ k) (C_law_draw_g : mg "_law_draw" = some (.ref f_law_draw)) (C_law_draw_k : PySem.W.keepIn K (.ref f_law_draw) = true) (C_law_draw_b : Binds K fd_law_draw ["script", "town", "many"] []) {sp_hand_at : SpX} {f_hand_at : Addr} {fd_hand_at : FuncData} {k_hand_at : Nat} (C_hand_at : FnOk P w K mg base (L2.CX P w) k_hand_at f_hand_at fd_hand_at ["ranks", "number"] (spLX K sp_hand_at)) (h_hand_at : k_hand_at ≤ k) (C_hand_at_g : mg "hand_at" = some (.ref f_hand_at)) (C_hand_at_k : PySem.W.keepIn K (.ref f_hand_at) = true) (C_hand_at_b : Binds K fd_hand_at ["ranks", "number"] []) {sp_points_spread : SpD} {f_points_spread : Addr} {fd_points_spread : FuncData} {k_points_spread : Nat} (C_points_spread : FnOk P w K mg base CX0 k_points_spread f_points_spread fd_points_spread ["ranks"] (spL K sp_points_spread)) (h_points_spread : k_points_spread ≤ k) (C_points_spread_g : mg "points_spread" = some (.ref f_points_spread)) (C_points_spread_k : PySem.W.keepIn K (.ref f_points_spread) = true) (C_points_spread_b : Binds K fd_points_spread ["ranks"] []) {sp_hands_of_pattern : SpD} {f_hands_of_pattern : Addr} {fd_hands_of_pattern : FuncData} {k_hands_of_pattern : Nat} (C_hands_of_pattern : FnOk P w K mg base CX0 k_hands_of_pattern f_hands_of_pattern fd_hands_of_pattern ["ranks", "pattern"] (spL K sp_hands_of_pattern)) (h_hands_of_pattern : k_hands_of_pattern ≤ k) (C_hands_of_pattern_g : mg "hands_of_pattern" = some (.ref f_hands_of_pattern)) (C_hands_of_pattern_k : PySem.W.keepIn K (.ref f_hands_of_pattern) = true) (C_hands_of_pattern_b : Binds K fd_hands_of_pattern ["ranks", "pattern"] []) {sp_law_same : SpD} {f_law_same : Addr} {fd_law_same : FuncData} {k_law_same : Nat} (C_law_same : FnOk P w K mg base CX0 k_law_same f_law_same fd_law_same ["got", "due"] (spL K sp_law_same)) (h_law_same : k_law_same ≤ k) (C_law_same_g : mg "_law_same" = some (.ref f_law_same)) (C_law_same_k : PySem.W.keepIn K (.ref f_law_same) = true) (C_law_same_b : Binds K fd_law_same ["got", "due"] []) {sp_law_pick : SpD} {f_law_pick : Addr} {fd_law_pick : FuncData} {k_law_pick : Nat} (C_law_pick : FnOk P w K mg base CX0 k_law_pick f_law_pick fd_law_pick ["script", "town", "some"] (spL K sp_law_pick)) (h_law_pick : k_law_pick ≤ k) (C_law_pick_g : mg "_law_pick" = some (.ref f_law_pick)) (C_law_pick_k : PySem.W.keepIn K (.ref f_law_pick) = true) (C_law_pick_b : Binds K fd_law_pick ["script", "town", "some"] []) {sp_even_hands : SpD} {f_even_hands : Addr} {fd_even_hands : FuncData} {k_even_hands : Nat} (C_even_hands : FnOk P w K mg base CX0 k_even_hands f_even_hands fd_even_hands ["ranks"] (spL K sp_even_hands)) (h_even_hands : k_even_hands ≤ k) (C_even_hands_g : mg "even_hands" = some (.ref f_even_hands)) (C_even_hands_k : PySem.W.keepIn K (.ref f_even_hands) = true) (C_even_hands_b : Binds K fd_even_hands ["ranks"] []) {sp_hands_in_all : SpD} {f_hands_in_all : Addr} {fd_hands_in_all : FuncData} {k_hands_in_all : Nat} (C_hands_in_all : FnOk P w K mg base CX0 k_hands_in_all f_hands_in_all fd_hands_in_all ["ranks"] (spL K sp_hands_in_all)) (h_hands_in_all : k_hands_in_all ≤ k) (C_hands_in_all_g : mg "hands_in_all" = some (.ref f_hands_in_all)) (C_hands_in_all_k : PySem.W.keepIn K (.ref f_hands_in_all) = true) (C_hands_in_all_b : Binds K fd_hands_in_all ["ranks"] []) {sp_law_choose : SpD} {f_law_choose : Addr} {fd_law_choose : FuncData} {k_law_choose : Nat} (C_law_choose : FnOk P w K mg base CX0 k_law_choose f_law_choose fd_law_choose ["many", "size"] (spL K sp_law_choose)) (h_law_choose : k_law_choose ≤ k) (C_law_choose_g : mg "_law_choose" = some (.ref f_law_choose)) (C_law_choose_k : PySem.W.keepIn K (.ref f_law_choose) = true) (C_law_choose_b : Binds K fd_law_choose ["many", "size"] []) {sp_hands_of_shape : SpD} {f_hands_of_shape : Addr} {fd_hands_of_shape : FuncData} {k_hands_of_shape : Nat} (C_hands_of_shape : FnOk P w K mg base CX0 k_hands_of_shape f_hands_of_shape fd_hands_of_shape ["ranks", "shape"] (spL K sp_hands_of_shape)) (h_hands_of_shape : k_hands_of_shape ≤ k) (C_hands_of_shape_g : mg "hands_of_shape" = some (.ref f_hands_of_shape)) (C_hands_of_shape_k : PySem.W.keepIn K (.ref f_hands_of_shape) = true) (C_hands_of_shape_b : Binds K fd_hands_of_shape ["ranks", "shape"] []) {sp_law_all_shapes : SpD} {f_law_all_shapes : Addr} {fd_law_all_shapes : FuncData} {k_law_all_shapes : Nat} (C_law_all_shapes : FnOk P w K mg base CX0 k_law_all_shapes f_law_all_shapes fd_law_all_shapes ["ranks"] (spL K sp_law_all_shapes)) (h_law_all_shapes : k_law_all_shapes ≤ k) (C_law_all_shapes_g : mg "_law_all_shapes" = some (.ref f_law_all_shapes)) (C_law_all_shapes_k : PySem.W.keepIn K (.ref f_law_all_shapes) = true) (C_law_all_shapes_b : Binds K fd_law_all_shapes ["ranks"] []) (cdv : Value) (A : Around) (outer : List PySem.Env) (s : Shared) (H : Hp) (E : XK) (hr : Room k (A.deeper (envOfC "law" (defScope s_law) s.heap.objs.size f cdv))) (G : Gh) (hG : G.slots = []) :
    SDs (cxOf CX0 P w K mg base N_law "law" (defScope s_law) f cdv A outer s H E).nox G (defBody s_law) (tb_law_k04 sp_pattern_of sp_is_even sp_shape_of sp_law_draw sp_hand_at sp_points_spread sp_hands_of_pattern sp_law_same sp_law_pick sp_even_hands sp_hands_in_all sp_law_choose sp_hands_of_shape sp_law_all_shapes) := by
  unfold tb_law_k04
  exact sds_cons (sd_setL (ns hG (by decide)) sc_law.nd rfl (by first | exact Or.inl rfl | exact Or.inr rfl) (el_lst (eds_nil)))
      (sds_cons (sd_set (ns hG (by decide)) sc_law.nd rfl (by first | exact Or.inl rfl | exact Or.inr rfl) (ed_call C_law_pick (hr.mono h_law_pick) rfl C_law_pick_g C_law_pick_k C_law_pick_b (ea_v (ed_var 0) (ea_o 1 (ea_v (EL.ed (el_lst (eds_cons (ed_int) (eds_cons (ed_int) (eds_cons (ed_int) (eds_cons (ed_int) (eds_cons (ed_int) (eds_cons (ed_int) (eds_cons (ed_int) (eds_cons (ed_int) (eds_cons (ed_int) (eds_cons (ed_int) (eds_cons (ed_int) (eds_cons (ed_int) (eds_cons (ed_int) (eds_cons (ed_int) (eds_nil))))))))))))))))) (ea_nil))))))
      (sds_cons (sd_par2 (nsA hG (by decide)) rfl sc_law.nd rfl rfl (by decide) rfl rfl (eps_d (ed_call C_law_all_shapes (hr.mono h_law_all_shapes) rfl C_law_all_shapes_g C_law_all_shapes_k C_law_all_shapes_b (ea_v (ed_var 2) (ea_nil))) (eps_d (EL.ed (el_comp [("size", 15)] rfl sc_law.nd rfl (nsA hG (by decide)) (id_range1 rfl b_range (ed_op od_add (ed_var 2) (ED.er (ed_int)))) (blkOk_by (N := N_law) (sc := defScope s_law) (by decide +kernel)) (fun _ q3 _ _ _ _ _ => gd_name (ns (q3.trans hG) (by decide)) (by decide) sc_law.nd rfl (by first | exact Or.inl rfl | exact Or.inr rfl)) (fun _ q3 _ _ _ _ _ => ebs_nil) (fun _ q3 _ _ _ _ _ => ed_call C_law_choose (hr.mono h_law_choose) rfl C_law_choose_g C_law_choose_k C_law_choose_b (ea_v (ed_var 2) (ea_v (ed_var 15) (ea_nil)))))) (eps_nil))))
      (sds_cons (sd_par2 (nsA hG (by decide)) rfl sc_law.nd rfl rfl (by decide) rfl rfl (eps_m (em_dt) (fun _ q2 => eps_d (ed_int) (eps_nil))))
      (sds_cons (sd_for (ms := [7]) PassesOwn.never rfl (id_lst (ed_var 3)) (gd_name (ns hG (by decide)) (by decide) sc_law.nd rfl (by first | exact Or.inl rfl | exact Or.inr rfl)) (sds_cons (sd_set (ns hG (by decide)) sc_law.nd rfl (by first | exact Or.inl rfl | exact Or.inr rfl) (ed_op od_mul (ed_ix (ed_var 4) (ed_ix (ed_var 7) (ed_int))) (ED.er (ed_ix (ed_var 4) (ed_ix (ed_var 7) (ed_int))))))
      (sds_cons (sd_set (ns hG (by decide)) sc_law.nd rfl (by first | exact Or.inl rfl | exact Or.inr rfl) (ed_op od_mul (ed_op od_mul (ed_var 8) (ED.er (ed_ix (ed_var 4) (ed_ix (ed_var 7) (ed_int))))) (ED.er (ed_ix (ed_var 4) (ed_ix (ed_var 7) (ed_int))))))
      (sds_cons (sd_set (ns hG (by decide)) sc_law.nd rfl (by first | exact Or.inl rfl | exact Or.inr rfl) (ed_caT1 cd_tuple (ED.er (EL.ed (el_rev (ED.er (EL.ed (el_ca1 (cd_sorted (u65 hr)) (ED.er (ed_var 7)) rfl b_sorted bb_sorted)))))) rfl b_tuple bb_tuple))
      (sds_cons (sd_dputV 5 (u65 hr) (ed_var 9) (ed_op od_add (ed_dget2V 5 (u65 hr) (ed_var 9) (ed_int)) (ED.er (ed_var 8))))
      (sds_cons (sd_set (ns hG (by decide)) sc_law.nd rfl (by first | exact Or.inl rfl | exact Or.inr rfl) (ed_op od_add (ed_var 6) (ED.er (ed_op od_mul (ed_var 8) (ED.er (ed_caT1 cd_int (ED.er (ed_and (ed_cmp od_gt (ed_ix (ed_var 9) (ed_int)) (ED.er (ed_int)) (nomark _)) (ed_one (ed_cmp od_gt (ed_ix (ed_var 9) (ed_int)) (ED.er (ed_int)) (nomark _))))) rfl b_int bb_int))))))
      (sds_one (sd_if (eb_not (eb_tru (ED.er (ed_call C_law_same (hr.mono h_law_same) rfl C_law_same_g C_law_same_k C_law_same_b (ea_v (ed_call C_hands_of_shape (hr.mono h_hands_of_shape) rfl C_hands_of_shape_g C_hands_of_shape_k C_hands_of_shape_b (ea_v (ed_var 2) (ea_v (ed_var 7) (ea_nil)))) (ea_v (ed_var 8) (ea_nil))))))) (sds_one (sd_ret (ed_bl))) (sds_nil)))))))))
      (sds_cons (sd_set (ns hG (by decide)) sc_law.nd rfl (by first | exact Or.inl rfl | exact Or.inr rfl) (ed_call C_law_choose (hr.mono h_law_choose) rfl C_law_choose_g C_law_choose_k C_law_choose_b (ea_v (ed_op od_mul (ed_int) (ED.er (ed_var 2))) (ea_v (ed_var 2) (ea_nil)))))
      (sds_cons (sd_if (EW.eb (ew_or (eb_not (eb_tru (ED.er (ed_call C_law_same (hr.mono h_law_same) rfl C_law_same_g C_law_same_k C_law_same_b (ea_v (ed_tup (eds_cons (ed_call C_hands_in_all (hr.mono h_hands_in_all) rfl C_hands_in_all_g C_hands_in_all_k C_hands_in_all_b (ea_v (ed_var 2) (ea_nil))) (eds_cons (ed_call C_even_hands (hr.mono h_even_hands) rfl C_even_hands_g C_even_hands_k C_even_hands_b (ea_v (ed_var 2) (ea_nil))) (eds_nil)))) (ea_v (ed_tup (eds_cons (ed_var 10) (eds_cons (ed_var 6) (eds_nil)))) (ea_nil))))))) (ew_or1 (eb_cmp (od_ne hr.units) (ed_ca1 (cd_sum rfl) (ED.er (EL.ed (el_listDv (ed_fzv 5) rfl b_list))) rfl b_sum bb_sum) (ED.er (ed_var 10)) (nomark _))))) (sds_one (sd_ret (ed_bl))) (sds_nil))
      (sds_cons (sd_for (ms := [11]) PassesOwn.never rfl (id_range1 rfl b_range (ed_int)) (gd_name (ns hG (by decide)) (by decide) sc_law.nd rfl (by first | exact Or.inl rfl | exact Or.inr rfl)) (sds_cons (sd_set (ns hG (by decide)) sc_law.nd rfl (by first | exact Or.inl rfl | exact Or.inr rfl) (ed_call C_law_pick (hr.mono h_law_pick) rfl C_law_pick_g C_law_pick_k C_law_pick_b (ea_v (ed_var 0) (ea_o 1 (ea_v (EL.ed (el_listDk (ed_fzv 5) rfl b_list)) (ea_nil))))))
      (sds_one (sd_if (eb_not (eb_tru (ED.er (ed_call C_law_same (hr.mono h_law_same) rfl C_law_same_g C_law_same_k C_law_same_b (ea_v (ed_call C_hands_of_pattern (hr.mono h_hands_of_pattern) rfl C_hands_of_pattern_g C_hands_of_pattern_k C_hands_of_pattern_b (ea_v (ed_var 2) (ea_v (ed_var 12) (ea_nil)))) (ea_v (ed_dgetV 5 (u65 hr) (ed_var 12)) (ea_nil))))))) (sds_one (sd_ret (ed_bl))) (sds_nil)))))
      (sds_cons (sd_set (ns hG (by decide)) sc_law.nd rfl (by first | exact Or.inl rfl | exact Or.inr rfl) (ed_call C_points_spread (hr.mono h_points_spread) rfl C_points_spread_g C_points_spread_k C_points_spread_b (ea_v (ed_var 2) (ea_nil))))
      (sds_cons (sd_if (EW.eb (ew_or (eb_cmp (od_ne hr.units) (ed_ca1 (cd_sumT rfl) (ED.er (ed_var 13)) rfl b_sum bb_sum) (ED.er (ed_var 10)) (nomark _)) (ew_or (eb_cmp (od_eq hr.units) (ed_ix (ed_var 13) (ed_un ud_neg (ED.er (ed_int)))) (ED.er (ed_int)) (nomark _)) (ew_or1 (eb_cmp od_lt (ed_ca1 (cd_minT rfl) (ED.er (ed_var 13)) rfl b_min bb_min) (ED.er (ed_int)) (nomark _)))))) (sds_one (sd_ret (ed_bl))) (sds_nil))
      (sds_cons (sd_if (eb_cmp (od_ne hr.units) (ed_ca1 (cd_sum rfl) (ED.er (EL.ed (el_comp [("points", 16), ("many", 8)] rfl sc_law.nd rfl (nsA hG (by decide)) (id_enumT (ed_var 13) rfl b_enumerate) (blkOk_by (N := N_law) (sc := defScope s_law) (by decide +kernel)) (fun _ q1 _ _ _ _ _ => gd_tup rfl (gds_cons (gd_name (ns (q1.trans hG) (by decide)) (by decide) sc_law.nd rfl (by first | exact Or.inl rfl | exact Or.inr rfl)) (gds_cons (gd_name (ns (q1.trans hG) (by decide)) (by decide) sc_law.nd rfl (by first | exact Or.inl rfl | exact Or.inr rfl)) (gds_nil)))) (fun _ q1 _ _ _ _ _ => ebs_nil) (fun _ q1 _ _ _ _ _ => ed_op od_mul (ed_var 16) (ED.er (ed_var 8)))))) rfl b_sum bb_sum) (ED.er (ed_op od_mul (ed_var 10) (ED.er (ed_ca1 (cd_sum rfl) (ED.er (EL.ed (el_sl (EL.ed (el_lst (eds_cons (ed_int) (eds_cons (ed_int) (eds_cons (ed_int) (eds_cons (ed_int) (eds_nil))))))) (eo_no) (eo_e (ed_var 2))))) rfl b_sum bb_sum)))) (nomark _)) (sds_one (sd_ret (ed_bl))) (sds_nil))
      (sds_cons (sd_set (ns hG (by decide)) sc_law.nd rfl (by first | exact Or.inl rfl | exact Or.inr rfl) (ed_callX C_hand_at takes0 (fun _ _ _ _ h _ => h.elim) (hr.mono h_hand_at) rfl C_hand_at_g C_hand_at_k C_hand_at_b (ea_v (ed_var 2) (ea_v (ed_call C_law_draw (hr.mono h_law_draw) rfl C_law_draw_g C_law_draw_k C_law_draw_b (ea_v (ed_var 0) (ea_o 1 (ea_v (ed_var 10) (ea_nil))))) (ea_nil)))))
      (sds_cons (sd_set (ns hG (by decide)) sc_law.nd rfl (by first | exact Or.inl rfl | exact Or.inr rfl) (ed_call C_shape_of (hr.mono h_shape_of) rfl C_shape_of_g C_shape_of_k C_shape_of_b (ea_v (ed_var 14) (ea_nil))))
      (sds_one (sd_ret (ed_and (ed_cmp (od_eq hr.units) (ed_ca1 (cd_sumT rfl) (ED.er (ed_var 7)) rfl b_sum bb_sum) (ED.er (ed_var 2)) (nomark _)) (ed_and (ed_cmp od_ge (ed_dgetV 5 (u65 hr) (ed_call C_pattern_of (hr.mono h_pattern_of) rfl C_pattern_of_g C_pattern_of_k C_pattern_of_b (ea_v (ed_var 14) (ea_nil)))) (ED.er (ed_ix (ed_var 4) (ed_ca1 (cd_maxT rfl) (ED.er (ed_var 7)) rfl b_max bb_max))) (nomark _)) (ed_one (ed_cmp (od_in (u65 hr)) (ed_call C_is_even (hr.mono h_is_even) rfl C_is_even_g C_is_even_k C_is_even_b (ea_v (ed_var 14) (ea_nil))) (ED.er (ed_tup (eds_cons (ed_cmp od_gt (ed_var 6) (ED.er (ed_int)) (nomark _)) (eds_cons (ed_bl) (eds_nil))))) rfl))))))))))))))))))
end
theorem all_mk {l : PySem.W.OpenLaw} {w : World} {K : PySem.W.Frag} {h : Heap} {mg : Str → Option Value} {fa : Addr} {f_shape_of : Addr} {od_shape_of an_shape_of : Option Addr} {sl_shape_of : Array (Option Value)} {oc_shape_of kV_shape_of dc_shape_of pm_shape_of cd_shape_of ct_shape_of : Value} {f_pattern_of : Addr} {od_pattern_of an_pattern_of : Option Addr} {sl_pattern_of : Array (Option Value)} {oc_pattern_of kV_pattern_of dc_pattern_of pm_pattern_of cd_pattern_of ct_pattern_of : Value} {f_is_even_shape : Addr} {od_is_even_shape an_is_even_shape : Option Addr} {sl_is_even_shape : Array (Option Value)} {oc_is_even_shape kV_is_even_shape dc_is_even_shape pm_is_even_shape cd_is_even_shape ct_is_even_shape : Value} {f_is_even : Addr} {od_is_even an_is_even : Option Addr} {sl_is_even : Array (Option Value)} {oc_is_even kV_is_even dc_is_even pm_is_even cd_is_even ct_is_even : Value} {f_law_draw : Addr} {od_law_draw an_law_draw : Option Addr} {sl_law_draw : Array (Option Value)} {oc_law_draw kV_law_draw dc_law_draw pm_law_draw cd_law_draw ct_law_draw : Value} {f_all_cards : Addr} {od_all_cards an_all_cards : Option Addr} {sl_all_cards : Array (Option Value)} {oc_all_cards kV_all_cards dc_all_cards pm_all_cards cd_all_cards ct_all_cards : Value} {f_choose : Addr} {od_choose an_choose : Option Addr} {sl_choose : Array (Option Value)} {oc_choose kV_choose dc_choose pm_choose cd_choose ct_choose : Value} {f_taken_at : Addr} {od_taken_at an_taken_at : Option Addr} {sl_taken_at : Array (Option Value)} {oc_taken_at kV_taken_at dc_taken_at pm_taken_at cd_taken_at ct_taken_at : Value} {f_hands_in_all : Addr} {od_hands_in_all an_hands_in_all : Option Addr} {sl_hands_in_all : Array (Option Value)} {oc_hands_in_all kV_hands_in_all dc_hands_in_all pm_hands_in_all cd_hands_in_all ct_hands_in_all : Value} {f_hand_at : Addr} {od_hand_at an_hand_at : Option Addr} {sl_hand_at : Array (Option Value)} {oc_hand_at kV_hand_at dc_hand_at pm_hand_at cd_hand_at ct_hand_at : Value} {f_suit_ways : Addr} {od_suit_ways an_suit_ways : Option Addr} {sl_suit_ways : Array (Option Value)} {oc_suit_ways kV_suit_ways dc_suit_ways pm_suit_ways cd_suit_ways ct_suit_ways : Value} {f_points_spread : Addr} {od_points_spread an_points_spread : Option Addr} {sl_points_spread : Array (Option Value)} {oc_points_spread kV_points_spread dc_points_spread pm_points_spread cd_points_spread ct_points_spread : Value} {f_hands_of_shape : Addr} {od_hands_of_shape an_hands_of_shape : Option Addr} {sl_hands_of_shape : Array (Option Value)} {oc_hands_of_shape kV_hands_of_shape dc_hands_of_shape pm_hands_of_shape cd_hands_of_shape ct_hands_of_shape : Value} {f_all_shapes : Addr} {od_all_shapes an_all_shapes : Option Addr} {sl_all_shapes : Array (Option Value)} {oc_all_shapes kV_all_shapes dc_all_shapes pm_all_shapes cd_all_shapes ct_all_shapes : Value} {f_hands_of_pattern : Addr} {od_hands_of_pattern an_hands_of_pattern : Option Addr} {sl_hands_of_pattern : Array (Option Value)} {oc_hands_of_pattern kV_hands_of_pattern dc_hands_of_pattern pm_hands_of_pattern cd_hands_of_pattern ct_hands_of_pattern : Value} {f_law_same : Addr} {od_law_same an_law_same : Option Addr} {sl_law_same : Array (Option Value)} {oc_law_same kV_law_same dc_law_same pm_law_same cd_law_same ct_law_same : Value} {f_law_pick : Addr} {od_law_pick an_law_pick : Option Addr} {sl_law_pick : Array (Option Value)} {oc_law_pick kV_law_pick dc_law_pick pm_law_pick cd_law_pick ct_law_pick : Value} {f_even_hands : Addr} {od_even_hands an_even_hands : Option Addr} {sl_even_hands : Array (Option Value)} {oc_even_hands kV_even_hands dc_even_hands pm_even_hands cd_even_hands ct_even_hands : Value} {f_law_choose : Addr} {od_law_choose an_law_choose : Option Addr} {sl_law_choose : Array (Option Value)} {oc_law_choose kV_law_choose dc_law_choose pm_law_choose cd_law_choose ct_law_choose : Value} {f_law_all_shapes : Addr} {od_law_all_shapes an_law_all_shapes : Option Addr} {sl_law_all_shapes : Array (Option Value)} {oc_law_all_shapes kV_law_all_shapes dc_law_all_shapes pm_law_all_shapes cd_law_all_shapes ct_law_all_shapes : Value} {f_law : Addr} {od_law an_law : Option Addr} {sl_law : Array (Option Value)} {oc_law kV_law dc_law pm_law cd_law ct_law : Value} {A_NoHand : Addr} (X : K.In h) (G : h.Ns mainGlobals mg) (hfa : mg "law" = some (.ref fa))
    (a_shape_of : PySem.W.nsIn K mainGlobals "shape_of" = some (some (.ref f_shape_of))) (l_shape_of : K.lookup f_shape_of = some ⟨oc_shape_of, od_shape_of, .func (PySem.W.fnOf "shape_of" "shape_of" (defArgs s_shape_of) (defBody s_shape_of) (defScope s_shape_of) .none kV_shape_of dc_shape_of pm_shape_of an_shape_of cd_shape_of ct_shape_of), sl_shape_of⟩) (c_shape_of : PySem.W.codeIn K cd_shape_of "shape_of" = true) (k_shape_of : PySem.W.keepIn K (.ref f_shape_of) = true)
    (a_pattern_of : PySem.W.nsIn K mainGlobals "pattern_of" = some (some (.ref f_pattern_of))) (l_pattern_of : K.lookup f_pattern_of = some ⟨oc_pattern_of, od_pattern_of, .func (PySem.W.fnOf "pattern_of" "pattern_of" (defArgs s_pattern_of) (defBody s_pattern_of) (defScope s_pattern_of) .none kV_pattern_of dc_pattern_of pm_pattern_of an_pattern_of cd_pattern_of ct_pattern_of), sl_pattern_of⟩) (c_pattern_of : PySem.W.codeIn K cd_pattern_of "pattern_of" = true) (k_pattern_of : PySem.W.keepIn K (.ref f_pattern_of) = true)
    (a_is_even_shape : PySem.W.nsIn K mainGlobals "is_even_shape" = some (some (.ref f_is_even_shape))) (l_is_even_shape : K.lookup f_is_even_shape = some ⟨oc_is_even_shape, od_is_even_shape, .func (PySem.W.fnOf "is_even_shape" "is_even_shape" (defArgs s_is_even_shape) (defBody s_is_even_shape) (defScope s_is_even_shape) .none kV_is_even_shape dc_is_even_shape pm_is_even_shape an_is_even_shape cd_is_even_shape ct_is_even_shape), sl_is_even_shape⟩) (c_is_even_shape : PySem.W.codeIn K cd_is_even_shape "is_even_shape" = true) (k_is_even_shape : PySem.W.keepIn K (.ref f_is_even_shape) = true)
    (a_is_even : PySem.W.nsIn K mainGlobals "is_even" = some (some (.ref f_is_even))) (l_is_even : K.lookup f_is_even = some ⟨oc_is_even, od_is_even, .func (PySem.W.fnOf "is_even" "is_even" (defArgs s_is_even) (defBody s_is_even) (defScope s_is_even) .none kV_is_even dc_is_even pm_is_even an_is_even cd_is_even ct_is_even), sl_is_even⟩) (c_is_even : PySem.W.codeIn K cd_is_even "is_even" = true) (k_is_even : PySem.W.keepIn K (.ref f_is_even) = true)
    (a_law_draw : PySem.W.nsIn K mainGlobals "_law_draw" = some (some (.ref f_law_draw))) (l_law_draw : K.lookup f_law_draw = some ⟨oc_law_draw, od_law_draw, .func (PySem.W.fnOf "_law_draw" "_law_draw" (defArgs s_law_draw) (defBody s_law_draw) (defScope s_law_draw) .none kV_law_draw dc_law_draw pm_law_draw an_law_draw cd_law_draw ct_law_draw), sl_law_draw⟩) (c_law_draw : PySem.W.codeIn K cd_law_draw "_law_draw" = true) (k_law_draw : PySem.W.keepIn K (.ref f_law_draw) = true)
    (a_all_cards : PySem.W.nsIn K mainGlobals "all_cards" = some (some (.ref f_all_cards))) (l_all_cards : K.lookup f_all_cards = some ⟨oc_all_cards, od_all_cards, .func (PySem.W.fnOf "all_cards" "all_cards" (defArgs s_all_cards) (defBody s_all_cards) (defScope s_all_cards) .none kV_all_cards dc_all_cards pm_all_cards an_all_cards cd_all_cards ct_all_cards), sl_all_cards⟩) (c_all_cards : PySem.W.codeIn K cd_all_cards "all_cards" = true) (k_all_cards : PySem.W.keepIn K (.ref f_all_cards) = true)
    (a_choose : PySem.W.nsIn K mainGlobals "choose" = some (some (.ref f_choose))) (l_choose : K.lookup f_choose = some ⟨oc_choose, od_choose, .func (PySem.W.fnOf "choose" "choose" (defArgs s_choose) (defBody s_choose) (defScope s_choose) .none kV_choose dc_choose pm_choose an_choose cd_choose ct_choose), sl_choose⟩) (c_choose : PySem.W.codeIn K cd_choose "choose" = true) (k_choose : PySem.W.keepIn K (.ref f_choose) = true)
    (a_taken_at : PySem.W.nsIn K mainGlobals "taken_at" = some (some (.ref f_taken_at))) (l_taken_at : K.lookup f_taken_at = some ⟨oc_taken_at, od_taken_at, .func (PySem.W.fnOf "taken_at" "taken_at" (defArgs s_taken_at) (defBody s_taken_at) (defScope s_taken_at) .none kV_taken_at dc_taken_at pm_taken_at an_taken_at cd_taken_at ct_taken_at), sl_taken_at⟩) (c_taken_at : PySem.W.codeIn K cd_taken_at "taken_at" = true) (k_taken_at : PySem.W.keepIn K (.ref f_taken_at) = true)
    (a_hands_in_all : PySem.W.nsIn K mainGlobals "hands_in_all" = some (some (.ref f_hands_in_all))) (l_hands_in_all : K.lookup f_hands_in_all = some ⟨oc_hands_in_all, od_hands_in_all, .func (PySem.W.fnOf "hands_in_all" "hands_in_all" (defArgs s_hands_in_all) (defBody s_hands_in_all) (defScope s_hands_in_all) .none kV_hands_in_all dc_hands_in_all pm_hands_in_all an_hands_in_all cd_hands_in_all ct_hands_in_all), sl_hands_in_all⟩) (c_hands_in_all : PySem.W.codeIn K cd_hands_in_all "hands_in_all" = true) (k_hands_in_all : PySem.W.keepIn K (.ref f_hands_in_all) = true)
    (a_hand_at : PySem.W.nsIn K mainGlobals "hand_at" = some (some (.ref f_hand_at))) (l_hand_at : K.lookup f_hand_at = some ⟨oc_hand_at, od_hand_at, .func (PySem.W.fnOf "hand_at" "hand_at" (defArgs s_hand_at) (defBody s_hand_at) (defScope s_hand_at) .none kV_hand_at dc_hand_at pm_hand_at an_hand_at cd_hand_at ct_hand_at), sl_hand_at⟩) (c_hand_at : PySem.W.codeIn K cd_hand_at "hand_at" = true) (k_hand_at : PySem.W.keepIn K (.ref f_hand_at) = true)
    (a_suit_ways : PySem.W.nsIn K mainGlobals "suit_ways" = some (some (.ref f_suit_ways))) (l_suit_ways : K.lookup f_suit_ways = some ⟨oc_suit_ways, od_suit_ways, .func (PySem.W.fnOf "suit_ways" "suit_ways" (defArgs s_suit_ways) (defBody s_suit_ways) (defScope s_suit_ways) .none kV_suit_ways dc_suit_ways pm_suit_ways an_suit_ways cd_suit_ways ct_suit_ways), sl_suit_ways⟩) (c_suit_ways : PySem.W.codeIn K cd_suit_ways "suit_ways" = true) (k_suit_ways : PySem.W.keepIn K (.ref f_suit_ways) = true)
    (a_points_spread : PySem.W.nsIn K mainGlobals "points_spread" = some (some (.ref f_points_spread))) (l_points_spread : K.lookup f_points_spread = some ⟨oc_points_spread, od_points_spread, .func (PySem.W.fnOf "points_spread" "points_spread" (defArgs s_points_spread) (defBody s_points_spread) (defScope s_points_spread) .none kV_points_spread dc_points_spread pm_points_spread an_points_spread cd_points_spread ct_points_spread), sl_points_spread⟩) (c_points_spread : PySem.W.codeIn K cd_points_spread "points_spread" = true) (k_points_spread : PySem.W.keepIn K (.ref f_points_spread) = true)
    (a_hands_of_shape : PySem.W.nsIn K mainGlobals "hands_of_shape" = some (some (.ref f_hands_of_shape))) (l_hands_of_shape : K.lookup f_hands_of_shape = some ⟨oc_hands_of_shape, od_hands_of_shape, .func (PySem.W.fnOf "hands_of_shape" "hands_of_shape" (defArgs s_hands_of_shape) (defBody s_hands_of_shape) (defScope s_hands_of_shape) .none kV_hands_of_shape dc_hands_of_shape pm_hands_of_shape an_hands_of_shape cd_hands_of_shape ct_hands_of_shape), sl_hands_of_shape⟩) (c_hands_of_shape : PySem.W.codeIn K cd_hands_of_shape "hands_of_shape" = true) (k_hands_of_shape : PySem.W.keepIn K (.ref f_hands_of_shape) = true)
    (a_all_shapes : PySem.W.nsIn K mainGlobals "all_shapes" = some (some (.ref f_all_shapes))) (l_all_shapes : K.lookup f_all_shapes = some ⟨oc_all_shapes, od_all_shapes, .func (PySem.W.fnOf "all_shapes" "all_shapes" (defArgs s_all_shapes) (defBody s_all_shapes) (defScope s_all_shapes) .none kV_all_shapes dc_all_shapes pm_all_shapes an_all_shapes cd_all_shapes ct_all_shapes), sl_all_shapes⟩) (c_all_shapes : PySem.W.codeIn K cd_all_shapes "all_shapes" = true) (k_all_shapes : PySem.W.keepIn K (.ref f_all_shapes) = true)
    (a_hands_of_pattern : PySem.W.nsIn K mainGlobals "hands_of_pattern" = some (some (.ref f_hands_of_pattern))) (l_hands_of_pattern : K.lookup f_hands_of_pattern = some ⟨oc_hands_of_pattern, od_hands_of_pattern, .func (PySem.W.fnOf "hands_of_pattern" "hands_of_pattern" (defArgs s_hands_of_pattern) (defBody s_hands_of_pattern) (defScope s_hands_of_pattern) .none kV_hands_of_pattern dc_hands_of_pattern pm_hands_of_pattern an_hands_of_pattern cd_hands_of_pattern ct_hands_of_pattern), sl_hands_of_pattern⟩) (c_hands_of_pattern : PySem.W.codeIn K cd_hands_of_pattern "hands_of_pattern" = true) (k_hands_of_pattern : PySem.W.keepIn K (.ref f_hands_of_pattern) = true)
    (a_law_same : PySem.W.nsIn K mainGlobals "_law_same" = some (some (.ref f_law_same))) (l_law_same : K.lookup f_law_same = some ⟨oc_law_same, od_law_same, .func (PySem.W.fnOf "_law_same" "_law_same" (defArgs s_law_same) (defBody s_law_same) (defScope s_law_same) .none kV_law_same dc_law_same pm_law_same an_law_same cd_law_same ct_law_same), sl_law_same⟩) (c_law_same : PySem.W.codeIn K cd_law_same "_law_same" = true) (k_law_same : PySem.W.keepIn K (.ref f_law_same) = true)
    (a_law_pick : PySem.W.nsIn K mainGlobals "_law_pick" = some (some (.ref f_law_pick))) (l_law_pick : K.lookup f_law_pick = some ⟨oc_law_pick, od_law_pick, .func (PySem.W.fnOf "_law_pick" "_law_pick" (defArgs s_law_pick) (defBody s_law_pick) (defScope s_law_pick) .none kV_law_pick dc_law_pick pm_law_pick an_law_pick cd_law_pick ct_law_pick), sl_law_pick⟩) (c_law_pick : PySem.W.codeIn K cd_law_pick "_law_pick" = true) (k_law_pick : PySem.W.keepIn K (.ref f_law_pick) = true)
    (a_even_hands : PySem.W.nsIn K mainGlobals "even_hands" = some (some (.ref f_even_hands))) (l_even_hands : K.lookup f_even_hands = some ⟨oc_even_hands, od_even_hands, .func (PySem.W.fnOf "even_hands" "even_hands" (defArgs s_even_hands) (defBody s_even_hands) (defScope s_even_hands) .none kV_even_hands dc_even_hands pm_even_hands an_even_hands cd_even_hands ct_even_hands), sl_even_hands⟩) (c_even_hands : PySem.W.codeIn K cd_even_hands "even_hands" = true) (k_even_hands : PySem.W.keepIn K (.ref f_even_hands) = true)
    (a_law_choose : PySem.W.nsIn K mainGlobals "_law_choose" = some (some (.ref f_law_choose))) (l_law_choose : K.lookup f_law_choose = some ⟨oc_law_choose, od_law_choose, .func (PySem.W.fnOf "_law_choose" "_law_choose" (defArgs s_law_choose) (defBody s_law_choose) (defScope s_law_choose) .none kV_law_choose dc_law_choose pm_law_choose an_law_choose cd_law_choose ct_law_choose), sl_law_choose⟩) (c_law_choose : PySem.W.codeIn K cd_law_choose "_law_choose" = true) (k_law_choose : PySem.W.keepIn K (.ref f_law_choose) = true)
    (a_law_all_shapes : PySem.W.nsIn K mainGlobals "_law_all_shapes" = some (some (.ref f_law_all_shapes))) (l_law_all_shapes : K.lookup f_law_all_shapes = some ⟨oc_law_all_shapes, od_law_all_shapes, .func (PySem.W.fnOf "_law_all_shapes" "_law_all_shapes" (defArgs s_law_all_shapes) (defBody s_law_all_shapes) (defScope s_law_all_shapes) .none kV_law_all_shapes dc_law_all_shapes pm_law_all_shapes an_law_all_shapes cd_law_all_shapes ct_law_all_shapes), sl_law_all_shapes⟩) (c_law_all_shapes : PySem.W.codeIn K cd_law_all_shapes "_law_all_shapes" = true) (k_law_all_shapes : PySem.W.keepIn K (.ref f_law_all_shapes) = true)
    (a_law : PySem.W.nsIn K mainGlobals "law" = some (some (.ref f_law))) (l_law : K.lookup f_law = some ⟨oc_law, od_law, .func (PySem.W.fnOf "law" "law" (defArgs s_law) (defBody s_law) (defScope s_law) .none kV_law dc_law pm_law an_law cd_law ct_law), sl_law⟩) (c_law : PySem.W.codeIn K cd_law "law" = true) (k_law : PySem.W.keepIn K (.ref f_law) = true)
    (a_NoHand : PySem.W.nsIn K mainGlobals "NoHand" = some (some (.ref A_NoHand))) (x_NoHand : PySem.W.excIn K A_NoHand [.type "ValueError", .type "Exception", .type "BaseException", .type "object"] "ValueError.__new__" = true) (k_NoHand : PySem.W.keepIn K (.ref A_NoHand) = true) (b_NoHand : PySem.W.subIn K (.ref A_NoHand) (.type "BaseException") = some true) (t_NoHand : PySem.W.typeIn K (.ref A_NoHand) = some (.type "type")) (i_NoHand : PySem.W.isClsIn K A_NoHand = true) (s_NoHand : PySem.W.subIn K (.ref A_NoHand) (.ref A_NoHand) = some true)
    (z_sorted : PySem.W.nsIn K mainGlobals "sorted" = some none)
    (z_tuple : PySem.W.nsIn K mainGlobals "tuple" = some none)
    (z_min : PySem.W.nsIn K mainGlobals "min" = some none)
    (z_len : PySem.W.nsIn K mainGlobals "len" = some none)
    (z_abs : PySem.W.nsIn K mainGlobals "abs" = some none)
    (z_max : PySem.W.nsIn K mainGlobals "max" = some none)
    (z_range : PySem.W.nsIn K mainGlobals "range" = some none)
    (z_enumerate : PySem.W.nsIn K mainGlobals "enumerate" = some none)
    (z_sum : PySem.W.nsIn K mainGlobals "sum" = some none)
    (z_isinstance : PySem.W.nsIn K mainGlobals "isinstance" = some none)
    (z_int : PySem.W.nsIn K mainGlobals "int" = some none)
    (z_bool : PySem.W.nsIn K mainGlobals "bool" = some none)
    (z_str : PySem.W.nsIn K mainGlobals "str" = some none)
    (z_zip : PySem.W.nsIn K mainGlobals "zip" = some none)
    (z_all : PySem.W.nsIn K mainGlobals "all" = some none)
    (z_list : PySem.W.nsIn K mainGlobals "list" = some none) :
    ∃ fd : FuncData, (∀ (s : Shared) (v : Value), BindsTo s fd ⟨[v], []⟩ [("script", v)]) ∧ ∀ base : Heap, K.In base → base.Ns mainGlobals mg → FnOk l.prog w K mg base CX0 6 fa fd ["script"] (spL K spLaw) := by
  cases hfa.symm.trans (PySem.W.mg_of X G a_law)
  have F_shape_of := fun_mk (st := s_shape_of) l_shape_of c_shape_of k_shape_of
  have B_shape_of := F_shape_of.binds (ps := ["hand"]) fun _ _ _ _ _ _ us hl => match us, hl with | [_], _ => rfl
  have g_shape_of := PySem.W.mg_of X G a_shape_of
  have F_pattern_of := fun_mk (st := s_pattern_of) l_pattern_of c_pattern_of k_pattern_of
  have B_pattern_of := F_pattern_of.binds (ps := ["hand"]) fun _ _ _ _ _ _ us hl => match us, hl with | [_], _ => rfl
  have g_pattern_of := PySem.W.mg_of X G a_pattern_of
  have F_is_even_shape := fun_mk (st := s_is_even_shape) l_is_even_shape c_is_even_shape k_is_even_shape
  have B_is_even_shape := F_is_even_shape.binds (ps := ["shape"]) fun _ _ _ _ _ _ us hl => match us, hl with | [_], _ => rfl
  have g_is_even_shape := PySem.W.mg_of X G a_is_even_shape
  have F_is_even := fun_mk (st := s_is_even) l_is_even c_is_even k_is_even
  have B_is_even := F_is_even.binds (ps := ["hand"]) fun _ _ _ _ _ _ us hl => match us, hl with | [_], _ => rfl
  have g_is_even := PySem.W.mg_of X G a_is_even
  have F_law_draw := fun_mk (st := s_law_draw) l_law_draw c_law_draw k_law_draw
  have B_law_draw := F_law_draw.binds (ps := ["script", "town", "many"]) fun _ _ _ _ _ _ us hl => match us, hl with | [_, _, _], _ => rfl
  have g_law_draw := PySem.W.mg_of X G a_law_draw
  have F_all_cards := fun_mk (st := s_all_cards) l_all_cards c_all_cards k_all_cards
  have B_all_cards := F_all_cards.binds (ps := ["ranks"]) fun _ _ _ _ _ _ us hl => match us, hl with | [_], _ => rfl
  have g_all_cards := PySem.W.mg_of X G a_all_cards
  have F_choose := fun_mk (st := s_choose) l_choose c_choose k_choose
  have B_choose := F_choose.binds (ps := ["many", "size"]) fun _ _ _ _ _ _ us hl => match us, hl with | [_, _], _ => rfl
  have g_choose := PySem.W.mg_of X G a_choose
  have F_taken_at := fun_mk (st := s_taken_at) l_taken_at c_taken_at k_taken_at
  have B_taken_at := F_taken_at.binds (ps := ["pool", "size", "number"]) fun _ _ _ _ _ _ us hl => match us, hl with | [_, _, _], _ => rfl
  have g_taken_at := PySem.W.mg_of X G a_taken_at
  have F_hands_in_all := fun_mk (st := s_hands_in_all) l_hands_in_all c_hands_in_all k_hands_in_all
  have B_hands_in_all := F_hands_in_all.binds (ps := ["ranks"]) fun _ _ _ _ _ _ us hl => match us, hl with | [_], _ => rfl
  have g_hands_in_all := PySem.W.mg_of X G a_hands_in_all
  have F_hand_at := fun_mk (st := s_hand_at) l_hand_at c_hand_at k_hand_at
  have B_hand_at := F_hand_at.binds (ps := ["ranks", "number"]) fun _ _ _ _ _ _ us hl => match us, hl with | [_, _], _ => rfl
  have g_hand_at := PySem.W.mg_of X G a_hand_at
  have F_suit_ways := fun_mk (st := s_suit_ways) l_suit_ways c_suit_ways k_suit_ways
  have B_suit_ways := F_suit_ways.binds (ps := ["ranks"]) fun _ _ _ _ _ _ us hl => match us, hl with | [_], _ => rfl
  have g_suit_ways := PySem.W.mg_of X G a_suit_ways
  have F_points_spread := fun_mk (st := s_points_spread) l_points_spread c_points_spread k_points_spread
  have B_points_spread := F_points_spread.binds (ps := ["ranks"]) fun _ _ _ _ _ _ us hl => match us, hl with | [_], _ => rfl
  have g_points_spread := PySem.W.mg_of X G a_points_spread
  have F_hands_of_shape := fun_mk (st := s_hands_of_shape) l_hands_of_shape c_hands_of_shape k_hands_of_shape
  have B_hands_of_shape := F_hands_of_shape.binds (ps := ["ranks", "shape"]) fun _ _ _ _ _ _ us hl => match us, hl with | [_, _], _ => rfl
  have g_hands_of_shape := PySem.W.mg_of X G a_hands_of_shape
  have F_all_shapes := fun_mk (st := s_all_shapes) l_all_shapes c_all_shapes k_all_shapes
  have B_all_shapes := F_all_shapes.binds (ps := ["ranks"]) fun _ _ _ _ _ _ us hl => match us, hl with | [_], _ => rfl
  have g_all_shapes := PySem.W.mg_of X G a_all_shapes
  have F_hands_of_pattern := fun_mk (st := s_hands_of_pattern) l_hands_of_pattern c_hands_of_pattern k_hands_of_pattern
  have B_hands_of_pattern := F_hands_of_pattern.binds (ps := ["ranks", "pattern"]) fun _ _ _ _ _ _ us hl => match us, hl with | [_, _], _ => rfl
  have g_hands_of_pattern := PySem.W.mg_of X G a_hands_of_pattern
  have F_law_same := fun_mk (st := s_law_same) l_law_same c_law_same k_law_same
  have B_law_same := F_law_same.binds (ps := ["got", "due"]) fun _ _ _ _ _ _ us hl => match us, hl with | [_, _], _ => rfl
  have g_law_same := PySem.W.mg_of X G a_law_same
  have F_law_pick := fun_mk (st := s_law_pick) l_law_pick c_law_pick k_law_pick
  have B_law_pick := F_law_pick.binds (ps := ["script", "town", "some"]) fun _ _ _ _ _ _ us hl => match us, hl with | [_, _, _], _ => rfl
  have g_law_pick := PySem.W.mg_of X G a_law_pick
  have F_even_hands := fun_mk (st := s_even_hands) l_even_hands c_even_hands k_even_hands
  have B_even_hands := F_even_hands.binds (ps := ["ranks"]) fun _ _ _ _ _ _ us hl => match us, hl with | [_], _ => rfl
  have g_even_hands := PySem.W.mg_of X G a_even_hands
  have F_law_choose := fun_mk (st := s_law_choose) l_law_choose c_law_choose k_law_choose
  have B_law_choose := F_law_choose.binds (ps := ["many", "size"]) fun _ _ _ _ _ _ us hl => match us, hl with | [_, _], _ => rfl
  have g_law_choose := PySem.W.mg_of X G a_law_choose
  have F_law_all_shapes := fun_mk (st := s_law_all_shapes) l_law_all_shapes c_law_all_shapes k_law_all_shapes
  have B_law_all_shapes := F_law_all_shapes.binds (ps := ["ranks"]) fun _ _ _ _ _ _ us hl => match us, hl with | [_], _ => rfl
  have g_law_all_shapes := PySem.W.mg_of X G a_law_all_shapes
  have F_law := fun_mk (st := s_law) l_law c_law k_law
  have g_NoHand := PySem.W.mg_of X G a_NoHand
  have e_NoHand : (fun cls => PySem.W.exmOne K cls (.ref A_NoHand)) (.ref A_NoHand) = some true := exm_sub b_NoHand i_NoHand t_NoHand s_NoHand
  have b_sorted := PySem.W.mg_none_of X G z_sorted
  have b_tuple := PySem.W.mg_none_of X G z_tuple
  have b_min := PySem.W.mg_none_of X G z_min
  have b_len := PySem.W.mg_none_of X G z_len
  have b_abs := PySem.W.mg_none_of X G z_abs
  have b_max := PySem.W.mg_none_of X G z_max
  have b_range := PySem.W.mg_none_of X G z_range
  have b_enumerate := PySem.W.mg_none_of X G z_enumerate
  have b_sum := PySem.W.mg_none_of X G z_sum
  have b_isinstance := PySem.W.mg_none_of X G z_isinstance
  have b_int := PySem.W.mg_none_of X G z_int
  have b_bool := PySem.W.mg_none_of X G z_bool
  have b_str := PySem.W.mg_none_of X G z_str
  have b_zip := PySem.W.mg_none_of X G z_zip
  have b_all := PySem.W.mg_none_of X G z_all
  have b_list := PySem.W.mg_none_of X G z_list
  refine ⟨PySem.W.fnOf "law" "law" (defArgs s_law) (defBody s_law) (defScope s_law) .none kV_law dc_law pm_law an_law cd_law ct_law, fun s v => .of_eq rfl, fun base _ _ => ?_⟩
  have ok_shape_of : FnOk l.prog w K mg base CX0 1 f_shape_of _ ["hand"] (spL K spShape) := fn_okD F_shape_of sc_shape_of sh_shape_of (fun cdv A outer s H E hr G hG => dv_shape_of cdv A outer s H E hr G hG) rd_shape_of
  have ok_pattern_of : FnOk l.prog w K mg base CX0 2 f_pattern_of _ ["hand"] (spL K spPattern) := fn_okD F_pattern_of sc_pattern_of sh_pattern_of (fun cdv A outer s H E hr G hG => dv_pattern_of b_sorted b_tuple ok_shape_of (by decide) g_shape_of F_shape_of.kp B_shape_of cdv A outer s H E hr G hG) rd_pattern_of
  have ok_is_even_shape : FnOk l.prog w K mg base CX0 1 f_is_even_shape _ ["shape"] (spL K spEvenS) := fn_okD F_is_even_shape sc_is_even_shape sh_is_even_shape (fun cdv A outer s H E hr G hG => dv_is_even_shape b_min cdv A outer s H E hr G hG) rd_is_even_shape
  have ok_is_even : FnOk l.prog w K mg base CX0 2 f_is_even _ ["hand"] (spL K spEven) := fn_okD F_is_even sc_is_even sh_is_even (fun cdv A outer s H E hr G hG => dv_is_even ok_shape_of (by decide) g_shape_of F_shape_of.kp B_shape_of ok_is_even_shape (by decide) g_is_even_shape F_is_even_shape.kp B_is_even_shape cdv A outer s H E hr G hG) rd_is_even
  have ok_law_draw : FnOk l.prog w K mg base CX0 1 f_law_draw _ ["script", "town", "many"] (spL K spDraw) := fn_okD F_law_draw sc_law_draw sh_law_draw (fun cdv A outer s H E hr G hG => dv_law_draw b_len b_abs b_max cdv A outer s H E hr G hG) rd_law_draw
  have ok_all_cards : FnOk l.prog w K mg base CX0 1 f_all_cards _ ["ranks"] (spL K spAllC) := fn_okD F_all_cards sc_all_cards sh_all_cards (fun cdv A outer s H E hr G hG => dv_all_cards b_range cdv A outer s H E hr G hG) rd_all_cards
  have ok_choose : FnOk l.prog w K mg base CX0 1 f_choose _ ["many", "size"] (spL K spChoose) := fn_okD F_choose sc_choose sh_choose (fun cdv A outer s H E hr G hG => dv_choose b_range cdv A outer s H E hr G hG) rd_choose
  have ok_taken_at : FnOk l.prog w K mg base CX0 2 f_taken_at _ ["pool", "size", "number"] (spL K spTaken) := fn_okD F_taken_at sc_taken_at sh_taken_at (fun cdv A outer s H E hr G hG => dv_taken_at b_tuple b_enumerate b_len ok_choose (by decide) g_choose F_choose.kp B_choose cdv A outer s H E hr G hG) rd_taken_at
  have ok_hands_in_all : FnOk l.prog w K mg base CX0 2 f_hands_in_all _ ["ranks"] (spL K spHandsA) := fn_okD F_hands_in_all sc_hands_in_all sh_hands_in_all (fun cdv A outer s H E hr G hG => dv_hands_in_all ok_choose (by decide) g_choose F_choose.kp B_choose cdv A outer s H E hr G hG) rd_hands_in_all
  have ok_hand_at : FnOk l.prog w K mg base (L2.CX l.prog w) 3 f_hand_at _ ["ranks", "number"] (spLX K (spHandAt4 (.ref A_NoHand))) := fn_okX F_hand_at sc_hand_at (sh_hand_at4 _) (fun cdv A outer s H E hr G hG WD hW => dv_hand_at ok_all_cards (by decide) g_all_cards F_all_cards.kp B_all_cards ok_taken_at (by decide) g_taken_at F_taken_at.kp B_taken_at ok_hands_in_all (by decide) g_hands_in_all F_hands_in_all.kp B_hands_in_all x_NoHand g_NoHand k_NoHand b_NoHand t_NoHand cdv A outer s H E hr G hG WD hW) (rd_hand_at4 _)
  have ok_suit_ways : FnOk l.prog w K mg base CX0 2 f_suit_ways _ ["ranks"] (spL K spWays) := fn_okD F_suit_ways sc_suit_ways sh_suit_ways (fun cdv A outer s H E hr G hG => dv_suit_ways b_len b_range ok_choose (by decide) g_choose F_choose.kp B_choose cdv A outer s H E hr G hG) rd_suit_ways
  have ok_points_spread : FnOk l.prog w K mg base CX0 3 f_points_spread _ ["ranks"] (spL K spSpread) := fn_okD F_points_spread sc_points_spread sh_points_spread (fun cdv A outer s H E hr G hG => dv_points_spread b_range b_tuple b_max ok_suit_ways (by decide) g_suit_ways F_suit_ways.kp B_suit_ways cdv A outer s H E hr G hG) rd_points_spread
  have ok_hands_of_shape : FnOk l.prog w K mg base CX0 2 f_hands_of_shape _ ["ranks", "shape"] (spL K spHShape) := fn_okD F_hands_of_shape sc_hands_of_shape sh_hands_of_shape (fun cdv A outer s H E hr G hG => dv_hands_of_shape b_sum ok_choose (by decide) g_choose F_choose.kp B_choose cdv A outer s H E hr G hG) rd_hands_of_shape
  have ok_all_shapes : FnOk l.prog w K mg base CX0 1 f_all_shapes _ ["ranks"] (spL K spShapes) := fn_okD F_all_shapes sc_all_shapes sh_all_shapes (fun cdv A outer s H E hr G hG => dv_all_shapes b_range cdv A outer s H E hr G hG) rd_all_shapes
  have ok_hands_of_pattern : FnOk l.prog w K mg base CX0 3 f_hands_of_pattern _ ["ranks", "pattern"] (spL K spHPat) := fn_okD F_hands_of_pattern sc_hands_of_pattern sh_hands_of_pattern (fun cdv A outer s H E hr G hG => dv_hands_of_pattern b_sum b_sorted b_tuple ok_hands_of_shape (by decide) g_hands_of_shape F_hands_of_shape.kp B_hands_of_shape ok_all_shapes (by decide) g_all_shapes F_all_shapes.kp B_all_shapes cdv A outer s H E hr G hG) rd_hands_of_pattern
  have ok_law_same_z : FnOk l.prog w K mg base CX0 1 f_law_same _ ["got", "due"] (spL K spNo) := no_ok F_law_same sc_law_same
  have ok_law_same_0 : FnOk l.prog w K mg base CX0 2 f_law_same _ ["got", "due"] (spL K (spSame 0)) := fn_okD F_law_same sc_law_same (sh_law_same 0) (fun cdv A outer s H E hr G hG => dv_law_same b_isinstance b_int b_bool b_str b_tuple b_zip b_all b_len ok_law_same_z (by decide) g_law_same F_law_same.kp B_law_same cdv A outer s H E hr G hG) (rd_law_same 0 spNo (fun m e => nomatch e))
  have ok_law_same_1 : FnOk l.prog w K mg base CX0 3 f_law_same _ ["got", "due"] (spL K (spSame 1)) := fn_okD F_law_same sc_law_same (sh_law_same 1) (fun cdv A outer s H E hr G hG => dv_law_same b_isinstance b_int b_bool b_str b_tuple b_zip b_all b_len ok_law_same_0 (by decide) g_law_same F_law_same.kp B_law_same cdv A outer s H E hr G hG) (rd_law_same 1 (spSame 0) (fun m e => by cases e; rfl))
  have ok_law_same_2 : FnOk l.prog w K mg base CX0 4 f_law_same _ ["got", "due"] (spL K (spSame 2)) := fn_okD F_law_same sc_law_same (sh_law_same 2) (fun cdv A outer s H E hr G hG => dv_law_same b_isinstance b_int b_bool b_str b_tuple b_zip b_all b_len ok_law_same_1 (by decide) g_law_same F_law_same.kp B_law_same cdv A outer s H E hr G hG) (rd_law_same 2 (spSame 1) (fun m e => by cases e; rfl))
  have ok_law_same : FnOk l.prog w K mg base CX0 5 f_law_same _ ["got", "due"] (spL K (spSame 3)) := fn_okD F_law_same sc_law_same (sh_law_same 3) (fun cdv A outer s H E hr G hG => dv_law_same b_isinstance b_int b_bool b_str b_tuple b_zip b_all b_len ok_law_same_2 (by decide) g_law_same F_law_same.kp B_law_same cdv A outer s H E hr G hG) (rd_law_same 3 (spSame 2) (fun m e => by cases e; rfl))
  have ok_law_pick : FnOk l.prog w K mg base CX0 2 f_law_pick _ ["script", "town", "some"] (spL K spPick) := fn_okD F_law_pick sc_law_pick sh_law_pick (fun cdv A outer s H E hr G hG => dv_law_pick b_len ok_law_draw (by decide) g_law_draw F_law_draw.kp B_law_draw cdv A outer s H E hr G hG) rd_law_pick
  have ok_even_hands : FnOk l.prog w K mg base CX0 3 f_even_hands _ ["ranks"] (spL K spEvenH) := fn_okD F_even_hands sc_even_hands sh_even_hands (fun cdv A outer s H E hr G hG => dv_even_hands b_sum ok_all_shapes (by decide) g_all_shapes F_all_shapes.kp B_all_shapes ok_is_even_shape (by decide) g_is_even_shape F_is_even_shape.kp B_is_even_shape ok_hands_of_shape (by decide) g_hands_of_shape F_hands_of_shape.kp B_hands_of_shape cdv A outer s H E hr G hG) rd_even_hands
  have ok_law_choose : FnOk l.prog w K mg base CX0 1 f_law_choose _ ["many", "size"] (spL K spLChoose) := fn_okD F_law_choose sc_law_choose sh_law_choose (fun cdv A outer s H E hr G hG => dv_law_choose b_range cdv A outer s H E hr G hG) rd_law_choose_k04
  have ok_law_all_shapes : FnOk l.prog w K mg base CX0 1 f_law_all_shapes _ ["ranks"] (spL K spShapes) := fn_okD F_law_all_shapes sc_law_all_shapes sh_law_all_shapes (fun cdv A outer s H E hr G hG => dv_law_all_shapes b_range cdv A outer s H E hr G hG) rd_law_all_shapes_k04
  have ok_law : FnOk l.prog w K mg base CX0 6 _ _ ["script"] (spL K spLaw) := fn_okD F_law sc_law sh_law (fun cdv A outer s H E hr G hG => dv_law b_sum b_max b_enumerate b_min b_range b_list b_int b_sorted b_tuple ok_pattern_of (by decide) g_pattern_of F_pattern_of.kp B_pattern_of ok_is_even (by decide) g_is_even F_is_even.kp B_is_even ok_shape_of (by decide) g_shape_of F_shape_of.kp B_shape_of ok_law_draw (by decide) g_law_draw F_law_draw.kp B_law_draw ok_hand_at (by decide) g_hand_at F_hand_at.kp B_hand_at ok_points_spread (by decide) g_points_spread F_points_spread.kp B_points_spread ok_hands_of_pattern (by decide) g_hands_of_pattern F_hands_of_pattern.kp B_hands_of_pattern ok_law_same (by decide) g_law_same F_law_same.kp B_law_same ok_law_pick (by decide) g_law_pick F_law_pick.kp B_law_pick ok_even_hands (by decide) g_even_hands F_even_hands.kp B_even_hands ok_hands_in_all (by decide) g_hands_in_all F_hands_in_all.kp B_hands_in_all ok_law_choose (by decide) g_law_choose F_law_choose.kp B_law_choose ok_hands_of_shape (by decide) g_hands_of_shape F_hands_of_shape.kp B_hands_of_shape ok_law_all_shapes (by decide) g_law_all_shapes F_law_all_shapes.kp B_law_all_shapes cdv A outer s H E hr G hG) rd_law_k04
  exact ok_law
end LW
open PySem PySem.W PyProof.Rows
set_option maxHeartbeats 0 in
theorem PySem.Challenge.cw_boardcalls_k04_whole_hands_by_shapes_holds : PySem.Challenge.rw_boardcalls_k04_whole_hands_by_shapes.Holds := by
  w_on; o_law; k_head; (case hw => w_witness2)
  k_fill
  refine DL.law_walk (l := PySem.Challenge.rw_boardcalls_k04_whole_hands_by_shapes) (n := 63) (k := 6) (x := "script") (sp := DL.spLaw) rfl (by decide) rfl ⟨rfl, by decide, by decide⟩ (fun w h Y => PySem.W.kIn_of Y) ?F (fun ns Q hl _ q => ⟨ns, rfl, hl, q⟩)
  case F =>
    intro w mg fa h KX G hmg
    refine' LW.all_mk KX G hmg ?a_shape_of ?l_shape_of ?c_shape_of ?k_shape_of ?a_pattern_of ?l_pattern_of ?c_pattern_of ?k_pattern_of ?a_is_even_shape ?l_is_even_shape ?c_is_even_shape ?k_is_even_shape ?a_is_even ?l_is_even ?c_is_even ?k_is_even ?a_law_draw ?l_law_draw ?c_law_draw ?k_law_draw ?a_all_cards ?l_all_cards ?c_all_cards ?k_all_cards ?a_choose ?l_choose ?c_choose ?k_choose ?a_taken_at ?l_taken_at ?c_taken_at ?k_taken_at ?a_hands_in_all ?l_hands_in_all ?c_hands_in_all ?k_hands_in_all ?a_hand_at ?l_hand_at ?c_hand_at ?k_hand_at ?a_suit_ways ?l_suit_ways ?c_suit_ways ?k_suit_ways ?a_points_spread ?l_points_spread ?c_points_spread ?k_points_spread ?a_hands_of_shape ?l_hands_of_shape ?c_hands_of_shape ?k_hands_of_shape ?a_all_shapes ?l_all_shapes ?c_all_shapes ?k_all_shapes ?a_hands_of_pattern ?l_hands_of_pattern ?c_hands_of_pattern ?k_hands_of_pattern ?a_law_same ?l_law_same ?c_law_same ?k_law_same ?a_law_pick ?l_law_pick ?c_law_pick ?k_law_pick ?a_even_hands ?l_even_hands ?c_even_hands ?k_even_hands ?a_law_choose ?l_law_choose ?c_law_choose ?k_law_choose ?a_law_all_shapes ?l_law_all_shapes ?c_law_all_shapes ?k_law_all_shapes ?a_law ?l_law ?c_law ?k_law ?a_NoHand ?x_NoHand ?k_NoHand ?b_NoHand ?t_NoHand ?i_NoHand ?s_NoHand ?z_sorted ?z_tuple ?z_min ?z_len ?z_abs ?z_max ?z_range ?z_enumerate ?z_sum ?z_isinstance ?z_int ?z_bool ?z_str ?z_zip ?z_all ?z_list
    (case a_shape_of => k_is); (case l_shape_of => k_is); (case c_shape_of => k_is); (case k_shape_of => k_is); (case a_pattern_of => k_is); (case l_pattern_of => k_is); (case c_pattern_of => k_is); (case k_pattern_of => k_is); (case a_is_even_shape => k_is); (case l_is_even_shape => k_is); (case c_is_even_shape => k_is); (case k_is_even_shape => k_is); (case a_is_even => k_is); (case l_is_even => k_is); (case c_is_even => k_is); (case k_is_even => k_is); (case a_law_draw => k_is); (case l_law_draw => k_is); (case c_law_draw => k_is); (case k_law_draw => k_is); (case a_all_cards => k_is); (case l_all_cards => k_is); (case c_all_cards => k_is); (case k_all_cards => k_is); (case a_choose => k_is); (case l_choose => k_is); (case c_choose => k_is); (case k_choose => k_is); (case a_taken_at => k_is); (case l_taken_at => k_is); (case c_taken_at => k_is); (case k_taken_at => k_is); (case a_hands_in_all => k_is); (case l_hands_in_all => k_is); (case c_hands_in_all => k_is); (case k_hands_in_all => k_is); (case a_hand_at => k_is); (case l_hand_at => k_is); (case c_hand_at => k_is); (case k_hand_at => k_is); (case a_suit_ways => k_is); (case l_suit_ways => k_is); (case c_suit_ways => k_is); (case k_suit_ways => k_is); (case a_points_spread => k_is); (case l_points_spread => k_is); (case c_points_spread => k_is); (case k_points_spread => k_is); (case a_hands_of_shape => k_is); (case l_hands_of_shape => k_is); (case c_hands_of_shape => k_is); (case k_hands_of_shape => k_is); (case a_all_shapes => k_is); (case l_all_shapes => k_is); (case c_all_shapes => k_is); (case k_all_shapes => k_is); (case a_hands_of_pattern => k_is); (case l_hands_of_pattern => k_is); (case c_hands_of_pattern => k_is); (case k_hands_of_pattern => k_is); (case a_law_same => k_is); (case l_law_same => k_is); (case c_law_same => k_is); (case k_law_same => k_is); (case a_law_pick => k_is); (case l_law_pick => k_is); (case c_law_pick => k_is); (case k_law_pick => k_is); (case a_even_hands => k_is); (case l_even_hands => k_is); (case c_even_hands => k_is); (case k_even_hands => k_is); (case a_law_choose => k_is); (case l_law_choose => k_is); (case c_law_choose => k_is); (case k_law_choose => k_is); (case a_law_all_shapes => k_is); (case l_law_all_shapes => k_is); (case c_law_all_shapes => k_is); (case k_law_all_shapes => k_is); (case a_law => k_is); (case l_law => k_is); (case c_law => k_is); (case k_law => k_is); (case a_NoHand => k_is); (case k_NoHand => k_is); (case b_NoHand => k_is); (case t_NoHand => k_is); (case i_NoHand => k_is); (case z_sorted => k_is); (case z_tuple => k_is); (case z_min => k_is); (case z_len => k_is); (case z_abs => k_is); (case z_max => k_is); (case z_range => k_is); (case z_enumerate => k_is); (case z_sum => k_is); (case z_isinstance => k_is); (case z_int => k_is); (case z_bool => k_is); (case z_str => k_is); (case z_zip => k_is); (case z_all => k_is); (case z_list => k_is); (case x_NoHand => k_exc); (case s_NoHand => (first | rfl | k_is))
