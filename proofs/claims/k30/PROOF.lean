import PyProof.Rows.All
import Wide.All
import OpenK.AllK
import Wide.FinOn
import HandS.ForMost
import HandS.Deep
import HandS.Flow
import HandS.IsInst
import HandS.EndBits
import KE.KDictKeyed
import HandS.DictTup
import HandS.Style
import HandS.Wide
import HandS.Zip
import HandS.Walk
import HandS.Ends
import HandS.Set
import HandS.SetFor
import HandS.Strs
import KE.SortData
import HandS.SortKw
import KE.GoesMore
import KE.DataFind
import KE.DataCmp
import KE.GoesZip
import KE.GoesEnum
import HandS.TupMul
import KE.DataMinMax
import HandS.TupSets
import KE.KDictDisplayH
import HandS.WordsExc
import HandS.TryOnly
import HandS.ExcOwn
import HandS.Conv
import HandS.NoneIn
import KE.KDictCopyH
import KE.KDictSum
import HandS.Records
import HandS.CallSlots
import HandS.Defaults
import HandS.MakeKw
import HandS.MakeKwOnly
import HandS.HotCalls
import HandS.ExcIs
import PySem.Challenge.RW_boardcalls_k30_whole_tables_turned
set_option Elab.async false
set_option linter.all false
set_option maxRecDepth 100000
/-! DL1: deep data over the hand layer: relations, judgements, names, constants, statements. -/
namespace DL
open PySem PySem.Spec PyProof.Rows L2
abbrev D := PyData
abbrev St := L2.St
/-- a list that nobody writes: frozen, or one of the module's own -/
def LsF (K : PySem.W.Frag) (H : Hp) (a : Addr) (vs : List V) : Prop :=
  (∃ o, H a = some (.frz o (.lst vs))) ∨ ∃ (its : Array Value) (n : Nat), K.lookup a = some { cls := .type "list", data := .seq its n } ∧ its.size ≤ sizeLine ∧ Vals vs its.toList
theorem LsF.sq {K : PySem.W.Frag} {H : Hp} {a : Addr} {vs : List V} (h : LsF K H a vs) : SqL K H a vs := by
  rcases h with h | ⟨its, n, e, z, r⟩
  · exact .inl (.inr h)
  · exact .inr ⟨_, its, n, e, rfl, rfl, rfl, z, r⟩
theorem LsF.of {K : PySem.W.Frag} {H : Hp} {a : Addr} {vs : List V} {o : Obj} (h : H a = some (.frz o (.lst vs))) : LsF K H a vs := .inl ⟨o, h⟩
/-- the object at a has no dict of its own -/
def DNo (K : PySem.W.Frag) (H : Hp) (a : Addr) : Prop := (∃ (o : Obj) (u : HO), H a = some (.frz o u) ∧ o.dict = none) ∨ ∃ o, K.lookup a = some o ∧ o.dict = none
def SqD (K : PySem.W.Frag) (H : Hp) (a : Addr) (vs : List V) : Prop := SqT K H a vs ∧ DNo K H a
/-! ### dicts whose keys are tuples (of ints, nested): the object by its entries -/
mutual
/-- the key of a dict that a tuple of ints (nested) is -/
def nkOf : D → Option NestedKey
  | .int i => some (.num i)
  | .tuple xs => (nksOf xs).map .tup
  | _ => none
def nksOf : List D → Option (List NestedKey)
  | [] => some []
  | x :: xs => match nkOf x, nksOf xs with
    | some k, some ks => some (k :: ks)
    | _, _ => none
end
/-- at a stands a dict with these entries -/
def dO (a : Addr) (es : List DictEntry) : HO := .ext fun h => ∃ (o : Obj) (ep : Nat), h.get? a = some o ∧ o.ExactDict ∧ o.data = .dict es.toArray ep
/-- a key (an int, a text) as data -/
def keyDt : Key → D
  | .inl i => .int i
  | .inr x => .str x
/-- an object's name as data -/
def hdl (a : Addr) : D := .dict [(.none, .int a)]
mutual
/-- the value v stands for the data d; lists within data are frozen -/
inductive Rp (K : PySem.W.Frag) (H : Hp) : D → V → Prop
  | non : Rp K H .none .non
  | bl (b : Bool) : Rp K H (.bool b) (.bl b)
  | int (i : Int) : Rp K H (.int i) (.int i)
  | str (x : Str) : Rp K H (.str x) (.str x)
  | tup {a : Addr} {vs : List V} {ds : List D} : SqD K H a vs → RpL K H ds vs → Rp K H (.tuple ds) (.ref a)
  | lst {a : Addr} {vs : List V} {ds : List D} : LsF K H a vs → RpL K H ds vs → Rp K H (.list ds) (.ref a)
  | dct {a : Addr} {o : Obj} {es : List DictEntry} {kvs : List (D × D)} : H a = some (.frz o (dO a es)) → RpD K H kvs es → (kvs.map fun p => nkOf p.1).Nodup → (a == sysModules) = false → Rp K H (.dict kvs) (.ref a)
  | hdl (a : Addr) : Rp K H (hdl a) (.ref a)
  | dck {a : Addr} {o : Obj} {us : List (Key × V)} {kvs : List (D × D)} : H a = some (.frz o (.dK us)) → kvs.map (·.1) = us.map (fun u => keyDt u.1) → RpL K H (kvs.map (·.2)) (us.map (·.2)) → kvs ≠ [] → Rp K H (.dict kvs) (.ref a)
inductive RpL (K : PySem.W.Frag) (H : Hp) : List D → List V → Prop
  | nil : RpL K H [] []
  | cons {d : D} {v : V} {ds : List D} {vs : List V} : Rp K H d v → RpL K H ds vs → RpL K H (d :: ds) (v :: vs)
/-- the entries of a dict -/
inductive RpD (K : PySem.W.Frag) (H : Hp) : List (D × D) → List DictEntry → Prop
  | nil : RpD K H [] []
  | cons {k d : D} {nk : NestedKey} {b : Addr} {v : V} {e : DictEntry} {kvs : List (D × D)} {es : List DictEntry} : (∃ xs, k = .tuple xs) → nkOf k = some nk → nk.depth ≤ 8 → (∀ w, e.hash = nk.hash w) → e.key = .ref b → Rp K H k (.ref b) → Rp K H d v → RelV v e.val → RpD K H kvs es → RpD K H ((k, d) :: kvs) (e :: es)
end
/-- what never changes stays -/
structure Ext (H H' : Hp) : Prop where
  tup : ∀ a xs, H a = some (.tup xs) → H' a = some (.tup xs)
  frz : ∀ a o u, H a = some (.frz o u) → H' a = some (.frz o u)
/-- all stays -/
def PExt (H H' : Hp) : Prop := ∀ a o, H a = some o → H' a = some o
theorem PExt.ext {H H' : Hp} (p : PExt H H') : Ext H H' := ⟨fun a xs h => p a _ h, fun a o u h => p a _ h⟩
theorem PExt.refl (H : Hp) : PExt H H := fun _ _ h => h
theorem PExt.trans {H H1 H2 : Hp} (a : PExt H H1) (b : PExt H1 H2) : PExt H H2 := fun p o h => b p o (a p o h)
theorem Ext.refl (H : Hp) : Ext H H := ⟨fun _ _ h => h, fun _ _ _ h => h⟩
theorem Ext.trans {H H1 H2 : Hp} (a : Ext H H1) (b : Ext H1 H2) : Ext H H2 := ⟨fun p xs h => b.tup p xs (a.tup p xs h), fun p o u h => b.frz p o u (a.frz p o u h)⟩
theorem PExt.new {H : Hp} {p : Addr} {o : HO} (h : H p = none) : PExt H (upd H p o) := fun a u e => by
  rw [upd_ne (ne_of_none e h)]; exact e
/-- something soft is changed -/
theorem Ext.putS {H : Hp} {p : Addr} {u o : HO} (h : H p = some u) (h1 : ∀ xs, u ≠ .tup xs) (h2 : ∀ q v, u ≠ .frz q v) : Ext H (upd H p o) :=
  ⟨fun a ys e => by rw [upd_ne (ne_of e h (Ne.symm (h1 ys)))]; exact e, fun a q v e => by rw [upd_ne (ne_of e h (Ne.symm (h2 q v)))]; exact e⟩
/-- a list is changed -/
theorem Ext.put {H : Hp} {p : Addr} {xs : List V} {o : HO} (h : H p = some (.lst xs)) : Ext H (upd H p o) :=
  ⟨fun a ys e => by rw [upd_ne (ne_of e h (by intro z; cases z))]; exact e, fun a q u e => by rw [upd_ne (ne_of e h (by intro z; cases z))]; exact e⟩
section
variable {K : PySem.W.Frag} {H H' : Hp}
theorem SqT.ext {a : Addr} {xs : List V} (x : Ext H H') (h : SqT K H a xs) : SqT K H' a xs := by
  rcases h with (h | ⟨o, h⟩) | h
  · exact .inl (.inl (x.tup _ _ h))
  · exact .inl (.inr ⟨o, x.frz _ _ _ h⟩)
  · exact .inr h
theorem SqD.ext {a : Addr} {xs : List V} (x : Ext H H') (h : SqD K H a xs) : SqD K H' a xs := by
  refine ⟨SqT.ext x h.1, ?_⟩
  rcases h.2 with ⟨o, u, e, d⟩ | h
  · exact .inl ⟨o, u, x.frz _ _ _ e, d⟩
  · exact .inr h
theorem SqD.new {p : Addr} {o : Obj} {vs : List V} (d : o.dict = none) : SqD K (upd H p (.frz o (.tup vs))) p vs := ⟨.inl (.inr ⟨o, upd_same⟩), .inl ⟨o, _, upd_same, d⟩⟩
theorem LsF.ext {a : Addr} {xs : List V} (x : Ext H H') (h : LsF K H a xs) : LsF K H' a xs := by
  rcases h with ⟨o, h⟩ | h
  · exact .inl ⟨o, x.frz _ _ _ h⟩
  · exact .inr h
mutual
theorem Rp.ext (x : Ext H H') : ∀ {d : D} {v : V}, Rp K H d v → Rp K H' d v
  | _, _, .non => .non
  | _, _, .bl b => .bl b
  | _, _, .int i => .int i
  | _, _, .str s => .str s
  | _, _, .tup h l => .tup (SqD.ext x h) (RpL.ext x l)
  | _, _, .lst h l => .lst (LsF.ext x h) (RpL.ext x l)
  | _, _, .dct h l n m => .dct (x.frz _ _ _ h) (RpD.ext x l) n m
  | _, _, .hdl a => .hdl a
  | _, _, .dck h e l n => .dck (x.frz _ _ _ h) e (RpL.ext x l) n
theorem RpL.ext (x : Ext H H') : ∀ {ds : List D} {vs : List V}, RpL K H ds vs → RpL K H' ds vs
  | _, _, .nil => .nil
  | _, _, .cons h l => .cons (Rp.ext x h) (RpL.ext x l)
theorem RpD.ext (x : Ext H H') : ∀ {kvs : List (D × D)} {es : List DictEntry}, RpD K H kvs es → RpD K H' kvs es
  | _, _, .nil => .nil
  | _, _, .cons t n1 n2 n3 e h g r l => .cons t n1 n2 n3 e (Rp.ext x h) (Rp.ext x g) r (RpD.ext x l)
end
theorem RpD.length : ∀ {kvs : List (D × D)} {es : List DictEntry}, RpD K H kvs es → kvs.length = es.length
  | _, _, .nil => rfl
  | _, _, .cons _ _ _ _ _ _ _ _ l => by rw [List.length_cons, List.length_cons, RpD.length l]
theorem RpL.length : ∀ {ds : List D} {vs : List V}, RpL K H ds vs → ds.length = vs.length
  | _, _, .nil => rfl
  | _, _, .cons _ l => by rw [List.length_cons, List.length_cons, RpL.length l]
theorem RpL.get : ∀ {ds : List D} {vs : List V} {i : Nat} {d : D}, RpL K H ds vs → ds[i]? = some d → ∃ v, vs[i]? = some v ∧ Rp K H d v
  | _, _, _, _, .nil, e => by simp at e
  | _, _, 0, _, .cons r _, e => by simp at e; subst e; exact ⟨_, rfl, r⟩
  | _, _, i + 1, d, .cons _ t, e => by
    obtain ⟨u, h1, h2⟩ := RpL.get (i := i) (d := d) t (by simpa using e)
    exact ⟨u, by simpa using h1, h2⟩
theorem RpL.getV : ∀ {ds : List D} {vs : List V} {i : Nat} {v : V}, RpL K H ds vs → vs[i]? = some v → ∃ d, ds[i]? = some d ∧ Rp K H d v
  | _, _, _, _, .nil, e => by simp at e
  | _, _, 0, _, .cons r _, e => by simp at e; subst e; exact ⟨_, rfl, r⟩
  | _, _, i + 1, d, .cons _ t, e => by
    obtain ⟨u, h1, h2⟩ := RpL.getV (i := i) (v := d) t (by simpa using e)
    exact ⟨u, by simpa using h1, h2⟩
theorem RpL.append : ∀ {ds es : List D} {vs us : List V}, RpL K H ds vs → RpL K H es us → RpL K H (ds ++ es) (vs ++ us)
  | _, _, _, _, .nil, s => s
  | _, _, _, _, .cons r t, s => .cons r (RpL.append t s)
theorem RpL.take : ∀ {ds : List D} {vs : List V} (n : Nat), RpL K H ds vs → RpL K H (ds.take n) (vs.take n)
  | _, _, 0, _ => .nil
  | _, _, _ + 1, .nil => .nil
  | _, _, n + 1, .cons r t => .cons r (RpL.take n t)
theorem RpL.drop : ∀ {ds : List D} {vs : List V} (n : Nat), RpL K H ds vs → RpL K H (ds.drop n) (vs.drop n)
  | _, _, 0, r => r
  | _, _, _ + 1, .nil => .nil
  | _, _, n + 1, .cons _ t => RpL.drop n t
theorem RpL.set {d : D} {v : V} (r : Rp K H d v) : ∀ {ds : List D} {vs : List V} (i : Nat), RpL K H ds vs → RpL K H (ds.set i d) (vs.set i v)
  | _, _, _, .nil => .nil
  | _, _, 0, .cons _ t => .cons r t
  | _, _, i + 1, .cons q t => .cons q (RpL.set r i t)
theorem RpL.eraseIdx : ∀ {ds : List D} {vs : List V} (i : Nat), RpL K H ds vs → RpL K H (ds.eraseIdx i) (vs.eraseIdx i)
  | _, _, _, .nil => .nil
  | _, _, 0, .cons _ t => t
  | _, _, i + 1, .cons q t => .cons q (RpL.eraseIdx i t)
theorem RpL.reverse : ∀ {ds : List D} {vs : List V}, RpL K H ds vs → RpL K H ds.reverse vs.reverse
  | _, _, .nil => .nil
  | _, _, .cons q t => by rw [List.reverse_cons, List.reverse_cons]; exact RpL.append (RpL.reverse t) (.cons q .nil)
theorem RpL.ints : ∀ {ns : List Int} {vs : List V}, RpL K H (ns.map PyData.int) vs → vs = ns.map V.int
  | [], _, .nil => rfl
  | _ :: _, _, .cons (.int _) t => by rw [RpL.ints t]; rfl
theorem RpL.ofInts : ∀ (ns : List Int), RpL K H (ns.map PyData.int) (ns.map V.int)
  | [] => .nil
  | n :: ns => .cons (.int n) (RpL.ofInts ns)
mutual
theorem Rp.dp : ∀ {d : D} {v : V}, Rp K H d v → d.canLay0 = true → Dp K H v d
  | _, _, .non, _ => .non
  | _, _, .bl b, _ => .bl b
  | _, _, .int i, _ => .int i
  | _, _, .str s, _ => .str s
  | _, _, .tup h l, z => .tup h.1 (RpL.dp l (by simpa [PyData.canLay0] using z))
  | _, _, .lst h l, z => .lst h.sq (RpL.dp l (by simpa [PyData.canLay0] using z))
  | _, _, .dct _ _ _ _, z => by simp [PyData.canLay0] at z
  | _, _, .hdl a, z => by simp [DL.hdl, PyData.canLay0] at z
  | _, _, .dck _ _ _ _, z => by simp [PyData.canLay0] at z
theorem RpL.dp : ∀ {ds : List D} {vs : List V}, RpL K H ds vs → PyData.canLayAll0 ds = true → DpAll K H vs ds
  | _, _, .nil, _ => .nil
  | _, _, .cons h l, z => by
    simp only [PyData.canLayAll0, Bool.and_eq_true] at z
    exact .cons (Rp.dp h z.1) (RpL.dp l z.2)
end
end
/-- readable now: as Rp, the outermost list may be one that can change -/
def RpR (K : PySem.W.Frag) (H : Hp) (d : D) (v : V) : Prop :=
  Rp K H d v ∨ ∃ (ds : List D) (a : Addr) (vs : List V), d = .list ds ∧ v = .ref a ∧ H a = some (.lst vs) ∧ RpL K H ds vs
theorem RpR.dp {K : PySem.W.Frag} {H : Hp} {d : D} {v : V} (h : RpR K H d v) (z : d.canLay0 = true) : Dp K H v d := by
  rcases h with h | ⟨ds, a, vs, rfl, rfl, h, l⟩
  · exact h.dp z
  · exact .lst (.inl (.inl h)) (l.dp (by simpa [PyData.canLay0] using z))
/-- what an iterator hands out: a pair of its own may be there, of which less is known -/
def RpB (W : Bool) (K : PySem.W.Frag) (H : Hp) (d : D) (v : V) : Prop :=
  if W = true then Rp K H d v ∨ ∃ (ds : List D) (a : Addr) (vs : List V), d = .tuple ds ∧ v = .ref a ∧ SqT K H a vs ∧ RpL K H ds vs else Rp K H d v
theorem RpB.of {W : Bool} {K : PySem.W.Frag} {H : Hp} {d : D} {v : V} (h : Rp K H d v) : RpB W K H d v := by unfold RpB; split; exact .inl h; exact h
theorem RpB.pair {K : PySem.W.Frag} {H : Hp} {ds : List D} {a : Addr} {vs : List V} (h : SqT K H a vs) (l : RpL K H ds vs) : RpB true K H (.tuple ds) (.ref a) := .inr ⟨_, _, _, rfl, rfl, h, l⟩
/-- a list or a tuple that is read: its items -/
theorem RpR.list {K : PySem.W.Frag} {H : Hp} {ds : List D} {v : V} (h : RpR K H (.list ds) v) : ∃ a vs, v = .ref a ∧ SqL K H a vs ∧ RpL K H ds vs := by
  rcases h with h | ⟨ds, a, vs, e, rfl, h, l⟩
  · cases h with
    | lst h l => exact ⟨_, _, rfl, h.sq, l⟩
  · cases e
    exact ⟨_, _, rfl, .inl (.inl h), l⟩
theorem RpR.tupD {K : PySem.W.Frag} {H : Hp} {ds : List D} {v : V} (h : RpR K H (.tuple ds) v) : ∃ a vs, v = .ref a ∧ SqD K H a vs ∧ RpL K H ds vs := by
  rcases h with h | ⟨ds, a, vs, e, _⟩
  · cases h with
    | tup h l => exact ⟨_, _, rfl, h, l⟩
  · cases e
theorem RpR.tuple {K : PySem.W.Frag} {H : Hp} {ds : List D} {v : V} (h : RpR K H (.tuple ds) v) : ∃ a vs, v = .ref a ∧ SqT K H a vs ∧ RpL K H ds vs := by
  rcases h with h | ⟨ds, a, vs, e, rfl, h, l⟩
  · cases h with
    | tup h l => exact ⟨_, _, rfl, h.1, l⟩
  · cases e
theorem RpR.int {K : PySem.W.Frag} {H : Hp} {i : Int} {v : V} (h : RpR K H (.int i) v) : v = .int i := by
  rcases h with h | ⟨_, _, _, e, _⟩
  · cases h; rfl
  · cases e
theorem RpR.str {K : PySem.W.Frag} {H : Hp} {i : Str} {v : V} (h : RpR K H (.str i) v) : v = .str i := by
  rcases h with h | ⟨_, _, _, e, _⟩
  · cases h; rfl
  · cases e
theorem RpR.bool {K : PySem.W.Frag} {H : Hp} {i : Bool} {v : V} (h : RpR K H (.bool i) v) : v = .bl i := by
  rcases h with h | ⟨_, _, _, e, _⟩
  · cases h; rfl
  · cases e
theorem RpR.none {K : PySem.W.Frag} {H : Hp} {v : V} (h : RpR K H .none v) : v = .non := by
  rcases h with h | ⟨_, _, _, e, _⟩
  · cases h; rfl
  · cases e
theorem RpR.pext {K : PySem.W.Frag} {H H' : Hp} {d : D} {v : V} (p : PExt H H') (h : RpR K H d v) : RpR K H' d v := by
  rcases h with h | ⟨ds, a, vs, rfl, rfl, h, l⟩
  · exact .inl (h.ext p.ext)
  · exact .inr ⟨ds, a, vs, rfl, rfl, p _ _ h, l.ext p.ext⟩
/-! ### the environment -/
inductive FS where
  | d (x : D)
  | l (xs : List D)
inductive S where
  /-- not known -/
  | un
  /-- data -/
  | d (x : D)
  /-- a list of one's own that may change -/
  | ol (xs : List D)
  /-- a dict of one's own, keys tuples of ints -/
  | dt (kvs : List (D × D))
  /-- a dict of one's own, keys ints and texts -/
  | dk (kvs : List (Key × D))
  /-- no name's: the object at a, of the class at C -/
  | ob (a C : Addr) (fs : List (Str × FS))
abbrev Env := List S
def S.isMut : S → Bool
  | .ol _ => true
  | .dt _ => true
  | .dk _ => true
  | _ => false
structure Gh where
  H0 : Hp
  own : List (Nat × Addr)
  X0 : Hp := fun _ => none
  more : List Addr := []
def Gh.slots (G : Gh) : List Nat := G.own.map (·.1)
def Gh.addrs (G : Gh) : List Addr := G.own.map (·.2) ++ G.more
/-- a mutable thing at an address -/
def RelM (K : PySem.W.Frag) (H : Hp) : S → Addr → Prop
  | .ol xs, a => ∃ vs, H a = some (.lst vs) ∧ RpL K H xs vs
  | .dt kvs, a => ∃ es, H a = some (dO a es) ∧ RpD K H kvs es ∧ (kvs.map fun p => nkOf p.1).Nodup ∧ (a == sysModules) = false
  | .dk kvs, a => ∃ us, H a = some (.dK us) ∧ us.map (·.1) = kvs.map (·.1) ∧ RpL K H (kvs.map (·.2)) (us.map (·.2))
  | _, _ => False
/-- the fields of an object: data, lists of its own -/
inductive FsR (K : PySem.W.Frag) (H : Hp) : List (Str × FS) → List (Str × V) → List Addr → Prop
  | nil : FsR K H [] [] []
  | d {f : Str} {x : D} {v : V} {fs : List (Str × FS)} {vs : List (Str × V)} {ls : List Addr} : Rp K H x v → FsR K H fs vs ls → FsR K H ((f, .d x) :: fs) ((f, v) :: vs) ls
  | l {f : Str} {xs : List D} {a : Addr} {us : List V} {fs : List (Str × FS)} {vs : List (Str × V)} {ls : List Addr} : H a = some (.lst us) → RpL K H xs us → FsR K H fs vs ls → FsR K H ((f, .l xs) :: fs) ((f, .ref a) :: vs) (a :: ls)
def RelOb (K : PySem.W.Frag) (H : Hp) (a C : Addr) (fs : List (Str × FS)) (fp : List Addr) : Prop :=
  ∃ dx vs ls, fp = a :: dx :: ls ∧ fp.Nodup ∧ H a = some (.ins C dx vs) ∧ H dx = some (.own a) ∧ FsR K H fs vs ls
def RelS (K : PySem.W.Frag) (H : Hp) (s : S) (o : Option (Option V)) (fp : List Addr) : Prop :=
  match s with
  | .un => fp = []
  | .d x => fp = [] ∧ ∃ v, o = some (some v) ∧ Rp K H x v
  | .ob a C fs => RelOb K H a C fs fp
  | .ol xs => ∃ a, fp = [a] ∧ o = some (some (.ref a)) ∧ RelM K H (.ol xs) a
  | .dt xs => ∃ a, fp = [a] ∧ o = some (some (.ref a)) ∧ RelM K H (.dt xs) a
  | .dk xs => ∃ a, fp = [a] ∧ o = some (some (.ref a)) ∧ RelM K H (.dk xs) a
theorem RelS.mut {K : PySem.W.Frag} {H : Hp} {s : S} {o : Option (Option V)} {fp : List Addr} (h : RelS K H s o fp) (m : s.isMut = true) : ∃ a, fp = [a] ∧ o = some (some (.ref a)) ∧ RelM K H s a := by
  cases s with
  | ol _ => exact h
  | dt _ => exact h
  | dk _ => exact h
  | _ => cases m
theorem RelS.ofMut {K : PySem.W.Frag} {H : Hp} {s : S} {o : Option (Option V)} {a : Addr} (m : s.isMut = true) (e : o = some (some (.ref a))) (h : RelM K H s a) : RelS K H s o [a] := by
  cases s with
  | ol _ => exact ⟨a, rfl, e, h⟩
  | dt _ => exact ⟨a, rfl, e, h⟩
  | dk _ => exact ⟨a, rfl, e, h⟩
  | _ => cases m
/-- what can change: no tuple, nothing frozen -/
def Soft (H : Hp) (a : Addr) : Prop := ∃ u, H a = some u ∧ (∀ xs, u ≠ .tup xs) ∧ ∀ o v, u ≠ .frz o v
theorem RelM.soft {K : PySem.W.Frag} {H : Hp} {s : S} {a : Addr} (h : RelM K H s a) : Soft H a := by
  cases s with
  | ol xs => obtain ⟨vs, e, _⟩ := h; exact ⟨_, e, (fun _ z => by cases z), fun _ _ z => by cases z⟩
  | dt xs => obtain ⟨vs, e, _⟩ := h; exact ⟨_, e, (fun _ z => by cases z), fun _ _ z => by cases z⟩
  | dk xs => obtain ⟨vs, e, _⟩ := h; exact ⟨_, e, (fun _ z => by cases z), fun _ _ z => by cases z⟩
  | _ => exact h.elim
theorem RelM.isMut {K : PySem.W.Frag} {H : Hp} {s : S} {a : Addr} (h : RelM K H s a) : s.isMut = true := by
  cases s with
  | ol xs => rfl
  | dt xs => rfl
  | dk xs => rfl
  | _ => exact h.elim
theorem RelM.move {K : PySem.W.Frag} {H H' : Hp} {s : S} {a : Addr} (h : RelM K H s a) (x : Ext H H') (k : H' a = H a) : RelM K H' s a := by
  cases s with
  | ol xs => obtain ⟨vs, e, l⟩ := h; exact ⟨vs, by rw [k]; exact e, l.ext x⟩
  | dt xs => obtain ⟨es, e, l, n, m⟩ := h; exact ⟨es, by rw [k]; exact e, l.ext x, n, m⟩
  | dk xs => obtain ⟨us, e, n, l⟩ := h; exact ⟨us, by rw [k]; exact e, n, l.ext x⟩
  | _ => exact h.elim
theorem FsR.move {K : PySem.W.Frag} {H H' : Hp} (x : Ext H H') : ∀ {fs : List (Str × FS)} {vs : List (Str × V)} {ls : List Addr}, FsR K H fs vs ls → (∀ p ∈ ls, H' p = H p) → FsR K H' fs vs ls
  | _, _, _, .nil, _ => .nil
  | _, _, _, FsR.d h r, k => FsR.d (h.ext x) (FsR.move x r k)
  | _, _, _, FsR.l h q r, k => FsR.l (by rw [k _ (List.mem_cons_self ..)]; exact h) (q.ext x) (FsR.move x r fun p hp => k p (List.mem_cons_of_mem _ hp))
theorem FsR.soft {K : PySem.W.Frag} {H : Hp} : ∀ {fs : List (Str × FS)} {vs : List (Str × V)} {ls : List Addr}, FsR K H fs vs ls → ∀ p ∈ ls, Soft H p
  | _, _, _, .nil, p, hp => by cases hp
  | _, _, _, FsR.d h r, p, hp => FsR.soft r p hp
  | _, _, _, FsR.l h q r, p, hp => by
    rcases List.mem_cons.mp hp with z | z
    · subst z; exact ⟨_, h, (fun _ z => by cases z), fun _ _ z => by cases z⟩
    · exact FsR.soft r p z
/-- what a slot holds stays, if its footprint does -/
theorem RelS.move {K : PySem.W.Frag} {H H' : Hp} {s : S} {o : Option (Option V)} {fp : List Addr} (h : RelS K H s o fp) (x : Ext H H') (k : ∀ p ∈ fp, H' p = H p) : RelS K H' s o fp := by
  cases s with
  | un => exact h
  | d y => obtain ⟨h1, v, h2, h3⟩ := h; exact ⟨h1, v, h2, h3.ext x⟩
  | ob a C fs =>
    obtain ⟨dx, vs, ls, e, nd, h1, h2, h3⟩ := h
    subst e
    exact ⟨dx, vs, ls, rfl, nd, by rw [k a (by simp)]; exact h1, by rw [k dx (by simp)]; exact h2, h3.move x fun p hp => k p (by simp [hp])⟩
  | ol xs => obtain ⟨a, e, e2, h⟩ := h; subst e; exact ⟨a, rfl, e2, h.move x (k a (by simp))⟩
  | dt xs => obtain ⟨a, e, e2, h⟩ := h; subst e; exact ⟨a, rfl, e2, h.move x (k a (by simp))⟩
  | dk xs => obtain ⟨a, e, e2, h⟩ := h; subst e; exact ⟨a, rfl, e2, h.move x (k a (by simp))⟩
/-- ex: addresses apart from all footprints -/
structure RelX (K : PySem.W.Frag) (G : Gh) (ex : List Addr) (H : Hp) (E : Env) (σ : St) : Prop where
  len : E.length = σ.length
  keep : ∀ p o, G.H0 p = some o → p ∉ G.addrs → H p = some o
  pin : ∀ i a, (i, a) ∈ G.own → σ[i]? = some (some (V.ref a))
  dom : ∀ a ∈ G.addrs, H a ≠ none
  ext : Ext G.X0 H
  fp : ∃ A : Nat → List Addr, (∀ i j a, a ∈ A i → a ∈ A j → i = j) ∧ (∀ i a, a ∈ A i → (a ∈ G.addrs ∨ G.H0 a = none) ∧ a ∉ ex) ∧ ∀ i s, E[i]? = some s → RelS K H s σ[i]? (A i)
abbrev RelE (K : PySem.W.Frag) (G : Gh) (H : Hp) (E : Env) (σ : St) : Prop := RelX K G [] H E σ
section
variable {K : PySem.W.Frag} {G : Gh} {H H' : Hp} {E : Env} {σ : St} {ex : List Addr}
/-- a footprint lies in the heap -/
theorem RelS.indom {s : S} {o : Option (Option V)} {fp : List Addr} (h : RelS K H s o fp) : ∀ a ∈ fp, Soft H a := by
  cases s with
  | un => intro a ha; rw [show fp = [] from h] at ha; cases ha
  | d x => intro a ha; rw [h.1] at ha; cases ha
  | ob a C fs =>
    obtain ⟨dx, vs, ls, e, nd, h1, h2, h3⟩ := h
    subst e
    intro p hp
    rcases List.mem_cons.mp hp with z | z
    · subst z; exact ⟨_, h1, (fun _ z => by cases z), fun _ _ z => by cases z⟩
    · rcases List.mem_cons.mp z with z | z
      · subst z; exact ⟨_, h2, (fun _ z => by cases z), fun _ _ z => by cases z⟩
      · exact h3.soft p z
  | ol xs => obtain ⟨a, e, e2, h⟩ := h; subst e; intro p hp; rw [List.mem_singleton.mp hp]; exact h.soft
  | dt xs => obtain ⟨a, e, e2, h⟩ := h; subst e; intro p hp; rw [List.mem_singleton.mp hp]; exact h.soft
  | dk xs => obtain ⟨a, e, e2, h⟩ := h; subst e; intro p hp; rw [List.mem_singleton.mp hp]; exact h.soft
theorem RelS.pext {s : S} {o : Option (Option V)} {fp : List Addr} (p : PExt H H') (h : RelS K H s o fp) : RelS K H' s o fp :=
  h.move p.ext fun a ha => by
    obtain ⟨u, e, _⟩ := h.indom a ha
    rw [e, p _ _ e]
theorem RelX.pext (p : PExt H H') (h : RelX K G ex H E σ) : RelX K G ex H' E σ := by
  obtain ⟨l, k, pn, dm, x0, A, h1, h2, h3⟩ := h
  refine ⟨l, fun q o e ne => p _ _ (k q o e ne), pn, fun a ha z => ?_, x0.trans p.ext, A, h1, h2, fun i s e => (h3 i s e).pext p⟩
  cases q : H a with
  | none => exact dm a ha q
  | some o => have := p _ _ q; rw [z] at this; cases this
theorem RelX.weak (h : RelX K G ex H E σ) : RelE K G H E σ := by
  obtain ⟨l, k, pn, dm, x0, A, h1, h2, h3⟩ := h
  exact ⟨l, k, pn, dm, x0, A, h1, fun i a e => ⟨(h2 i a e).1, by simp⟩, h3⟩
end
end DL
set_option Elab.async false
set_option linter.all false
set_option maxRecDepth 100000
namespace DL
open PySem PySem.Spec PyProof.Rows L2
/-! ### judgements -/
abbrev TD := Env → (D → Env → Prop) → Prop
abbrev TLd := Env → (List D → Env → Prop) → Prop
abbrev TTd := Env → (Bool → Env → Prop) → Prop
structure EndsD where
  nx : Env → Prop
  rt : D → Env → Prop
  bk : Env → Prop := fun _ => False
  ct : Env → Prop := fun _ => False
abbrev TSd := EndsD → Env → Prop
/-- an argument: data, or a name of a mutable thing -/
inductive Arg where
  | v (x : D)
  | o (i : Nat)
abbrev TAd := Env → (List Arg → Env → Prop) → Prop
def liftE (K : PySem.W.Frag) (G : Gh) (t : TD) : TE := fun σ H Q => ∃ (E : Env) (QE : D → Env → Prop), RelE K G H E σ ∧ t E QE ∧ ∀ d E' v H', QE d E' → Ext H H' → RelE K G H' E' σ → Rp K H' d v → Q v H'
/-- a new list: nobody else has it -/
def liftL (K : PySem.W.Frag) (G : Gh) (t : TLd) : TE := fun σ H Q => ∃ (E : Env) (QE : List D → Env → Prop), RelE K G H E σ ∧ t E QE ∧
  ∀ xs E' a vs H', QE xs E' → Ext H H' → RelX K G [a] H' E' σ → G.H0 a = none → a ∉ G.addrs → H' a = some (.lst vs) → RpL K H' xs vs → Q (.ref a) H'
/-- readable now -/
def liftR (K : PySem.W.Frag) (G : Gh) (t : TD) : TE := fun σ H Q => ∃ (E : Env) (QE : D → Env → Prop), RelE K G H E σ ∧ t E QE ∧ ∀ d E' v H', QE d E' → Ext H H' → RelE K G H' E' σ → RpR K H' d v → Q v H'
def liftT (K : PySem.W.Frag) (G : Gh) (t : TTd) : TT := fun σ H Q => ∃ (E : Env) (QE : Bool → Env → Prop), RelE K G H E σ ∧ t E QE ∧ ∀ b E' H', QE b E' → Ext H H' → RelE K G H' E' σ → Q b H'
/-- the values of arguments at a heap -/
inductive RelA (K : PySem.W.Frag) (H : Hp) (σ : St) : List Arg → List V → Prop
  | nil : RelA K H σ [] []
  | v {x : D} {v : V} {as : List Arg} {vs : List V} : Rp K H x v → RelA K H σ as vs → RelA K H σ (.v x :: as) (v :: vs)
  | o {i : Nat} {v : V} {as : List Arg} {vs : List V} : σ[i]? = some (some v) → RelA K H σ as vs → RelA K H σ (.o i :: as) (v :: vs)
def liftA (K : PySem.W.Frag) (G : Gh) (t : TAd) : TA := fun σ H Q => ∃ (E : Env) (QE : List Arg → Env → Prop), RelE K G H E σ ∧ t E QE ∧ ∀ as E' vs H', QE as E' → Ext H H' → RelE K G H' E' σ → RelA K H' σ as vs → Q vs H'
def liftS (K : PySem.W.Frag) (G : Gh) (t : TSd) : TS := fun F σ H => ∃ (E : Env) (DE : EndsD), RelE K G H E σ ∧ t DE E ∧
  (∀ E' σ' H', DE.nx E' → Ext H H' → RelE K G H' E' σ' → F.nx σ' H') ∧
  (∀ d E' v σ' H', DE.rt d E' → Ext H H' → RelE K G H' E' σ' → Rp K H' d v → F.rt v H') ∧
  (∀ E' σ' H', DE.bk E' → Ext H H' → RelE K G H' E' σ' → F.bk σ' H') ∧
  (∀ E' σ' H', DE.ct E' → Ext H H' → RelE K G H' E' σ' → F.ct σ' H')
structure ED (X : Cx) (G : Gh) (e : Expr) (t : TD) : Prop where
  pe : PE X e (liftE X.K G t)
structure EL (X : Cx) (G : Gh) (e : Expr) (t : TLd) : Prop where
  pe : PE X e (liftL X.K G t)
structure ER (X : Cx) (G : Gh) (e : Expr) (t : TD) : Prop where
  pe : PE X e (liftR X.K G t)
structure EB (X : Cx) (G : Gh) (e : Expr) (t : TTd) : Prop where
  pt : PT X e (liftT X.K G t)
structure EW (X : Cx) (G : Gh) (e : Expr) (t : TTd) : Prop where
  pw : PW X e (liftT X.K G t)
structure EA (X : Cx) (G : Gh) (es : List Expr) (t : TAd) : Prop where
  pa : PA X es (liftA X.K G t)
structure SD (X : Cx) (G : Gh) (st : Stmt) (t : TSd) : Prop where
  ps : PS X st (liftS X.K G t)
structure SDs (X : Cx) (G : Gh) (st : List Stmt) (t : TSd) : Prop where
  pss : PSs X st (liftS X.K G t)
theorem PE.weak {X : Cx} {e : Expr} {t u : TE} (h : PE X e t) (w : ∀ σ H Q, u σ H Q → t σ H Q) : PE X e u := ⟨fun pins s σ H Q I q => h.run pins s σ H Q I (w σ H Q q)⟩
theorem PT.weak {X : Cx} {e : Expr} {t u : TT} (h : PT X e t) (w : ∀ σ H Q, u σ H Q → t σ H Q) : PT X e u := ⟨fun pins s σ H Q I q => h.run pins s σ H Q I (w σ H Q q)⟩
theorem PW.weak {X : Cx} {e : Expr} {t u : TT} (h : PW X e t) (w : ∀ σ H Q, u σ H Q → t σ H Q) : PW X e u := ⟨fun wh pins s σ H Q I q => h.run wh pins s σ H Q I (w σ H Q q)⟩
theorem PA.weak {X : Cx} {es : List Expr} {t u : TA} (h : PA X es t) (w : ∀ σ H Q, u σ H Q → t σ H Q) : PA X es u := ⟨fun pos pins s σ H Q I q => h.run pos pins s σ H Q I (w σ H Q q)⟩
theorem PS.weak {X : Cx} {st : Stmt} {t u : TS} (h : PS X st t) (w : ∀ F σ H, u F σ H → t F σ H) : PS X st u := ⟨fun pins s σ H F I q => h.run pins s σ H F I (w F σ H q)⟩
theorem PSs.weak {X : Cx} {st : List Stmt} {t u : TS} (h : PSs X st t) (w : ∀ F σ H, u F σ H → t F σ H) : PSs X st u := ⟨fun pins s σ H F I q => h.run pins s σ H F I (w F σ H q)⟩
section
variable {X : Cx} {G : Gh} {a b c e : Expr} {es : List Expr} {pos : Pos}
/-- data may be read -/
theorem ED.er {t : TD} (h : ED X G e t) : ER X G e t := ⟨PE.weak h.pe fun σ H Q ⟨E, QE, r, q, k⟩ => ⟨E, QE, r, q, fun d E' v H' z x r' p => k d E' v H' z x r' (.inl p)⟩⟩
/-! ### names, constants -/
def tV (i : Nat) : TD := fun E Q => match E[i]? with
  | some (.d x) => Q x E
  | _ => False
/-- a name that may hold a list that can change, read now -/
def tVr (i : Nat) : TD := fun E Q => match E[i]? with
  | some (.d x) => Q x E
  | some (.ol xs) => Q (.list xs) E
  | _ => False
def tK (d : D) : TD := fun E Q => Q d E
theorem RelX.data {K : PySem.W.Frag} {ex : List Addr} {H : Hp} {E : Env} {σ : St} {i : Nat} {x : D} (r : RelX K G ex H E σ) (e : E[i]? = some (.d x)) : ∃ v, σ[i]? = some (some v) ∧ Rp K H x v := by
  obtain ⟨l, k, pn, dm, x0, A, h1, h2, h3⟩ := r
  exact (h3 i _ e).2
theorem RelX.ol {K : PySem.W.Frag} {ex : List Addr} {H : Hp} {E : Env} {σ : St} {i : Nat} {xs : List D} (r : RelX K G ex H E σ) (e : E[i]? = some (.ol xs)) : ∃ a vs, σ[i]? = some (some (.ref a)) ∧ H a = some (.lst vs) ∧ RpL K H xs vs := by
  obtain ⟨l, k, pn, dm, x0, A, h1, h2, h3⟩ := r
  obtain ⟨a, e1, e2, vs, e3, e4⟩ := h3 i _ e
  exact ⟨a, vs, e2, e3, e4⟩
theorem RelX.mutAt {K : PySem.W.Frag} {ex : List Addr} {H : Hp} {E : Env} {σ : St} {i : Nat} {s : S} (r : RelX K G ex H E σ) (e : E[i]? = some s) (m : s.isMut = true) : ∃ a, σ[i]? = some (some (.ref a)) ∧ RelM K H s a := by
  obtain ⟨l, k, pn, dm, x0, A, h1, h2, h3⟩ := r
  obtain ⟨a, e1, e2, e3⟩ := (h3 i _ e).mut m
  exact ⟨a, e2, e3⟩
theorem ed_var (i : Nat) {x : Str} (hN : X.N[i]? = some x := by rfl) (hv : Vis X.env.scope x := by first | exact Or.inl rfl | exact Or.inr (Or.inl rfl) | exact Or.inr (Or.inr rfl)) (hd : (x == ("__debug__" : Str)) = false := by decide)
    (hcd : (x == ("__classdict__" : Str)) = false := by decide) : ED X G (.Name x pos) (tV i) := ⟨PE.weak (pe_var hN hv hd hcd) fun σ H Q ⟨E, QE, r, q, k⟩ => by
  unfold tV at q
  split at q
  · rename_i x he
    obtain ⟨v, e, p⟩ := r.data he
    exact ⟨v, e, k _ _ _ _ q (Ext.refl _) r p⟩
  · exact q.elim⟩
theorem er_var (i : Nat) {x : Str} (hN : X.N[i]? = some x := by rfl) (hv : Vis X.env.scope x := by first | exact Or.inl rfl | exact Or.inr (Or.inl rfl) | exact Or.inr (Or.inr rfl)) (hd : (x == ("__debug__" : Str)) = false := by decide)
    (hcd : (x == ("__classdict__" : Str)) = false := by decide) : ER X G (.Name x pos) (tVr i) := ⟨PE.weak (pe_var hN hv hd hcd) fun σ H Q ⟨E, QE, r, q, k⟩ => by
  unfold tVr at q
  split at q
  · rename_i x he
    obtain ⟨v, e, p⟩ := r.data he
    exact ⟨v, e, k _ _ _ _ q (Ext.refl _) r (.inl p)⟩
  · rename_i xs he
    obtain ⟨a, vs, e, h, p⟩ := r.ol he
    exact ⟨_, e, k _ _ _ _ q (Ext.refl _) r (.inr ⟨_, _, _, rfl, rfl, h, p⟩)⟩
  · exact q.elim⟩
theorem ed_int {i j} : ED X G (.Constant (.int i) j pos) (tK (.int i)) := ⟨PE.weak pe_int fun σ H Q ⟨E, QE, r, q, k⟩ => k _ _ _ _ q (Ext.refl _) r (.int i)⟩
theorem ed_bl {i j} : ED X G (.Constant (.bool i) j pos) (tK (.bool i)) := ⟨PE.weak pe_bl fun σ H Q ⟨E, QE, r, q, k⟩ => k _ _ _ _ q (Ext.refl _) r (.bl i)⟩
theorem ed_non {j} : ED X G (.Constant .none j pos) (tK .none) := ⟨PE.weak pe_non fun σ H Q ⟨E, QE, r, q, k⟩ => k _ _ _ _ q (Ext.refl _) r .non⟩
theorem ed_str {i j} : ED X G (.Constant (.str i) j pos) (tK (.str i)) := ⟨PE.weak pe_str fun σ H Q ⟨E, QE, r, q, k⟩ => k _ _ _ _ q (Ext.refl _) r (.str i)⟩
/-! ### operators -/
/-- what an operator gives of data -/
abbrev OpT := D → D → (D → Prop) → Prop
/-- by values: the heap only grows -/
def OpD (X : Cx) (f : Value → Value → Sem Value) (op : OpT) : Prop := ∃ r : R2, OpR X f r ∧
  ∀ x y v u H (QD : D → Prop) (Q : VK), RpR X.K H x v → RpR X.K H y u → op x y QD → (∀ z w H', QD z → PExt H H' → Rp X.K H' z w → Q w H') → r v u H Q
theorem OpD.or {f : Value → Value → Sem Value} {op op' : OpT} (h : OpD X f op) (h' : OpD X f op') : OpD X f (fun x y Q => op x y Q ∨ op' x y Q) := by
  obtain ⟨r, hr, hq⟩ := h
  obtain ⟨r', hr', hq'⟩ := h'
  refine ⟨_, hr.or hr', fun x y v u H QD Q hx hy q k => ?_⟩
  rcases q with q | q
  · exact .inl (hq x y v u H QD Q hx hy q k)
  · exact .inr (hq' x y v u H QD Q hx hy q k)
theorem OpD.weak {f : Value → Value → Sem Value} {op op' : OpT} (h : OpD X f op) (w : ∀ x y Q, op' x y Q → op x y Q) : OpD X f op' := by
  obtain ⟨r, hr, hq⟩ := h
  exact ⟨r, hr, fun x y v u H QD Q hx hy q k => hq x y v u H QD Q hx hy (w _ _ _ q) k⟩
def tOpD (op : OpT) (ta tb : TD) : TD := fun E Q => ta E fun x E1 => tb E1 fun y E2 => op x y fun z => Q z E2
/-- two parts: the left is data -/
theorem lift_bin {K : PySem.W.Frag} {op : OpT} {ta tb : TD} {r : R2} (hr : ∀ x y v u H (QD : D → Prop) (Q : VK), RpR K H x v → RpR K H y u → op x y QD → (∀ z w H', QD z → PExt H H' → Rp K H' z w → Q w H') → r v u H Q)
    (σ : St) (H : Hp) (Q : VK) (h : liftE K G (tOpD op ta tb) σ H Q) : tOp r (liftE K G ta) (liftR K G tb) σ H Q := by
  obtain ⟨E, QE, rel, q, k⟩ := h
  refine ⟨E, _, rel, q, fun x E1 v H1 q1 x1 rel1 p1 => ⟨E1, _, rel1, q1, fun y E2 u H2 q2 x2 rel2 p2 => ?_⟩⟩
  exact hr x y v u H2 _ Q (.inl (p1.ext x2)) p2 q2 fun z w H3 q3 p3 rz => k z E2 w H3 q3 ((x1.trans x2).trans p3.ext) (rel2.pext p3) rz
theorem ed_op {op : Operator} {o : OpT} {ta tb : TD} (ho : OpD X (binaryOp op) o) (ha : ED X G a ta) (hb : ER X G b tb) : ED X G (.BinOp a op b pos) (tOpD o ta tb) := by
  obtain ⟨r, hr, hq⟩ := ho
  exact ⟨PE.weak (pe_op hr ha.pe hb.pe) fun σ H Q h => lift_bin hq σ H Q h⟩
theorem ed_cmp {op : CmpOp} {o : OpT} {ta tb : TD} (ho : OpD X (compareOp op) o) (ha : ED X G a ta) (hb : ER X G b tb) (hm : behindInMarks op b = false) : ED X G (.Compare a [op] [b] pos) (tOpD o ta tb) := by
  obtain ⟨r, hr, hq⟩ := ho
  exact ⟨PE.weak (pe_cmpR hr ha.pe hb.pe hm) fun σ H Q h => lift_bin hq σ H Q h⟩
def UnT := D → (D → Prop) → Prop
def UnD (X : Cx) (f : Value → Sem Value) (op : UnT) : Prop := ∃ r : V → Hp → VK → Prop, UnR X f r ∧
  ∀ x v H (QD : D → Prop) (Q : VK), RpR X.K H x v → op x QD → (∀ z w H', QD z → PExt H H' → Rp X.K H' z w → Q w H') → r v H Q
def tUnD (op : UnT) (ta : TD) : TD := fun E Q => ta E fun x E1 => op x fun z => Q z E1
theorem ed_un {op : UnaryOp} {o : UnT} {ta : TD} (ho : UnD X (unaryOp op) o) (ha : ER X G a ta) : ED X G (.UnaryOp op a pos) (tUnD o ta) := by
  obtain ⟨r, hr, hq⟩ := ho
  refine ⟨PE.weak (pe_un hr ha.pe) fun σ H Q ⟨E, QE, rel, q, k⟩ => ⟨E, _, rel, q, fun x E1 v H1 q1 x1 rel1 p1 => ?_⟩⟩
  exact hq x v H1 _ Q p1 q1 fun z w H3 q3 p3 rz => k z E1 w H3 q3 (x1.trans p3.ext) (rel1.pext p3) rz
/-! ### tests -/
/-- an expression that gives a truth -/
def tBo (t : TD) : TTd := fun E Q => t E fun x E1 => match x with
  | .bool b => Q b E1
  | _ => False
theorem eb_cmp {op : CmpOp} {o : OpT} {ta tb : TD} (ho : OpD X (compareOp op) o) (ha : ED X G a ta) (hb : ER X G b tb) (hm : behindInMarks op b = false) : EB X G (.Compare a [op] [b] pos) (tBo (tOpD o ta tb)) := by
  obtain ⟨r, hr, hq⟩ := ho
  refine ⟨PT.weak (pt_cmpR hr ha.pe hb.pe hm) fun σ H Q ⟨E, QE, rel, q, k⟩ => ?_⟩
  have h : liftE X.K G (tOpD o ta tb) σ H fun x H' => ∃ k, x = .bl k ∧ Q k H' := ⟨E, _, rel, q, fun d E' v H' q1 x1 r1 p1 => by
    cases p1 with
    | bl b => exact ⟨b, rfl, k b E' H' q1 x1 r1⟩
    | _ => exact q1.elim⟩
  exact lift_bin hq σ H _ h
def tAndD (t u : TTd) : TTd := fun E Q => t E fun c E1 => if c = true then u E1 Q else Q false E1
def tOrD (t u : TTd) : TTd := fun E Q => t E fun c E1 => if c = true then Q true E1 else u E1 Q
def tNotD (t : TTd) : TTd := fun E Q => t E fun c E1 => Q (!c) E1
theorem ew_and1 {t : TTd} (h : EB X G a t) : EW X G (.BoolOp .And [a] pos) t := ⟨pw_and1 h.pt⟩
theorem ew_or1 {t : TTd} (h : EB X G a t) : EW X G (.BoolOp .Or [a] pos) t := ⟨pw_or1 h.pt⟩
theorem ew_and {t u : TTd} (h : EB X G a t) (hb : EW X G (.BoolOp .And (b :: es) pos) u) : EW X G (.BoolOp .And (a :: b :: es) pos) (tAndD t u) :=
  ⟨PW.weak (pw_and h.pt hb.pw) fun σ H Q ⟨E, QE, r, q, k⟩ => ⟨E, _, r, q, fun c E1 H1 q1 x1 r1 => by
    cases c with
    | true => exact ⟨E1, QE, r1, q1, fun b E2 H2 q2 x2 r2 => k b E2 H2 q2 (x1.trans x2) r2⟩
    | false => exact k false E1 H1 q1 x1 r1⟩⟩
theorem ew_or {t u : TTd} (h : EB X G a t) (hb : EW X G (.BoolOp .Or (b :: es) pos) u) : EW X G (.BoolOp .Or (a :: b :: es) pos) (tOrD t u) :=
  ⟨PW.weak (pw_or h.pt hb.pw) fun σ H Q ⟨E, QE, r, q, k⟩ => ⟨E, _, r, q, fun c E1 H1 q1 x1 r1 => by
    cases c with
    | false => exact ⟨E1, QE, r1, q1, fun b E2 H2 q2 x2 r2 => k b E2 H2 q2 (x1.trans x2) r2⟩
    | true => exact k true E1 H1 q1 x1 r1⟩⟩
theorem EW.eb {t : TTd} (h : EW X G e t) : EB X G e t := ⟨h.pw.pt⟩
theorem eb_not {t : TTd} (h : EB X G a t) : EB X G (.UnaryOp .Not a pos) (tNotD t) :=
  ⟨PT.weak (pt_not h.pt) fun σ H Q ⟨E, QE, r, q, k⟩ => ⟨E, _, r, q, fun c E1 H1 q1 x1 r1 => k _ E1 H1 q1 x1 r1⟩⟩
/-- a if c else b -/
def tIfE (c : TTd) (t u : TD) : TD := fun E Q => c E fun k E1 => if k = true then t E1 Q else u E1 Q
theorem ed_if {tc : TTd} {t u : TD} (hc : EB X G c tc) (ha : ED X G a t) (hb : ED X G b u) : ED X G (.IfExp c a b pos) (tIfE tc t u) :=
  ⟨PE.weak (pe_ifExp hc.pt ha.pe hb.pe) fun σ H Q ⟨E, QE, r, q, k⟩ => ⟨E, _, r, q, fun c E1 H1 q1 x1 r1 => by
    cases c with
    | true => exact ⟨E1, QE, r1, q1, fun d E2 v H2 q2 x2 r2 => k d E2 v H2 q2 (x1.trans x2) r2⟩
    | false => exact ⟨E1, QE, r1, q1, fun d E2 v H2 q2 x2 r2 => k d E2 v H2 q2 (x1.trans x2) r2⟩⟩⟩
/-! as values -/
def tAndV (t u : TD) : TD := fun E Q => t E fun x E1 => match x with
  | .bool true => u E1 Q
  | .bool false => Q (.bool false) E1
  | _ => False
def tOrV (t u : TD) : TD := fun E Q => t E fun x E1 => match x with
  | .bool true => Q (.bool true) E1
  | .bool false => u E1 Q
  | _ => False
def tNotV (t : TD) : TD := fun E Q => t E fun x E1 => match x with
  | .bool b => Q (.bool (!b)) E1
  | _ => False
theorem ed_one {op} {t : TD} (h : ED X G a t) : ED X G (.BoolOp op [a] pos) t := ⟨pe_one h.pe⟩
theorem ed_and {t u : TD} (h : ED X G a t) (hb : ED X G (.BoolOp .And (b :: es) pos) u) : ED X G (.BoolOp .And (a :: b :: es) pos) (tAndV t u) :=
  ⟨PE.weak (pe_and h.pe hb.pe) fun σ H Q ⟨E, QE, r, q, k⟩ => ⟨E, _, r, q, fun d E1 v H1 q1 x1 r1 p1 => by
    cases p1 with
    | bl c =>
      refine ⟨c, rfl, ?_⟩
      cases c with
      | true => exact ⟨E1, QE, r1, q1, fun d E2 v H2 q2 x2 r2 => k d E2 v H2 q2 (x1.trans x2) r2⟩
      | false => exact k _ E1 _ H1 q1 x1 r1 (.bl false)
    | _ => exact q1.elim⟩⟩
theorem ed_not {t : TD} (h : ED X G a t) : ED X G (.UnaryOp .Not a pos) (tNotV t) :=
  ⟨PE.weak (pe_not h.pe) fun σ H Q ⟨E, QE, r, q, k⟩ => ⟨E, _, r, q, fun d E1 v H1 q1 x1 r1 p1 => by
    cases p1 with
    | bl c => exact ⟨c, rfl, k _ E1 _ H1 q1 x1 r1 (.bl _)⟩
    | _ => exact q1.elim⟩⟩
/-! ### truth of any data -/
def truD : D → Option Bool
  | .none => some false
  | .bool b => some b
  | .int i => some (i != 0)
  | .str x => some ((x.length : Int) != 0)
  | .list xs => some (!xs.isEmpty)
  | .tuple xs => some (!xs.isEmpty)
  | .dict _ => none
def okLen : D → Prop
  | .str x => x.length ≤ sizeLine
  | _ => True
def tTru (t : TD) : TTd := fun E Q => t E fun x E1 => match truD x with
  | some b => okLen x ∧ Q b E1
  | none => False
theorem isEmpty_RpL {K : PySem.W.Frag} {H : Hp} {ds : List D} {vs : List V} (l : RpL K H ds vs) : ds.isEmpty = vs.isEmpty := by cases l <;> rfl
theorem eb_tru {t : TD} (h : ER X G e t) (he : ∀ whole, isTrue e X.env whole = (do let v ← whole; standAt e.pos; holding [v] (truthy v)) := by intro _; rfl) : EB X G e (tTru t) :=
  ⟨PT.weak (pt_truth h.pe he) fun σ H Q ⟨E, QE, r, q, k⟩ => ⟨E, _, r, q, fun d E' v H' q1 x1 r1 p1 => by
    cases d with
    | none => rw [p1.none]; exact ⟨false, rfl, k _ _ _ q1.2 x1 r1⟩
    | bool b => rw [p1.bool]; exact ⟨b, rfl, k _ _ _ q1.2 x1 r1⟩
    | int b => rw [p1.int]; exact ⟨_, rfl, k _ _ _ q1.2 x1 r1⟩
    | str b => rw [p1.str]; exact ⟨_, ⟨q1.1, rfl⟩, k _ _ _ q1.2 x1 r1⟩
    | list b =>
      obtain ⟨a, vs, rfl, hs, l⟩ := p1.list
      exact ⟨!vs.isEmpty, .inl ⟨vs, hs, rfl⟩, by have := k _ _ _ q1.2 x1 r1; rw [isEmpty_RpL l] at this; exact this⟩
    | tuple b =>
      obtain ⟨a, vs, rfl, hs, l⟩ := p1.tuple
      exact ⟨!vs.isEmpty, .inr (.inl ⟨vs, hs, rfl⟩), by have := k _ _ _ q1.2 x1 r1; rw [isEmpty_RpL l] at this; exact this⟩
    | dict b => exact q1.elim⟩⟩
/-! ### arguments -/
def aNil : TAd := fun E Q => Q [] E
def aV (t : TD) (u : TAd) : TAd := fun E Q => t E fun x E1 => u E1 fun as E2 => Q (.v x :: as) E2
def aO (i : Nat) (u : TAd) : TAd := fun E Q => match E[i]? with
  | some (.ol _) => u E fun as E2 => Q (.o i :: as) E2
  | some (.dt _) => u E fun as E2 => Q (.o i :: as) E2
  | some (.dk _) => u E fun as E2 => Q (.o i :: as) E2
  | _ => False
theorem ea_nil : EA X G [] aNil := ⟨PA.weak pa_nil fun σ H Q ⟨E, QE, r, q, k⟩ => k _ _ _ _ q (Ext.refl _) r .nil⟩
theorem ea_v {t : TD} {u : TAd} (h : ED X G e t) (hr : EA X G es u) (hs : starEach (e :: es) X.env = (false, eval e X.env) :: starEach es X.env := by rfl) : EA X G (e :: es) (aV t u) :=
  ⟨PA.weak (pa_cons h.pe hr.pa hs) fun σ H Q ⟨E, QE, r, q, k⟩ => ⟨E, _, r, q, fun x E1 v H1 q1 x1 r1 p1 => ⟨E1, _, r1, q1, fun as E2 vs H2 q2 x2 r2 p2 => k _ _ _ _ q2 (x1.trans x2) r2 (.v (p1.ext x2) p2)⟩⟩⟩
theorem ea_o (i : Nat) {x : Str} {u : TAd} {p : Pos} (hr : EA X G es u) (hN : X.N[i]? = some x := by rfl) (hv : Vis X.env.scope x := by first | exact Or.inl rfl | exact Or.inr (Or.inl rfl) | exact Or.inr (Or.inr rfl)) (hd : (x == ("__debug__" : Str)) = false := by decide)
    (hcd : (x == ("__classdict__" : Str)) = false := by decide) (hs : starEach (Expr.Name x p :: es) X.env = (false, eval (Expr.Name x p) X.env) :: starEach es X.env := by rfl) : EA X G (Expr.Name x p :: es) (aO i u) :=
  ⟨PA.weak (pa_cons (pe_var hN hv hd hcd) hr.pa hs) fun σ H Q ⟨E, QE, r, q, k⟩ => by
    unfold aO at q
    split at q
    · rename_i xs he
      obtain ⟨a, e, _⟩ := r.mutAt he rfl
      exact ⟨_, e, E, _, r, q, fun as E2 vs H2 q2 x2 r2 p2 => k _ _ _ _ q2 x2 r2 (.o e p2)⟩
    · rename_i xs he
      obtain ⟨a, e, _⟩ := r.mutAt he rfl
      exact ⟨_, e, E, _, r, q, fun as E2 vs H2 q2 x2 r2 p2 => k _ _ _ _ q2 x2 r2 (.o e p2)⟩
    · rename_i xs he
      obtain ⟨a, e, _⟩ := r.mutAt he rfl
      exact ⟨_, e, E, _, r, q, fun as E2 vs H2 q2 x2 r2 p2 => k _ _ _ _ q2 x2 r2 (.o e p2)⟩
    · exact q.elim⟩
/-! ### statements -/
section
variable {st : Stmt} {rest : List Stmt}
def sNx : TSd := fun DE E => DE.nx E
def sSeq (t u : TSd) : TSd := fun DE E => t { DE with nx := u DE } E
theorem sds_nil : SDs X G [] sNx := ⟨PSs.weak pss_nil fun F σ H ⟨E, DE, r, q, k1, _⟩ => k1 _ _ _ q (Ext.refl _) r⟩
theorem lift_more {K : PySem.W.Frag} {F : Ends} {σ : St} {H H1 : Hp} {E E1 : Env} {DE : EndsD} {u : TSd} {σ1 : St} (x1 : Ext H H1) (r1 : RelE K G H1 E1 σ1) (q : u DE E1)
    (k1 : ∀ E' σ' H', DE.nx E' → Ext H H' → RelE K G H' E' σ' → F.nx σ' H') (k2 : ∀ d E' v σ' H', DE.rt d E' → Ext H H' → RelE K G H' E' σ' → Rp K H' d v → F.rt v H')
    (k3 : ∀ E' σ' H', DE.bk E' → Ext H H' → RelE K G H' E' σ' → F.bk σ' H') (k4 : ∀ E' σ' H', DE.ct E' → Ext H H' → RelE K G H' E' σ' → F.ct σ' H') : liftS K G u F σ1 H1 :=
  ⟨E1, DE, r1, q, fun E' σ' H' z x r => k1 E' σ' H' z (x1.trans x) r, fun d E' v σ' H' z x r => k2 d E' v σ' H' z (x1.trans x) r, fun E' σ' H' z x r => k3 E' σ' H' z (x1.trans x) r, fun E' σ' H' z x r => k4 E' σ' H' z (x1.trans x) r⟩
theorem sds_cons {t u : TSd} (h : SD X G st t) (hr : SDs X G rest u) : SDs X G (st :: rest) (sSeq t u) :=
  ⟨PSs.weak (pss_cons h.ps hr.pss) fun F σ H ⟨E, DE, r, q, k1, k2, k3, k4⟩ => ⟨E, { DE with nx := u DE }, r, q, fun E' σ' H' z x r => lift_more (σ := σ) (E := E) x r z k1 k2 k3 k4, k2, k3, k4⟩⟩
theorem sds_one {t : TSd} (h : SD X G st t) : SDs X G [st] t := ⟨pss_one h.ps⟩
def sRet (t : TD) : TSd := fun DE E => t E DE.rt
theorem sd_ret {t : TD} (h : ED X G e t) : SD X G (.Return (some e) pos) (sRet t) :=
  ⟨PS.weak (ps_ret h.pe) fun F σ H ⟨E, DE, r, q, k1, k2, k3, k4⟩ => ⟨E, _, r, q, fun d E' v H' z x r p => k2 d E' v σ H' z x r p⟩⟩
def sIf (c : TTd) (t u : TSd) : TSd := fun DE E => c E fun b E1 => if b = true then t DE E1 else u DE E1
theorem sd_if {sa sb : List Stmt} {tc : TTd} {t u : TSd} (hc : EB X G c tc) (ha : SDs X G sa t) (hb : SDs X G sb u) : SD X G (.If c sa sb pos) (sIf tc t u) :=
  ⟨PS.weak (ps_if hc.pt ha.pss hb.pss) fun F σ H ⟨E, DE, r, q, k1, k2, k3, k4⟩ => ⟨E, _, r, q, fun c E1 H1 q1 x1 r1 => by
    cases c with
    | true => exact lift_more (σ := σ) (E := E) x1 r1 q1 k1 k2 k3 k4
    | false => exact lift_more (σ := σ) (E := E) x1 r1 q1 k1 k2 k3 k4⟩⟩
def sExpr (t : TD) : TSd := fun DE E => t E fun _ E1 => DE.nx E1
theorem sd_expr {t : TD} (h : ED X G e t) (hs : swapsWith e none pos.line X.env = pure false := by rfl) : SD X G (.Expr e pos) (sExpr t) :=
  ⟨PS.weak (ps_expr h.pe hs) fun F σ H ⟨E, DE, r, q, k1, k2, k3, k4⟩ => ⟨E, _, r, q, fun d E1 v H1 q1 x1 r1 p1 => k1 _ _ _ q1 x1 r1⟩⟩
end
end
end DL
set_option Elab.async false
set_option linter.all false
set_option maxRecDepth 100000
namespace DL
open PySem PySem.Spec PyProof.Rows L2
section
variable {K : PySem.W.Frag} {G : Gh} {H H' : Hp} {E : Env} {σ : St} {ex : List Addr}
theorem notin_slots {i : Nat} (hi : i ∉ G.slots) (a : Addr) : (i, a) ∉ G.own := fun h => hi (List.mem_map.mpr ⟨(i, a), h, rfl⟩)
/-- a slot gets data -/
theorem RelX.setD {i : Nat} {x : D} {v : V} (r : RelX K G ex H E σ) (hi : i ∉ G.slots) (p : Rp K H x v) : RelX K G ex H (E.set i (.d x)) (σ.set i (some v)) := by
  obtain ⟨l, k, pn, dm, x0, A, h1, h2, h3⟩ := r
  refine ⟨by simp [l], k, fun j a hj => ?_, dm, x0, fun j => if j = i then [] else A j, fun j m a e1 e2 => ?_, fun j a e1 => ?_, fun j s e => ?_⟩
  · have : i ≠ j := fun z => notin_slots hi a (z ▸ hj)
    rw [List.getElem?_set_ne this]; exact pn j a hj
  · by_cases z : j = i
    · simp [z] at e1
    · by_cases z2 : m = i
      · simp [z2] at e2
      · simp only [z, z2, if_false] at e1 e2; exact h1 j m a e1 e2
  · by_cases z : j = i
    · simp [z] at e1
    · simp only [z, if_false] at e1; exact h2 j a e1
  · by_cases z : j = i
    · subst z
      by_cases hl : j < E.length
      · rw [List.getElem?_set_self hl] at e
        cases e
        exact ⟨by simp, v, by rw [List.getElem?_set_self (l ▸ hl)], p⟩
      · rw [List.getElem?_eq_none (by simpa using hl)] at e; cases e
    · rw [List.getElem?_set_ne (Ne.symm z)] at e
      rw [List.getElem?_set_ne (Ne.symm z)]
      simp only [z, if_false]; exact h3 j s e
/-- a slot gets a new mutable thing of one's own -/
theorem RelX.setM {i : Nat} {s0 : S} {a : Addr} (r : RelX K G (a :: ex) H E σ) (hx : a ∉ ex) (hi : i ∉ G.slots) (h0 : G.H0 a = none) (p : RelM K H s0 a) : RelX K G ex H (E.set i s0) (σ.set i (some (.ref a))) := by
  obtain ⟨l, k, pn, dm, x0, A, h1, h2, h3⟩ := r
  refine ⟨by simp [l], k, fun j a hj => ?_, dm, x0, fun j => if j = i then [a] else A j, fun j m b e1 e2 => ?_, fun j b e1 => ?_, fun j s e => ?_⟩
  · have : i ≠ j := fun z => notin_slots hi a (z ▸ hj)
    rw [List.getElem?_set_ne this]; exact pn j a hj
  · by_cases z : j = i
    · by_cases z2 : m = i
      · rw [z, z2]
      · simp only [z, if_true, z2, if_false, List.mem_cons, List.not_mem_nil, or_false] at e1 e2
        exact absurd e1 fun z => (h2 m b e2).2 (by simp [z])
    · by_cases z2 : m = i
      · simp only [z, if_false, z2, if_true, List.mem_cons, List.not_mem_nil, or_false] at e1 e2
        exact absurd e2 fun z => (h2 j b e1).2 (by simp [z])
      · simp only [z, z2, if_false] at e1 e2; exact h1 j m b e1 e2
  · by_cases z : j = i
    · simp only [z, if_true, List.mem_cons, List.not_mem_nil, or_false] at e1
      subst e1; exact ⟨.inr h0, hx⟩
    · simp only [z, if_false] at e1; exact ⟨(h2 j b e1).1, fun q => (h2 j b e1).2 (List.mem_cons_of_mem _ q)⟩
  · by_cases z : j = i
    · subst z
      by_cases hl : j < E.length
      · rw [List.getElem?_set_self hl] at e
        cases e
        simp only [if_true]
        exact RelS.ofMut p.isMut (by rw [List.getElem?_set_self (l ▸ hl)]) p
      · rw [List.getElem?_eq_none (by simpa using hl)] at e; cases e
    · rw [List.getElem?_set_ne (Ne.symm z)] at e
      rw [List.getElem?_set_ne (Ne.symm z)]
      simp only [z, if_false]; exact h3 j s e
theorem RelX.setL {i : Nat} {xs : List D} {a : Addr} {vs : List V} (r : RelX K G (a :: ex) H E σ) (hx : a ∉ ex) (hi : i ∉ G.slots) (h0 : G.H0 a = none) (ha : H a = some (.lst vs)) (p : RpL K H xs vs) : RelX K G ex H (E.set i (.ol xs)) (σ.set i (some (.ref a))) :=
  r.setM hx hi h0 (s0 := .ol xs) ⟨vs, ha, p⟩
/-- a mutable thing of one's own changes -/
theorem RelX.putM {i : Nat} {s0 s1 : S} {a : Addr} {u : HO} (r : RelX K G ex H E σ) (e : E[i]? = some s0) (m0 : s0.isMut = true) (hs : σ[i]? = some (some (.ref a))) (p : RelM K (upd H a u) s1 a) : RelX K G ex (upd H a u) (E.set i s1) σ := by
  obtain ⟨l, k, pn, dm, x0, A, h1, h2, h3⟩ := r
  obtain ⟨b, e1, e2, e3⟩ := (h3 i _ e).mut m0
  rw [hs] at e2
  have e2' : a = b := by injection e2 with z; injection z with z; injection z
  subst e2'
  obtain ⟨u0, g1, g2, g3⟩ := e3.soft
  have x : Ext H (upd H a u) := Ext.putS g1 g2 g3
  have own := h2 i a (by rw [e1]; simp)
  have hl : i < E.length := by
    rcases Nat.lt_or_ge i E.length with z | z
    · exact z
    · rw [List.getElem?_eq_none z] at e; cases e
  refine ⟨by simpa using l, fun q o he ne => ?_, pn, fun q hq => ?_, x0.trans x, A, h1, h2, fun j s he => ?_⟩
  · have : q ≠ a := by
      rintro rfl
      rcases own.1 with z | z
      · exact ne z
      · rw [z] at he; cases he
    rw [upd_ne this]; exact k q o he ne
  · by_cases z : q = a
    · subst z; rw [upd_same]; simp
    · rw [upd_ne z]; exact dm q hq
  · by_cases z : j = i
    · subst z
      rw [List.getElem?_set_self hl] at he
      cases he
      rw [e1]
      exact RelS.ofMut p.isMut hs p
    · rw [List.getElem?_set_ne (Ne.symm z)] at he
      exact (h3 j s he).move x fun c hc => upd_ne fun zz => z (h1 j i c hc (by rw [e1, zz]; simp))
/-- a list of one's own changes -/
theorem RelX.putL {i : Nat} {xs ys : List D} {a : Addr} {us : List V} (r : RelX K G ex H E σ) (e : E[i]? = some (.ol xs)) (hs : σ[i]? = some (some (.ref a))) (p : RpL K H ys us) : RelX K G ex (upd H a (.lst us)) (E.set i (.ol ys)) σ := by
  have x : Ext H (upd H a (.lst us)) := by
    obtain ⟨l, k, pn, dm, x0, A, h1, h2, h3⟩ := r
    obtain ⟨b, e1, e2, vs, e3, e4⟩ := h3 i _ e
    rw [hs] at e2
    have e2' : a = b := by injection e2 with z; injection z with z; injection z
    subst e2'; exact Ext.put e3
  exact r.putM e rfl hs (s1 := .ol ys) ⟨us, upd_same, p.ext x⟩
/-- a new object is apart from all -/
theorem RelX.fresh {p : Addr} {o : HO} (r : RelE K G H E σ) (hp : H p = none) : RelX K G [p] (upd H p o) E σ ∧ G.H0 p = none ∧ p ∉ G.addrs := by
  have px : PExt H (upd H p o) := PExt.new hp
  have r' := r.pext px
  obtain ⟨l, k, pn, dm, x0, A, h1, h2, h3⟩ := r'
  obtain ⟨_, k0, _, dm0, _, A0, g1, g2, g3⟩ := r
  have na : p ∉ G.addrs := fun z => dm0 p z hp
  refine ⟨⟨l, k, pn, dm, x0, fun i => if E[i]? = none then [] else A0 i, fun i j a e1 e2 => ?_, fun i a e => ?_, fun i s e => ?_⟩, ?_, na⟩
  · dsimp only at e1 e2
    split at e1
    · cases e1
    · split at e2
      · cases e2
      · exact g1 i j a e1 e2
  · dsimp only at e
    split at e
    · cases e
    · rename_i hE
      refine ⟨(g2 i a e).1, ?_⟩
      cases q : E[i]? with
      | none => exact absurd q hE
      | some s =>
        obtain ⟨u, hvs, _⟩ := (g3 i s q).indom a e
        simp only [List.mem_cons, List.not_mem_nil, or_false]
        rintro rfl
        rw [hp] at hvs; cases hvs
  · have : E[i]? ≠ none := by rw [e]; simp
    simp only [this, if_false]
    exact (g3 i s e).pext px
  · cases q : G.H0 p with
    | none => rfl
    | some o' => have := k0 p o' q na; rw [hp] at this; cases this
/-- a thing that nobody else has is frozen -/
theorem RelX.freezeS {a : Addr} {u u' : HO} (r : RelX K G [a] H E σ) (h0 : G.H0 a = none) (na : a ∉ G.addrs) (ha : H a = some u) (s1 : ∀ xs, u ≠ .tup xs) (s2 : ∀ o v, u ≠ .frz o v) : RelE K G (upd H a u') E σ := by
  have x : Ext H (upd H a u') := Ext.putS ha s1 s2
  obtain ⟨l, k, pn, dm, x0, A, h1, h2, h3⟩ := r
  refine ⟨l, fun q u he ne => ?_, pn, fun q hq => ?_, x0.trans x, fun i => if E[i]? = none then [] else A i, fun i j b e1 e2 => ?_, fun i b e => ?_, fun i s e => ?_⟩
  · have : q ≠ a := by rintro rfl; rw [h0] at he; cases he
    rw [upd_ne this]; exact k q u he ne
  · have : q ≠ a := by rintro rfl; exact na hq
    rw [upd_ne this]; exact dm q hq
  · dsimp only at e1 e2
    split at e1
    · cases e1
    · split at e2
      · cases e2
      · exact h1 i j b e1 e2
  · dsimp only at e
    split at e
    · cases e
    · exact ⟨(h2 i b e).1, by simp⟩
  · have : E[i]? ≠ none := by rw [e]; simp
    simp only [this, if_false]
    exact (h3 i s e).move x fun p hp => upd_ne (by rintro rfl; exact (h2 i p hp).2 (by simp))
/-- a list that nobody else has is frozen -/
theorem RelX.freeze {a : Addr} {vs : List V} {o : Obj} (r : RelX K G [a] H E σ) (h0 : G.H0 a = none) (na : a ∉ G.addrs) (ha : H a = some (.lst vs)) : RelE K G (upd H a (.frz o (.lst vs))) E σ :=
  r.freezeS h0 na ha (fun _ z => by cases z) (fun _ _ z => by cases z)
end
section
variable {X : Cx} {G : Gh} {a b c e : Expr} {es : List Expr} {pos : Pos}
/-! ### a new list is frozen: data -/
def tFz (t : TE) : TE := fun σ H Q => t σ H fun v H1 => ∃ a xs, v = .ref a ∧ H1 a = some (.lst xs) ∧ ∀ o, Q v (upd H1 a (.frz o (.lst xs)))
theorem PE.fz {t : TE} (h : PE X e t) : PE X e (tFz t) := ⟨fun pins s σ H Q I q => thn (h.run pins s σ H _ I q) fun u s1 ⟨v, H1, I1, r1, a, xs, e1, e2, q1⟩ => by
  obtain ⟨o, I2⟩ := I1.lock e2 trivial
  exact ⟨v, _, I2, r1, q1 o⟩⟩
def tFzD (t : TLd) : TD := fun E Q => t E fun xs E1 => Q (.list xs) E1
theorem EL.ed {t : TLd} (h : EL X G e t) : ED X G e (tFzD t) :=
  ⟨PE.weak (PE.fz h.pe) fun σ H Q ⟨E, QE, r, q, k⟩ => ⟨E, _, r, q, fun xs E1 a vs H1 q1 x1 r1 h0 na ha p1 => ⟨a, vs, rfl, ha, fun o =>
    k _ _ _ _ q1 (x1.trans (Ext.put ha)) (r1.freeze h0 na ha) (.lst (.of upd_same) (p1.ext (Ext.put ha)))⟩⟩⟩
/-- a list that is read now -/
theorem EL.er {t : TLd} (h : EL X G e t) : ER X G e (tFzD t) := h.ed.er
/-! ### displays -/
abbrev TDs := Env → (List D → Env → Prop) → Prop
def liftDs (K : PySem.W.Frag) (G : Gh) (t : TDs) : TA := fun σ H Q => ∃ (E : Env) (QE : List D → Env → Prop), RelE K G H E σ ∧ t E QE ∧ ∀ ds E' vs H', QE ds E' → Ext H H' → RelE K G H' E' σ → RpL K H' ds vs → Q vs H'
structure EDs (X : Cx) (G : Gh) (es : List Expr) (t : TDs) : Prop where
  pa : PA X es (liftDs X.K G t)
def dNil : TDs := fun E Q => Q [] E
def dCons (t : TD) (u : TDs) : TDs := fun E Q => t E fun x E1 => u E1 fun ds E2 => Q (x :: ds) E2
theorem eds_nil : EDs X G [] dNil := ⟨PA.weak pa_nil fun σ H Q ⟨E, QE, r, q, k⟩ => k _ _ _ _ q (Ext.refl _) r .nil⟩
theorem eds_cons {t : TD} {u : TDs} (h : ED X G e t) (hr : EDs X G es u) (hs : starEach (e :: es) X.env = (false, eval e X.env) :: starEach es X.env := by rfl) : EDs X G (e :: es) (dCons t u) :=
  ⟨PA.weak (pa_cons h.pe hr.pa hs) fun σ H Q ⟨E, QE, r, q, k⟩ => ⟨E, _, r, q, fun x E1 v H1 q1 x1 r1 p1 => ⟨E1, _, r1, q1, fun as E2 vs H2 q2 x2 r2 p2 => k _ _ _ _ q2 (x1.trans x2) r2 (.cons (p1.ext x2) p2)⟩⟩⟩
/-- a tuple of written items: the new object is plain -/
theorem pe_tupF {x1 : Nat} {t : TA} (h : PA X es t) : PE X (.Tuple es x1 pos) (fun σ H Q => t σ H fun xs H1 => xs.length ≤ sizeLine ∧ ∀ p o, H1 p = none → o.dict = none → Q (.ref p) (upd H1 p (.frz o (.tup xs)))) :=
  ⟨fun pins s σ H Q I hq => wpAny_Tuple_spliced (thn (h.run pos pins s σ H _ I hq) fun us s1 ⟨xs, H1, I1, r, z, q⟩ => ⟨by rw [← r.length]; exact z,
    ⟨.ref s1.heap.objs.size, upd H1 s1.heap.objs.size (.frz { cls := .type "tuple", data := .seq us.toArray } (.tup xs)), I1.laid (t' := s1.toks) (fun b u e => Heap.get?_push_of_some _ e) (Nat.le_refl _) ⟨Heap.get?_push_size _ rfl, z, us, r, ⟨_, Heap.get?_push_size _ rfl, rfl, _, rfl⟩⟩, rfl, q _ _ (I1.hok.fresh (Nat.le_refl _)) rfl⟩⟩)⟩
def tTupD (t : TDs) : TD := fun E Q => t E fun ds E1 => ds.length ≤ sizeLine ∧ Q (.tuple ds) E1
theorem ed_tup {x1} {t : TDs} (h : EDs X G es t) : ED X G (.Tuple es x1 pos) (tTupD t) :=
  ⟨PE.weak (pe_tupF h.pa) fun σ H Q ⟨E, QE, r, q, k⟩ => ⟨E, _, r, q, fun ds E1 vs H1 q1 x1 r1 p1 => ⟨by rw [← p1.length]; exact q1.1, fun p o hp ho =>
    k _ _ _ _ q1.2 (x1.trans (PExt.new hp).ext) (r1.pext (PExt.new hp)) (.tup (.new ho) (p1.ext (PExt.new hp).ext))⟩⟩⟩
def tLstD (t : TDs) : TLd := fun E Q => t E fun ds E1 => ds.length ≤ sizeLine ∧ Q ds E1
theorem el_lst {t : TDs} (h : EDs X G es t) : EL X G (.List es pos) (tLstD t) :=
  ⟨PE.weak (pe_lst h.pa) fun σ H Q ⟨E, QE, r, q, k⟩ => ⟨E, _, r, q, fun ds E1 vs H1 q1 x1 r1 p1 => ⟨by rw [← p1.length]; exact q1.1, fun p hp => by
    obtain ⟨r2, h0, na⟩ := r1.fresh (o := .lst vs) hp
    exact k _ _ _ _ _ q1.2 (x1.trans (PExt.new hp).ext) r2 h0 na upd_same (p1.ext (PExt.new hp).ext)⟩⟩⟩
/-! ### assignments -/
def sSet (i : Nat) (t : TD) : TSd := fun DE E => t E fun d E1 => DE.nx (E1.set i (.d d))
theorem sd_set {i : Nat} {x : Str} {pos' : Pos} {t : TD} (hi : i ∉ G.slots) (hN : X.N.Nodup) (hx : X.N[i]? = some x) (hl : Loc X.env.scope x) (h : ED X G e t) (hs : swapsWith e (some (.Name x pos')) pos.line X.env = pure false := by rfl)
    (hf : X.fn x = true ∨ X.env.scope.names.lookup x = some .local := by first | exact .inl rfl | exact .inr rfl | assumption) : SD X G (.Assign [.Name x pos'] e pos) (sSet i t) :=
  ⟨PS.weak (ps_set hN hx hl h.pe hs hf) fun F σ H ⟨E, DE, r, q, k1, k2, k3, k4⟩ => ⟨E, _, r, q, fun d E1 v H1 q1 x1 r1 p1 => k1 _ _ _ q1 x1 (r1.setD hi p1)⟩⟩
def sSetL (i : Nat) (t : TLd) : TSd := fun DE E => t E fun d E1 => DE.nx (E1.set i (.ol d))
theorem sd_setL {i : Nat} {x : Str} {pos' : Pos} {t : TLd} (hi : i ∉ G.slots) (hN : X.N.Nodup) (hx : X.N[i]? = some x) (hl : Loc X.env.scope x) (h : EL X G e t) (hs : swapsWith e (some (.Name x pos')) pos.line X.env = pure false := by rfl)
    (hf : X.fn x = true ∨ X.env.scope.names.lookup x = some .local := by first | exact .inl rfl | exact .inr rfl | assumption) : SD X G (.Assign [.Name x pos'] e pos) (sSetL i t) :=
  ⟨PS.weak (ps_set hN hx hl h.pe hs hf) fun F σ H ⟨E, DE, r, q, k1, k2, k3, k4⟩ => ⟨E, _, r, q, fun d E1 a vs H1 q1 x1 r1 h0 na ha p1 => k1 _ _ _ q1 x1 (r1.setL (by simp) hi h0 ha p1)⟩⟩
/-! targets: ms the slots that they change -/
theorem wipe_setIn {σ : St} {i : Nat} {o : Option V} : ∀ {ms : List Nat}, i ∈ ms → wipe (σ.set i o) ms = wipe σ ms
  | m :: ms, h => by
    show (wipe (σ.set i o) ms).set m none = (wipe σ ms).set m none
    by_cases hi : i ∈ ms
    · rw [wipe_setIn hi]
    · have hm : i = m := by rcases List.mem_cons.mp h with z | z; exact z; exact absurd z hi
      subst hm
      have : ∀ (l : List Nat), i ∉ l → wipe (σ.set i o) l = (wipe σ l).set i o := by
        intro l
        induction l with
        | nil => intro _; rfl
        | cons k l ih =>
          intro hk
          show (wipe (σ.set i o) l).set k none = ((wipe σ l).set k none).set i o
          rw [ih (fun z => hk (List.mem_cons_of_mem _ z)), List.set_comm _ _ (fun z => hk (by simp [z]))]
      rw [this ms hi, List.set_set]
abbrev TGd := D → Env → (Env → Prop) → Prop
def liftG (W : Bool) (K : PySem.W.Frag) (G : Gh) (ms : List Nat) (t : TGd) : TG := fun v σ H Q => ∃ (E : Env) (d : D) (QE : Env → Prop), RelE K G H E σ ∧ RpB W K H d v ∧ t d E QE ∧ ∀ E' σ' H', QE E' → Ext H H' → RelE K G H' E' σ' → wipe σ' ms = wipe σ ms → Q σ' H'
structure GD (X : Cx) (G : Gh) (W : Bool) (ms : List Nat) (tg : Expr) (t : TGd) : Prop where
  pg : PG X tg (liftG W X.K G ms t)
theorem PG.weak {tg : Expr} {t u : TG} (h : PG X tg t) (w : ∀ v σ H Q, u v σ H Q → t v σ H Q) : PG X tg u := ⟨fun pins s σ H v x Q I r q => h.run pins s σ H v x Q I r (w v σ H Q q)⟩
def gSet (i : Nat) : TGd := fun d E Q => Q (E.set i (.d d))
theorem gd_name {i : Nat} {x : Str} {ms : List Nat} (hi : i ∉ G.slots) (hm : i ∈ ms) (hN : X.N.Nodup) (hx : X.N[i]? = some x) (hl : Loc X.env.scope x) (hf : X.fn x = true ∨ X.env.scope.names.lookup x = some .local := by first | exact .inl rfl | exact .inr rfl | assumption) : GD X G false ms (.Name x pos) (gSet i) :=
  ⟨PG.weak (pg_name hN hx hl hf) fun v σ H Q ⟨E, d, QE, r, p, q, k⟩ => k _ _ _ q (Ext.refl _) (r.setD hi p) (wipe_setIn hm)⟩
abbrev TGsd := List D → Env → (Env → Prop) → Prop
def liftGs (K : PySem.W.Frag) (G : Gh) (ms : List Nat) (t : TGsd) : TGs := fun vs σ H Q => ∃ (E : Env) (ds : List D) (QE : Env → Prop), RelE K G H E σ ∧ RpL K H ds vs ∧ t ds E QE ∧ ∀ E' σ' H', QE E' → Ext H H' → RelE K G H' E' σ' → wipe σ' ms = wipe σ ms → Q σ' H'
structure GDs (X : Cx) (G : Gh) (ms : List Nat) (tgs : List Expr) (t : TGsd) : Prop where
  pg : PGs X tgs (liftGs X.K G ms t)
theorem PGs.weak {tgs : List Expr} {t u : TGs} (h : PGs X tgs t) (w : ∀ v σ H Q, u v σ H Q → t v σ H Q) : PGs X tgs u := ⟨fun pins s σ H v x Q I r q => h.run pins s σ H v x Q I r (w v σ H Q q)⟩
def gsNil : TGsd := fun ds E Q => match ds with
  | [] => Q E
  | _ => False
def gsCons (t : TGd) (u : TGsd) : TGsd := fun ds E Q => match ds with
  | d :: r => t d E fun E1 => u r E1 Q
  | _ => False
theorem gds_nil {ms : List Nat} : GDs X G ms [] gsNil := ⟨PGs.weak pgs_nil fun vs σ H Q ⟨E, ds, QE, r, p, q, k⟩ => by
  cases p with
  | nil => exact ⟨rfl, k _ _ _ q (Ext.refl _) r rfl⟩
  | cons _ _ => exact q.elim⟩
theorem gds_cons {ms : List Nat} {t : TGd} {u : TGsd} (h1 : GD X G false ms e t) (h2 : GDs X G ms es u) (hs : (assignEach (e :: es) X.env).map (·.2) = assign e X.env :: (assignEach es X.env).map (·.2) := by rfl) : GDs X G ms (e :: es) (gsCons t u) := ⟨PGs.weak (pgs_cons h1.pg h2.pg hs) fun vs σ H Q ⟨E, ds, QE, r, p, q, k⟩ => by
  cases p with
  | nil => exact q.elim
  | cons p1 p2 => exact ⟨_, _, rfl, E, _, _, r, .of p1, q, fun E1 σ1 H1 q1 x1 r1 w1 => ⟨E1, _, QE, r1, p2.ext x1, q1, fun E2 σ2 H2 q2 x2 r2 w2 => k _ _ _ q2 (x1.trans x2) r2 (w2.trans w1)⟩⟩⟩
/-- a tuple of targets: n of them -/
def gTupD (n : Nat) (u : TGsd) : TGd := fun d E Q => match d with
  | .tuple ds => ds.length = n ∧ u ds E Q
  | _ => False
theorem gd_tup {W : Bool} {ms : List Nat} {k n : Nat} {u : TGsd} (hc : X.calm = true) (h : GDs X G ms es u) (hn : (assignEach es X.env).length = n := by rfl) (hst : (assignEach es X.env).findIdx? (·.1) = none := by rfl) : GD X G W ms (.Tuple es k pos) (gTupD n u) :=
  ⟨PG.weak (pg_tup hc h.pg hn hst) fun v σ H Q ⟨E, d, QE, r, p, q, k⟩ => by
    have strong : Rp X.K H d v → gTup X.K n (liftGs X.K G ms u) v σ H Q := fun p => by
      cases p with
      | tup hs l => exact ⟨_, _, rfl, hs.1, by rw [← l.length]; exact q.1, E, _, QE, r, l, q.2, k⟩
      | _ => exact q.elim
    unfold RpB at p
    split at p
    · rcases p with p | ⟨ds, a, vs, rfl, rfl, hs, l⟩
      · exact strong p
      · exact ⟨_, _, rfl, hs, by rw [← l.length]; exact q.1, E, _, QE, r, l, q.2, k⟩
    · exact strong p⟩
/-- targets = e -/
def sAsg (t : TD) (g : TGd) : TSd := fun DE E => t E fun d E1 => g d E1 DE.nx
theorem sd_asg {ms : List Nat} {tg : Expr} {t : TD} {g : TGd} (h : ED X G e t) (hg : GD X G false ms tg g) (hs : swapsWithSole [tg] e pos.line X.env = pure false := by rfl) (hw : swappedStores [tg] e X.env = pure none := by rfl)
    (ha : (assignEach [tg] X.env).map (·.2) = [assign tg X.env] := by rfl) : SD X G (.Assign [tg] e pos) (sAsg t g) :=
  ⟨PS.weak (ps_asg h.pe hg.pg hs hw ha) fun F σ H ⟨E, DE, r, q, k1, k2, k3, k4⟩ => ⟨E, _, r, q, fun d E1 v H1 q1 x1 r1 p1 => ⟨E1, d, DE.nx, r1, .of p1, q1, fun E2 σ2 H2 q2 x2 r2 _ => k1 _ _ _ q2 (x1.trans x2) r2⟩⟩⟩
end
end DL
set_option Elab.async false
set_option linter.all false
set_option maxRecDepth 100000
namespace DL
open PySem PySem.Spec PyProof.Rows L2
/-! ### a thing that nobody else has, kept while something else runs -/
def pend (G : Gh) (a : Addr) (o : HO) : Gh := { H0 := upd G.H0 a o, own := G.own, X0 := G.X0, more := G.more }
section
variable {K : PySem.W.Frag} {G : Gh} {H H' : Hp} {E : Env} {σ : St} {ex : List Addr}
theorem RelX.toPend {a : Addr} {o : HO} (r : RelX K G (a :: ex) H E σ) (ha : H a = some o) (na : a ∉ G.addrs) : RelX K (pend G a o) ex H E σ := by
  obtain ⟨l, k, pn, dm, x0, A, h1, h2, h3⟩ := r
  refine ⟨l, fun p u e ne => ?_, pn, dm, x0, A, h1, fun i b e => ⟨?_, fun q => (h2 i b e).2 (List.mem_cons_of_mem _ q)⟩, h3⟩
  · by_cases z : p = a
    · subst z
      have : (pend G p o).H0 p = some o := upd_same
      rw [this] at e; cases e; exact ha
    · have e' : G.H0 p = some u := by
        have : (pend G a o).H0 p = G.H0 p := upd_ne z
        rw [this] at e; exact e
      exact k p u e' ne
  · have hb := h2 i b e
    have z : b ≠ a := by intro z; exact hb.2 (by simp [z])
    rcases hb.1 with q | q
    · exact .inl q
    · exact .inr (by show upd G.H0 a o b = none; rw [upd_ne z]; exact q)
theorem RelX.ofPend {a : Addr} {o : HO} (r : RelX K (pend G a o) ex H E σ) (h0 : G.H0 a = none) (na : a ∉ G.addrs) : RelX K G (a :: ex) H E σ ∧ H a = some o := by
  obtain ⟨l, k, pn, dm, x0, A, h1, h2, h3⟩ := r
  refine ⟨⟨l, fun p u e ne => ?_, pn, dm, x0, A, h1, fun i b e => ?_, h3⟩, ?_⟩
  · have z : p ≠ a := by rintro rfl; rw [h0] at e; cases e
    exact k p u (by show upd G.H0 a o p = some u; rw [upd_ne z]; exact e) ne
  · have hb := (h2 i b e).1
    have z : b ≠ a := by
      rintro rfl
      rcases hb with q | q
      · exact na q
      · have : upd G.H0 b o b = none := q
        rw [upd_same] at this; cases this
    refine ⟨?_, fun q => by
      rcases List.mem_cons.mp q with q | q
      · exact z q
      · exact (h2 i b e).2 q⟩
    rcases hb with q | q
    · exact .inl q
    · exact .inr (by have : upd G.H0 a o b = none := q; rw [upd_ne z] at this; exact this)
  · exact k a o upd_same na
end
/-! ### what is walked -/
structure WalkD (W : Bool) (K : PySem.W.Frag) (J : It) (H0 : Hp) (ds : List D) : Prop where
  goes : ∀ i H, Ext H0 H → i < ds.length → J.go i H
  yld : ∀ i H x H', Ext H0 H → i < ds.length → J.yld i H x H' → PExt H H' ∧ ∃ d, ds[i]? = some d ∧ RpB W K H' d x
  stops : ∀ H, Ext H0 H → J.stop ds.length H
def liftI (W : Bool) (K : PySem.W.Frag) (G : Gh) (t : TDs) : TI := fun σ H R => ∃ (E : Env) (QE : List D → Env → Prop), RelE K G H E σ ∧ t E QE ∧ ∀ ds E' J H', QE ds E' → Ext H H' → RelE K G H' E' σ → WalkD W K J H' ds → R J H'
structure ID (X : Cx) (G : Gh) (W : Bool) (tg iter : Expr) (t : TDs) : Prop where
  pi : PI X tg iter (liftI W X.K G t)
theorem PI.weak {X : Cx} {tg iter : Expr} {t u : TI} (h : PI X tg iter t) (w : ∀ σ H R, u σ H R → t σ H R) : PI X tg iter u := ⟨fun pins s σ H R I q => h.run pins s σ H R I (w σ H R q)⟩
section
variable {X : Cx} {G : Gh} {tg iter e : Expr} {pos : Pos}
/-- over data that is a tuple -/
def iTupD (t : TD) : TDs := fun E Q => t E fun d E1 => match d with
  | .tuple ds => Q ds E1
  | _ => False
def iLstD (t : TD) : TDs := fun E Q => t E fun d E1 => match d with
  | .list ds => Q ds E1
  | _ => False
theorem walkD_tup {K : PySem.W.Frag} {H : Hp} {a : Addr} {vs : List V} {ds : List D} (h : SqT K H a vs) (l : RpL K H ds vs) : WalkD false K (Itt K a) H ds where
  goes := fun i H' x hi => by
    rw [l.length] at hi
    exact ⟨vs, vs[i], SqT.ext x h, List.getElem?_eq_getElem hi⟩
  yld := fun i H' v H2 x hi hy => by
    obtain ⟨e1, e2⟩ := hy
    subst e1
    have hv := e2 vs (SqT.ext x h)
    obtain ⟨d, hd, p⟩ := l.getV hv
    exact ⟨PExt.refl _, d, hd, p.ext x⟩
  stops := fun H' x => ⟨vs, SqT.ext x h, by rw [l.length]; exact Nat.le_refl _⟩
theorem walkD_lst {K : PySem.W.Frag} {H : Hp} {a : Addr} {vs : List V} {ds : List D} (h : LsF K H a vs) (l : RpL K H ds vs) : WalkD false K (Itl K a) H ds where
  goes := fun i H' x hi => by
    rw [l.length] at hi
    exact ⟨vs, vs[i], (LsF.ext x h).sq, List.getElem?_eq_getElem hi⟩
  yld := fun i H' v H2 x hi hy => by
    obtain ⟨e1, e2⟩ := hy
    subst e1
    have hv := e2 vs ((LsF.ext x h).sq)
    obtain ⟨d, hd, p⟩ := l.getV hv
    exact ⟨PExt.refl _, d, hd, p.ext x⟩
  stops := fun H' x => ⟨vs, (LsF.ext x h).sq, by rw [l.length]; exact Nat.le_refl _⟩
theorem id_tup {t : TD} (h : ED X G iter t) : ID X G false tg iter (iTupD t) :=
  ⟨PI.weak (pi_tup h.pe) fun σ H R ⟨E, QE, r, q, k⟩ => ⟨E, _, r, q, fun d E1 v H1 q1 x1 r1 p1 => by
    cases p1 with
    | tup hs l => exact ⟨_, rfl, ⟨_, hs.1⟩, k _ _ _ _ q1 x1 r1 (walkD_tup hs.1 l)⟩
    | _ => exact q1.elim⟩⟩
theorem id_lst {t : TD} (h : ED X G iter t) : ID X G false tg iter (iLstD t) :=
  ⟨PI.weak (pi_list h.pe) fun σ H R ⟨E, QE, r, q, k⟩ => ⟨E, _, r, q, fun d E1 v H1 q1 x1 r1 p1 => by
    cases p1 with
    | lst hs l => exact ⟨_, rfl, ⟨_, hs.sq⟩, k _ _ _ _ q1 x1 r1 (walkD_lst hs l)⟩
    | _ => exact q1.elim⟩⟩
/-! ranges -/
def rangeD (lo : Int) (n : Nat) : List D := (List.range n).map fun i : Nat => PyData.int (lo + (i : Int))
theorem rangeD_length (lo : Int) (n : Nat) : (rangeD lo n).length = n := by simp [rangeD]
theorem rangeD_get {lo : Int} {n i : Nat} (h : i < n) : (rangeD lo n)[i]? = some (.int (lo + (i : Int))) := by
  simp [rangeD, h]
theorem walkD_range {K : PySem.W.Frag} {H : Hp} {lo : Int} {n : Nat} : WalkD false K (Itr lo n) H (rangeD lo n) where
  goes := fun i H' x hi => by rw [rangeD_length] at hi; exact hi
  yld := fun i H' v H2 x hi hy => by
    obtain ⟨rfl, rfl⟩ := hy
    rw [rangeD_length] at hi
    exact ⟨PExt.refl _, _, rangeD_get hi, .int _⟩
  stops := fun H' x => by rw [rangeD_length]; exact Nat.le_refl _
def iRange1 (t : TD) : TDs := fun E Q => t E fun d E1 => match d with
  | .int j => (-(2 ^ 62) ≤ j ∧ j < 2 ^ 62) ∧ Q (rangeD 0 j.toNat) E1
  | _ => False
theorem id_range1 {a : Expr} {t : TD} {p : Pos} (hg : Gl X "range") (hm : X.mg "range" = none) (h : ED X G a t) (hs : starEach [a] X.env = [(false, eval a X.env)] := by rfl) : ID X G false tg (.Call (.Name "range" p) [a] [] pos) (iRange1 t) :=
  ⟨PI.weak (pi_range1 hg hm (pa_cons h.pe pa_nil hs) hs) fun σ H R ⟨E, QE, r, q, k⟩ => ⟨E, _, r, q, fun d E1 v H1 q1 x1 r1 p1 => by
    cases p1 with
    | int i => exact ⟨i, rfl, q1.1.1, q1.1.2, k _ _ _ _ q1.2 x1 r1 walkD_range⟩
    | _ => exact q1.elim⟩⟩
def iRange2 (t u : TD) : TDs := fun E Q => t E fun d E1 => u E1 fun f E2 => match d, f with
  | .int i, .int j => (-(2 ^ 62) ≤ i ∧ i < 2 ^ 62 ∧ -(2 ^ 62) ≤ j ∧ j < 2 ^ 62) ∧ Q (rangeD i (j - i).toNat) E2
  | _, _ => False
theorem id_range2 {a b : Expr} {t u : TD} {p : Pos} (hg : Gl X "range") (hm : X.mg "range" = none) (h : ED X G a t) (hb : ED X G b u) (hs : starEach [a, b] X.env = [(false, eval a X.env), (false, eval b X.env)] := by rfl) (hs2 : starEach [b] X.env = [(false, eval b X.env)] := by rfl) :
    ID X G false tg (.Call (.Name "range" p) [a, b] [] pos) (iRange2 t u) :=
  ⟨PI.weak (pi_range2 hg hm (pa_cons h.pe (pa_cons hb.pe pa_nil hs2) (by rw [hs, hs2])) hs hs2) fun σ H R ⟨E, QE, r, q, k⟩ => ⟨E, _, r, q, fun d E1 v H1 q1 x1 r1 p1 => ⟨E1, _, r1, q1, fun f E2 u H2 q2 x2 r2 p2 => by
    cases p1 with
    | int i =>
      cases p2 with
      | int j => exact ⟨i, j, rfl, q2.1, k _ _ _ _ q2.2 (x1.trans x2) r2 walkD_range⟩
      | _ => exact q2.elim
    | _ => cases p2 <;> exact q2.elim⟩⟩⟩
/-! ### for -/
def forD (g : TGd) (tb : TSd) : List D → TSd
  | [] => fun DE E => DE.nx E
  | d :: ds => fun DE E => g d E fun E1 => tb { DE with nx := forD g tb ds DE, ct := forD g tb ds DE, bk := DE.nx } E1
def sFor (ti : TDs) (g : TGd) (tb : TSd) : TSd := fun DE E => ti E fun ds E1 => forD g tb ds DE E1
theorem sd_for {W : Bool} {body : List Stmt} {ti : TDs} {g : TGd} {tb : TSd} (hp : PassesOwn (model X.prog X.w) X.A X.env X.xe) (hc : X.calm = true) (hi : ID X G W tg iter ti) {ms : List Nat} (hg : GD X G W ms tg g) (hb : SDs X G body tb)
    (hs : ∀ x, foldedSetIterable iter X.env x = pure x := by intro _; rfl) : SD X G (.For tg iter body [] pos) (sFor ti g tb) := by
  refine ⟨PS.weak (ps_for hp hc hi.pi hg.pg hb.pss hs) fun F σ H ⟨E, DE, r, q, k1, k2, k3, k4⟩ => ⟨E, _, r, q, fun ds E1 J H1 q1 x1 r1 wk => ?_⟩⟩
  refine ⟨fun i m σ' H' => ∃ E', i + m = ds.length ∧ Ext H1 H' ∧ RelE X.K G H' E' σ' ∧ forD g tb (ds.drop i) DE E', ⟨ds.length, E1, by omega, Ext.refl _, r1, q1⟩, fun i m σ2 H2 hW => ?_⟩
  obtain ⟨E2, hm, x2, r2, q2⟩ := hW
  by_cases hi : i < ds.length
  · obtain ⟨d, hd⟩ : ∃ d, ds[i]? = some d := ⟨ds[i], List.getElem?_eq_getElem hi⟩
    have hdr : ds.drop i = d :: ds.drop (i + 1) := by
      rw [List.drop_eq_getElem_cons hi]
      rw [List.getElem?_eq_getElem hi] at hd
      rw [Option.some.inj hd]
    rw [hdr] at q2
    refine .inr ⟨wk.goes i H2 x2 hi, fun σ' H' => ∃ E', Ext H1 H' ∧ RelE X.K G H' E' σ' ∧ forD g tb (ds.drop (i + 1)) DE E', fun σ' H' ⟨E', a1, a2, a3⟩ => ⟨m - 1, by omega, E', by omega, a1, a2, a3⟩, fun x H3 hy => ?_⟩
    obtain ⟨px, d', hd', p⟩ := wk.yld i H2 x H3 x2 hi hy
    rw [hd] at hd'; cases hd'
    refine ⟨E2, d, _, r2.pext px, p, q2, fun E4 σ4 H4 q4 x4 r4 _ => ?_⟩
    have xx : Ext H1 H4 := (x2.trans px.ext).trans x4
    refine ⟨E4, _, r4, q4, fun E5 σ5 H5 z x5 r5 => ⟨E5, xx.trans x5, r5, z⟩, fun d E5 v σ5 H5 z x5 r5 p5 => k2 d E5 v σ5 H5 z ((x1.trans xx).trans x5) r5 p5, fun E5 σ5 H5 z x5 r5 => k1 E5 σ5 H5 z ((x1.trans xx).trans x5) r5, fun E5 σ5 H5 z x5 r5 => ⟨E5, xx.trans x5, r5, z⟩⟩
  · have e0 : ds.drop i = [] := List.drop_eq_nil_of_le (by omega)
    have ei : i = ds.length := by omega
    rw [e0] at q2
    refine .inl ⟨by rw [ei]; exact wk.stops H2 x2, k1 _ _ _ q2 (x1.trans x2) r2⟩
/-! ### while -/
def sWhile (c : TTd) (tb : TSd) : TSd := fun DE E => ∃ W : Nat → Env → Prop, (∃ m, W m E) ∧ ∀ m E, W m E → c E fun b E1 =>
  if b = true then tb { DE with nx := fun E' => ∃ m', m' < m ∧ W m' E', ct := fun E' => ∃ m', m' < m ∧ W m' E', bk := DE.nx } E1 else DE.nx E1
theorem sd_while {c : Expr} {body : List Stmt} {tc : TTd} {tb : TSd} (hp : PassesOwn (model X.prog X.w) X.A X.env X.xe) (hc : EB X G c tc) (hb : SDs X G body tb) : SD X G (.While c body [] pos) (sWhile tc tb) := by
  refine ⟨PS.weak (ps_while hp hc.pt hb.pss) fun F σ H ⟨E, DE, r, ⟨W, ⟨m0, w0⟩, turn⟩, k1, k2, k3, k4⟩ => ?_⟩
  refine ⟨fun m σ' H' => ∃ E', Ext H H' ∧ RelE X.K G H' E' σ' ∧ W m E', ⟨m0, E, Ext.refl _, r, w0⟩, fun m σ1 H1 ⟨E1, x1, r1, w1⟩ => ⟨E1, _, r1, turn m E1 w1, fun b E2 H2 q2 x2 r2 => ?_⟩⟩
  have xx := x1.trans x2
  cases b with
  | true =>
    rw [if_pos rfl] at q2
    refine iteT ?_
    refine ⟨fun σ' H' => ∃ E', Ext H H' ∧ RelE X.K G H' E' σ' ∧ ∃ m', m' < m ∧ W m' E', fun σ' H' ⟨E', a1, a2, m', a3, a4⟩ => ⟨m', a3, E', a1, a2, a4⟩, E2, _, r2, q2, fun E5 σ5 H5 z x5 r5 => ⟨E5, xx.trans x5, r5, z⟩, fun d E5 v σ5 H5 z x5 r5 p5 => k2 d E5 v σ5 H5 z (xx.trans x5) r5 p5, fun E5 σ5 H5 z x5 r5 => k1 E5 σ5 H5 z (xx.trans x5) r5, fun E5 σ5 H5 z x5 r5 => ⟨E5, xx.trans x5, r5, z⟩⟩
  | false =>
    rw [if_neg Bool.false_ne_true] at q2
    refine iteF ?_
    exact k1 _ _ _ q2 xx r2
/-! ### comprehensions -/
def wipeE (E : Env) : List Nat → Env
  | [] => E
  | v :: vs => (wipeE E vs).set v .un
def datOf : Option S → S
  | some (.d x) => .d x
  | _ => .un
/-- behind a comprehension: its own names are as they were -/
def restE (E0 E : Env) : List Nat → Env
  | [] => E
  | v :: vs => (restE E0 E vs).set v (datOf E0[v]?)
/-- one turn: an item, or none -/
def turnD (g : TGd) (tt : TTd) (te : TD) (d : D) (E : Env) (Q : Option D → Env → Prop) : Prop :=
  g d E fun E1 => tt E1 fun b E2 => if b = true then te E2 fun y E3 => Q (some y) E3 else Q none E2
def compD (g : TGd) (tt : TTd) (te : TD) (ms : List Nat) : List D → List D → Env → (List D → Env → Prop) → Prop
  | [], acc, E, Q => Q acc E
  | d :: ds, acc, E, Q => turnD g tt te d (wipeE E ms) fun o E' => match o with
    | some y => acc.length < sizeLine ∧ compD g tt te ms ds (acc ++ [y]) E' Q
    | none => compD g tt te ms ds acc E' Q
def tComp (ti : TDs) (g : TGd) (tt : TTd) (te : TD) (ms : List Nat) : TLd := fun E Q => ti E fun ds E1 => compD g tt te ms ds [] E1 fun xs E2 => Q xs (restE E1 E2 ms)
def tTrue : TTd := fun E Q => Q true E
structure EBs (X : Cx) (G : Gh) (ifs : List Expr) (t : TTd) : Prop where
  pt : PTs X ifs (liftT X.K G t)
theorem PTs.weak {ifs : List Expr} {t u : TT} (h : PTs X ifs t) (w : ∀ σ H Q, u σ H Q → t σ H Q) : PTs X ifs u := ⟨fun pins s σ H Q I q => h.run pins s σ H Q I (w σ H Q q)⟩
theorem ebs_nil : EBs X G [] tTrue := ⟨PTs.weak pts_nil fun σ H Q ⟨E, QE, r, q, k⟩ => k _ _ _ q (Ext.refl _) r⟩
theorem ebs_one {c : Expr} {t : TTd} (h : EB X G c t) : EBs X G [c] t := ⟨pts_one h.pt⟩
theorem RelX.wipe1 {K : PySem.W.Frag} {ex : List Addr} {H : Hp} {E : Env} {σ : St} {i : Nat} (r : RelX K G ex H E σ) (hi : i ∉ G.slots) : RelX K G ex H (E.set i .un) (σ.set i none) := by
  obtain ⟨l, k, pn, dm, x0, A, h1, h2, h3⟩ := r
  refine ⟨by simp [l], k, fun j a hj => ?_, dm, x0, fun j => if j = i then [] else A j, fun j m a e1 e2 => ?_, fun j a e1 => ?_, fun j s e => ?_⟩
  · have : i ≠ j := fun z => notin_slots hi a (z ▸ hj)
    rw [List.getElem?_set_ne this]; exact pn j a hj
  · by_cases z : j = i
    · simp [z] at e1
    · by_cases z2 : m = i
      · simp [z2] at e2
      · simp only [z, z2, if_false] at e1 e2; exact h1 j m a e1 e2
  · by_cases z : j = i
    · simp [z] at e1
    · simp only [z, if_false] at e1; exact h2 j a e1
  · by_cases z : j = i
    · subst z
      by_cases hl : j < E.length
      · rw [List.getElem?_set_self hl] at e
        cases e
        simp [RelS]
      · rw [List.getElem?_eq_none (by simpa using hl)] at e; cases e
    · rw [List.getElem?_set_ne (Ne.symm z)] at e
      rw [List.getElem?_set_ne (Ne.symm z)]
      simp only [z, if_false]; exact h3 j s e
theorem RelX.wipe {K : PySem.W.Frag} {ex : List Addr} {H : Hp} {E : Env} {σ : St} (r : RelX K G ex H E σ) : ∀ {ms : List Nat}, (∀ i ∈ ms, i ∉ G.slots) → RelX K G ex H (wipeE E ms) (wipe σ ms)
  | [], _ => r
  | i :: ms, h => (RelX.wipe r fun j hj => h j (List.mem_cons_of_mem _ hj)).wipe1 (h i (List.mem_cons_self ..))
theorem wipe_get {σ : St} {i : Nat} : ∀ {ms : List Nat}, i ∉ ms → (L2.wipe σ ms)[i]? = σ[i]?
  | [], _ => rfl
  | v :: vs, h => by
    show ((L2.wipe σ vs).set v none)[i]? = _
    rw [List.getElem?_set_ne (fun z => h (by simp [z])), wipe_get fun z => h (List.mem_cons_of_mem _ z)]
/-- behind a comprehension: the slots of before -/
theorem RelX.rest {K : PySem.W.Frag} {ex : List Addr} {H1 H : Hp} {E1 E : Env} {σ σ2 : St} {ms : List Nat} (r1 : RelE K G H1 E1 σ) (x : Ext H1 H) (r : RelX K G ex H E σ2) (hw : L2.wipe σ2 ms = L2.wipe σ ms) (hm : ∀ i ∈ ms, i ∉ G.slots) : RelX K G ex H (restE E1 E ms) σ := by
  have hl : σ2.length = σ.length := by rw [← wipe_length σ2 ms, hw, wipe_length]
  have rl : ∀ (l : List Nat), (restE E1 E l).length = E.length := by
    intro l
    induction l with
    | nil => rfl
    | cons v vs ih => show ((restE E1 E vs).set v _).length = _; rw [List.length_set, ih]
  have rg : ∀ (l : List Nat) (i : Nat), i ∉ l → (restE E1 E l)[i]? = E[i]? := by
    intro l
    induction l with
    | nil => intro i _; rfl
    | cons v vs ih => intro i h; show ((restE E1 E vs).set v _)[i]? = _; rw [List.getElem?_set_ne (fun z => h (by simp [z])), ih i fun z => h (List.mem_cons_of_mem _ z)]
  have rin : ∀ (l : List Nat) (i : Nat) (s : S), i ∈ l → (restE E1 E l)[i]? = some s → s = datOf E1[i]? := by
    intro l
    induction l with
    | nil => intro i s h; cases h
    | cons v vs ih =>
      intro i s h e
      have e : ((restE E1 E vs).set v (datOf E1[v]?))[i]? = some s := e
      by_cases z : v = i
      · subst z
        by_cases hv : v < (restE E1 E vs).length
        · rw [List.getElem?_set_self hv] at e; exact (Option.some.inj e).symm
        · rw [List.getElem?_eq_none (by simpa using hv)] at e; cases e
      · rw [List.getElem?_set_ne z] at e
        exact ih i s (by rcases List.mem_cons.mp h with q | q; exact absurd q.symm z; exact q) e
  obtain ⟨l, k, pn, dm, x0, A, h1, h2, h3⟩ := r
  have same : ∀ i, i ∉ ms → σ2[i]? = σ[i]? := fun i hi => by rw [← wipe_get (σ := σ2) hi, hw, wipe_get hi]
  refine ⟨by rw [rl, l, hl], k, fun i a ha => ?_, dm, x0, fun i => if i ∈ ms then [] else A i, fun i j a e1 e2 => ?_, fun i a e => ?_, fun i s e => ?_⟩
  · have : i ∉ ms := fun z => notin_slots (hm i z) a ha
    rw [← same i this]; exact pn i a ha
  · dsimp only at e1 e2
    split at e1
    · cases e1
    · split at e2
      · cases e2
      · exact h1 i j a e1 e2
  · dsimp only at e
    split at e
    · cases e
    · exact h2 i a e
  · by_cases hi : i ∈ ms
    · simp only [hi, if_true]
      have es := rin ms i s hi e
      subst es
      cases q : E1[i]? with
      | none => exact rfl
      | some s =>
        cases s with
        | d y =>
          obtain ⟨v, e1, p⟩ := r1.data q
          exact ⟨rfl, v, e1, p.ext x⟩
        | _ => exact rfl
    · simp only [hi, if_false]
      rw [rg ms i hi] at e
      rw [← same i hi]
      exact h3 i s e
abbrev anyG (W : Bool) (K : PySem.W.Frag) (G : Gh) (ms : List Nat) (g : TGd) : TG := fun v σ H Q => ∃ G' : Gh, G'.slots = G.slots ∧ liftG W K G' ms g v σ H Q
abbrev anyT (K : PySem.W.Frag) (G : Gh) (tt : TTd) : TT := fun σ H Q => ∃ G' : Gh, G'.slots = G.slots ∧ liftT K G' tt σ H Q
abbrev anyE (K : PySem.W.Frag) (G : Gh) (te : TD) : TE := fun σ H Q => ∃ G' : Gh, G'.slots = G.slots ∧ liftE K G' te σ H Q
theorem lift_comp {W : Bool} {ti : TDs} {g : TGd} {tt : TTd} {te : TD} {ms : List Nat} (hm : ∀ i ∈ ms, i ∉ G.slots) (σ : St) (H : Hp) (Q : VK) (h : liftL X.K G (tComp ti g tt te ms) σ H Q) : tLc (liftI W X.K G ti) (anyG W X.K G ms g) (anyT X.K G tt) (anyE X.K G te) ms σ H Q := by
  obtain ⟨E, QE, r, q, k⟩ := h
  refine ⟨E, _, r, q, fun ds E1 J H1 q1 x1 r1 wk L hL => ?_⟩
  obtain ⟨rL, h0, na⟩ := r1.fresh (o := .lst []) hL
  refine ⟨fun i m H' => ∃ (E' : Env) (σ' : St) (acc : List D) (vs : List V), i + m = ds.length ∧ Ext (upd H1 L (.lst [])) H' ∧ RelX X.K G [L] H' E' σ' ∧ L2.wipe σ' ms = L2.wipe σ ms ∧ H' L = some (.lst vs) ∧ RpL X.K H' acc vs ∧
    compD g tt te ms (ds.drop i) acc E' fun xs E2 => QE xs (restE E1 E2 ms), ⟨ds.length, E1, σ, [], [], by omega, Ext.refl _, rL, rfl, upd_same, .nil, q1⟩, fun i m H2 hW => ?_⟩
  obtain ⟨E2, σ2, acc, vs, hm2, x2, r2, w2, a2, p2, q2⟩ := hW
  have xL : Ext H1 H2 := (PExt.new hL).ext.trans x2
  by_cases hi : i < ds.length
  · obtain ⟨d, hd⟩ : ∃ d, ds[i]? = some d := ⟨ds[i], List.getElem?_eq_getElem hi⟩
    have hdr : ds.drop i = d :: ds.drop (i + 1) := by
      rw [List.drop_eq_getElem_cons hi]
      rw [List.getElem?_eq_getElem hi] at hd
      rw [Option.some.inj hd]
    rw [hdr] at q2
    refine .inr ⟨wk.goes i H2 xL hi, fun H' => ∃ (E' : Env) (σ' : St) (acc : List D) (vs : List V), Ext (upd H1 L (.lst [])) H' ∧ RelX X.K G [L] H' E' σ' ∧ L2.wipe σ' ms = L2.wipe σ ms ∧ H' L = some (.lst vs) ∧ RpL X.K H' acc vs ∧
      compD g tt te ms (ds.drop (i + 1)) acc E' fun xs E2 => QE xs (restE E1 E2 ms), fun H' ⟨E', σ', acc, vs, b1, b2, b3, b4, b5, b6⟩ => ⟨m - 1, by omega, E', σ', acc, vs, by omega, b1, b2, b3, b4, b5, b6⟩, fun x H3 hy => ?_⟩
    obtain ⟨px, d', hd', p⟩ := wk.yld i H2 x H3 xL hi hy
    rw [hd] at hd'; cases hd'
    have hs0 : (pend G L (.lst vs)).slots = G.slots := rfl
    have r3 : RelE X.K (pend G L (.lst vs)) H3 (wipeE E2 ms) (L2.wipe σ ms) := by
      have := ((r2.pext px).wipe hm).toPend (px _ _ a2) na
      rw [w2] at this; exact this
    refine ⟨pend G L (.lst vs), hs0, _, d, _, r3, p, q2, fun E4 σ4 H4 q4 x4 r4 w4 => ?_⟩
    have ww : ∀ (l : List Nat), L2.wipe (L2.wipe σ l) l = L2.wipe σ l := by
      intro l
      have : ∀ (τ : St) (l k : List Nat), (∀ j ∈ l, j ∈ k) → (∀ j ∈ k, ∀ v, τ[j]? = some v → v = none) → L2.wipe τ l = τ := by
        intro τ l
        induction l with
        | nil => intro _ _ _; rfl
        | cons v vs ih =>
          intro k hk hn
          show (L2.wipe τ vs).set v none = τ
          rw [ih k (fun j hj => hk j (List.mem_cons_of_mem _ hj)) hn]
          refine List.ext_getElem? fun j => ?_
          by_cases hv : v = j
          · subst hv
            by_cases hl : v < τ.length
            · rw [List.getElem?_set_self hl]
              have := hn v (hk v (List.mem_cons_self ..)) _ (List.getElem?_eq_getElem hl)
              rw [List.getElem?_eq_getElem hl, this]
            · rw [List.getElem?_eq_none (by simpa using hl), List.getElem?_eq_none (by simpa using hl)]
          · rw [List.getElem?_set_ne hv]
      refine this _ l l (fun j hj => hj) fun j hj v e => ?_
      cases v with
      | none => rfl
      | some y => exact absurd hj (wipe_some e).2
    refine ⟨by rw [w4]; exact ww ms, pend G L (.lst vs), hs0, E4, _, r4, q4, fun b E5 H5 q5 x5 r5 => ?_⟩
    have w45 : L2.wipe σ4 ms = L2.wipe σ ms := by rw [w4]; exact ww ms
    have x5' : Ext (upd H1 L (.lst [])) H5 := ((x2.trans px.ext).trans x4).trans x5
    cases b with
    | false =>
      rw [if_neg Bool.false_ne_true] at q5
      refine iteF ?_
      obtain ⟨r6, a6⟩ := RelX.ofPend r5 h0 na
      exact ⟨E5, σ4, acc, vs, x5', r6, w45, a6, p2.ext ((px.ext.trans x4).trans x5), q5⟩
    | true =>
      rw [if_pos rfl] at q5
      refine iteT ?_
      refine ⟨pend G L (.lst vs), hs0, E5, _, r5, q5, fun y E6 u H6 q6 x6 r6 p6 => ?_⟩
      obtain ⟨r7, a7⟩ := RelX.ofPend r6 h0 na
      have pv := p2.ext (((px.ext.trans x4).trans x5).trans x6)
      have xp : Ext H6 (upd H6 L (.lst (vs ++ [u]))) := Ext.put a7
      refine ⟨vs, a7, by rw [← pv.length]; exact q6.1, E6, σ4, acc ++ [y], vs ++ [u], (x5'.trans x6).trans xp, ?_, w45, upd_same, (RpL.append pv (.cons p6 .nil)).ext xp, q6.2⟩
      -- the list L grows: apart from all footprints
      obtain ⟨l, kk, pn, dm, x0, A, h1, h2, h3⟩ := r7
      refine ⟨l, fun p o e ne => ?_, pn, fun p hp => ?_, x0.trans xp, fun j => if E6[j]? = none then [] else A j, fun i j b e1 e2 => ?_, fun i b e => ?_, fun j s e => ?_⟩
      · have : p ≠ L := by rintro rfl; rw [h0] at e; cases e
        rw [upd_ne this]; exact kk p o e ne
      · have : p ≠ L := by rintro rfl; exact na hp
        rw [upd_ne this]; exact dm p hp
      · dsimp only at e1 e2
        split at e1
        · cases e1
        · split at e2
          · cases e2
          · exact h1 i j b e1 e2
      · dsimp only at e
        split at e
        · cases e
        · exact h2 i b e
      · have : E6[j]? ≠ none := by rw [e]; simp
        simp only [this, if_false]
        exact (h3 j s e).move xp fun p hp => upd_ne (by rintro rfl; exact (h2 j p hp).2 (by simp))
  · have e0 : ds.drop i = [] := List.drop_eq_nil_of_le (by omega)
    have ei : i = ds.length := by omega
    rw [e0] at q2
    exact .inl ⟨by rw [ei]; exact wk.stops H2 xL, k _ _ _ _ _ q2 (x1.trans xL) (RelX.rest r1 xL r2 w2 hm) h0 na a2 p2⟩
theorem comp_parts {W : Bool} {elt tg : Expr} {ifs : List Expr} {scope : Scope} {g : TGd} {tt : TTd} {te : TD} {ms : List Nat}
    (hg : ∀ (G' : Gh), G'.slots = G.slots → ∀ (s : Shared) (H : Hp) (C : Addr) (cl : List (Str × Addr)) (fp : List Addr), GD (X.blk s H scope (compEnvC scope cl C X.env) fp) G' W ms tg g)
    (ht : ∀ (G' : Gh), G'.slots = G.slots → ∀ (s : Shared) (H : Hp) (C : Addr) (cl : List (Str × Addr)) (fp : List Addr), EBs (X.blk s H scope (compEnvC scope cl C X.env) fp) G' ifs tt)
    (he : ∀ (G' : Gh), G'.slots = G.slots → ∀ (s : Shared) (H : Hp) (C : Addr) (cl : List (Str × Addr)) (fp : List Addr), ED (X.blk s H scope (compEnvC scope cl C X.env) fp) G' elt te) :
    (∀ (s : Shared) (H : Hp) (C : Addr) (cl : List (Str × Addr)) (fp : List Addr), PG (X.blk s H scope (compEnvC scope cl C X.env) fp) tg (anyG W X.K G ms g)) ∧
    (∀ (s : Shared) (H : Hp) (C : Addr) (cl : List (Str × Addr)) (fp : List Addr), PTs (X.blk s H scope (compEnvC scope cl C X.env) fp) ifs (anyT X.K G tt)) ∧
    (∀ (s : Shared) (H : Hp) (C : Addr) (cl : List (Str × Addr)) (fp : List Addr), PE (X.blk s H scope (compEnvC scope cl C X.env) fp) elt (anyE X.K G te)) :=
  ⟨fun s H C cl fp => ⟨fun pins s' σ H' v x Q I r ⟨G', hG', q⟩ => (hg G' hG' s H C cl fp).pg.run pins s' σ H' v x Q I r q⟩,
   fun s H C cl fp => ⟨fun pins s' σ H' Q I ⟨G', hG', q⟩ => (ht G' hG' s H C cl fp).pt.run pins s' σ H' Q I q⟩,
   fun s H C cl fp => ⟨fun pins s' σ H' Q I ⟨G', hG', q⟩ => (he G' hG' s H C cl fp).pe.run pins s' σ H' Q I q⟩⟩
section
variable {elt : Expr} {ifs : List Expr} {scope : Scope} {ti : TDs} {g : TGd} {tt : TTd} {te : TD} {ms : List Nat}
theorem el_comp {W : Bool} (own : List (Str × Nat)) (hc : X.calm = true) (hN : X.N.Nodup) (hms : own.map (·.2) = ms) (hm : ∀ i ∈ ms, i ∉ G.slots) (hi : ID X G W tg iter ti) (ok : BlkOk X.N X.env.scope scope own)
    (hg : ∀ (G' : Gh), G'.slots = G.slots → ∀ (s : Shared) (H : Hp) (C : Addr) (cl : List (Str × Addr)) (fp : List Addr), GD (X.blk s H scope (compEnvC scope cl C X.env) fp) G' W ms tg g)
    (ht : ∀ (G' : Gh), G'.slots = G.slots → ∀ (s : Shared) (H : Hp) (C : Addr) (cl : List (Str × Addr)) (fp : List Addr), EBs (X.blk s H scope (compEnvC scope cl C X.env) fp) G' ifs tt)
    (he : ∀ (G' : Gh), G'.slots = G.slots → ∀ (s : Shared) (H : Hp) (C : Addr) (cl : List (Str × Addr)) (fp : List Addr), ED (X.blk s H scope (compEnvC scope cl C X.env) fp) G' elt te) (hs : ∀ x, foldedSetIterable iter X.env x = pure x := by intro _; rfl) :
    EL X G (.ListComp elt [⟨tg, iter, ifs, 0⟩] scope pos) (tComp ti g tt te ms) := by
  obtain ⟨Pg, Pt, Pe⟩ := comp_parts hg ht he
  refine ⟨PE.weak (pe_lc hc hN hi.pi ok Pg Pt Pe hs) fun σ H Q h => ?_⟩
  rw [hms]; exact lift_comp hm σ H Q h
end
end
end DL
set_option Elab.async false
set_option linter.all false
set_option maxRecDepth 100000
namespace DL
open PySem PySem.Spec PyProof.Rows L2
/-! ### a def's promise over data -/
abbrev SpD := List S → (D → List S → Prop) → Prop
inductive AR (K : PySem.W.Frag) (H : Hp) : List S → List V → List Addr → Prop
  | nil : AR K H [] [] []
  | d {x : D} {v : V} {ss : List S} {vs : List V} {as : List Addr} : Rp K H x v → AR K H ss vs as → AR K H (.d x :: ss) (v :: vs) as
  | o {s : S} {a : Addr} {ss : List S} {vs : List V} {as : List Addr} : s.isMut = true → RelM K H s a → AR K H ss vs as → AR K H (s :: ss) (.ref a :: vs) (a :: as)
def spL (K : PySem.W.Frag) (sp : SpD) : Sp := fun vs H Q _ => ∃ (ss : List S) (as : List Addr) (QD : D → List S → Prop), sp ss QD ∧ AR K H ss vs as ∧ as.Nodup ∧
  ∀ d outs v H', QD d outs → (∀ p o, H p = some o → p ∉ as → H' p = some o) → Paired (RelM K H') outs as → Rp K H' d v → Q v H'
/-- the places of the mutable ones -/
def mpos : Nat → List S → List Nat
  | _, [] => []
  | k, s :: ss => if s.isMut = true then k :: mpos (k + 1) ss else mpos (k + 1) ss
theorem AR.length {K : PySem.W.Frag} {H : Hp} : ∀ {ss : List S} {vs : List V} {as : List Addr}, AR K H ss vs as → ss.length = vs.length
  | _, _, _, .nil => rfl
  | _, _, _, .d _ r => by rw [List.length_cons, List.length_cons, AR.length r]
  | _, _, _, .o _ _ r => by rw [List.length_cons, List.length_cons, AR.length r]
theorem AR.mlen {K : PySem.W.Frag} {H : Hp} : ∀ {ss : List S} {vs : List V} {as : List Addr} (k : Nat), AR K H ss vs as → (mpos k ss).length = as.length
  | _, _, _, _, .nil => rfl
  | _, _, _, k, .d _ r => by show (mpos (k + 1) _).length = _; exact AR.mlen (k + 1) r
  | _, _, _, k, .o h _ r => by unfold mpos; rw [if_pos h, List.length_cons, List.length_cons, AR.mlen (k + 1) r]
/-- what an argument place holds -/
theorem AR.get {K : PySem.W.Frag} {H : Hp} : ∀ {ss : List S} {vs : List V} {as : List Addr} (k : Nat) {i : Nat} {s : S}, AR K H ss vs as → ss[i]? = some s →
    (∃ x v, s = .d x ∧ vs[i]? = some v ∧ Rp K H x v) ∨ (s.isMut = true ∧ ∃ a, vs[i]? = some (.ref a) ∧ RelM K H s a ∧ (k + i, a) ∈ (mpos k ss).zip as)
  | _, _, _, _, i, _, .nil, e => by simp at e
  | _, _, _, k, 0, s, .d (x := x) (v := v) p r, e => by
    simp at e; exact .inl ⟨x, v, e.symm, rfl, p⟩
  | _, _, _, k, i + 1, s, .d p r, e => by
    rcases AR.get (k + 1) (i := i) r (by simpa using e) with ⟨x, v, e1, e2, e3⟩ | ⟨h, a, e1, e2, e3⟩
    · exact .inl ⟨x, v, e1, by simpa using e2, e3⟩
    · refine .inr ⟨h, a, by simpa using e1, e2, ?_⟩
      show (k + (i + 1), a) ∈ (mpos (k + 1) _).zip _
      rw [show k + (i + 1) = k + 1 + i by omega]; exact e3
  | _, _, _, k, 0, s, .o (a := a) h m r, e => by
    simp at e; subst e
    refine .inr ⟨h, a, rfl, m, ?_⟩
    unfold mpos; rw [if_pos h]; simp
  | _, _, _, k, i + 1, s, .o h m r, e => by
    rcases AR.get (k + 1) (i := i) r (by simpa using e) with ⟨x, v, e1, e2, e3⟩ | ⟨h', a, e1, e2, e3⟩
    · exact .inl ⟨x, v, e1, by simpa using e2, e3⟩
    · refine .inr ⟨h', a, by simpa using e1, e2, ?_⟩
      unfold mpos; rw [if_pos h, List.zip_cons_cons]
      refine List.mem_cons_of_mem _ ?_
      rw [show k + (i + 1) = k + 1 + i by omega]; exact e3
theorem AR.back {K : PySem.W.Frag} {H : Hp} : ∀ {ss : List S} {vs : List V} {as : List Addr} (k : Nat) {j : Nat} {a : Addr}, AR K H ss vs as → (j, a) ∈ (mpos k ss).zip as → ∃ i s, j = k + i ∧ ss[i]? = some s ∧ vs[i]? = some (.ref a) ∧ RelM K H s a
  | _, _, _, _, _, _, .nil, e => by simp [mpos] at e
  | _, _, _, k, j, a, .d p r, e => by
    obtain ⟨i, s, e1, e2, e3, e4⟩ := AR.back (k + 1) (j := j) (a := a) r e
    exact ⟨i + 1, s, by omega, by simpa using e2, by simpa using e3, e4⟩
  | _, _, _, k, j, a, .o h m r, e => by
    unfold mpos at e; rw [if_pos h, List.zip_cons_cons] at e
    rcases List.mem_cons.mp e with z | z
    · cases z; exact ⟨0, _, by omega, rfl, rfl, m⟩
    · obtain ⟨i, s, e1, e2, e3, e4⟩ := AR.back (k + 1) r z
      exact ⟨i + 1, s, by omega, by simpa using e2, by simpa using e3, e4⟩
theorem zip_inj2 {α β : Type} : ∀ {xs : List α} {ys : List β} {i j : α} {a : β}, ys.Nodup → (i, a) ∈ xs.zip ys → (j, a) ∈ xs.zip ys → i = j
  | x :: xs, y :: ys, i, j, a, nd, h1, h2 => by
    rw [List.zip_cons_cons] at h1 h2
    have ⟨n1, n2⟩ := List.nodup_cons.mp nd
    rcases List.mem_cons.mp h1 with z1 | z1
    · rcases List.mem_cons.mp h2 with z2 | z2
      · cases z1; cases z2; rfl
      · cases z1; exact absurd (List.of_mem_zip z2).2 n1
    · rcases List.mem_cons.mp h2 with z2 | z2
      · cases z2; exact absurd (List.of_mem_zip z1).2 n1
      · exact zip_inj2 n2 z1 z2
  | [], _, _, _, _, _, h1, _ => by simp at h1
  | _ :: _, [], _, _, _, _, h1, _ => by simp at h1
theorem zip_fst {α β : Type} : ∀ {xs : List α} {ys : List β}, xs.length = ys.length → (xs.zip ys).map (·.1) = xs
  | [], _, _ => by simp
  | x :: xs, y :: ys, h => by rw [List.zip_cons_cons, List.map_cons, zip_fst (by simpa using h)]
  | _ :: _, [], h => by simp at h
theorem zip_snd {α β : Type} : ∀ {xs : List α} {ys : List β}, xs.length = ys.length → (xs.zip ys).map (·.2) = ys
  | [], [], _ => by simp
  | [], _ :: _, h => by simp at h
  | x :: xs, y :: ys, h => by rw [List.zip_cons_cons, List.map_cons, zip_snd (by simpa using h)]
  | _ :: _, [], h => by simp at h
/-- the start of a def's body -/
theorem AR.start {K : PySem.W.Frag} {H : Hp} {ss : List S} {vs : List V} {as : List Addr} {n : Nat} (r : AR K H ss vs as) (nd : as.Nodup) :
    RelE K ⟨H, (mpos 0 ss).zip as, fun _ => none, []⟩ H (ss ++ List.replicate n .un) (vs.map some ++ List.replicate n none) := by
  have hl := r.length
  have own : ∀ i a, (i, a) ∈ (mpos 0 ss).zip as → ∃ s, ss[i]? = some s ∧ vs[i]? = some (.ref a) ∧ RelM K H s a := fun i a h => by
    obtain ⟨j, s, e1, e2, e3, e4⟩ := r.back 0 h
    have : i = j := by omega
    subst this; exact ⟨s, e2, e3, e4⟩
  have key : ∀ i a, ((mpos 0 ss).zip as).lookup i = some a → (i, a) ∈ (mpos 0 ss).zip as := by
    intro i a
    generalize (mpos 0 ss).zip as = l
    induction l with
    | nil => intro h; cases h
    | cons p l ih =>
      obtain ⟨j, b⟩ := p
      intro h
      rw [List.lookup_cons] at h
      split at h
      · rename_i q; have : i = j := by simpa using q
        subst this; cases h; exact List.mem_cons_self ..
      · exact List.mem_cons_of_mem _ (ih h)
  have key2 : ∀ i a, (i, a) ∈ (mpos 0 ss).zip as → ∃ b, ((mpos 0 ss).zip as).lookup i = some b := by
    intro i a
    generalize (mpos 0 ss).zip as = l
    induction l with
    | nil => intro h; cases h
    | cons p l ih =>
      obtain ⟨j, b⟩ := p
      intro h
      rw [List.lookup_cons]
      split
      · exact ⟨b, rfl⟩
      · rename_i q
        rcases List.mem_cons.mp h with z | z
        · cases z; simp at q
        · exact ih z
  refine ⟨by simp [hl], fun p o h _ => h, fun i a h => ?_, fun a h => ?_, ⟨(fun _ _ z => by cases z), (fun _ _ _ z => by cases z)⟩, fun i => match ((mpos 0 ss).zip as).lookup i with | some a => [a] | none => [], fun i j a h1 h2 => ?_, fun i a h => ?_, fun i s h => ?_⟩
  · obtain ⟨s, e1, e2, e3⟩ := own i a h
    have hi : i < vs.length := by
      rcases Nat.lt_or_ge i vs.length with z | z
      · exact z
      · rw [List.getElem?_eq_none z] at e2; cases e2
    rw [List.getElem?_append_left (by simpa using hi), List.getElem?_map, e2]; rfl
  · have h : a ∈ ((mpos 0 ss).zip as).map (·.2) ++ [] := h
    rw [List.append_nil] at h
    obtain ⟨p, hp, rfl⟩ := List.mem_map.mp h
    obtain ⟨s, e1, e2, e3⟩ := own p.1 p.2 hp
    obtain ⟨u, e, _⟩ := e3.soft
    rw [e]; simp
  · dsimp only at h1 h2
    split at h1
    · rename_i b hb
      split at h2
      · rename_i c hc
        simp only [List.mem_cons, List.not_mem_nil, or_false] at h1 h2
        subst h1; subst h2
        exact zip_inj2 nd (key _ _ hb) (key _ _ hc)
      · cases h2
    · cases h1
  · dsimp only at h
    split at h
    · rename_i b hb
      simp only [List.mem_cons, List.not_mem_nil, or_false] at h
      subst h
      exact ⟨.inl (List.mem_append_left _ (List.mem_map.mpr ⟨_, key _ _ hb, rfl⟩)), by simp⟩
    · cases h
  · by_cases hi : i < ss.length
    · rw [List.getElem?_append_left hi] at h
      rw [List.getElem?_append_left (by simpa [← hl] using hi), List.getElem?_map]
      rcases r.get 0 h with ⟨x, v, rfl, e2, e3⟩ | ⟨hm, a, e1, e2, e3⟩
      · have no : ((mpos 0 ss).zip as).lookup i = none := by
          cases q : ((mpos 0 ss).zip as).lookup i with
          | none => rfl
          | some b =>
            obtain ⟨s', f1, f2, f3⟩ := own i b (key _ _ q)
            rw [h] at f1; cases f1
            exact f3.elim
        dsimp only
        rw [no, e2]
        exact ⟨rfl, v, rfl, e3⟩
      · rw [Nat.zero_add] at e3
        obtain ⟨b, hb⟩ := key2 i a e3
        obtain ⟨s', f1, f2, f3⟩ := own i b (key _ _ hb)
        rw [e1] at f2; cases f2
        dsimp only
        rw [hb, e1]
        exact RelS.ofMut hm rfl e2
    · have hi' : ss.length ≤ i := Nat.le_of_not_lt hi
      rw [List.getElem?_append_right hi'] at h
      have hs : s = .un := by
        have := List.mem_of_getElem? h
        exact (List.mem_replicate.mp this).2
      subst hs
      have no : ((mpos 0 ss).zip as).lookup i = none := by
        cases q : ((mpos 0 ss).zip as).lookup i with
        | none => rfl
        | some b =>
          obtain ⟨s', f1, f2, f3⟩ := own i b (key _ _ q)
          rw [List.getElem?_eq_none hi'] at f1; cases f1
      dsimp only
      rw [no]; rfl
/-- the mutable arguments at the end -/
def finO : List Nat → Env → (List S → Prop) → Prop
  | [], _, Q => Q []
  | i :: is, E, Q => match E[i]? with
    | some (.ol xs) => finO is E fun outs => Q (.ol xs :: outs)
    | some (.dt xs) => finO is E fun outs => Q (.dt xs :: outs)
    | some (.dk xs) => finO is E fun outs => Q (.dk xs :: outs)
    | _ => False
theorem finO_rel {K : PySem.W.Frag} {G : Gh} {H : Hp} {E : Env} {σ : St} (r : RelE K G H E σ) : ∀ {slots : List Nat} {as : List Addr} {Q : List S → Prop}, slots.length = as.length → (∀ p ∈ slots.zip as, p ∈ G.own) → finO slots E Q → ∃ outs, Q outs ∧ Paired (RelM K H) outs as
  | [], [], Q, _, _, h => ⟨[], h, .nil⟩
  | i :: is, a :: as, Q, hl, hs, h => by
    have key : ∀ s : S, E[i]? = some s → s.isMut = true → finO is E (fun outs => Q (s :: outs)) → ∃ outs, Q outs ∧ Paired (RelM K H) outs (a :: as) := fun s he hm h => by
      have hp := r.pin i a (hs (i, a) (by simp))
      obtain ⟨b, e1, e2⟩ := r.mutAt he hm
      rw [hp] at e1
      have : a = b := by injection e1 with z; injection z with z; injection z
      subst this
      obtain ⟨outs, q, p⟩ := finO_rel r (slots := is) (as := as) (by simpa using hl) (fun p hp => hs p (by rw [List.zip_cons_cons]; exact List.mem_cons_of_mem _ hp)) h
      exact ⟨_, q, .cons e2 p⟩
    unfold finO at h
    split at h
    · rename_i xs he; exact key _ he rfl h
    · rename_i xs he; exact key _ he rfl h
    · rename_i xs he; exact key _ he rfl h
    · exact h.elim
  | [], _ :: _, _, hl, _, _ => by simp at hl
  | _ :: _, [], _, hl, _, _ => by simp at hl
/-- THE RULE for a def -/
theorem fn_okD {P : Program} {w : World} {K : PySem.W.Frag} {mg : Str → Option Value} {base : Heap} {x qual : Str} {st : Stmt} {f : Addr} {fd : FuncData} {N ps : List Str} {k : Nat} {sp : SpD} {slots : List Nat} {tb : TSd}
    (F : Fun K x qual st f fd) (Sc : FnScope N ps (defScope st)) (shape : ∀ ss QD, sp ss QD → ss.length = ps.length ∧ mpos 0 ss = slots)
    (body : ∀ (cdv : Value) (A : Around) (outer : List PySem.Env) (s : Shared) (H : Hp) (E : XK), Room k (A.deeper (envOfC qual (defScope st) s.heap.objs.size f cdv)) → ∀ G : Gh, G.slots = slots →
      SDs (cxOf CX0 P w K mg base N qual (defScope st) f cdv A outer s H E).nox G (defBody st) tb)
    (read : ∀ ss QD, sp ss QD → tb { nx := fun E' => finO slots E' (QD .none), rt := fun d E' => finO slots E' (QD d) } (ss ++ List.replicate (N.length - ps.length) .un)) :
    FnOk P w K mg base CX0 (k + 1) f fd ps (spL K sp) := by
  refine F.ok Sc (fun vs H Q E h => ?_) (fun cdv A outer s H vs Q E hr h => ?_)
  · obtain ⟨ss, as, QD, h1, h2, _⟩ := h
    rw [← h2.length]; exact (shape ss QD h1).1
  · obtain ⟨ss, as, QD, h1, h2, nd, h4⟩ := h
    obtain ⟨hl, hm⟩ := shape ss QD h1
    have ml := h2.mlen 0
    have hG : (⟨H, (mpos 0 ss).zip as, fun _ => none, []⟩ : Gh).slots = slots := by show ((mpos 0 ss).zip as).map (·.1) = slots; rw [zip_fst ml, hm]
    have hA : (⟨H, (mpos 0 ss).zip as, fun _ => none, []⟩ : Gh).addrs = as := by show ((mpos 0 ss).zip as).map (·.2) ++ [] = as; rw [zip_snd ml, List.append_nil]
    refine ⟨_, (body cdv A outer s H E hr ⟨H, (mpos 0 ss).zip as, fun _ => none, []⟩ hG).pss, ?_⟩
    have hst : L2.start N vs = vs.map some ++ List.replicate (N.length - ps.length) none := by unfold L2.start; rw [← h2.length, hl]
    refine ⟨ss ++ List.replicate (N.length - ps.length) .un, { nx := fun E' => finO slots E' (QD .none), rt := fun d E' => finO slots E' (QD d) }, by rw [hst]; exact h2.start nd, read ss QD h1, fun E' σ' H' q x r => ?_, fun d E' v σ' H' q x r p => ?_, fun _ _ _ q => False.elim q, fun _ _ _ q => False.elim q⟩
    · obtain ⟨outs, q1, p1⟩ := finO_rel r (as := as) (by rw [← hm]; exact ml) (by rw [← hm]; exact fun p hp => hp) q
      exact h4 .none outs .non H' q1 (fun p o e ne => r.keep p o e (by rw [hA]; exact ne)) p1 .non
    · obtain ⟨outs, q1, p1⟩ := finO_rel r (as := as) (by rw [← hm]; exact ml) (by rw [← hm]; exact fun p hp => hp) q
      exact h4 d outs v H' q1 (fun p o e ne => r.keep p o e (by rw [hA]; exact ne)) p1 p
/-! ### a call of a def -/
def oixs : List Arg → List Nat
  | [] => []
  | .v _ :: as => oixs as
  | .o i :: as => i :: oixs as
def argS (E : Env) : List Arg → Option (List S)
  | [] => some []
  | .v x :: as => (argS E as).map (.d x :: ·)
  | .o i :: as => match E[i]? with
    | some (.ol xs) => (argS E as).map (.ol xs :: ·)
    | some (.dt xs) => (argS E as).map (.dt xs :: ·)
    | some (.dk xs) => (argS E as).map (.dk xs :: ·)
    | _ => none
def putO : List Arg → List S → Env → Env
  | .v _ :: as, outs, E => putO as outs E
  | .o i :: as, s :: outs, E => putO as outs (E.set i s)
  | _, _, E => E
def ndp : List Nat → Bool
  | [] => true
  | i :: is => !is.contains i && ndp is
def tCallD (sp : SpD) (ta : TAd) : TD := fun E Q => ta E fun as E1 => match argS E1 as with
  | some ss => ndp (oixs as) = true ∧ sp ss fun r outs => Q r (putO as outs E1)
  | none => False
section
variable {K : PySem.W.Frag} {G : Gh} {H H' : Hp} {E : Env} {σ : St}
abbrev MutAt (σ : St) (E : Env) : Nat → Addr → Prop := fun i a => σ[i]? = some (some (.ref a)) ∧ ∃ s : S, E[i]? = some s ∧ s.isMut = true
theorem RelA.args (r : RelE K G H E σ) : ∀ {as : List Arg} {ss : List S} {vs : List V}, RelA K H σ as vs → argS E as = some ss → ∃ addrs, AR K H ss vs addrs ∧ Paired (MutAt σ E) (oixs as) addrs
  | _, _, _, .nil, e => by cases e; exact ⟨[], .nil, .nil⟩
  | _, _, _, .v (as := as) p t, e => by
    unfold argS at e
    cases q : argS E as with
    | none => rw [q] at e; cases e
    | some ss' =>
      rw [q] at e; cases e
      obtain ⟨ad, a1, a2⟩ := RelA.args r t q
      exact ⟨ad, .d p a1, a2⟩
  | _, ss, _, .o (i := i) (v := v0) (as := as) (vs := vs0) hs t, e => by
    have key : ∀ s : S, E[i]? = some s → s.isMut = true → (argS E as).map (s :: ·) = some ss → ∃ addrs, AR K H ss (v0 :: vs0) addrs ∧ Paired (MutAt σ E) (oixs (.o i :: as)) addrs := fun s he hm e => by
      cases q : argS E as with
      | none => rw [q] at e; cases e
      | some ss' =>
        rw [q] at e; cases e
        obtain ⟨ad, a1, a2⟩ := RelA.args r t q
        obtain ⟨a, e1, e2⟩ := r.mutAt he hm
        rw [hs] at e1; cases e1
        exact ⟨a :: ad, .o hm e2 a1, .cons ⟨hs, s, he, hm⟩ a2⟩
    unfold argS at e
    split at e
    · rename_i xs he; exact key _ he rfl e
    · rename_i xs he; exact key _ he rfl e
    · rename_i xs he; exact key _ he rfl e
    · cases e
theorem Paired.mem2 {α β : Type} {F : α → β → Prop} : ∀ {xs : List α} {ys : List β} {y : β}, Paired F xs ys → y ∈ ys → ∃ x ∈ xs, F x y
  | _, _, _, .cons r t, h => by
    rcases List.mem_cons.mp h with rfl | z
    · exact ⟨_, List.mem_cons_self .., r⟩
    · obtain ⟨x, hx, f⟩ := Paired.mem2 t z; exact ⟨x, List.mem_cons_of_mem _ hx, f⟩
  | _, _, _, .nil, h => by cases h
theorem addrs_nodup (r : RelE K G H E σ) : ∀ {is : List Nat} {ad : List Addr}, ndp is = true → Paired (MutAt σ E) is ad → ad.Nodup
  | [], [], _, _ => List.nodup_nil
  | i :: is, a :: ad, h, .cons p t => by
    unfold ndp at h
    simp only [Bool.and_eq_true, Bool.not_eq_true'] at h
    refine List.nodup_cons.mpr ⟨fun z => ?_, addrs_nodup r h.2 t⟩
    obtain ⟨j, hj, e1, s2, e2, m2⟩ := Paired.mem2 t z
    obtain ⟨l, k, pn, dm, x0, A, h1, h2, h3⟩ := r
    obtain ⟨p1, s1, p2, m1⟩ := p
    obtain ⟨b, f1, f2, _⟩ := (h3 i _ p2).mut m1
    obtain ⟨c, g1, g2, _⟩ := (h3 j _ e2).mut m2
    rw [p1] at f2; cases f2
    rw [e1] at g2; cases g2
    have : i = j := h1 i j a (by rw [f1]; simp) (by rw [g1]; simp)
    subst this
    have := h.1
    simp at this
    exact this hj
/-- what is soft is no tuple, nothing frozen -/
theorem Ext.ofSoft {ad : List Addr} (keep : ∀ p o, H p = some o → p ∉ ad → H' p = some o) (soft : ∀ a ∈ ad, Soft H a) : Ext H H' :=
  ⟨fun a xs e => keep a _ e fun z => (by
      obtain ⟨u, f, g1, g2⟩ := soft a z
      rw [e] at f
      injection f with f
      exact g1 xs f.symm), fun a o v e => keep a _ e fun z => (by
      obtain ⟨u, f, g1, g2⟩ := soft a z
      rw [e] at f
      injection f with f
      exact g2 o v f.symm)⟩
/-- behind a call: the mutable arguments have changed -/
theorem RelX.puts : ∀ {as : List Arg} {outs : List S} {ad : List Addr} {E : Env}, ndp (oixs as) = true → RelE K G H E σ → (∀ p o, H p = some o → p ∉ ad → H' p = some o) → (∀ a ∈ ad, Soft H a) → Paired (RelM K H') outs ad →
    Paired (MutAt σ E) (oixs as) ad → RelE K G H' (putO as outs E) σ := by
  -- all at once: the environment with new contents
  intro as outs ad E nd r keep islst pr po
  have adn := addrs_nodup r nd po
  have ext : Ext H H' := Ext.ofSoft keep islst
  obtain ⟨l, k, pn, dm, x0, A, h1, h2, h3⟩ := r
  have own : ∀ a ∈ ad, a ∈ G.addrs ∨ G.H0 a = none := fun a ha => by
    obtain ⟨i, hi, e1, s, e2, m⟩ := Paired.mem2 po ha
    obtain ⟨b, f1, f2, _⟩ := (h3 i _ e2).mut m
    rw [e1] at f2; cases f2
    exact (h2 i a (by rw [f1]; simp)).1
  have there : ∀ (ad : List Addr) (outs : List S), Paired (RelM K H') outs ad → ∀ a ∈ ad, Soft H' a := by
    intro ad outs p
    induction p with
    | nil => intro a h; cases h
    | cons q t ih =>
      intro a h
      rcases List.mem_cons.mp h with rfl | z
      · exact q.soft
      · exact ih a z
  -- the slots that are not put keep their relation, those that are put have the new one
  have step : ∀ (as : List Arg) (outs : List S) (ad : List Addr) (E1 : Env), ndp (oixs as) = true → Paired (RelM K H') outs ad → Paired (MutAt σ E) (oixs as) ad →
      (∀ i, i ∉ oixs as → ∀ s, E1[i]? = some s → RelS K H' s σ[i]? (A i)) → E1.length = E.length →
      (∀ i s, (putO as outs E1)[i]? = some s → RelS K H' s σ[i]? (A i)) ∧ (putO as outs E1).length = E.length := by
    intro as
    induction as with
    | nil =>
      intro outs ad E1 _ _ _ h hl
      have e : DL.putO [] outs E1 = E1 := by cases outs <;> rfl
      rw [e]; exact ⟨fun i s q => h i (by simp [oixs]) s q, hl⟩
    | cons x as ih =>
      intro outs ad E1 nd p q h hl
      cases x with
      | v x =>
        have e : DL.putO (.v x :: as) outs E1 = DL.putO as outs E1 := by cases outs <;> rfl
        rw [e]
        exact ih outs ad E1 nd p q h hl
      | o i =>
        cases q with
        | cons q1 q2 =>
          rename_i a0 ad0
          cases p with
          | cons p1 p2 =>
            rename_i s0 outs0
            have nd' : ndp (i :: oixs as) = true := nd
            unfold ndp at nd'
            simp only [Bool.and_eq_true, Bool.not_eq_true'] at nd'
            have e : DL.putO (.o i :: as) (s0 :: outs0) E1 = DL.putO as outs0 (E1.set i s0) := rfl
            rw [e]
            refine ih outs0 ad0 (E1.set i s0) nd'.2 p2 q2 (fun j hj s e => ?_) (by rw [List.length_set]; exact hl)
            by_cases z : j = i
            · subst z
              by_cases hlj : j < E1.length
              · rw [List.getElem?_set_self hlj] at e
                cases e
                obtain ⟨q3, ys, q4, q5⟩ := q1
                obtain ⟨b, f1, f2, _⟩ := (h3 j _ q4).mut q5
                rw [q3] at f2; cases f2
                rw [f1]
                exact RelS.ofMut p1.isMut q3 p1
              · rw [List.getElem?_eq_none (by simpa using hlj)] at e; cases e
            · rw [List.getElem?_set_ne (Ne.symm z)] at e
              exact h j (by simp [oixs, z, hj]) s e
  have base : ∀ i, i ∉ oixs as → ∀ s, E[i]? = some s → RelS K H' s σ[i]? (A i) := fun i hi s e => by
    have hs := h3 i s e
    refine hs.move ext fun a ha => ?_
    have : a ∉ ad := fun z => by
      obtain ⟨j, hj, e1, s2, e2, m2⟩ := Paired.mem2 po z
      obtain ⟨b, f1, f2, _⟩ := (h3 j _ e2).mut m2
      rw [e1] at f2; cases f2
      have : i = j := h1 i j a ha (by rw [f1]; simp)
      subst this; exact hi hj
    obtain ⟨u, hu, _⟩ := hs.indom a ha
    rw [hu]; exact keep a u hu this
  obtain ⟨s1, s2⟩ := step as outs ad E nd pr po base rfl
  refine ⟨by rw [s2]; exact l, fun p o e ne => ?_, pn, fun a ha => ?_, x0.trans ext, A, h1, h2, s1⟩
  · refine keep p o (k p o e ne) fun z => ?_
    rcases own p z with q | q
    · exact ne q
    · rw [q] at e; cases e
  · by_cases z : a ∈ ad
    · obtain ⟨u, e, _⟩ := there ad outs pr a z; rw [e]; simp
    · cases q : H a with
      | none => exact absurd q (dm a ha)
      | some o => rw [keep a o q z]; simp
theorem Paired.keys {α β : Type} {F : α → β → Prop} : ∀ {xs : List α} {ys : List β}, Paired F xs ys → ∀ y ∈ ys, ∃ x, F x y
  | _, _, .cons r t, y, h => by
    rcases List.mem_cons.mp h with rfl | z
    · exact ⟨_, r⟩
    · exact Paired.keys t y z
  | _, _, .nil, _, h => by cases h
end
section
variable {X : Cx} {G : Gh} {e : Expr} {es : List Expr} {pos p : Pos} {x : Str} {f : Addr} {fd : FuncData} {ps : List Str} {k : Nat} {sp : SpD} {ta : TAd} {CX : CXT}
theorem lift_call (σ : St) (H : Hp) (Q : VK) (E : XK) (h : liftE X.K G (tCallD sp ta) σ H Q) : tCall (spL X.K sp) [] E (liftA X.K G ta) σ H Q := by
  obtain ⟨E0, QE, r, q, kk⟩ := h
  refine ⟨E0, _, r, q, fun as E1 vs H1 q1 x1 r1 p1 => ?_⟩
  show spL X.K sp (vs ++ []) H1 Q E
  rw [List.append_nil]
  split at q1
  · rename_i ss hs
    obtain ⟨nd, q1⟩ := q1
    obtain ⟨ad, ar, po⟩ := RelA.args r1 p1 hs
    have adn := addrs_nodup r1 nd po
    refine ⟨ss, ad, _, q1, ar, adn, fun d outs v H' q2 keep pr pd => ?_⟩
    have islst : ∀ a ∈ ad, Soft H1 a := fun a ha => by
      obtain ⟨i, hi, e1, s, e2, m⟩ := Paired.mem2 po ha
      obtain ⟨b, f1, f2⟩ := r1.mutAt e2 m
      rw [e1] at f1; cases f1; exact f2.soft
    have ext : Ext H1 H' := Ext.ofSoft keep islst
    exact kk d _ v H' q2 (x1.trans ext) (RelX.puts nd r1 keep islst pr po) pd
  · exact q1.elim
theorem ed_call (F : FnOk X.prog X.w X.K X.mg X.base CX0 k f fd ps (spL X.K sp)) (hr : Room k X.A) (hg : Gl X x) (hm : X.mg x = some (.ref f)) (hk : PySem.W.keepIn X.K (.ref f) = true) (hb : Binds X.K fd ps []) (ha : EA X G (e :: es) ta) (hdb : (x == ("__debug__" : Str)) = false := by decide)
    (hs : starEach (e :: es) X.env = (false, eval e X.env) :: starEach es X.env := by rfl) (hplain : (backTo pos (starEach es X.env)).any (·.1) = false := by rfl) : ED X G (.Call (.Name x p) (e :: es) [] pos) (tCallD sp ta) :=
  ⟨PE.weak (pe_call (dvs := []) (E := fun _ _ _ => False) F hr hg hm hk hb .nil pass0 ha.pa (hdb := hdb) (he := hs) (hpl := hplain)) fun σ H Q h => lift_call σ H Q _ h⟩
end
end DL
set_option Elab.async false
set_option linter.all false
set_option maxRecDepth 100000
namespace DL
open PySem PySem.Spec PyProof.Rows L2
/-! ### lists of one's own change -/
section
variable {X : Cx} {G : Gh} {a b c e : Expr} {es : List Expr} {pos apos cpos p0 : Pos} {x : Str}
def tApp (i : Nat) (t : TD) : TD := fun E Q => match E[i]? with
  | some (.ol _) => t E fun d E1 => match E1[i]? with
    | some (.ol xs) => xs.length < sizeLine ∧ Q .none (E1.set i (.ol (xs ++ [d])))
    | _ => False
  | _ => False
theorem ed_app (i : Nat) {t : TD} (h : ED X G e t) (hN : X.N[i]? = some x := by rfl) (hv : Vis X.env.scope x := by first | exact Or.inl rfl | exact Or.inr (Or.inl rfl) | exact Or.inr (Or.inr rfl)) (hd : (x == ("__debug__" : Str)) = false := by decide)
    (hcd : (x == ("__classdict__" : Str)) = false := by decide)
    (hbase : attributeBase (.Name x p0) "append" X.env (eval (.Name x p0) X.env) = eval (.Name x p0) X.env := by rfl)
    (hfew : ((backTo cpos (starEach [e] X.env)).all (fun x => !x.1) && (backToKw cpos (keywordEach [] X.env)).all (fun x => x.1.isSome)
      && decide (([e] : List Expr).length + ([] : List Keyword).length + (if ([] : List Keyword).isEmpty then 0 else 1) < 30)) = true := by rfl)
    (hline : (apos.endLine == cpos.line) = true := by rfl) (hs : starEach [e] X.env = (false, eval e X.env) :: starEach [] X.env := by rfl) (hplain : (backTo cpos (starEach [] X.env)).any (·.1) = false := by rfl) :
    ED X G (.Call (.Attribute (.Name x p0) "append" apos) [e] [] cpos) (tApp i t) :=
  ⟨PE.weak (pe_bm PySem.F.plainAttrs_list PySem.F.slot_list_append PySem.F.type_list_append mt_append (pe_var hN hv hd hcd) (pa_cons h.pe pa_nil hs) hbase hfew hline hs hplain) fun σ H Q ⟨E, QE, r, q, k⟩ => by
    unfold tApp at q
    split at q
    · rename_i xs0 he0
      obtain ⟨l, vs0, e1, e2, e3⟩ := r.ol he0
      refine ⟨_, e1, .inl ⟨rfl, _, SqL.of e2⟩, E, _, r, q, fun d E1 v H1 q1 x1 r1 p1 => ?_⟩
      split at q1
      · rename_i xs he
        obtain ⟨l', vs, f1, f2, f3⟩ := r1.ol he
        rw [e1] at f1; cases f1
        refine ⟨l, vs, v, rfl, rfl, f2, by rw [← f3.length]; exact q1.1, ?_⟩
        exact k _ _ _ _ q1.2 (x1.trans (Ext.put f2)) (r1.putL he e1 (RpL.append f3 (.cons p1 .nil))) .non
      · exact q1.elim
    · exact q.elim⟩
def tExtd (i : Nat) (t : TLd) : TD := fun E Q => match E[i]? with
  | some (.ol _) => t E fun ys E1 => match E1[i]? with
    | some (.ol xs) => xs.length + ys.length ≤ sizeLine ∧ Q .none (E1.set i (.ol (xs ++ ys)))
    | _ => False
  | _ => False
theorem ed_extd (i : Nat) {t : TLd} (h : EL X G e t) (hN : X.N[i]? = some x := by rfl) (hv : Vis X.env.scope x := by first | exact Or.inl rfl | exact Or.inr (Or.inl rfl) | exact Or.inr (Or.inr rfl)) (hd : (x == ("__debug__" : Str)) = false := by decide)
    (hcd : (x == ("__classdict__" : Str)) = false := by decide)
    (hbase : attributeBase (.Name x p0) "extend" X.env (eval (.Name x p0) X.env) = eval (.Name x p0) X.env := by rfl)
    (hfew : ((backTo cpos (starEach [e] X.env)).all (fun x => !x.1) && (backToKw cpos (keywordEach [] X.env)).all (fun x => x.1.isSome)
      && decide (([e] : List Expr).length + ([] : List Keyword).length + (if ([] : List Keyword).isEmpty then 0 else 1) < 30)) = true := by rfl)
    (hline : (apos.endLine == cpos.line) = true := by rfl) (hs : starEach [e] X.env = (false, eval e X.env) :: starEach [] X.env := by rfl) (hplain : (backTo cpos (starEach [] X.env)).any (·.1) = false := by rfl) :
    ED X G (.Call (.Attribute (.Name x p0) "extend" apos) [e] [] cpos) (tExtd i t) :=
  ⟨PE.weak (pe_bm PySem.F.plainAttrs_list PySem.F.slot_list_extend PySem.F.type_list_extend mt_extend (pe_var hN hv hd hcd) (pa_cons h.pe pa_nil hs) hbase hfew hline hs hplain) fun σ H Q ⟨E, QE, r, q, k⟩ => by
    unfold tExtd at q
    split at q
    · rename_i xs0 he0
      obtain ⟨l, vs0, e1, e2, e3⟩ := r.ol he0
      refine ⟨_, e1, .inl ⟨rfl, _, SqL.of e2⟩, E, _, r, q, fun ys E1 b us H1 q1 x1 r1 h0 na hb p1 => ?_⟩
      split at q1
      · rename_i xs he
        obtain ⟨l', vs, f1, f2, f3⟩ := r1.ol he
        rw [e1] at f1; cases f1
        refine ⟨l, b, vs, us, rfl, rfl, f2, hb, by rw [← f3.length, ← p1.length]; exact q1.1, ?_⟩
        exact k _ _ _ _ q1.2 (x1.trans (Ext.put f2)) (r1.weak.putL he e1 (RpL.append f3 p1)) .non
      · exact q1.elim
    · exact q.elim⟩
def tPopAt (i : Nat) (t : TD) : TD := fun E Q => match E[i]? with
  | some (.ol _) => t E fun d E1 => match d, E1[i]? with
    | .int k, some (.ol xs) => (0 ≤ k ∧ k < xs.length ∧ k < 2 ^ 63) ∧ ∀ y, xs[k.toNat]? = some y → Q y (E1.set i (.ol (xs.eraseIdx k.toNat)))
    | _, _ => False
  | _ => False
theorem seqIndex_nat {k : Int} {n : Nat} (h0 : 0 ≤ k) (h1 : k < n) : seqIndex? k n = some k.toNat := by
  have := (ixN_seq (n := n) (i := k) (j := k.toNat) (by unfold ixN; rw [if_pos h0, if_pos h1])).1
  exact this
theorem ed_popAt (i : Nat) {t : TD} (h : ED X G e t) (hN : X.N[i]? = some x := by rfl) (hv : Vis X.env.scope x := by first | exact Or.inl rfl | exact Or.inr (Or.inl rfl) | exact Or.inr (Or.inr rfl)) (hd : (x == ("__debug__" : Str)) = false := by decide)
    (hcd : (x == ("__classdict__" : Str)) = false := by decide)
    (hbase : attributeBase (.Name x p0) "pop" X.env (eval (.Name x p0) X.env) = eval (.Name x p0) X.env := by rfl)
    (hfew : ((backTo cpos (starEach [e] X.env)).all (fun x => !x.1) && (backToKw cpos (keywordEach [] X.env)).all (fun x => x.1.isSome)
      && decide (([e] : List Expr).length + ([] : List Keyword).length + (if ([] : List Keyword).isEmpty then 0 else 1) < 30)) = true := by rfl)
    (hline : (apos.endLine == cpos.line) = true := by rfl) (hs : starEach [e] X.env = (false, eval e X.env) :: starEach [] X.env := by rfl) (hplain : (backTo cpos (starEach [] X.env)).any (·.1) = false := by rfl) :
    ED X G (.Call (.Attribute (.Name x p0) "pop" apos) [e] [] cpos) (tPopAt i t) :=
  ⟨PE.weak (pe_bm PySem.F.plainAttrs_list PySem.F.slot_list_pop PySem.F.type_list_pop mt_popAt (pe_var hN hv hd hcd) (pa_cons h.pe pa_nil hs) hbase hfew hline hs hplain) fun σ H Q ⟨E, QE, r, q, k⟩ => by
    unfold tPopAt at q
    split at q
    · rename_i xs0 he0
      obtain ⟨l, vs0, e1, e2, e3⟩ := r.ol he0
      refine ⟨_, e1, .inl ⟨rfl, _, SqL.of e2⟩, E, _, r, q, fun d E1 v H1 q1 x1 r1 p1 => ?_⟩
      split at q1
      · rename_i d0 o0 j xs he
        cases p1
        obtain ⟨l', vs, f1, f2, f3⟩ := r1.ol he
        rw [e1] at f1; cases f1
        obtain ⟨⟨z0, z1, z2⟩, q1⟩ := q1
        have zl : j.toNat < xs.length := by omega
        have ey : xs[j.toNat]? = some xs[j.toNat] := List.getElem?_eq_getElem zl
        obtain ⟨y, hy, py⟩ := f3.get ey
        refine ⟨l, vs, j, j.toNat, y, rfl, rfl, f2, by omega, z2, seqIndex_nat z0 (by rw [← f3.length]; exact z1), hy, ?_⟩
        exact k _ _ _ _ (q1 _ ey) (x1.trans (Ext.put f2)) (r1.putL he e1 (RpL.eraseIdx _ f3)) (py.ext (Ext.put f2))
      · exact q1.elim
    · exact q.elim⟩
/-- an item is put -/
def putD (xs : List D) (k : Int) (d : D) (Q : List D → Prop) : Prop := match ixN xs.length k with
  | some n => Q (xs.set n d)
  | none => False
/-- xs[k] = e -/
def sSetIx (i : Nat) (tk te : TD) : TSd := fun DE E => te E fun d E1 => match E1[i]? with
  | some (.ol _) => tk E1 fun j E2 => match j, E2[i]? with
    | .int k, some (.ol xs) => putD xs k d fun ys => DE.nx (E2.set i (.ol ys))
    | _, _ => False
  | _ => False
theorem sd_setIx (i : Nat) {ix : Expr} {tk te : TD} (hk : ED X G ix tk) (he : ED X G e te) (hN : X.N[i]? = some x := by rfl) (hv : Vis X.env.scope x := by first | exact Or.inl rfl | exact Or.inr (Or.inl rfl) | exact Or.inr (Or.inr rfl)) (hd : (x == ("__debug__" : Str)) = false := by decide)
    (hcd : (x == ("__classdict__" : Str)) = false := by decide)
    (ha : ∀ v, assign (.Subscript (.Name x p0) ix apos) X.env v = (do
      let ov ← holding [v] (eval (.Name x p0) X.env)
      let iv ← holding [v, ov] (eval ix X.env)
      standAt apos
      holding [v, ov, iv] (setItem ov iv v)
      release [v, ov, iv] []) := by intro _; rfl)
    (hs : swapsWithSole [.Subscript (.Name x p0) ix apos] e pos.line X.env = pure false := by rfl) (hw : swappedStores [.Subscript (.Name x p0) ix apos] e X.env = pure none := by rfl)
    (hb : (assignEach [.Subscript (.Name x p0) ix apos] X.env).map (·.2) = [assign (.Subscript (.Name x p0) ix apos) X.env] := by rfl) :
    SD X G (.Assign [.Subscript (.Name x p0) ix apos] e pos) (sSetIx i tk te) :=
  ⟨PS.weak (ps_asg he.pe (pg_sub (pe_var hN hv hd hcd) hk.pe set_list ha) hs hw hb) fun F σ H ⟨E, DE, r, q, k1, k2, k3, k4⟩ => ⟨E, _, r, q, fun d E1 v H1 q1 x1 r1 p1 => by
    split at q1
    · rename_i xs0 he0
      obtain ⟨l, vs0, e1, e2, e3⟩ := r1.ol he0
      refine ⟨_, e1, E1, _, r1, q1, fun j E2 u H2 q2 x2 r2 p2 => ?_⟩
      split at q2
      · rename_i d0 o0 k xs he
        cases p2
        unfold putD at q2
        split at q2
        · rename_i n hn
          obtain ⟨l', vs, f1, f2, f3⟩ := r2.ol he
          rw [e1] at f1; cases f1
          refine ⟨l, vs, k, n, rfl, rfl, f2, by rw [← f3.length]; exact hn, ?_⟩
          exact k1 _ _ _ q2 ((x1.trans x2).trans (Ext.put f2)) (r2.putL he e1 (RpL.set (p1.ext x2) n f3))
        · exact q2.elim
      · exact q2.elim
    · exact q1.elim⟩⟩
/-! ### several at once -/
abbrev TPs := Env → (List S → Env → Prop) → Prop
/-- new lists at ex, data -/
inductive PVs (K : PySem.W.Frag) (G : Gh) (H : Hp) : List S → List V → List Addr → Prop
  | nil : PVs K G H [] [] []
  | d {x : D} {v : V} {ss : List S} {vs : List V} {ex : List Addr} : Rp K H x v → PVs K G H ss vs ex → PVs K G H (.d x :: ss) (v :: vs) ex
  | m {s : S} {a : Addr} {ss : List S} {vs : List V} {ex : List Addr} : RelM K H s a → G.H0 a = none → a ∉ G.addrs → a ∉ ex → PVs K G H ss vs ex → PVs K G H (s :: ss) (.ref a :: vs) (a :: ex)
theorem PVs.length {K : PySem.W.Frag} {G : Gh} {H : Hp} : ∀ {ss : List S} {vs : List V} {ex : List Addr}, PVs K G H ss vs ex → ss.length = vs.length
  | _, _, _, .nil => rfl
  | _, _, _, .d _ r => by rw [List.length_cons, List.length_cons, PVs.length r]
  | _, _, _, .m _ _ _ _ r => by rw [List.length_cons, List.length_cons, PVs.length r]
theorem PVs.pext {K : PySem.W.Frag} {G : Gh} {H H' : Hp} (p : PExt H H') : ∀ {ss : List S} {vs : List V} {ex : List Addr}, PVs K G H ss vs ex → PVs K G H' ss vs ex
  | _, _, _, .nil => .nil
  | _, _, _, .d h r => .d (h.ext p.ext) (PVs.pext p r)
  | _, _, _, .m h1 h3 h4 h5 r => .m (h1.move p.ext (by obtain ⟨u, e, _⟩ := h1.soft; rw [e, p _ _ e])) h3 h4 h5 (PVs.pext p r)
theorem PVs.ofPend {K : PySem.W.Frag} {G : Gh} {H : Hp} {a : Addr} {o : HO} : ∀ {ss : List S} {vs : List V} {ex : List Addr}, PVs K (pend G a o) H ss vs ex → PVs K G H ss vs ex ∧ a ∉ ex
  | _, _, _, .nil => ⟨.nil, by simp⟩
  | _, _, _, .d h r => ⟨.d h (PVs.ofPend r).1, (PVs.ofPend r).2⟩
  | _, _, _, .m (a := b) h1 h3 h4 h5 r => by
    have z : b ≠ a := by
      rintro rfl
      have : upd G.H0 b o b = none := h3
      rw [upd_same] at this; cases this
    have h3' : G.H0 b = none := by
      have : upd G.H0 a o b = none := h3
      rw [upd_ne z] at this; exact this
    refine ⟨.m h1 h3' h4 h5 (PVs.ofPend r).1, fun q => ?_⟩
    rcases List.mem_cons.mp q with q | q
    · exact z q.symm
    · exact (PVs.ofPend r).2 q
def liftPs (K : PySem.W.Frag) (G : Gh) (t : TPs) : TA := fun σ H Q => ∃ (E : Env) (QE : List S → Env → Prop), RelE K G H E σ ∧ t E QE ∧ ∀ ss E' vs H' ex, QE ss E' → Ext H H' → RelX K G ex H' E' σ → PVs K G H' ss vs ex → Q vs H'
structure EPs (X : Cx) (G : Gh) (es : List Expr) (t : TPs) : Prop where
  pa : PA X es (liftPs X.K G t)
def pNil : TPs := fun E Q => Q [] E
def pD (t : TD) (u : TPs) : TPs := fun E Q => t E fun x E1 => u E1 fun ss E2 => Q (.d x :: ss) E2
def pL (t : TLd) (u : TPs) : TPs := fun E Q => t E fun xs E1 => u E1 fun ss E2 => Q (.ol xs :: ss) E2
theorem eps_nil : EPs X G [] pNil := ⟨PA.weak pa_nil fun σ H Q ⟨E, QE, r, q, k⟩ => k _ _ _ _ _ q (Ext.refl _) r .nil⟩
theorem eps_d {t : TD} {u : TPs} (h : ED X G e t) (hr : EPs X G es u) (hs : starEach (e :: es) X.env = (false, eval e X.env) :: starEach es X.env := by rfl) : EPs X G (e :: es) (pD t u) :=
  ⟨PA.weak (pa_cons h.pe hr.pa hs) fun σ H Q ⟨E, QE, r, q, k⟩ => ⟨E, _, r, q, fun x E1 v H1 q1 x1 r1 p1 => ⟨E1, _, r1, q1, fun ss E2 vs H2 ex q2 x2 r2 p2 => k _ _ _ _ _ q2 (x1.trans x2) r2 (.d (p1.ext x2) p2)⟩⟩⟩
theorem eps_l {t : TLd} {u : TPs} (h : EL X G e t) (hr : ∀ G' : Gh, G'.slots = G.slots → EPs X G' es u) (hs : starEach (e :: es) X.env = (false, eval e X.env) :: starEach es X.env := by rfl) : EPs X G (e :: es) (pL t u) := by
  have hp : PA X es (fun σ H Q => ∃ G' : Gh, G'.slots = G.slots ∧ liftPs X.K G' u σ H Q) := ⟨fun pos pins s σ H Q I ⟨G', hG', q⟩ => (hr G' hG').pa.run pos pins s σ H Q I q⟩
  refine ⟨PA.weak (pa_cons h.pe hp hs) fun σ H Q ⟨E, QE, r, q, k⟩ => ⟨E, _, r, q, fun xs E1 a us H1 q1 x1 r1 h0 na ha p1 => ?_⟩⟩
  refine ⟨pend G a (.lst us), rfl, E1, _, r1.toPend ha na, q1, fun ss E2 vs H2 ex q2 x2 r2 p2 => ?_⟩
  obtain ⟨r3, ha3⟩ := RelX.ofPend r2 h0 na
  obtain ⟨p3, nx⟩ := PVs.ofPend p2
  exact k _ _ _ _ (a :: ex) q2 (x1.trans x2) r3 (.m (s := .ol xs) ⟨_, ha3, p1.ext x2⟩ h0 na nx p3)
def setAll : Env → List Nat → List S → Env
  | E, i :: is, s :: ss => setAll (E.set i s) is ss
  | E, _, _ => E
def setAllV : St → List Nat → List V → St
  | σ, i :: is, v :: vs => setAllV (σ.set i (some v)) is vs
  | σ, _, _ => σ
theorem RelX.setAll {K : PySem.W.Frag} {G : Gh} {H : Hp} : ∀ {is : List Nat} {ss : List S} {vs : List V} {ex : List Addr} {E : Env} {σ : St}, (∀ i ∈ is, i ∉ G.slots) → is.length = ss.length → RelX K G ex H E σ → PVs K G H ss vs ex → RelE K G H (setAll E is ss) (setAllV σ is vs)
  | [], [], [], _, E, σ, _, _, r, .nil => r
  | i :: is, _, _, _, E, σ, hi, hl, r, .d p t => by
    exact RelX.setAll (is := is) (fun j hj => hi j (List.mem_cons_of_mem _ hj)) (by simpa using hl) (r.setD (hi i (List.mem_cons_self ..)) p) t
  | i :: is, _, _, _, E, σ, hi, hl, r, .m h1 h3 h4 h5 t => by
    exact RelX.setAll (is := is) (fun j hj => hi j (List.mem_cons_of_mem _ hj)) (by simpa using hl) (r.setM h5 (hi i (List.mem_cons_self ..)) h3 h1) t
  | [], _, _, _, _, _, _, hl, _, .d _ _ => by simp at hl
  | [], _, _, _, _, _, _, hl, _, .m _ _ _ _ _ => by simp at hl
  | _ :: _, _, _, _, _, _, _, hl, _, .nil => by simp at hl
def sPar (is : List Nat) (t : TPs) : TSd := fun DE E => t E fun ss E1 => is.length = ss.length ∧ DE.nx (setAll E1 is ss)
/-- x, y = a, b: plain local names -/
theorem sd_par2 {i j : Nat} {x y : Str} {t : TPs} {px py pt : Pos} {kt k2 pt2} (hsl : ∀ n ∈ [i, j], n ∉ G.slots) (hc : X.calm = true) (hN : X.N.Nodup) (hi : X.N[i]? = some x) (hj : X.N[j]? = some y) (hij : i ≠ j)
    (hx : X.env.scope.names.lookup x = some .local) (hy : X.env.scope.names.lookup y = some .local) (ha : EPs X G [a, b] t)
    (hw : swappedStores [.Tuple [.Name x px, .Name y py] kt pt] (.Tuple [a, b] k2 pt2) X.env = pure (some [x, y]) := by rfl)
    (hs : swapsWithSole [.Tuple [.Name x px, .Name y py] kt pt] (.Tuple [a, b] k2 pt2) pos.line X.env = pure false := by rfl) :
    SD X G (.Assign [.Tuple [.Name x px, .Name y py] kt pt] (.Tuple [a, b] k2 pt2) pos) (sPar [i, j] t) :=
  ⟨PS.weak (ps_par hc hN hi hj hij hx hy ha.pa hw hs) fun F σ H ⟨E, DE, r, q, k1, k2, k3, k4⟩ => ⟨E, _, r, q, fun ss E1 vs H1 ex q1 x1 r1 p1 => by
    obtain ⟨hl, q1⟩ := q1
    have hv : vs.length = 2 := by rw [← p1.length, ← hl]; rfl
    match vs, hv, p1 with
    | [v, w], _, p1 => exact ⟨v, w, rfl, k1 _ _ _ q1 x1 (RelX.setAll hsl hl r1 p1)⟩⟩⟩
/-- the targets of names, any; the pair is made -/
theorem sd_parC {tgs : List Expr} {is : List Nat} {t : TPs} {kt k2 : Nat} {pt pt2 : Pos} {n : Nat} (hsl : ∀ i ∈ is, i ∉ G.slots) (hc : X.calm = true) (hz : is.length ≤ sizeLine) (ha : EPs X G es t) (hn : is.length = n)
    (hg : PGs X tgs (fun vs σ H Q => vs.length = n ∧ Q (setAllV σ is vs) H))
    (hn2 : (assignEach tgs X.env).length = n := by rfl) (hst : (assignEach tgs X.env).findIdx? (·.1) = none := by rfl)
    (hs : swapsWithSole [.Tuple tgs kt pt] (.Tuple es k2 pt2) pos.line X.env = pure false := by rfl) (hw : swappedStores [.Tuple tgs kt pt] (.Tuple es k2 pt2) X.env = pure none := by rfl)
    (hb : (assignEach [.Tuple tgs kt pt] X.env).map (·.2) = [assign (.Tuple tgs kt pt) X.env] := by rfl) :
    SD X G (.Assign [.Tuple tgs kt pt] (.Tuple es k2 pt2) pos) (sPar is t) :=
  ⟨PS.weak (ps_asg (pe_tup ha.pa) (pg_tup hc hg hn2 hst) hs hw hb) fun F σ H ⟨E, DE, r, q, k1, k2, k3, k4⟩ => ⟨E, _, r, q, fun ss E1 vs H1 ex q1 x1 r1 p1 => by
    obtain ⟨hl, q1⟩ := q1
    have hv : vs.length = n := by rw [← p1.length, ← hl, hn]
    refine ⟨by rw [hv, ← hn]; exact hz, fun p hp => ⟨p, vs, rfl, SqT.of upd_same, hv, hv, ?_⟩⟩
    have px := PExt.new (o := .tup vs) hp
    exact k1 _ _ _ q1 (x1.trans px.ext) (RelX.setAll hsl hl (r1.pext px) (p1.pext px))⟩⟩
theorem pgs_n0 : PGs X [] (fun vs σ H Q => vs.length = 0 ∧ Q (setAllV σ [] vs) H) := ⟨fun pins s σ H vs us Q I r h => pgs_nil.run pins s σ H vs us Q I r (by
  obtain ⟨h1, h2⟩ := h
  have : vs = [] := List.length_eq_zero_iff.mp h1
  subst this; exact ⟨rfl, h2⟩)⟩
theorem pgs_nS {i n : Nat} {is : List Nat} {tgs : List Expr} {x : Str} {px : Pos} (hN : X.N.Nodup) (hx : X.N[i]? = some x) (hl : Loc X.env.scope x) (h : PGs X tgs (fun vs σ H Q => vs.length = n ∧ Q (setAllV σ is vs) H))
    (hf : X.fn x = true ∨ X.env.scope.names.lookup x = some .local := by first | exact .inl rfl | exact .inr rfl | assumption)
    (hs : (assignEach (.Name x px :: tgs) X.env).map (·.2) = assign (.Name x px) X.env :: (assignEach tgs X.env).map (·.2) := by rfl) :
    PGs X (.Name x px :: tgs) (fun vs σ H Q => vs.length = n + 1 ∧ Q (setAllV σ (i :: is) vs) H) := ⟨fun pins s σ H vs us Q I r h' => (pgs_cons (pg_name hN hx hl hf) h hs).run pins s σ H vs us Q I r (by
  obtain ⟨h1, h2⟩ := h'
  match vs, h1, h2 with
  | v :: vs, h1, h2 => exact ⟨v, vs, rfl, by simpa using h1, h2⟩)⟩
end
end DL
set_option Elab.async false
set_option linter.all false
set_option maxRecDepth 100000
set_option maxHeartbeats 1000000
namespace DL
open PySem PySem.Spec PyProof.Rows L2
section
variable {X : Cx}
/-! ### arithmetic -/
/-- () + t is t -/
theorem op_catT0 : OpR X (binaryOp .Add) (fun x y H Q => ∃ a b ys, x = .ref a ∧ y = .ref b ∧ SqT X.K H a [] ∧ SqT X.K H b ys ∧ Q (.ref b) H) := by
  intro pins s σ H x y v u Q I rx ry h
  obtain ⟨a, b, ys, rfl, rfl, ha, hb, q⟩ := h
  cases rx
  cases ry
  obtain ⟨its, r1, p1, _⟩ := I.tuple ha
  obtain ⟨its2, r2, p2, _⟩ := I.tuple hb
  have e0 : its = [] := r1.nil_iff.mpr rfl
  subst e0
  obtain ⟨⟨cls, dd, data, sl⟩, ho, hc, n, hd⟩ := id p1
  obtain ⟨⟨cls2, dd2, data2, sl2⟩, ho2, hc2, n2, hd2⟩ := id p2
  simp only at hc hd hc2 hd2
  subst hc hd hc2 hd2
  exact concat_meets ⟨_, ho, rfl⟩ ⟨_, ho2, rfl⟩ noFill_tuple_add seq_tuple_add PySem.F.slot_tuple_add PySem.F.entry_tuple_add (PySem.F.args_tuple_add_2 _ _)
      (tuple_addW0 a b [].toArray its2.toArray n n2 dd dd2 sl sl2 rfl) ⟨ho, ho2, ⟨.ref b, H, I, rfl, q⟩⟩
/-- t + u, both with items: a new, plain tuple -/
theorem op_catF : OpR X (binaryOp .Add) (fun x y H Q => ∃ a b xs ys, x = .ref a ∧ y = .ref b ∧ SqT X.K H a xs ∧ SqT X.K H b ys ∧ xs ≠ [] ∧ xs.length + ys.length ≤ sizeLine ∧ (ys = [] → Q (.ref a) H) ∧ (ys ≠ [] → ∀ p o, H p = none → o.dict = none → Q (.ref p) (upd H p (.frz o (.tup (xs ++ ys)))))) := by
  intro pins s σ H x y v u Q I rx ry h
  obtain ⟨a, b, xs, ys, rfl, rfl, ha, hb, hx, hz, q1, q2⟩ := h
  cases rx; cases ry
  obtain ⟨its, r1, p1, _⟩ := I.tuple ha
  obtain ⟨its2, r2, p2, _⟩ := I.tuple hb
  refine HT.cat_tup p1 p2 (fun z => hx (r1.nil_iff.mp z)) (fun z => ⟨.ref a, H, I, rfl, q1 (r2.nil_iff.mp z)⟩) (fun z => ?_) (by rw [← r1.length, ← r2.length]; exact hz)
  refine ⟨.ref s.heap.objs.size, _, I.laid (t' := s.toks) (o := .frz _ (.tup (xs ++ ys))) (fun b ob q => Heap.get?_push_of_some _ q) (Nat.le_refl _) ⟨Heap.get?_push_size _ rfl, ?_⟩, rfl, q2 (fun w => z (r2.nil_iff.mpr w)) _ _ (I.hok.fresh (Nat.le_refl _)) rfl⟩
  exact ⟨by rw [List.length_append]; exact hz, _, r1.append r2, IsTup.new _ _⟩
/-- tuple(xs) of a list: a new, plain tuple -/
theorem call_tupF : CallR X (.type "tuple") (fun xs H Q => ∃ p ys, xs = [.ref p] ∧ ((SqL X.K H p ys ∧ ∀ l o, H l = none → o.dict = none → Q (.ref l) (upd H l (.frz o (.tup ys)))) ∨ (SqT X.K H p ys ∧ Q (.ref p) H))) := by
  intro pins s σ H xs us Q I r h
  obtain ⟨p, ys, rfl, h⟩ := h
  obtain rfl := Vals.ref1 r
  rcases h with ⟨hq, q⟩ | ⟨hq, q⟩
  · obtain ⟨its, r', pl, hz⟩ := I.list hq
    have hlen := r'.length
    refine call_tuple_list pl.isList (fun h' kp => ?_) (by simp only [List.size_toArray] <;> omega)
    have I1 : Inv X pins σ H { s with heap := h' } := I.kept (t' := s.toks) kp
    exact ⟨.ref h'.objs.size, upd H h'.objs.size (.frz { cls := .type "tuple", data := .seq its.toArray } (.tup ys)), I1.laid (t' := s.toks) (fun b o e => Heap.get?_push_of_some _ e) (Nat.le_refl _) ⟨Heap.get?_push_size _ rfl, hz, its, r', IsTup.new _ _⟩, rfl, q _ _ (I1.hok.fresh (Nat.le_refl _)) rfl⟩
  · obtain ⟨its, r', pl, hz⟩ := I.tuple hq
    exact call_tuple_same pl ⟨.ref p, H, I, rfl, q⟩
def opAdd : OpT := fun x y Q => match x, y with
  | .int i, .int j => Q (.int (i + j))
  | .str a, .str b => a.length + b.length ≤ sizeLine ∧ Q (.str (a ++ b))
  | .tuple xs, .tuple ys => xs.length + ys.length ≤ sizeLine ∧ Q (.tuple (xs ++ ys))
  | _, _ => False
theorem od_add : OpD X (binaryOp .Add) opAdd := by
  refine ⟨_, op_add.or (op_add_str.or (op_catF.or op_catT0)), fun x y v u H QD Q hx hy q k => ?_⟩
  cases x with
  | int i =>
    cases y with
    | int j => rw [hx.int, hy.int]; exact .inl ⟨i, j, rfl, rfl, k _ _ _ q (PExt.refl _) (.int _)⟩
    | _ => exact q.elim
  | str i =>
    cases y with
    | str j => rw [hx.str, hy.str]; exact .inr (.inl ⟨i, j, rfl, rfl, q.1, k _ _ _ q.2 (PExt.refl _) (.str _)⟩)
    | _ => exact q.elim
  | tuple xs =>
    cases y with
    | tuple ys =>
      obtain ⟨a, vs, rfl, sa, la⟩ := hx.tupD
      obtain ⟨b, us, rfl, sb, lb⟩ := hy.tupD
      cases la with
      | nil => exact .inr (.inr (.inr ⟨a, b, us, rfl, rfl, sa.1, sb.1, k _ _ _ q.2 (PExt.refl _) (.tup sb lb)⟩))
      | cons p la =>
        rename_i x0 v0 xs0 vs0
        refine .inr (.inr (.inl ⟨a, b, _, us, rfl, rfl, sa.1, sb.1, List.cons_ne_nil _ _, ?_, fun e => ?_, fun _ p0 o hp ho => ?_⟩))
        · have := q.1
          rw [List.length_cons] at this ⊢
          rw [← la.length, ← lb.length]; exact this
        · subst e
          cases lb
          have := q.2
          rw [List.append_nil] at this
          exact k _ _ _ this (PExt.refl _) (.tup sa (.cons p la))
        · have px := PExt.new (o := .frz o (.tup (v0 :: vs0 ++ us))) hp
          exact k _ _ _ q.2 px (.tup (.new ho) ((RpL.append (.cons p la) lb).ext px.ext))
    | _ => exact q.elim
  | _ => exact q.elim
def opI (C : Int → Int → Prop) (g : Int → Int → Int) : OpT := fun x y Q => match x, y with
  | .int i, .int j => C i j ∧ Q (.int (g i j))
  | _, _ => False
def opI0 (g : Int → Int → Int) : OpT := fun x y Q => match x, y with
  | .int i, .int j => Q (.int (g i j))
  | _, _ => False
def opB0 (g : Int → Int → Bool) : OpT := fun x y Q => match x, y with
  | .int i, .int j => Q (.bool (g i j))
  | _, _ => False
theorem od_I {f : Value → Value → Sem Value} {C : Int → Int → Prop} {g : Int → Int → Int} (h : OpR X f (rI C fun i j => .int (g i j))) : OpD X f (opI C g) := ⟨_, h, fun x y v u H QD Q hx hy q k => by
  cases x with
  | int i =>
    cases y with
    | int j => rw [hx.int, hy.int]; exact ⟨i, j, rfl, rfl, q.1, k _ _ _ q.2 (PExt.refl _) (.int _)⟩
    | _ => exact q.elim
  | _ => exact q.elim⟩
theorem od_I0 {f : Value → Value → Sem Value} {g : Int → Int → Int} (h : OpR X f (rI0 fun i j => .int (g i j))) : OpD X f (opI0 g) := ⟨_, h, fun x y v u H QD Q hx hy q k => by
  cases x with
  | int i =>
    cases y with
    | int j => rw [hx.int, hy.int]; exact ⟨i, j, rfl, rfl, k _ _ _ q (PExt.refl _) (.int _)⟩
    | _ => exact q.elim
  | _ => exact q.elim⟩
theorem od_B0 {f : Value → Value → Sem Value} {g : Int → Int → Bool} (h : OpR X f (rI0 fun i j => .bl (g i j))) : OpD X f (opB0 g) := ⟨_, h, fun x y v u H QD Q hx hy q k => by
  cases x with
  | int i =>
    cases y with
    | int j => rw [hx.int, hy.int]; exact ⟨i, j, rfl, rfl, k _ _ _ q (PExt.refl _) (.bl _)⟩
    | _ => exact q.elim
  | _ => exact q.elim⟩
def opSub : OpT := opI0 fun i j => i - j
theorem od_sub : OpD X (binaryOp .Sub) opSub := od_I0 op_sub
def opMul : OpT := opI CMulW fun i j => i * j
theorem od_mul : OpD X (binaryOp .Mult) opMul := od_I op_mulW
def opDiv : OpT := opI CDivW fun i j => i / j
theorem od_div : OpD X (binaryOp .FloorDiv) opDiv := od_I op_fdivW
def opMod : OpT := opI (fun _ j => 0 < j) fun i j => i % j
theorem od_mod : OpD X (binaryOp .Mod) opMod := od_I op_mod
def opPow : OpT := opI CPow fun i j => i ^ j.toNat
def unNeg : UnT := fun x Q => match x with
  | .int i => Q (.int (-i))
  | _ => False
theorem ud_neg : UnD X (unaryOp .USub) unNeg := ⟨_, un_neg, fun x v H QD Q hx q k => by
  cases x with
  | int i => rw [hx.int]; exact ⟨i, rfl, k _ _ _ q (PExt.refl _) (.int _)⟩
  | _ => exact q.elim⟩
/-! ### comparisons -/
def opEq : OpT := fun x y Q => (SeqAt.shaped x = true ∧ SeqAt.shaped y = true) ∧ Q (.bool (PyData.eqv x y))
def opNe : OpT := fun x y Q => (SeqAt.shaped x = true ∧ SeqAt.shaped y = true) ∧ Q (.bool (!PyData.eqv x y))
theorem od_eq (hu : X.A.units + 64 < cLine) : OpD X (compareOp .Eq) opEq := ⟨_, op_eqD hu, fun x y v u H QD Q hx hy q k => ⟨x, y, hx.dp (SeqAt.canLay_of_shaped q.1.1), hy.dp (SeqAt.canLay_of_shaped q.1.2), q.1.1, q.1.2, k _ _ _ q.2 (PExt.refl _) (.bl _)⟩⟩
theorem od_ne (hu : X.A.units + 64 < cLine) : OpD X (compareOp .NotEq) opNe := ⟨_, op_neD hu, fun x y v u H QD Q hx hy q k => ⟨x, y, hx.dp (SeqAt.canLay_of_shaped q.1.1), hy.dp (SeqAt.canLay_of_shaped q.1.2), q.1.1, q.1.2, k _ _ _ q.2 (PExt.refl _) (.bl _)⟩⟩
def opLt : OpT := opB0 fun i j => decide (i < j)
theorem od_lt : OpD X (compareOp .Lt) opLt := od_B0 op_lt
def opLe : OpT := opB0 fun i j => decide (i ≤ j)
theorem od_le : OpD X (compareOp .LtE) opLe := od_B0 op_le
def opGt : OpT := opB0 fun i j => decide (j < i)
theorem od_gt : OpD X (compareOp .Gt) opGt := od_B0 op_gt
def opGe : OpT := opB0 fun i j => decide (j ≤ i)
theorem od_ge : OpD X (compareOp .GtE) opGe := od_B0 op_ge
def isNone : D → Bool
  | .none => true
  | _ => false
def opIs : OpT := fun x y Q => match y with
  | .none => Q (.bool (isNone x))
  | .bool b => match x with
    | .bool a => Q (.bool (decide (a = b)))
    | _ => False
  | _ => False
def opIsN : OpT := fun x y Q => match y with
  | .none => Q (.bool (!isNone x))
  | .bool b => match x with
    | .bool a => Q (.bool (!decide (a = b)))
    | _ => False
  | _ => False
theorem isNone_iff {K : PySem.W.Frag} {H : Hp} {x : D} {v : V} (h : RpR K H x v) : isNone x = decide (v = .non) := by
  rcases h with h | ⟨ds, a, vs, rfl, rfl, _⟩
  · cases h <;> rfl
  · rfl
theorem od_is : OpD X (compareOp .Is) opIs := ⟨_, op_isN.or op_isBl, fun x y v u H QD Q hx hy q k => by
  cases y with
  | none => rw [hy.none]; exact .inl ⟨rfl, by rw [← isNone_iff hx]; exact k _ _ _ q (PExt.refl _) (.bl _)⟩
  | bool b =>
    cases x with
    | bool a => rw [hx.bool, hy.bool]; exact .inr ⟨a, b, rfl, rfl, k _ _ _ q (PExt.refl _) (.bl _)⟩
    | _ => exact q.elim
  | _ => exact q.elim⟩
theorem od_isN : OpD X (compareOp .IsNot) opIsN := ⟨_, op_notN.or op_notBl, fun x y v u H QD Q hx hy q k => by
  cases y with
  | none => rw [hy.none]; exact .inl ⟨rfl, by rw [← isNone_iff hx]; exact k _ _ _ q (PExt.refl _) (.bl _)⟩
  | bool b =>
    cases x with
    | bool a => rw [hx.bool, hy.bool]; exact .inr ⟨a, b, rfl, rfl, k _ _ _ q (PExt.refl _) (.bl _)⟩
    | _ => exact q.elim
  | _ => exact q.elim⟩
/-! x in a list, a tuple -/
theorem op_inT (hu : X.A.units + 65 < cLine) : OpR X (compareOp .In) (fun x y H Q => ∃ d ds, Dp X.K H x d ∧ Dp X.K H y (.tuple ds) ∧ SeqAt.shaped d = true ∧ SeqAt.shaped (.tuple ds) = true ∧ Q (.bl (ds.any fun z => PyData.eqv z d)) H) := by
  intro pins s σ H x y v u Q I rx ry h
  obtain ⟨d, ds, hd, he, sd, se, q⟩ := h
  obtain ⟨as, r1⟩ := Dp.reads I d x v hd rx
  obtain ⟨bs, r2⟩ := Dp.reads I (.tuple ds) y u he ry
  exact SeqAt.in_tuple_reads r2 r1 (SeqAt.canLay_of_shaped se) (SeqAt.canLay_of_shaped sd) (room_in_shaped sd hu) ⟨.bl _, H, I, rfl, q⟩
theorem op_notInT (hu : X.A.units + 65 < cLine) : OpR X (compareOp .NotIn) (fun x y H Q => ∃ d ds, Dp X.K H x d ∧ Dp X.K H y (.tuple ds) ∧ SeqAt.shaped d = true ∧ SeqAt.shaped (.tuple ds) = true ∧ Q (.bl (!ds.any fun z => PyData.eqv z d)) H) := by
  intro pins s σ H x y v u Q I rx ry h
  obtain ⟨d, ds, hd, he, sd, se, q⟩ := h
  obtain ⟨as, r1⟩ := Dp.reads I d x v hd rx
  obtain ⟨bs, r2⟩ := Dp.reads I (.tuple ds) y u he ry
  exact SeqAt.notIn_tuple_reads r2 r1 (SeqAt.canLay_of_shaped se) (SeqAt.canLay_of_shaped sd) (room_in_shaped sd hu) ⟨.bl _, H, I, rfl, q⟩
def opIn : OpT := fun x y Q => match y with
  | .list ds => (SeqAt.shaped x = true ∧ SeqAt.shaped (.list ds) = true) ∧ Q (.bool (ds.any fun z => PyData.eqv z x))
  | .tuple ds => (SeqAt.shaped x = true ∧ SeqAt.shaped (.tuple ds) = true) ∧ Q (.bool (ds.any fun z => PyData.eqv z x))
  | _ => False
def opNotIn : OpT := fun x y Q => match y with
  | .list ds => (SeqAt.shaped x = true ∧ SeqAt.shaped (.list ds) = true) ∧ Q (.bool (!ds.any fun z => PyData.eqv z x))
  | .tuple ds => (SeqAt.shaped x = true ∧ SeqAt.shaped (.tuple ds) = true) ∧ Q (.bool (!ds.any fun z => PyData.eqv z x))
  | _ => False
theorem od_in (hu : X.A.units + 65 < cLine) : OpD X (compareOp .In) opIn := ⟨_, (op_inD hu).or (op_inT hu), fun x y v u H QD Q hx hy q k => by
  cases y with
  | list ds => exact .inl ⟨x, ds, hx.dp (SeqAt.canLay_of_shaped q.1.1), hy.dp (SeqAt.canLay_of_shaped q.1.2), q.1.1, q.1.2, k _ _ _ q.2 (PExt.refl _) (.bl _)⟩
  | tuple ds => exact .inr ⟨x, ds, hx.dp (SeqAt.canLay_of_shaped q.1.1), hy.dp (SeqAt.canLay_of_shaped q.1.2), q.1.1, q.1.2, k _ _ _ q.2 (PExt.refl _) (.bl _)⟩
  | _ => exact q.elim⟩
theorem od_notIn (hu : X.A.units + 65 < cLine) : OpD X (compareOp .NotIn) opNotIn := ⟨_, (op_notInD hu).or (op_notInT hu), fun x y v u H QD Q hx hy q k => by
  cases y with
  | list ds => exact .inl ⟨x, ds, hx.dp (SeqAt.canLay_of_shaped q.1.1), hy.dp (SeqAt.canLay_of_shaped q.1.2), q.1.1, q.1.2, k _ _ _ q.2 (PExt.refl _) (.bl _)⟩
  | tuple ds => exact .inr ⟨x, ds, hx.dp (SeqAt.canLay_of_shaped q.1.1), hy.dp (SeqAt.canLay_of_shaped q.1.2), q.1.1, q.1.2, k _ _ _ q.2 (PExt.refl _) (.bl _)⟩
  | _ => exact q.elim⟩
end
section
variable {X : Cx} {G : Gh} {a b c e : Expr} {es : List Expr} {pos p p2 : Pos} {x : Str}
/-! ### chains -/
def tChainD (o o' : OpT) (ta tb tc : TD) : TD := fun E Q => ta E fun x E1 => tb E1 fun y E2 => o x y fun z => match z with
  | .bool true => tc E2 fun w E3 => o' y w fun r => Q r E3
  | .bool false => Q (.bool false) E2
  | _ => False
theorem ed_chain {op op' : CmpOp} {o o' : OpT} {ta tb tc : TD} (ho : OpD X (compareOp op) o) (ho' : OpD X (compareOp op') o') (ha : ED X G a ta) (hb : ED X G b tb) (hc : ED X G c tc)
    (h1 : lastMarks [op, op'] [b, c] = false := by with_unfolding_all rfl) : ED X G (.Compare a [op, op'] [b, c] pos) (tChainD o o' ta tb tc) := by
  obtain ⟨r, hr, hq⟩ := ho
  obtain ⟨r', hr', hq'⟩ := ho'
  refine ⟨PE.weak (pe_chain hr hr' ha.pe hb.pe hc.pe h1) fun σ H Q ⟨E, QE, rel, q, k⟩ => ⟨E, _, rel, q, fun x E1 v H1 q1 x1 r1 p1 => ⟨E1, _, r1, q1, fun y E2 u H2 q2 x2 r2 p2 => ?_⟩⟩⟩
  refine hq x y v u H2 _ _ (.inl (p1.ext x2)) (.inl p2) q2 fun z w H3 q3 px rz => ?_
  cases rz with
  | bl b =>
    refine ⟨b, rfl, ?_⟩
    cases b with
    | true =>
      refine iteT ⟨E2, _, r2.pext px, q3, fun c E3 w H4 q4 x4 r4 p4 => ?_⟩
      exact hq' y c u w H4 _ _ (.inl ((p2.ext px.ext).ext x4)) (.inl p4) q4 fun z w H5 q5 px5 rz5 => k _ _ _ _ q5 ((((x1.trans x2).trans px.ext).trans x4).trans px5.ext) (r4.pext px5) rz5
    | false => exact iteF (k _ _ _ _ q3 ((x1.trans x2).trans px.ext) (r2.pext px) (.bl false))
  | _ => exact q3.elim
/-! ### items -/
def atD (xs : List D) (i : Int) (Q : D → Prop) : Prop := match atI xs i with
  | some d => Q d
  | none => False
def opIx : OpT := fun x y Q => match x, y with
  | .list xs, .int i => atD xs i Q
  | .tuple xs, .int i => atD xs i Q
  | .str z, .int i => match atI z.cps.toList i with
    | some c => z.length ≤ sizeLine ∧ Q (.str ⟨#[c]⟩)
    | none => False
  | _, _ => False
theorem atI_rp {K : PySem.W.Frag} {H : Hp} {ds : List D} {vs : List V} {i : Int} {d : D} (l : RpL K H ds vs) (h : atI ds i = some d) : ∃ v, atI vs i = some v ∧ Rp K H d v := by
  unfold atI at h ⊢
  rw [l.length] at h
  cases q : ixN vs.length i with
  | none => rw [q] at h; cases h
  | some j =>
    rw [q] at h
    exact l.get h
theorem lift_ix {r : R2} {ta tb : TD} (hr : r = rIx X.K) (σ : St) (H : Hp) (Q : VK) (h : liftE X.K G (tOpD opIx ta tb) σ H Q) : tOp r (liftE X.K G ta) (liftR X.K G tb) σ H Q := by
  subst hr
  refine lift_bin (fun x y v u H QD Q hx hy q k => ?_) σ H Q h
  cases y with
  | int i =>
    rw [hy.int]
    cases x with
    | list xs =>
      obtain ⟨a, vs, rfl, hs, l⟩ := hx.list
      have q : atD xs i QD := q
      unfold atD at q
      split at q
      · rename_i d hd
        obtain ⟨v, hv, pv⟩ := atI_rp l hd
        exact .inl ⟨a, vs, i, v, rfl, rfl, hs, hv, k _ _ _ q (PExt.refl _) pv⟩
      · exact q.elim
    | tuple xs =>
      obtain ⟨a, vs, rfl, hs, l⟩ := hx.tuple
      have q : atD xs i QD := q
      unfold atD at q
      split at q
      · rename_i d hd
        obtain ⟨v, hv, pv⟩ := atI_rp l hd
        exact .inr (.inl ⟨a, vs, i, v, rfl, rfl, hs, hv, k _ _ _ q (PExt.refl _) pv⟩)
      · exact q.elim
    | str z =>
      rw [hx.str]
      have q : (match atI z.cps.toList i with
        | some c => z.length ≤ sizeLine ∧ QD (.str ⟨#[c]⟩)
        | none => False) := q
      split at q
      · rename_i c hc
        exact .inr (.inr ⟨z, i, c, rfl, rfl, q.1, hc, k _ _ _ q.2 (PExt.refl _) (.str _)⟩)
      · exact q.elim
    | _ => exact q.elim
  | _ => cases x <;> exact q.elim
theorem ed_ix {ta tb : TD} (ha : ED X G a ta) (hb : ED X G b tb) (hs : PlainIx b := by exact fun _ _ => rfl) : ED X G (.Subscript a b pos) (tOpD opIx ta tb) :=
  ⟨PE.weak (pe_ix ix_seq ha.pe hb.er.pe hs) fun σ H Q h => lift_ix rfl σ H Q h⟩
/-- an item of a list of one's own, at a name -/
def tIxO (i : Nat) (tb : TD) : TD := fun E Q => match E[i]? with
  | some (.ol _) => tb E fun y E1 => match E1[i]?, y with
    | some (.ol xs), .int k => atD xs k fun d => Q d E1
    | _, _ => False
  | _ => False
theorem ed_ixO (i : Nat) {tb : TD} (hb : ED X G b tb) (hN : X.N[i]? = some x := by rfl) (hv : Vis X.env.scope x := by first | exact Or.inl rfl | exact Or.inr (Or.inl rfl) | exact Or.inr (Or.inr rfl)) (hd : (x == ("__debug__" : Str)) = false := by decide)
    (hcd : (x == ("__classdict__" : Str)) = false := by decide) (hs : PlainIx b := by exact fun _ _ => rfl) : ED X G (.Subscript (.Name x p) b pos) (tIxO i tb) :=
  ⟨PE.weak (pe_ix ix_list (pe_var hN hv hd hcd) hb.pe hs) fun σ H Q ⟨E, QE, r, q, k⟩ => by
    unfold tIxO at q
    split at q
    · rename_i xs0 he0
      obtain ⟨l, vs0, e1, e2, e3⟩ := r.ol he0
      refine ⟨_, e1, E, _, r, q, fun d E1 v H1 q1 x1 r1 p1 => ?_⟩
      split at q1
      · rename_i o0 d0 xs j he
        cases p1
        obtain ⟨l', vs, f1, f2, f3⟩ := r1.ol he
        rw [e1] at f1; cases f1
        unfold atD at q1
        split at q1
        · rename_i d hd
          obtain ⟨v, hv, pv⟩ := atI_rp f3 hd
          exact ⟨l, vs, j, v, rfl, rfl, SqL.of f2, hv, k _ _ _ _ q1 x1 r1 pv⟩
        · exact q1.elim
      · exact q1.elim
    · exact q.elim⟩
/-! ### calls of builtins -/
abbrev CaT := List D → (D → Prop) → Prop
abbrev CaL := List D → (List D → Prop) → Prop
inductive RpRs (K : PySem.W.Frag) (H : Hp) : List D → List V → Prop
  | nil : RpRs K H [] []
  | cons {d : D} {v : V} {ds : List D} {vs : List V} : RpR K H d v → RpRs K H ds vs → RpRs K H (d :: ds) (v :: vs)
theorem RpRs.one {K : PySem.W.Frag} {H : Hp} {d : D} {vs : List V} (h : RpRs K H [d] vs) : ∃ v, vs = [v] ∧ RpR K H d v := by
  cases h with
  | cons h t => cases t; exact ⟨_, rfl, h⟩
theorem RpRs.two {K : PySem.W.Frag} {H : Hp} {d e : D} {vs : List V} (h : RpRs K H [d, e] vs) : ∃ v u, vs = [v, u] ∧ RpR K H d v ∧ RpR K H e u := by
  cases h with
  | cons h t => obtain ⟨u, rfl, hu⟩ := t.one; exact ⟨_, u, rfl, h, hu⟩
def CaD (X : Cx) (f : Value) (op : CaT) : Prop := ∃ r, CallR X f r ∧ ∀ ds vs H (QD : D → Prop) (Q : VK), RpRs X.K H ds vs → op ds QD → (∀ z w H', QD z → PExt H H' → Rp X.K H' z w → Q w H') → r vs H Q
/-- a new list is handed back -/
def CaLD (X : Cx) (f : Value) (op : CaL) : Prop := ∃ r, CallR X f r ∧ ∀ ds vs H (QD : List D → Prop) (Q : VK), RpRs X.K H ds vs → op ds QD → (∀ zs us p, QD zs → H p = none → RpL X.K H zs us → Q (.ref p) (upd H p (.lst us))) → r vs H Q
def tCa1 (op : CaT) (ta : TD) : TD := fun E Q => ta E fun x E1 => op [x] fun z => Q z E1
def tCa2 (op : CaT) (ta tb : TD) : TD := fun E Q => ta E fun x E1 => tb E1 fun y E2 => op [x, y] fun z => Q z E2
def tCaL1 (op : CaL) (ta : TD) : TLd := fun E Q => ta E fun x E1 => op [x] fun z => Q z E1
section
variable {id : String} {op : CaT} {opl : CaL} {ta tb : TD}
theorem lift_ca1 {r : List V → Hp → VK → Prop} (hq : ∀ ds vs H (QD : D → Prop) (Q : VK), RpRs X.K H ds vs → op ds QD → (∀ z w H', QD z → PExt H H' → Rp X.K H' z w → Q w H') → r vs H Q)
    (σ : St) (H : Hp) (Q : VK) (h : liftE X.K G (tCa1 op ta) σ H Q) : tCB r (tCons (liftR X.K G ta) tNil) σ H Q := by
  obtain ⟨E, QE, rel, q, k⟩ := h
  refine ⟨E, _, rel, q, fun x E1 v H1 q1 x1 r1 p1 => ?_⟩
  exact hq [x] [v] H1 _ Q (.cons p1 .nil) q1 fun z w H3 q3 p3 rz => k z E1 w H3 q3 (x1.trans p3.ext) (r1.pext p3) rz
theorem ed_ca1 (hc : CaD X (.builtin id) op) (ha : ER X G a ta) (hg : Gl X x) (hm : X.mg x = none) (hv : bootBuiltins x = some (.builtin id)) (hn : x ≠ "__name__" := by decide) (hdb : (x == ("__debug__" : Str)) = false := by decide)
    (hs : starEach [a] X.env = (false, eval a X.env) :: starEach [] X.env := by rfl) (hpl : (backTo pos (starEach [] X.env)).any (·.1) = false := by rfl) : ED X G (.Call (.Name x p) [a] [] pos) (tCa1 op ta) := by
  obtain ⟨r, hr, hq⟩ := hc
  exact ⟨PE.weak (pe_callB hr hg hm hv (pa_cons ha.pe pa_nil hs) hn hdb hs hpl) fun σ H Q h => lift_ca1 hq σ H Q h⟩
theorem ed_caT1 (hc : CaD X (.type id) op) (ha : ER X G a ta) (hg : Gl X x) (hm : X.mg x = none) (hv : bootBuiltins x = some (.type id)) (hn : x ≠ "__name__" := by decide) (hdb : (x == ("__debug__" : Str)) = false := by decide)
    (hs : starEach [a] X.env = (false, eval a X.env) :: starEach [] X.env := by rfl) (hpl : (backTo pos (starEach [] X.env)).any (·.1) = false := by rfl) : ED X G (.Call (.Name x p) [a] [] pos) (tCa1 op ta) := by
  obtain ⟨r, hr, hq⟩ := hc
  exact ⟨PE.weak (pe_callTy hr hg hm hv (pa_cons ha.pe pa_nil hs) hn hdb hs hpl) fun σ H Q h => lift_ca1 hq σ H Q h⟩
theorem ed_ca2 (hc : CaD X (.builtin id) op) (ha : ED X G a ta) (hb : ER X G b tb) (hg : Gl X x) (hm : X.mg x = none) (hv : bootBuiltins x = some (.builtin id)) (hn : x ≠ "__name__" := by decide) (hdb : (x == ("__debug__" : Str)) = false := by decide)
    (hs : starEach [a, b] X.env = (false, eval a X.env) :: starEach [b] X.env := by rfl) (hs2 : starEach [b] X.env = (false, eval b X.env) :: starEach [] X.env := by rfl) (hpl : (backTo pos (starEach [b] X.env)).any (·.1) = false := by rfl) : ED X G (.Call (.Name x p) [a, b] [] pos) (tCa2 op ta tb) := by
  obtain ⟨r, hr, hq⟩ := hc
  refine ⟨PE.weak (pe_callB hr hg hm hv (pa_cons ha.pe (pa_cons hb.pe pa_nil hs2) hs) hn hdb hs hpl) fun σ H Q ⟨E, QE, rel, q, k⟩ => ⟨E, _, rel, q, fun x E1 v H1 q1 x1 r1 p1 => ⟨E1, _, r1, q1, fun y E2 u H2 q2 x2 r2 p2 => ?_⟩⟩⟩
  exact hq [x, y] [v, u] H2 _ Q (.cons (.inl (p1.ext x2)) (.cons p2 .nil)) q2 fun z w H3 q3 p3 rz => k z E2 w H3 q3 ((x1.trans x2).trans p3.ext) (r2.pext p3) rz
theorem lift_caL1 {r : List V → Hp → VK → Prop} (hq : ∀ ds vs H (QD : List D → Prop) (Q : VK), RpRs X.K H ds vs → opl ds QD → (∀ zs us p, QD zs → H p = none → RpL X.K H zs us → Q (.ref p) (upd H p (.lst us))) → r vs H Q)
    (σ : St) (H : Hp) (Q : VK) (h : liftL X.K G (tCaL1 opl ta) σ H Q) : tCB r (tCons (liftR X.K G ta) tNil) σ H Q := by
  obtain ⟨E, QE, rel, q, k⟩ := h
  refine ⟨E, _, rel, q, fun x E1 v H1 q1 x1 r1 p1 => ?_⟩
  refine hq [x] [v] H1 _ Q (.cons p1 .nil) q1 fun zs us p q3 hp rz => ?_
  obtain ⟨r2, h0, na⟩ := r1.fresh (o := .lst us) hp
  exact k zs E1 p us _ q3 (x1.trans (PExt.new hp).ext) r2 h0 na upd_same (rz.ext (PExt.new hp).ext)
theorem el_ca1 (hc : CaLD X (.builtin id) opl) (ha : ER X G a ta) (hg : Gl X x) (hm : X.mg x = none) (hv : bootBuiltins x = some (.builtin id)) (hn : x ≠ "__name__" := by decide) (hdb : (x == ("__debug__" : Str)) = false := by decide)
    (hs : starEach [a] X.env = (false, eval a X.env) :: starEach [] X.env := by rfl) (hpl : (backTo pos (starEach [] X.env)).any (·.1) = false := by rfl) : EL X G (.Call (.Name x p) [a] [] pos) (tCaL1 opl ta) := by
  obtain ⟨r, hr, hq⟩ := hc
  exact ⟨PE.weak (pe_callB hr hg hm hv (pa_cons ha.pe pa_nil hs) hn hdb hs hpl) fun σ H Q h => lift_caL1 hq σ H Q h⟩
theorem el_caT1 (hc : CaLD X (.type id) opl) (ha : ER X G a ta) (hg : Gl X x) (hm : X.mg x = none) (hv : bootBuiltins x = some (.type id)) (hn : x ≠ "__name__" := by decide) (hdb : (x == ("__debug__" : Str)) = false := by decide)
    (hs : starEach [a] X.env = (false, eval a X.env) :: starEach [] X.env := by rfl) (hpl : (backTo pos (starEach [] X.env)).any (·.1) = false := by rfl) : EL X G (.Call (.Name x p) [a] [] pos) (tCaL1 opl ta) := by
  obtain ⟨r, hr, hq⟩ := hc
  exact ⟨PE.weak (pe_callTy hr hg hm hv (pa_cons ha.pe pa_nil hs) hn hdb hs hpl) fun σ H Q h => lift_caL1 hq σ H Q h⟩
end
/-! len, abs, max, min, sum, all, tuple, list, int -/
def caLen : CaT := fun ds Q => match ds with
  | [.list xs] => Q (.int xs.length)
  | [.tuple xs] => Q (.int xs.length)
  | [.str z] => z.length ≤ sizeLine ∧ Q (.int z.length)
  | _ => False
theorem cd_len : CaD X (.builtin "len") caLen := by
  refine ⟨_, (show CallR X (.builtin "len") (fun xs H Q => (∃ p ys, xs = [.ref p] ∧ (SqL X.K H p ys ∨ SqT X.K H p ys) ∧ Q (.int ys.length) H) ∨ ∃ z, xs = [.str z] ∧ z.length ≤ sizeLine ∧ Q (.int z.length) H) from fun pins s σ H vs us Q I r h => by
    rcases h with h | h
    · exact call_len_seq pins s σ H vs us Q I r h
    · exact call_len_str pins s σ H vs us Q I r h), fun ds vs H QD Q hd q k => ?_⟩
  match ds, q, hd with
  | [.list xs], q, hd =>
    obtain ⟨v, rfl, h⟩ := hd.one
    obtain ⟨a, us, rfl, hs, l⟩ := h.list
    exact .inl ⟨a, us, rfl, .inl hs, by rw [← l.length]; exact k _ _ _ q (PExt.refl _) (.int _)⟩
  | [.tuple xs], q, hd =>
    obtain ⟨v, rfl, h⟩ := hd.one
    obtain ⟨a, us, rfl, hs, l⟩ := h.tuple
    exact .inl ⟨a, us, rfl, .inr hs, by rw [← l.length]; exact k _ _ _ q (PExt.refl _) (.int _)⟩
  | [.str z], q, hd =>
    obtain ⟨v, rfl, h⟩ := hd.one
    rw [h.str]
    exact .inr ⟨z, rfl, q.1, k _ _ _ q.2 (PExt.refl _) (.int _)⟩
def caAbs : CaT := fun ds Q => match ds with
  | [.int i] => Q (.int (if i < 0 then -i else i))
  | _ => False
theorem cd_abs : CaD X (.builtin "abs") caAbs := ⟨_, call_abs, fun ds vs H QD Q hd q k => by
  match ds, q, hd with
  | [.int i], q, hd =>
    obtain ⟨v, rfl, h⟩ := hd.one
    rw [h.int]
    exact ⟨i, rfl, k _ _ _ q (PExt.refl _) (.int _)⟩⟩
def caMax2 : CaT := fun ds Q => match ds with
  | [.int i, .int j] => Q (.int (if j > i then j else i))
  | _ => False
def caMin2 : CaT := fun ds Q => match ds with
  | [.int i, .int j] => Q (.int (if j < i then j else i))
  | _ => False
theorem cd_min2 (hc : X.calm = true) : CaD X (.builtin "min") caMin2 := ⟨_, call_min2 hc, fun ds vs H QD Q hd q k => by
  match ds, q, hd with
  | [.int i, .int j], q, hd =>
    obtain ⟨v, u, rfl, h, h'⟩ := hd.two
    rw [h.int, h'.int]
    exact ⟨i, j, rfl, k _ _ _ q (PExt.refl _) (.int _)⟩⟩
theorem RpL.bools {K : PySem.W.Frag} {H : Hp} : ∀ {ns : List Bool} {vs : List V}, RpL K H (ns.map PyData.bool) vs → vs = ns.map V.bl
  | [], _, .nil => rfl
  | _ :: _, _, .cons (.bl _) t => by rw [RpL.bools t]; rfl
def caSum : CaT := fun ds Q => match ds with
  | [.list xs] => ∃ ns : List Int, xs = ns.map PyData.int ∧ Q (.int ns.sum)
  | _ => False
def caMax : CaT := fun ds Q => match ds with
  | [.list xs] => ∃ ns : List Int, xs = ns.map PyData.int ∧ 0 < ns.length ∧ ∀ m, m ∈ ns → (∀ y, y ∈ ns → y ≤ m) → Q (.int m)
  | _ => False
theorem cd_max (hc : X.calm = true) : CaD X (.builtin "max") caMax := ⟨_, cr_max hc, fun ds vs H QD Q hd q k => by
  match ds, q, hd with
  | [.list xs], q, hd =>
    obtain ⟨ns, rfl, hl, q⟩ := q
    obtain ⟨v, rfl, h⟩ := hd.one
    obtain ⟨a, us, rfl, hs, l⟩ := h.list
    have := l.ints; subst this
    exact ⟨a, ns, rfl, hs, hl, fun m h1 h2 => k _ _ _ (q m h1 h2) (PExt.refl _) (.int _)⟩⟩
def caMin : CaT := fun ds Q => match ds with
  | [.list xs] => ∃ ns : List Int, xs = ns.map PyData.int ∧ 0 < ns.length ∧ ∀ m, m ∈ ns → (∀ y, y ∈ ns → m ≤ y) → Q (.int m)
  | _ => False
def caAll : CaT := fun ds Q => match ds with
  | [.list xs] => ∃ bs : List Bool, xs = bs.map PyData.bool ∧ Q (.bool (bs.all id))
  | _ => False
theorem cd_all (hc : X.calm = true) : CaD X (.builtin "all") caAll := ⟨_, cr_all hc, fun ds vs H QD Q hd q k => by
  match ds, q, hd with
  | [.list xs], q, hd =>
    obtain ⟨bs, rfl, q⟩ := q
    obtain ⟨v, rfl, h⟩ := hd.one
    obtain ⟨a, us, rfl, hs, l⟩ := h.list
    have := l.bools; subst this
    exact ⟨a, bs, rfl, hs, k _ _ _ q (PExt.refl _) (.bl _)⟩⟩
def caTuple : CaT := fun ds Q => match ds with
  | [.list xs] => Q (.tuple xs)
  | [.tuple xs] => Q (.tuple xs)
  | _ => False
theorem cd_tuple : CaD X (.type "tuple") caTuple := ⟨_, call_tupF, fun ds vs H QD Q hd q k => by
  match ds, q, hd with
  | [.list xs], q, hd =>
    obtain ⟨v, rfl, h⟩ := hd.one
    obtain ⟨a, us, rfl, hs, l⟩ := h.list
    exact ⟨a, us, rfl, .inl ⟨hs, fun p o hp ho => k _ _ _ q (PExt.new hp) (.tup (.new ho) (l.ext (PExt.new hp).ext))⟩⟩
  | [.tuple xs], q, hd =>
    obtain ⟨v, rfl, h⟩ := hd.one
    obtain ⟨a, us, rfl, hs, l⟩ := h.tupD
    exact ⟨a, us, rfl, .inr ⟨hs.1, k _ _ _ q (PExt.refl _) (.tup hs l)⟩⟩⟩
def caList : CaL := fun ds Q => match ds with
  | [.list xs] => Q xs
  | [.tuple xs] => Q xs
  | _ => False
theorem cd_list : CaLD X (.type "list") caList := ⟨_, call_list_of, fun ds vs H QD Q hd q k => by
  match ds, q, hd with
  | [.list xs], q, hd =>
    obtain ⟨v, rfl, h⟩ := hd.one
    obtain ⟨a, us, rfl, hs, l⟩ := h.list
    exact ⟨a, us, rfl, .inl hs, fun p hp => k _ _ _ q hp l⟩
  | [.tuple xs], q, hd =>
    obtain ⟨v, rfl, h⟩ := hd.one
    obtain ⟨a, us, rfl, hs, l⟩ := h.tuple
    exact ⟨a, us, rfl, .inr hs, fun p hp => k _ _ _ q hp l⟩⟩
def caInt : CaT := fun ds Q => match ds with
  | [.int i] => Q (.int i)
  | [.bool b] => Q (.int (if b then 1 else 0))
  | _ => False
end
end DL
set_option Elab.async false
set_option linter.all false
set_option maxRecDepth 100000
set_option maxHeartbeats 1000000
namespace DL
open PySem PySem.Spec PyProof.Rows L2
section
variable {X : Cx} {G : Gh} {a b c e : Expr} {es : List Expr} {pos p p1 p2 p3 : Pos} {x : Str}
/-- a list whose object is plain -/
def LsP (K : PySem.W.Frag) (H : Hp) (a : Addr) (vs : List V) : Prop := H a = some (.lst vs) ∨ LsF K H a vs
theorem LsP.at {K : PySem.W.Frag} {H : Hp} {a : Addr} {vs : List V} {P : Program} {w : World} {h : Heap} (l : LsP K H a vs) (hok : HOk P w H h) (KX : K.In h) : vs.length ≤ sizeLine ∧ ∃ (its : List Value) (n : Nat), Vals vs its ∧ h.get? a = some { cls := .type "list", data := .seq its.toArray n } := by
  rcases l with l | ⟨o, l⟩ | ⟨its, n, e, z, r⟩
  · exact Rd.ok (.inl l) hok
  · exact Rd.ok (.inr ⟨o, l⟩) hok
  · refine ⟨?_, its.toList, n, r, by have := KX _ _ e; simpa using this⟩
    have e2 := r.length
    simp only [Array.length_toList] at e2
    omega
theorem RpR.listR {K : PySem.W.Frag} {H : Hp} {ds : List D} {v : V} (h : RpR K H (.list ds) v) : ∃ a vs, v = .ref a ∧ LsP K H a vs ∧ RpL K H ds vs := by
  rcases h with h | ⟨ds, a, vs, e, rfl, h, l⟩
  · cases h with
    | lst h l => exact ⟨_, _, rfl, .inr h, l⟩
  · cases e
    exact ⟨_, _, rfl, .inl h, l⟩
/-! ### list + list, list * int: new lists -/
def OpLD (X : Cx) (f : Value → Value → Sem Value) (op : D → D → (List D → Prop) → Prop) : Prop := ∃ r : R2, OpR X f r ∧
  ∀ x y v u H (QD : List D → Prop) (Q : VK), RpR X.K H x v → RpR X.K H y u → op x y QD → (∀ zs us q, QD zs → H q = none → RpL X.K H zs us → Q (.ref q) (upd H q (.lst us))) → r v u H Q
def tOpL (op : D → D → (List D → Prop) → Prop) (ta tb : TD) : TLd := fun E Q => ta E fun x E1 => tb E1 fun y E2 => op x y fun z => Q z E2
theorem el_op {op : Operator} {o : D → D → (List D → Prop) → Prop} {ta tb : TD} (ho : OpLD X (binaryOp op) o) (ha : ED X G a ta) (hb : ER X G b tb) : EL X G (.BinOp a op b pos) (tOpL o ta tb) := by
  obtain ⟨r, hr, hq⟩ := ho
  refine ⟨PE.weak (pe_op hr ha.pe hb.pe) fun σ H Q ⟨E, QE, rel, q, k⟩ => ⟨E, _, rel, q, fun x E1 v H1 q1 x1 r1 p1 => ⟨E1, _, r1, q1, fun y E2 u H2 q2 x2 r2 p2 => ?_⟩⟩⟩
  refine hq x y v u H2 _ Q (.inl (p1.ext x2)) p2 q2 fun zs us q3 qz hp rz => ?_
  obtain ⟨r3, h0, na⟩ := r2.fresh (o := .lst us) hp
  exact k zs E2 q3 us _ qz ((x1.trans x2).trans (PExt.new hp).ext) r3 h0 na upd_same (rz.ext (PExt.new hp).ext)
theorem op_catR : OpR X (binaryOp .Add) (fun x y H Q => ∃ l b xs zs, x = .ref l ∧ y = .ref b ∧ LsP X.K H l xs ∧ LsP X.K H b zs ∧ xs.length + zs.length ≤ sizeLine ∧ ∀ p, H p = none → Q (.ref p) (upd H p (.lst (xs ++ zs)))) := by
  intro pins s σ H x y v u Q I rx ry h
  obtain ⟨l, b, xs, zs, rfl, rfl, hH, hB, hz, q⟩ := h
  cases rx
  cases ry
  obtain ⟨z, its, n, r, e⟩ := hH.at I.hok I.kIn
  obtain ⟨z2, its2, n2, r2, e2⟩ := hB.at I.hok I.kIn
  have hl := r.length
  have hl2 := r2.length
  refine PySem.P.add_list e e2 ?_ (by rw [List.size_toArray, List.size_toArray]; omega)
  have ea : its.toArray ++ its2.toArray = (its ++ its2).toArray := by simp
  rw [ea]
  exact ⟨.ref _, _, I.lnew (t' := s.toks) (r.append r2) (by rw [List.length_append]; omega), rfl, q _ I.fresh⟩
def opCat : D → D → (List D → Prop) → Prop := fun x y Q => match x, y with
  | .list xs, .list ys => xs.length + ys.length ≤ sizeLine ∧ Q (xs ++ ys)
  | _, _ => False
theorem od_cat : OpLD X (binaryOp .Add) opCat := ⟨_, op_catR, fun x y v u H QD Q hx hy q k => by
  cases x with
  | list xs =>
    cases y with
    | list ys =>
      obtain ⟨a, vs, rfl, sa, la⟩ := hx.listR
      obtain ⟨b, us, rfl, sb, lb⟩ := hy.listR
      exact ⟨a, b, vs, us, rfl, rfl, sa, sb, by rw [← la.length, ← lb.length]; exact q.1, fun p hp => k _ _ _ q.2 hp (la.append lb)⟩
    | _ => exact q.elim
  | _ => exact q.elim⟩
theorem op_repR : OpR X (binaryOp .Mult) (fun x y H Q => ∃ l k xs, x = .ref l ∧ y = .int k ∧ LsP X.K H l xs ∧ -(2 ^ 63) ≤ k ∧ k < 2 ^ 63 ∧ xs.length * k.toNat ≤ sizeLine ∧
  ∀ p, H p = none → Q (.ref p) (upd H p (.lst (List.replicate k.toNat xs).flatten))) := by
  intro pins s σ H x y v u Q I rx ry h
  obtain ⟨l, k, xs, rfl, rfl, hH, h1, h2, hz, q⟩ := h
  cases rx
  obtain ⟨t, rfl⟩ := ry
  obtain ⟨z, its, n, r, e⟩ := hH.at I.hok I.kIn
  have hl := r.length
  have hlen : its.toArray.size * k.toNat ≤ sizeLine := by rw [List.size_toArray, ← hl]; exact hz
  have hcap : ¬ its.toArray.size * k.toNat > (2 ^ 63 - 1) / 8 := by
    have : (sizeLine : Nat) ≤ (2 ^ 63 - 1) / 8 := by decide
    omega
  have hfit : ¬ (!Builtin.List.listFitsIndex k) = true := by
    rw [fitsIndex_both h1 h2]
    exact Bool.false_ne_true
  have hlong : ¬ Builtin.List.listTooLong (its.toArray.size * k.toNat) = true := by
    rw [notLongL hlen]
    exact Bool.false_ne_true
  have hnew : List.foldl (fun x1 x2 => x1 ++ x2) #[] (List.replicate (if its.toArray.isEmpty = true then 0 else k.toNat) its.toArray) = (List.replicate k.toNat its).flatten.toArray := by
    have f0 : ∀ m : Nat, List.foldl (fun x1 x2 => x1 ++ x2) #[] (List.replicate m its.toArray) = (List.replicate m its).flatten.toArray := fun m => by
      have := foldl_rep its m []
      rw [List.nil_append] at this
      exact this
    rw [f0]
    cases its with
    | nil => simp
    | cons a r' => rw [if_neg (by simp)]
  refine wpAny_binaryOp_repeat_ref (T := "list") (U := "int") (by decide) ⟨_, e, rfl⟩ (fun s' => typeIs_int s' k t) noFill_list_mul F.fills_int_mul F.slot_int_rmul repeat_list F.slot_int_index.lookup
    (call_meets F.slot_int_rmul (typeIs_int s k t) F.entry_int_rmul (F.args_int_rmul_2 _ _) (int___rmul___int_list k t l its.toArray n)
      ⟨e, rfl, ⟨_, e, rfl⟩, call_meets F.slot_list_mul ⟨_, e, rfl⟩ F.entry_list_mul (F.args_list_mul_2 _ _) (AutoListH.list___mul___list_int_3 l its.toArray n k t hfit hcap hlong) ⟨e, ?_⟩⟩)
  rw [hnew]
  exact ⟨.ref _, _, I.lnew (t' := s.toks) (r.rep k.toNat) (by rw [PyProof.Rows.lm_len_rep_flat, Nat.mul_comm]; exact hz), rfl, q _ I.fresh⟩
def opRep : D → D → (List D → Prop) → Prop := fun x y Q => match x, y with
  | .list xs, .int k => (-(2 ^ 63) ≤ k ∧ k < 2 ^ 63 ∧ xs.length * k.toNat ≤ sizeLine) ∧ Q (List.replicate k.toNat xs).flatten
  | _, _ => False
theorem RpL.rep {K : PySem.W.Frag} {H : Hp} {ds : List D} {vs : List V} (l : RpL K H ds vs) : ∀ n : Nat, RpL K H (List.replicate n ds).flatten (List.replicate n vs).flatten
  | 0 => .nil
  | n + 1 => by rw [List.replicate_succ, List.replicate_succ, List.flatten_cons, List.flatten_cons]; exact l.append (RpL.rep l n)
theorem od_rep : OpLD X (binaryOp .Mult) opRep := ⟨_, op_repR, fun x y v u H QD Q hx hy q k => by
  cases x with
  | list xs =>
    cases y with
    | int j =>
      obtain ⟨a, vs, rfl, sa, la⟩ := hx.listR
      rw [hy.int]
      exact ⟨a, j, vs, rfl, rfl, sa, q.1.1, q.1.2.1, by rw [← la.length]; exact q.1.2.2, fun p hp => k _ _ _ q.2 hp (la.rep _)⟩
    | _ => exact q.elim
  | _ => exact q.elim⟩
/-! ### slices -/
def cutD (xs : List D) (lo hi : Option Int) : List D := (xs.drop (HT.sIx xs.length 0 lo)).take (HT.sIx xs.length xs.length hi - HT.sIx xs.length 0 lo)
theorem RpL.cut {K : PySem.W.Frag} {H : Hp} {ds : List D} {vs : List V} (l : RpL K H ds vs) (lo hi : Option Int) : RpL K H (cutD ds lo hi) (cutV vs lo hi) := by
  unfold cutD cutV
  rw [l.length]
  exact (l.drop _).take _
abbrev TOd := Env → (Option Int → Env → Prop) → Prop
def liftO (K : PySem.W.Frag) (G : Gh) (t : TOd) : TO := fun σ H Q => ∃ (E : Env) (QE : Option Int → Env → Prop), RelE K G H E σ ∧ t E QE ∧ ∀ o E' H', QE o E' → Ext H H' → RelE K G H' E' σ → Q o H'
structure EO (X : Cx) (G : Gh) (e : Option Expr) (t : TOd) : Prop where
  po : PO X e (liftO X.K G t)
theorem PO.weak {e : Option Expr} {t u : TO} (h : PO X e t) (w : ∀ σ H Q, u σ H Q → t σ H Q) : PO X e u := ⟨fun pins s σ H Q I q => h.run pins s σ H Q I (w σ H Q q)⟩
def oNo : TOd := fun E Q => Q none E
def oE (t : TD) : TOd := fun E Q => t E fun d E1 => match d with
  | .int i => Q (some i) E1
  | _ => False
theorem eo_no : EO X G none oNo := ⟨PO.weak po_none fun σ H Q ⟨E, QE, r, q, k⟩ => k _ _ _ q (Ext.refl _) r⟩
theorem eo_e {t : TD} (h : ED X G e t) : EO X G (some e) (oE t) := ⟨PO.weak (po_some h.pe) fun σ H Q ⟨E, QE, r, q, k⟩ => ⟨E, _, r, q, fun d E1 v H1 q1 x1 r1 p1 => by
  cases p1 with
  | int i => exact ⟨i, rfl, k _ _ _ q1 x1 r1⟩
  | _ => exact q1.elim⟩⟩
/-- t[lo:hi], the whole: t itself -/
theorem whole_tuple {prog : Program} {w : World} {A : Around} {E : Value → Shared → Prop} {s : Shared} {t sl : Addr} {items : Array Value} {vl vu : Value} {lo hi : Option Int} {Q : Value → Shared → Prop} (ht : IsTup s.heap t items) (hs : s.heap.IsSliceOf sl vl vu .none) (pl : IsPart vl lo) (pu : IsPart vu hi)
    (hw : HT.sIx items.size 0 lo = 0 ∧ HT.sIx items.size items.size hi = items.size) (h : Q (.ref t) s) : wpAny (model prog w) A (getItem (.ref t) (.ref sl)) Q E s := by
  obtain ⟨os, hos, hcs, hds⟩ := id hs
  have hTs : s.TypeIs (.ref sl) "slice" := ⟨os, hos, hcs⟩
  unfold getItem
  try with_reducible refine wpAny_holding ?_
  first | refine wpAny_bind (wpAny_pure ?_) | skip
  refine wpAny_bind (wpAny_sequenceKey ht.typeIs (by decide) ?_)
  refine wpAny_bind (wpAny_callSpecial?_slot (name := Str.ofString "__getitem__") ht.typeIs PyProof.Rows.slot_tuple_getitem
    (wpAny_call_entry PyProof.Rows.slot_tuple_getitem ht.typeIs entry_tuple_getitem ?_ (args_tuple_getitem _ _)))
  show wpAny _ _ (Builtin.Tuple.tupleItemsOf (.ref t) >>= _) _ _ s
  refine wpAny_bind (tupleItemsOf_ ht ?_)
  refine wpAny_bind (wpAny_typeOf hTs ?_)
  rw [if_pos (by decide)]
  refine wpAny_bind (HT.sliceApplied_gen hs pl pu ?_)
  have hyes : (((HT.sIx items.size 0 lo : Nat) : Int) == 0 && (1 : Int) == 1 && (HT.sIx items.size items.size hi - HT.sIx items.size 0 lo) == items.size) = true := by
    rw [hw.1, hw.2]; simp
  show wpAny _ _ (if (((HT.sIx items.size 0 lo : Nat) : Int) == 0 && (1 : Int) == 1 && (HT.sIx items.size items.size hi - HT.sIx items.size 0 lo) == items.size) = true then _ else _) _ _ s
  rw [if_pos hyes]
  refine wpAny_bind ?_
  · unfold Builtin.Tuple.tupleIsExact
    refine wpAny_bind (wpAny_typeOf ht.typeIs (wpAny_pure ?_))
    rw [if_pos (by decide)]
    exact wpAny_bind (wpAny_rule (wpAny_pure ⟨_, rfl, wpAny_pure h⟩))
theorem sl_tupW : SlR X (fun x lo hi H Q => ∃ a xs, x = .ref a ∧ SqT X.K H a xs ∧ (HT.sIx xs.length 0 lo = 0 ∧ HT.sIx xs.length xs.length hi = xs.length) ∧ Q (.ref a) H) := by
  intro pins s σ H x v vl vu lo hi sl Q I rx hs pl pu h
  obtain ⟨a, xs, rfl, hx, hw, q⟩ := h
  cases rx
  obtain ⟨its, r, ht, hz⟩ := I.tuple hx
  have hlen : its.toArray.size = xs.length := by rw [List.size_toArray]; exact r.length.symm
  refine ⟨"tuple", _, PyProof.Rows.slot_tuple_getitem.lookup, ht.typeIs, ?_⟩
  exact whole_tuple ht hs pl pu (by rw [hlen]; exact hw) ⟨.ref a, H, I, rfl, q⟩
/-- t[lo:hi], not the whole: a new, plain tuple -/
theorem sl_tupF : SlR X (fun x lo hi H Q => ∃ a xs, x = .ref a ∧ SqT X.K H a xs ∧ ¬ (HT.sIx xs.length 0 lo = 0 ∧ HT.sIx xs.length xs.length hi = xs.length) ∧ ∀ p o, H p = none → o.dict = none → Q (.ref p) (upd H p (.frz o (.tup (cutV xs lo hi))))) := by
  intro pins s σ H x v vl vu lo hi sl Q I rx hs pl pu h
  obtain ⟨a, xs, rfl, hx, hw, q⟩ := h
  cases rx
  obtain ⟨its, r, ht, hz⟩ := I.tuple hx
  have hlen : its.toArray.size = xs.length := by rw [List.size_toArray]; exact r.length.symm
  refine ⟨"tuple", _, PyProof.Rows.slot_tuple_getitem.lookup, ht.typeIs, HT.getItem_tuple_cut ht hs pl pu (by rw [hlen]; exact hw) ?_ (by rw [hlen]; exact hz)⟩
  rw [hlen]
  exact ⟨.ref s.heap.objs.size, _, I.laid (t' := s.toks) (o := .frz _ (.tup (cutV xs lo hi))) (fun b ob q => Heap.get?_push_of_some _ q) (Nat.le_refl _) ⟨Heap.get?_push_size _ rfl, Nat.le_trans (cutV_length xs lo hi) hz, _, (r.drop (HT.sIx xs.length 0 lo)).take (HT.sIx xs.length xs.length hi - HT.sIx xs.length 0 lo), IsTup.new _ _⟩, rfl, q _ _ (I.hok.fresh (Nat.le_refl _)) rfl⟩
def slD (x : D) (lo hi : Option Int) (Q : D → Prop) : Prop := match x with
  | .tuple xs => Q (.tuple (cutD xs lo hi))
  | .str z => z.length ≤ sizeLine ∧ Q (.str (cutS z lo hi))
  | _ => False
def tSlD (ta : TD) (tl th : TOd) : TD := fun E Q => ta E fun x E1 => tl E1 fun l E2 => th E2 fun u E3 => slD x l u fun z => Q z E3
theorem cut_whole {xs : List D} {lo hi : Option Int} (h : HT.sIx xs.length 0 lo = 0 ∧ HT.sIx xs.length xs.length hi = xs.length) : cutD xs lo hi = xs := by
  unfold cutD; rw [h.1, h.2]; simp
theorem ed_sl {lo hi : Option Expr} {ta : TD} {tl th : TOd} (ha : ED X G a ta) (hl : EO X G lo tl) (hh : EO X G hi th) : ED X G (.Subscript a (.Slice lo hi none p2) pos) (tSlD ta tl th) := by
  refine ⟨PE.weak (pe_slice (sl_tupF.or (sl_tupW.or sl_str)) ha.pe hl.po hh.po) fun σ H Q ⟨E, QE, rel, q, k⟩ => ⟨E, _, rel, q, fun x E1 v H1 q1 x1 r1 p1 => ⟨E1, _, r1, q1, fun l E2 H2 q2 x2 r2 => ⟨E2, _, r2, q2, fun u E3 H3 q3 x3 r3 => ?_⟩⟩⟩⟩
  have xx := (x1.trans x2).trans x3
  have p3 := (p1.ext x2).ext x3
  cases p3 with
  | tup hs ll =>
    rename_i a0 vs ds
    by_cases hw : HT.sIx vs.length 0 l = 0 ∧ HT.sIx vs.length vs.length u = vs.length
    · have hw' := hw
      rw [← ll.length] at hw'
      refine .inr (.inl ⟨_, _, rfl, hs.1, hw, k _ _ _ _ q3 xx r3 ?_⟩)
      rw [cut_whole hw']; exact .tup hs ll
    · exact .inl ⟨_, _, rfl, hs.1, hw, fun p o hp ho => k _ _ _ _ q3 (xx.trans (PExt.new hp).ext) (r3.pext (PExt.new hp)) (.tup (.new ho) ((ll.cut l u).ext (PExt.new hp).ext))⟩
  | str z => exact .inr (.inr ⟨z, rfl, q3.1, k _ _ _ _ q3.2 xx r3 (.str _)⟩)
  | _ => exact q3.elim
def tSlL (ta : TD) (tl th : TOd) : TLd := fun E Q => ta E fun x E1 => tl E1 fun l E2 => th E2 fun u E3 => match x with
  | .list xs => Q (cutD xs l u) E3
  | _ => False
theorem el_sl {lo hi : Option Expr} {ta : TD} {tl th : TOd} (ha : ED X G a ta) (hl : EO X G lo tl) (hh : EO X G hi th) : EL X G (.Subscript a (.Slice lo hi none p2) pos) (tSlL ta tl th) := by
  refine ⟨PE.weak (pe_slice sl_list ha.pe hl.po hh.po) fun σ H Q ⟨E, QE, rel, q, k⟩ => ⟨E, _, rel, q, fun x E1 v H1 q1 x1 r1 p1 => ⟨E1, _, r1, q1, fun l E2 H2 q2 x2 r2 => ⟨E2, _, r2, q2, fun u E3 H3 q3 x3 r3 => ?_⟩⟩⟩⟩
  have xx := (x1.trans x2).trans x3
  have p3 := (p1.ext x2).ext x3
  cases p3 with
  | lst hs ll =>
    refine ⟨_, _, rfl, hs.sq, fun p hp => ?_⟩
    obtain ⟨r4, h0, na⟩ := r3.fresh (o := .lst (cutV _ l u)) hp
    exact k _ _ _ _ _ q3 (xx.trans (PExt.new hp).ext) r4 h0 na upd_same ((ll.cut l u).ext (PExt.new hp).ext)
  | _ => exact q3.elim
/-- xs[::-1] of a list -/
def tRevD (ta : TD) : TLd := fun E Q => ta E fun x E1 => match x with
  | .list xs => Q xs.reverse E1
  | _ => False
/-! ### isinstance with a built-in class -/
def tyD : D → String
  | .none => "NoneType"
  | .bool _ => "bool"
  | .int _ => "int"
  | .str _ => "str"
  | .list _ => "list"
  | .tuple _ => "tuple"
  | .dict _ => "dict"
theorem call_isiR {T : String} {bf : D → Bool} (hb : ∀ d : D, (match d with | .dict _ => True | _ => kitB (tyD d) T = some (bf d))) : CallR X (.builtin "isinstance") (fun vs H Q => ∃ d v, vs = [v, .ty T] ∧ Rp X.K H d v ∧ (∀ k, d ≠ .dict k) ∧ Q (.bl (bf d)) H) := by
  intro pins s σ H vs us Q I r h
  obtain ⟨d, v, rfl, hd, hn, q⟩ := h
  obtain ⟨u1, u2, rfl, r1, r2⟩ := vals2 r
  cases (show u2 = Value.type T from r2)
  have kit : ∃ P : Heap → Prop, PySem.W.KitX X.K u1 (.type (tyD d)) P ∧ P s.heap ∧ u1 ≠ .builtin "__main__.__loader__#opaque" := by
    cases hd with
    | non => cases (show u1 = Value.none from r1); exact ⟨_, PySem.W.kitx_none, True.intro, fun z => nomatch z⟩
    | bl y => cases (show u1 = Value.bool y from r1); exact ⟨_, PySem.W.kitx_bool, True.intro, fun z => nomatch z⟩
    | int i => obtain ⟨t, q⟩ := (show ∃ t, u1 = Value.int i t from r1); cases q; exact ⟨_, PySem.W.kitx_int, True.intro, fun z => nomatch z⟩
    | str y => obtain ⟨t, q⟩ := (show ∃ t, u1 = Value.str y t from r1); cases q; exact ⟨_, PySem.W.kitx_str, True.intro, fun z => nomatch z⟩
    | dct _ _ _ _ => exact absurd rfl (hn _)
    | hdl a => exact absurd rfl (hn _)
    | dck _ _ _ _ => exact absurd rfl (hn _)
    | lst hs _ =>
      rename_i a xs ds _
      cases (show u1 = Value.ref a from r1)
      obtain ⟨its, rv, hl, _⟩ := I.list hs.sq
      obtain ⟨o, n, ho, hc, _⟩ := hl
      exact ⟨_, PySem.W.kitx_list, ⟨o, ho, hc⟩, fun z => nomatch z⟩
    | tup hs _ =>
      rename_i a xs ds _
      cases (show u1 = Value.ref a from r1)
      obtain ⟨its, rv, ⟨o, ho, hc, _⟩, _⟩ := I.tuple hs.1
      exact ⟨_, PySem.W.kitx_tuple, ⟨o, ho, hc⟩, fun z => nomatch z⟩
  obtain ⟨P, Z, p, hx⟩ := kit
  have e : PySem.W.kitOne X.K (.type (tyD d)) (.type T) = some (bf d) := by
    have := hb d
    cases d with
    | dict k => exact absurd rfl (hn k)
    | _ => exact kit_ty this
  exact PySem.W.kia_one Z I.kIn p e hx fun tk => ⟨.bl _, H, I.tok tk, rfl, q⟩
def isInt : D → Bool
  | .int _ => true
  | .bool _ => true
  | _ => false
def isBool : D → Bool
  | .bool _ => true
  | _ => false
def isStr : D → Bool
  | .str _ => true
  | _ => false
def isTuple : D → Bool
  | .tuple _ => true
  | _ => false
def isList : D → Bool
  | .list _ => true
  | _ => false
def notDict : D → Prop
  | .dict _ => False
  | _ => True
def tIsi (bf : D → Bool) (ta : TD) : TD := fun E Q => ta E fun x E1 => notDict x ∧ Q (.bool (bf x)) E1
theorem ed_isi {T : String} {ty : Str} {bf : D → Bool} {ta : TD} {pt : Pos} (hb : ∀ d : D, (match d with | .dict _ => True | _ => kitB (tyD d) T = some (bf d))) (ha : ED X G a ta) (hg : Gl X "isinstance") (hm : X.mg "isinstance" = none) (hg2 : Gl X ty) (hm2 : X.mg ty = none) (hv2 : bootBuiltins ty = some (.type T))
    (hn2 : ty ≠ "__name__" := by decide) (hd2 : (ty == ("__debug__" : Str)) = false := by decide)
    (hs : starEach [a, .Name ty pt] X.env = (false, eval a X.env) :: starEach [.Name ty pt] X.env := by rfl) (hs2 : starEach [.Name ty pt] X.env = (false, eval (.Name ty pt) X.env) :: starEach [] X.env := by rfl) (hpl : (backTo pos (starEach [.Name ty pt] X.env)).any (·.1) = false := by rfl) :
    ED X G (.Call (.Name "isinstance" p) [a, .Name ty pt] [] pos) (tIsi bf ta) := by
  refine ⟨PE.weak (pe_callB (call_isiR hb) hg hm (by decide +kernel) (pa_cons ha.pe (pa_cons (pe_bltn (v := .ty T) hg2 hm2 hv2 rfl hn2 hd2) pa_nil hs2) hs) (by decide) (by decide) hs hpl) fun σ H Q ⟨E, QE, rel, q, k⟩ => ⟨E, _, rel, q, fun x E1 v H1 q1 x1 r1 p1 => ?_⟩⟩
  refine ⟨x, v, rfl, p1, ?_, k _ _ _ _ q1.2 x1 r1 (.bl _)⟩
  intro z e; subst e; exact q1.1
theorem isi_int : ∀ d : D, (match d with | .dict _ => True | _ => kitB (tyD d) "int" = some (isInt d)) := by intro d; cases d <;> first | trivial | (show kitB _ _ = _; decide +kernel)
theorem isi_bool : ∀ d : D, (match d with | .dict _ => True | _ => kitB (tyD d) "bool" = some (isBool d)) := by intro d; cases d <;> first | trivial | (show kitB _ _ = _; decide +kernel)
theorem isi_str : ∀ d : D, (match d with | .dict _ => True | _ => kitB (tyD d) "str" = some (isStr d)) := by intro d; cases d <;> first | trivial | (show kitB _ _ = _; decide +kernel)
theorem isi_tuple : ∀ d : D, (match d with | .dict _ => True | _ => kitB (tyD d) "tuple" = some (isTuple d)) := by intro d; cases d <;> first | trivial | (show kitB _ _ = _; decide +kernel)
/-! ### zip of two tuples, of two lists -/
def zipD (xs ys : List D) : List D := (xs.zip ys).map fun p => .tuple [p.1, p.2]
def iZipD (ta tb : TD) : TDs := fun E Q => ta E fun x E1 => tb E1 fun y E2 => match x, y with
  | .tuple xs, .tuple ys => Q (zipD xs ys) E2
  | .list xs, .list ys => Q (zipD xs ys) E2
  | _, _ => False
theorem zipD_len (xs ys : List D) : (zipD xs ys).length = min xs.length ys.length := by simp [zipD]
theorem zipD_get {xs ys : List D} {i : Nat} {x y : D} (h1 : xs[i]? = some x) (h2 : ys[i]? = some y) : (zipD xs ys)[i]? = some (.tuple [x, y]) := by
  unfold zipD
  rw [List.getElem?_map, (List.getElem?_zip_eq_some (z := (x, y))).mpr ⟨h1, h2⟩]; rfl
theorem walkD_zipT {K : PySem.W.Frag} {H : Hp} {a b : Addr} {vs us : List V} {ds es : List D} (h : SqT K H a vs) (h' : SqT K H b us) (l : RpL K H ds vs) (l' : RpL K H es us) : WalkD true K (RZ.ItzT K a b) H (zipD ds es) where
  goes := fun i H' x hi => by
    rw [zipD_len, l.length, l'.length] at hi
    exact ⟨vs, us, vs[i], us[i], SqT.ext x h, SqT.ext x h', List.getElem?_eq_getElem _, List.getElem?_eq_getElem _⟩
  yld := fun i H' v H2 x hi hy => by
    obtain ⟨T, v1, v2, rfl, hT, rfl, e1, e2⟩ := hy
    obtain ⟨d, hd, p⟩ := l.getV (e1 vs (SqT.ext x h))
    obtain ⟨d', hd', p'⟩ := l'.getV (e2 us (SqT.ext x h'))
    have px := PExt.new (o := .tup [v1, v2]) hT
    exact ⟨px, _, zipD_get hd hd', .pair (SqT.of upd_same) (.cons ((p.ext x).ext px.ext) (.cons ((p'.ext x).ext px.ext) .nil))⟩
  stops := fun H' x => ⟨vs, us, SqT.ext x h, SqT.ext x h', by rw [zipD_len, l.length, l'.length]; omega⟩
theorem walkD_zipL {K : PySem.W.Frag} {H : Hp} {a b : Addr} {vs us : List V} {ds es : List D} (h : LsF K H a vs) (h' : LsF K H b us) (l : RpL K H ds vs) (l' : RpL K H es us) : WalkD true K (Itz K a b) H (zipD ds es) where
  goes := fun i H' x hi => by
    rw [zipD_len, l.length, l'.length] at hi
    exact ⟨vs, us, vs[i], us[i], (LsF.ext x h).sq, (LsF.ext x h').sq, List.getElem?_eq_getElem _, List.getElem?_eq_getElem _⟩
  yld := fun i H' v H2 x hi hy => by
    obtain ⟨T, v1, v2, rfl, hT, rfl, e1, e2⟩ := hy
    obtain ⟨d, hd, p⟩ := l.getV (e1 vs ((LsF.ext x h).sq))
    obtain ⟨d', hd', p'⟩ := l'.getV (e2 us ((LsF.ext x h').sq))
    have px := PExt.new (o := .tup [v1, v2]) hT
    exact ⟨px, _, zipD_get hd hd', .pair (SqT.of upd_same) (.cons ((p.ext x).ext px.ext) (.cons ((p'.ext x).ext px.ext) .nil))⟩
  stops := fun H' x => ⟨vs, us, (LsF.ext x h).sq, (LsF.ext x h').sq, by rw [zipD_len, l.length, l'.length]; omega⟩
theorem id_zip {elts : List Expr} {kk : Nat} {tpos : Pos} {ta tb : TD} (ha : ED X G a ta) (hb : ED X G b tb) (hg : Gl X "zip") (hm : X.mg "zip" = none)
    (hs : starEach [a, b] X.env = (false, eval a X.env) :: starEach [b] X.env := by rfl) (hs2 : starEach [b] X.env = (false, eval b X.env) :: starEach [] X.env := by rfl) (hpl : (backTo pos (starEach [b] X.env)).any (·.1) = false := by rfl) :
    ID X G true (.Tuple elts kk tpos) (.Call (.Name "zip" p) [a, b] [] pos) (iZipD ta tb) := by
  refine ⟨PI.weak (RZ.pi_zipA hg hm (pa_cons ha.pe (pa_cons hb.pe pa_nil hs2) hs) hs hpl) fun σ H R ⟨E, QE, rel, q, k⟩ => ⟨E, _, rel, q, fun x E1 v H1 q1 x1 r1 p1 => ⟨E1, _, r1, q1, fun y E2 u H2 q2 x2 r2 p2 => ?_⟩⟩⟩
  have p1 := p1.ext x2
  cases p1 with
  | tup h1 l1 =>
    cases p2 with
    | tup h2 l2 => exact ⟨_, _, _, _, rfl, .inr ⟨h1.1, h2.1, k _ _ _ _ q2 (x1.trans x2) r2 (walkD_zipT h1.1 h2.1 l1 l2)⟩⟩
    | _ => exact q2.elim
  | lst h1 l1 =>
    cases p2 with
    | lst h2 l2 => exact ⟨_, _, _, _, rfl,   .inl ⟨h1.sq, h2.sq, k _ _ _ _ q2 (x1.trans x2) r2 (walkD_zipL h1 h2 l1 l2)⟩⟩
    | _ => exact q2.elim
  | _ => cases p2 <;> exact q2.elim
end
end DL
set_option Elab.async false
set_option linter.all false
set_option maxRecDepth 100000
set_option maxHeartbeats 1000000
namespace DL
open PySem PySem.Spec PyProof.Rows L2
theorem ns {G : Gh} {l : List Nat} (h : G.slots = l) {i : Nat} (hd : i ∉ l) : i ∉ G.slots := by rw [h]; exact hd
theorem nsA {G : Gh} {l ms : List Nat} (h : G.slots = l) (hd : ∀ i ∈ ms, i ∉ l) : ∀ i ∈ ms, i ∉ G.slots := by rw [h]; exact hd
theorem u65 {k : Nat} {A : Around} (r : Room k A) : A.units + 65 < cLine := by have := r.un; omega
theorem bb_len : bootBuiltins "len" = some (.builtin "len") := by decide +kernel
theorem bb_abs : bootBuiltins "abs" = some (.builtin "abs") := by decide +kernel
theorem bb_max : bootBuiltins "max" = some (.builtin "max") := by decide +kernel
theorem bb_min : bootBuiltins "min" = some (.builtin "min") := by decide +kernel
theorem bb_all : bootBuiltins "all" = some (.builtin "all") := by decide +kernel
theorem bb_sorted : bootBuiltins "sorted" = some (.builtin "sorted") := by decide +kernel
theorem bb_tuple : bootBuiltins "tuple" = some (.type "tuple") := by decide +kernel
theorem bb_list : bootBuiltins "list" = some (.type "list") := by decide +kernel
theorem bb_int : bootBuiltins "int" = some (.type "int") := by decide +kernel
theorem bb_bool : bootBuiltins "bool" = some (.type "bool") := by decide +kernel
theorem bb_str : bootBuiltins "str" = some (.type "str") := by decide +kernel
end DL
set_option Elab.async false
set_option linter.all false
set_option maxRecDepth 100000
set_option maxHeartbeats 1000000
namespace DL
open PySem PySem.Spec PyProof.Rows L2
/-! ### reading: one statement after another, what follows a letter -/
theorem seq_step {t u : TSd} {DE : EndsD} {E : Env} (h : ∀ R : Env → Prop, (∀ E', u DE E' → R E') → t { DE with nx := R } E) : sSeq t u DE E := h _ fun _ h => h
theorem ifB {b : Bool} {A B : Prop} (h1 : b = true → A) (h2 : b = false → B) : if b = true then A else B := by
  cases b with
  | true => exact if_pos rfl ▸ h1 rfl
  | false => rw [if_neg Bool.false_ne_true]; exact h2 rfl
theorem ifT {b : Bool} {A B : Prop} (hb : b = true) (h1 : A) : if b = true then A else B := by rw [if_pos hb]; exact h1
theorem ifF {b : Bool} {A B : Prop} (hb : b = false) (h1 : B) : if b = true then A else B := by rw [hb, if_neg Bool.false_ne_true]; exact h1
/-! == of numbers, truths -/
theorem eqv_int (i j : Int) : PyData.eqv (.int i) (.int j) = decide (i = j) := by
  show (i == j) = decide (i = j)
  by_cases h : i = j
  · subst h; simp
  · simp [h]
theorem eqv_bool (i j : Bool) : PyData.eqv (.bool i) (.bool j) = (i == j) := rfl
theorem eqv_str (i j : Str) : PyData.eqv (.str i) (.str j) = (i == j) := rfl
theorem eqv_none : PyData.eqv .none .none = true := rfl
theorem eqv_tup (xs ys : List D) : PyData.eqv (.tuple xs) (.tuple ys) = PyData.eqvAll xs ys := by simp [PyData.eqv]
theorem shaped_int (i : Int) : SeqAt.shaped (.int i) = true := rfl
theorem shaped_bool (i : Bool) : SeqAt.shaped (.bool i) = true := rfl
theorem shaped_none : SeqAt.shaped .none = true := rfl
/-! items -/
theorem atI_at {α : Type} {xs : List α} {i : Int} {d : α} (h0 : 0 ≤ i) (h : xs[i.toNat]? = some d) : atI xs i = some d := by
  obtain ⟨hl, _⟩ := List.getElem?_eq_some_iff.mp h
  unfold atI ixN
  rw [if_pos h0, if_pos (by omega)]
  exact h
theorem atD_at {xs : List D} {i : Int} {d : D} {Q : D → Prop} (h0 : 0 ≤ i) (h : xs[i.toNat]? = some d) (q : Q d) : atD xs i Q := by unfold atD; rw [atI_at h0 h]; exact q
theorem atD_0 {x : D} {xs : List D} {Q : D → Prop} : atD (x :: xs) 0 Q = Q x := by
  unfold atD; rw [atI_at (d := x) (by decide) rfl]
theorem atD_1 {x y : D} {xs : List D} {Q : D → Prop} : atD (x :: y :: xs) 1 Q = Q y := by
  unfold atD; rw [atI_at (d := y) (by decide) rfl]
theorem atD_2 {x y z : D} {xs : List D} {Q : D → Prop} : atD (x :: y :: z :: xs) 2 Q = Q z := by
  unfold atD; rw [atI_at (d := z) (by decide) rfl]
theorem atD_3 {x y z u : D} {xs : List D} {Q : D → Prop} : atD (x :: y :: z :: u :: xs) 3 Q = Q u := by
  unfold atD; rw [atI_at (d := u) (by decide) rfl]
theorem putD_at {xs : List D} {i : Int} {d : D} {Q : List D → Prop} (h0 : 0 ≤ i) (h : i < xs.length) (q : Q (xs.set i.toNat d)) : putD xs i d Q := by
  unfold putD ixN; rw [if_pos h0, if_pos h]; exact q
theorem putD_0 {x d : D} {xs : List D} {Q : List D → Prop} : putD (x :: xs) 0 d Q = Q (d :: xs) := by
  unfold putD ixN; rw [if_pos (by decide), if_pos (by rw [List.length_cons]; omega)]; rfl
theorem getElem_map_int {ns : List Int} {i : Nat} (h : i < ns.length) : (ns.map PyData.int)[i]? = some (.int ns[i]) := by
  rw [List.getElem?_map, List.getElem?_eq_getElem h]; rfl
/-- a for by what holds between two turns; R: what follows a turn -/
theorem forD_inv {g : TGd} {tb : TSd} {DE : EndsD} {ds : List D} {E : Env} (I : Nat → Env → Prop) (h0 : I 0 E)
    (hs : ∀ (i : Nat) (d : D) (E : Env), ds[i]? = some d → I i E → ∀ R : Env → Prop, (∀ E', I (i + 1) E' → R E') → g d E fun E1 => tb { DE with nx := R, ct := R, bk := DE.nx } E1)
    (hd : ∀ E, I ds.length E → DE.nx E) : forD g tb ds DE E := by
  induction ds generalizing E I with
  | nil => exact hd E h0
  | cons d ds ih =>
    refine hs 0 d E rfl h0 _ fun E' h' => ?_
    exact ih (fun i => I (i + 1)) h' (fun i d E e q => hs (i + 1) d E (by simpa using e) q) fun E q => hd E (by simpa using q)
theorem for_inv {ti : TDs} {g : TGd} {tb : TSd} {DE : EndsD} {E : Env} {ds : List D} {E1 : Env} (h : ∀ Q : List D → Env → Prop, Q ds E1 → ti E Q) (I : Nat → Env → Prop) (h0 : I 0 E1)
    (hs : ∀ (i : Nat) (d : D) (E : Env), ds[i]? = some d → I i E → ∀ R : Env → Prop, (∀ E', I (i + 1) E' → R E') → g d E fun E1 => tb { DE with nx := R, ct := R, bk := DE.nx } E1)
    (hd : ∀ E, I ds.length E → DE.nx E) : sFor ti g tb DE E := h _ (forD_inv I h0 hs hd)
/-- behind it the environment is the one ahead (its own names were not in use, and hold nothing known) -/
theorem rest_wipe {E E' : Env} : ∀ {ms : List Nat}, wipeE E' ms = wipeE E ms → (∀ i ∈ ms, E[i]? = some .un ∨ (∃ x, E[i]? = some (.d x))) → restE E E' ms = E := by
  intro ms hw hE
  have hl : E'.length = E.length := by
    have : ∀ (F : Env) (l : List Nat), (wipeE F l).length = F.length := by
      intro F l
      induction l with
      | nil => rfl
      | cons v vs ih => show ((wipeE F vs).set v .un).length = _; rw [List.length_set, ih]
    rw [← this E' ms, hw, this]
  have wg : ∀ (F : Env) (l : List Nat) (i : Nat), i ∉ l → (wipeE F l)[i]? = F[i]? := by
    intro F l
    induction l with
    | nil => intro _ _; rfl
    | cons v vs ih => intro i h; show ((wipeE F vs).set v .un)[i]? = _; rw [List.getElem?_set_ne (fun z => h (by simp [z])), ih i fun z => h (List.mem_cons_of_mem _ z)]
  refine List.ext_getElem? fun i => ?_
  by_cases hi : i ∈ ms
  · have key : ∀ (l : List Nat), i ∈ l → (restE E E' l)[i]? = some (datOf E[i]?) := by
      intro l
      induction l with
      | nil => intro h; cases h
      | cons v vs ih =>
        intro h
        show ((restE E E' vs).set v (datOf E[v]?))[i]? = _
        have rl : ∀ (l : List Nat), (restE E E' l).length = E'.length := by
          intro l
          induction l with
          | nil => rfl
          | cons v vs ih => show ((restE E E' vs).set v _).length = _; rw [List.length_set, ih]
        by_cases hv : v = i
        · subst hv
          have : v < E.length := by
            rcases hE v hi with z | ⟨x, z⟩
            · exact (List.getElem?_eq_some_iff.mp z).1
            · exact (List.getElem?_eq_some_iff.mp z).1
          rw [List.getElem?_set_self (by rw [rl, hl]; exact this)]
        · rw [List.getElem?_set_ne hv]
          exact ih (by rcases List.mem_cons.mp h with q | q; exact absurd q.symm hv; exact q)
    rw [key ms hi]
    rcases hE i hi with z | ⟨x, z⟩
    · rw [z]; rfl
    · rw [z]; rfl
  · have rg : ∀ (l : List Nat), i ∉ l → (restE E E' l)[i]? = E'[i]? := by
      intro l
      induction l with
      | nil => intro _; rfl
      | cons v vs ih => intro h; show ((restE E E' vs).set v _)[i]? = _; rw [List.getElem?_set_ne (fun z => h (by simp [z])), ih fun z => h (List.mem_cons_of_mem _ z)]
    rw [rg ms hi, ← wg E' ms i hi, hw, wg E ms i hi]
/-- over typed items -/
theorem compD_map {α : Type} {g : TGd} {tt : TTd} {te : TD} {ms : List Nat} {W : Env} (enc : α → D) (p : α → Bool) (f : α → D) : ∀ (xs : List α) (acc : List D) (E : Env) (Q : List D → Env → Prop), wipeE E ms = W →
    (∀ x ∈ xs, ∀ R : Option D → Env → Prop, (∀ E', wipeE E' ms = W → R (if p x = true then some (f x) else none) E') → turnD g tt te (enc x) W R) → acc.length + xs.length ≤ sizeLine → (∀ E', wipeE E' ms = W → Q (acc ++ (xs.filter p).map f) E') → compD g tt te ms (xs.map enc) acc E Q
  | [], acc, E, Q, hE, _, _, q => by have := q E hE; rw [List.filter_nil, List.map_nil, List.append_nil] at this; exact this
  | x :: xs, acc, E, Q, hE, hf, hl, q => by
    show turnD g tt te (enc x) (wipeE E ms) _
    rw [hE]
    refine hf x (List.mem_cons_self ..) _ fun E' hE' => ?_
    rw [List.length_cons] at hl
    cases hp : p x with
    | false =>
      rw [if_neg Bool.false_ne_true]
      refine compD_map enc p f xs acc E' Q hE' (fun d hd => hf d (List.mem_cons_of_mem _ hd)) (by omega) fun E2 h2 => ?_
      have := q E2 h2
      rw [List.filter_cons_of_neg (by rw [hp]; exact Bool.false_ne_true)] at this; exact this
    | true =>
      rw [if_pos rfl]
      refine ⟨by omega, compD_map enc p f xs (acc ++ [f x]) E' Q hE' (fun d hd => hf d (List.mem_cons_of_mem _ hd)) (by rw [List.length_append]; simp; omega) fun E2 h2 => ?_⟩
      have := q E2 h2
      rw [List.filter_cons_of_pos hp] at this
      rw [List.append_assoc]; exact this
theorem comp_filter {α : Type} {ti : TDs} {g : TGd} {tt : TTd} {te : TD} {ms : List Nat} {E E1 : Env} {Q : List D → Env → Prop} (xs : List α) (enc : α → D) (p : α → Bool) (f : α → D) (hi : ∀ R : List D → Env → Prop, R (xs.map enc) E1 → ti E R)
    (hE : ∀ i ∈ ms, E1[i]? = some .un ∨ (∃ x, E1[i]? = some (.d x))) (hl : xs.length ≤ sizeLine)
    (hf : ∀ x ∈ xs, ∀ R : Option D → Env → Prop, (∀ E', wipeE E' ms = wipeE E1 ms → R (if p x = true then some (f x) else none) E') → turnD g tt te (enc x) (wipeE E1 ms) R) (q : Q ((xs.filter p).map f) E1) : tComp ti g tt te ms E Q :=
  hi _ (compD_map enc p f xs [] E1 _ rfl hf (by simpa using hl) fun E' hE' => by rw [rest_wipe hE' hE]; exact q)
theorem comp_map {α : Type} {ti : TDs} {g : TGd} {te : TD} {ms : List Nat} {E E1 : Env} {Q : List D → Env → Prop} (xs : List α) (enc : α → D) (f : α → D) (hi : ∀ R : List D → Env → Prop, R (xs.map enc) E1 → ti E R)
    (hE : ∀ i ∈ ms, E1[i]? = some .un ∨ (∃ x, E1[i]? = some (.d x))) (hl : xs.length ≤ sizeLine)
    (hf : ∀ x ∈ xs, ∀ R : D → Env → Prop, (∀ E', wipeE E' ms = wipeE E1 ms → R (f x) E') → g (enc x) (wipeE E1 ms) fun E1 => te E1 R) (q : Q (xs.map f) E1) : tComp ti g tTrue te ms E Q := by
  refine comp_filter xs enc (fun _ => true) f hi hE hl (fun x hx R hR => ?_) (by rw [List.filter_eq_self.mpr (fun _ _ => rfl)]; exact q)
  exact hf x hx (fun y E3 => R (some y) E3) hR
theorem un1 {E : Env} {i : Nat} (h : E[i]? = some .un) : ∀ j ∈ [i], E[j]? = some .un ∨ (∃ x, E[j]? = some (.d x)) := fun j hj => by
  rcases List.mem_cons.mp hj with rfl | z
  · exact .inl h
  · cases z
theorem un2 {E : Env} {i k : Nat} (h : E[i]? = some .un) (h' : E[k]? = some .un) : ∀ j ∈ [i, k], E[j]? = some .un ∨ (∃ x, E[j]? = some (.d x)) := fun j hj => by
  rcases List.mem_cons.mp hj with rfl | z
  · exact .inl h
  · exact un1 h' j z
end DL
set_option Elab.async false
set_option linter.all false
set_option maxRecDepth 100000
set_option maxHeartbeats 1000000
namespace DL
open PySem PySem.Spec PyProof.Rows L2
section
variable {X : Cx} {G : Gh} {a b c e : Expr} {es : List Expr} {pos p p1 p2 p3 : Pos} {x : Str}
/-! ### range(a, b, c): as an object, its len -/
def tLenRange (ta tb tc : TD) : TD := fun E Q => ta E fun x E1 => tb E1 fun y E2 => tc E2 fun z E3 => match x, y, z with
  | .int i, .int j, .int k => ∃ n : Nat, (k ≠ 0 ∧ k.natAbs < 1073741824) ∧ Builtin.Range.rangeSize i j k = n ∧ n < 2 ^ 62 ∧ Q (.int n) E3
  | _, _, _ => False
/-! range with a step, walked -/
def rangeCD (lo c : Int) (n : Nat) : List D := (List.range n).map fun i : Nat => PyData.int (lo + (i : Int) * c)
theorem walkD_rangeC {K : PySem.W.Frag} {H : Hp} {lo c : Int} {n : Nat} : WalkD false K (Itc lo c n) H (rangeCD lo c n) where
  goes := fun i H' x hi => (walk_rangeC (lo := lo) (c := c) (n := n)).goes i H' (by simpa [rangeCD] using hi) trivial
  yld := fun i H' v H2 x hi hy => by
    have hi' : i < n := by simpa [rangeCD] using hi
    obtain ⟨rfl, rfl⟩ := (walk_rangeC (lo := lo) (c := c) (n := n)).yields i H' v H2 hi' trivial hy
    exact ⟨PExt.refl _, _, by simp [rangeCD, hi'], .int _⟩
  stops := fun H' x => by
    have := (walk_rangeC (lo := lo) (c := c) (n := n)).stops H' trivial
    simpa [rangeCD] using this
def iRange3 (ta tb tc : TD) : TDs := fun E Q => ta E fun x E1 => tb E1 fun y E2 => tc E2 fun z E3 => match x, y, z with
  | .int i, .int j, .int k => ∃ n : Nat, RgC i j k n ∧ Q (rangeCD i k n) E3
  | _, _, _ => False
theorem id_range3 {tg : Expr} {ta tb tc : TD} (hg2 : Gl X "range") (hm2 : X.mg "range" = none) (ha : ED X G a ta) (hb : ED X G b tb) (hc : ED X G c tc)
    (hs : starEach [a, b, c] X.env = (false, eval a X.env) :: starEach [b, c] X.env := by rfl) (hs2 : starEach [b, c] X.env = (false, eval b X.env) :: starEach [c] X.env := by rfl) (hs3 : starEach [c] X.env = (false, eval c X.env) :: starEach [] X.env := by rfl)
    (hpl : (backTo p3 (starEach [b, c] X.env)).any (·.1) = false := by rfl) : ID X G false tg (.Call (.Name "range" p2) [a, b, c] [] p3) (iRange3 ta tb tc) := by
  refine ⟨PI.weak (pi_range3 hg2 hm2 (pa_cons ha.pe (pa_cons hb.pe (pa_cons hc.pe pa_nil hs3) hs2) hs) hs hpl) fun σ H Q ⟨E, QE, rel, q, k⟩ =>
    ⟨E, _, rel, q, fun x E1 v H1 q1 x1 r1 p1 => ⟨E1, _, r1, q1, fun y E2 u H2 q2 x2 r2 p2 => ⟨E2, _, r2, q2, fun z E3 w H3 q3 x3 r3 p3 => ?_⟩⟩⟩⟩
  cases p1 with
  | int i =>
    cases p2 with
    | int j =>
      cases p3 with
      | int m =>
        obtain ⟨n, hc, q3⟩ := q3
        exact ⟨i, j, m, n, rfl, hc, k _ _ _ _ q3 ((x1.trans x2).trans x3) r3 walkD_rangeC⟩
      | _ => exact q3.elim
    | _ => cases p3 <;> exact q3.elim
  | _ => cases p2 <;> cases p3 <;> exact q3.elim
/-! ### slices by numbers from 0 on -/
theorem sIx_int {n d : Nat} {i : Int} (h : 0 ≤ i) : HT.sIx n d (some i) = min i.toNat n := by
  show (if i < 0 then (i + (n : Int)).toNat else min i.toNat n) = _
  rw [if_neg (by omega)]
theorem cut_to {xs : List D} {i : Int} (h : 0 ≤ i) : cutD xs none (some i) = xs.take i.toNat := by
  unfold cutD
  rw [HT.sIx_none, sIx_int h]
  show xs.take (min i.toNat xs.length - 0) = _
  rw [Nat.sub_zero]
  rcases Nat.le_total i.toNat xs.length with z | z
  · rw [Nat.min_eq_left z]
  · rw [Nat.min_eq_right z, List.take_of_length_le (Nat.le_refl _), List.take_of_length_le z]
theorem cut_from {xs : List D} {i : Int} (h : 0 ≤ i) : cutD xs (some i) none = xs.drop i.toNat := by
  unfold cutD
  rw [HT.sIx_none, sIx_int h]
  rcases Nat.le_total i.toNat xs.length with z | z
  · rw [Nat.min_eq_left z, List.take_of_length_le (by rw [List.length_drop]; omega)]
  · rw [Nat.min_eq_right z, List.drop_eq_nil_of_le (Nat.le_refl _), List.drop_eq_nil_of_le z, List.take_nil]
theorem cut_mid {xs : List D} {i j : Int} (h : 0 ≤ i) (h' : 0 ≤ j) : cutD xs (some i) (some j) = (xs.take j.toNat).drop i.toNat := by
  unfold cutD
  rw [sIx_int h, sIx_int h', List.drop_take]
  rcases Nat.le_total i.toNat xs.length with z | z
  · rw [Nat.min_eq_left z]
    rcases Nat.le_total j.toNat xs.length with y | y
    · rw [Nat.min_eq_left y]
    · rw [Nat.min_eq_right y, List.take_of_length_le (by rw [List.length_drop]; omega), List.take_of_length_le (by rw [List.length_drop]; omega)]
  · rw [Nat.min_eq_right z, List.drop_eq_nil_of_le (Nat.le_refl _), List.drop_eq_nil_of_le z, List.take_nil, List.take_nil]
end
end DL
set_option Elab.async false
set_option linter.all false
set_option maxRecDepth 100000
namespace DL
open PySem PySem.Spec PyProof.Rows L2
/-- a def that nobody calls at this height -/
theorem no_ok {P : Program} {w : World} {K : PySem.W.Frag} {mg : Str → Option Value} {base : Heap} {x qual : Str} {st : Stmt} {f : Addr} {fd : FuncData} {N ps : List Str} {k : Nat} (F : Fun K x qual st f fd) (Sc : FnScope N ps (defScope st)) : FnOk P w K mg base CX0 (k + 1) f fd ps (spL K fun _ _ => False) :=
  F.ok Sc (fun vs H Q E ⟨_, _, _, h, _⟩ => h.elim) (fun cdv A outer s H vs Q E hr ⟨_, _, _, h, _⟩ => h.elim)
/-- the end of a law: the law's def keeps the promise spLaw-like on every script -/
theorem law_walk {l : PySem.W.OpenLaw} {n k : Nat} {q : Program} {loose : List Str} {XP : (Str → Option Value) → Heap → Prop} {YP : World → Heap → Prop} {d : DefRec} {KK : Params → PySem.W.Frag} {sp : SpD} {x : Str} (hm : l.most = some n) (hl : n ≤ sizeLine) (hdf : d.params.defaults = []) (rm : Room k callerA) (hY : ∀ (w : World) (h : Heap), YP w h → (KK w.params).In h)
    (F : ∀ (w : World) (mg : Str → Option Value) (fa : Addr) (h : Heap), (KK w.params).In h → h.Ns mainGlobals mg → mg d.name = some (.ref fa) → ∃ fd : FuncData, (∀ (s : Shared) (u : Value), BindsTo s fd ⟨[u], []⟩ [(x, u)]) ∧ ∀ base : Heap, (KK w.params).In base → base.Ns mainGlobals mg → FnOk l.prog w (KK w.params) mg base L2.CX0 k fa fd [x] (spL (KK w.params) sp))
    (hsp : ∀ (ns : List Int) (Q : D → List S → Prop), ns.length ≤ n → (∀ z ∈ ns, Builtin.Int.intBits z ≤ 1048576) → Q (.bool true) [] → sp [.d (.list (ns.map PyData.int))] Q) :
    PySem.W.WalkO q loose XP YP l.row.toRowW d [] (fun f vs => PySem.call f vs) := by
  refine Att.attach_callB hm hdf fun w s₀ s₁ mg mb fa o pm cd doc a vs ns G Y ho hd hcd hmg hobj hints hlen hbits hg => ?_
  have KX := hY w _ Y
  obtain ⟨fd, hb, hF⟩ := F w mg fa _ KX G.T.g hmg
  refine law_call KX G.T.g G.T.b G.T.builtins G.T.nolimit hg hobj hints (Nat.le_trans hlen hl) rm hF hb (fun H hO hS => ?_) (fun H e s' h => h)
  have hF : LsF (KK w.params) H a (ns.map V.int) := by
    rcases hS with (z | z) | ⟨ob, its, m, e, hc, hdd, hdt, hz, r⟩
    · rcases hO a with y | ⟨ob, xs, y⟩
      · rw [z] at y; cases y
      · rw [z] at y; cases y
    · exact .inl z
    · have e2 := KX _ _ e
      rw [hobj] at e2
      cases e2
      cases hdt
      exact .inr ⟨_, _, e, hz, r⟩
  refine ⟨[.d (.list (ns.map PyData.int))], [], fun d outs => d = .bool true, hsp ns _ hlen hbits rfl, .d (.lst hF (RpL.ofInts ns)) .nil, List.nodup_nil, fun d outs v H' h _ _ r => ?_⟩
  subst h
  cases r
  rfl
end DL
set_option Elab.async false
set_option linter.all false
set_option maxRecDepth 100000
set_option maxHeartbeats 3200000
/-! DL13: set(xs) of a list of ints, sorted(set(xs)), len(set(xs)). -/
namespace DL
open PySem PySem.Spec PyProof.Rows L2
end DL
namespace DL
open PySem PySem.Spec PyProof.Rows L2
section
variable {X : Cx} {G : Gh} {a : Expr} {pos p p1 p2 p3 : Pos}
/-- sorted(set(xs)), xs a list of fewer than 64 ints -/
def tSortSet (ta : TD) : TLd := fun E Q => ta E fun x E1 => match x with
  | .list xs => ∃ ns : List Int, xs = ns.map PyData.int ∧ ns.length < 64 ∧ ∀ zs : List Int, zs.Pairwise (· < ·) → (∀ k, k ∈ zs ↔ k ∈ ns) → Q (zs.map PyData.int) E1
  | _ => False
/-- len(set(xs)) -/
def tLenSet (ta : TD) : TD := fun E Q => ta E fun x E1 => match x with
  | .list xs => ∃ ns : List Int, xs = ns.map PyData.int ∧ ns.Nodup ∧ ns.length ≤ 4000 ∧ Q (.int (ns.length : Nat)) E1
  | _ => False
end
end DL
set_option Elab.async false
set_option linter.all false
set_option maxRecDepth 100000
/-! DL14: plain laws of data: shaped, == of encoded lists. -/
namespace DL
open PySem PySem.Spec PyProof.Rows L2
/-- n lists or tuples deep at most, no dict -/
def shOk : Nat → D → Bool
  | _, .none => true
  | _, .bool _ => true
  | _, .int _ => true
  | _, .str x => PyData.strOk x
  | n + 1, .tuple ds => ds.all (shOk n)
  | n + 1, .list ds => ds.all (shOk n)
  | _, _ => false
theorem shOk_all {n : Nat} (ih : ∀ d, shOk n d = true → d.canLay0 = true ∧ d.depth ≤ n) : ∀ ds : List D, ds.all (shOk n) = true → PyData.canLayAll0 ds = true ∧ PyData.depthAll ds ≤ n
  | [], _ => ⟨rfl, Nat.zero_le _⟩
  | d :: ds, h => by
    rw [List.all_cons, Bool.and_eq_true] at h
    have ⟨a, b⟩ := ih d h.1
    have ⟨c, e⟩ := shOk_all ih ds h.2
    exact ⟨by rw [PyData.canLayAll0, a, c]; rfl, by rw [PyData.depthAll]; omega⟩
theorem shOk_spec : ∀ (n : Nat) (d : D), shOk n d = true → d.canLay0 = true ∧ d.depth ≤ n
  | n, .none, _ => ⟨rfl, Nat.zero_le _⟩
  | n, .bool _, _ => ⟨rfl, Nat.zero_le _⟩
  | n, .int _, _ => ⟨rfl, Nat.zero_le _⟩
  | n, .str x, h => ⟨by cases n <;> exact h, Nat.zero_le _⟩
  | n + 1, .tuple ds, h => by
    have ⟨a, b⟩ := shOk_all (shOk_spec n) ds h
    exact ⟨by rw [PyData.canLay0]; exact a, by rw [PyData.depth]; omega⟩
  | n + 1, .list ds, h => by
    have ⟨a, b⟩ := shOk_all (shOk_spec n) ds h
    exact ⟨by rw [PyData.canLay0]; exact a, by rw [PyData.depth]; omega⟩
  | 0, .tuple _, h => by cases h
  | 0, .list _, h => by cases h
  | 0, .dict _, h => by cases h
  | n + 1, .dict _, h => by cases h
theorem shaped_of {n : Nat} {d : D} (h : shOk n d = true) (hn : n ≤ 64 := by decide) : SeqAt.shaped d = true := by
  have ⟨a, b⟩ := shOk_spec n d h
  show (d.canLay0 && decide (d.depth ≤ 64)) = true
  rw [a, decide_eq_true (show d.depth ≤ 64 by omega)]; rfl
theorem shOk_lst {n : Nat} {ds : List D} : shOk (n + 1) (.list ds) = ds.all (shOk n) := rfl
theorem shOk_tup {n : Nat} {ds : List D} : shOk (n + 1) (.tuple ds) = ds.all (shOk n) := rfl
theorem all_enc {α : Type} {n : Nat} {e : α → D} (he : ∀ a, shOk n (e a) = true) (xs : List α) : (xs.map e).all (shOk n) = true := by
  rw [List.all_map]; exact List.all_eq_true.mpr fun a _ => he a
theorem eqvAll_enc {α : Type} [DecidableEq α] {e : α → D} (he : ∀ a b, PyData.eqv (e a) (e b) = decide (a = b)) : ∀ xs ys : List α, PyData.eqvAll (xs.map e) (ys.map e) = decide (xs = ys)
  | [], [] => rfl
  | [], _ :: _ => rfl
  | _ :: _, [] => rfl
  | x :: xs, y :: ys => by
    rw [List.map_cons, List.map_cons, PyData.eqvAll, he, eqvAll_enc he xs ys]
    by_cases h1 : x = y <;> by_cases h2 : xs = ys <;> simp [h1, h2]
end DL
set_option Elab.async false
set_option linter.all false
set_option maxRecDepth 100000
set_option maxHeartbeats 1000000
/-! DL15: sorted(xs), sorted(xs, reverse=b): lists and tuples of any data that is alike. -/
namespace DL
open PySem PySem.Spec PyProof.Rows L2
section
variable {prog : Program} {w : World} {A : Around} {E : Value → Shared → Prop} {s : Shared} {β : Type} {vs : List Value} {bs : List β} {enc : β → PyData} {R : Value → β → Prop}
/-- what is made of a list's or a tuple's items: a new list, in the very next place -/
theorem collect_one {l : Addr} {T : String} {o : Obj} {n : Nat} {Q : List Value → Shared → Prop} (hT : T = "list" ∨ T = "tuple") (ho : s.heap.get? l = some o) (hc : o.cls = .type T) (hd : o.data = .seq vs.toArray n) (small : vs.length ≤ sizeLine)
    (fin : Q vs { s with heap := (s.heap.push (seqObj "list" #[] 0)).update s.heap.objs.size (Obj.mapSeq (· ++ vs.toArray)) }) : wpAny (model prog w) A (collect (.ref l)) Q E s := by
  have new : (s.heap.push (seqObj "list" #[] 0)).get? s.heap.objs.size = some (seqObj "list" #[] 0) := Heap.get?_push_size _ rfl
  have was : (s.heap.push (seqObj "list" #[] 0)).get? l = some o := Heap.get?_push_of_some _ ho
  unfold collect; refine wpAny_bind (wpAny_runValue (codeAny_builtin entry_proto_collect' ?_))
  show wpAny _ _ (do again (.builtin "list.__iadd__" ⟨[← newList [], Value.ref l], []⟩)) _ _ s
  refine wpAny_bind (wpAny_newList (wpAny_pure ⟨Code.quiet_builtin _ (by decide +kernel), codeAny_builtin entry_list_iadd' ?_⟩) (Nat.zero_le _))
  show wpAny _ _ (Builtin.List.listExtendWith (Value.ref s.heap.objs.size) (Value.ref l) (Value.ref s.heap.objs.size)) _ _ { s with heap := s.heap.push (seqObj "list" #[] 0) }
  unfold Builtin.List.listExtendWith; refine wpAny_bind (wpAny_typeOf (T := T) ⟨o, was, hc⟩ ?_)
  rw [if_pos (by rcases hT with rfl | rfl; · rw [show (Value.type "list" == Value.type "list") = true from rfl, Bool.or_true, Bool.true_or]
                 · rw [show (Value.type "tuple" == Value.type "tuple") = true from rfl, Bool.or_true])]; refine wpAny_bind (listItems_at was hd ?_); refine wpAny_bind (listItems_at (xs := #[]) (n := 0) new rfl ?_)
  rw [if_neg (by simp)]
  refine wpAny_bind (listUpdate_at (xs := #[]) (n := 0) new rfl ?_ (Nat.zero_le _) (by show (#[] ++ vs.toArray).size ≤ sizeLine + 1; simp only [Array.size_append, List.size_toArray, List.length_nil]; omega)); refine wpAny_pure ?_
  show wpAny (model prog w) A (do
      let ob ← load s.heap.objs.size
      match ob.data with | .seq xs _ => pure xs.toList | _ => unsupported "internal:collect") Q E { s with heap := (s.heap.push (seqObj "list" #[] 0)).update s.heap.objs.size (Obj.mapSeq (· ++ vs.toArray)) }
  refine wpAny_bind (wpAny_load (get?_update_seq new _) ?_); show wpAny _ _ (pure ((#[] : Array Value) ++ vs.toArray).toList) Q E _
  have e0 : ((#[] : Array Value) ++ vs.toArray).toList = vs := by simp
  rw [e0]; exact wpAny_pure fin
theorem sorted_seqD {l : Addr} {T : String} {o : Obj} {n : Nat} {rv : Bool} {kw : List (Str × Value)} {Q : Value → Shared → Prop} (hT : T = "list" ∨ T = "tuple") (ho : s.heap.get? l = some o) (hc : o.cls = .type T) (hd : o.data = .seq vs.toArray n)
    (hkw : ∀ p, Builtin.«list.sort» ⟨[.ref p], kw⟩ = Builtin.«list.sort» ⟨[.ref p], [(Str.ofString "reverse", .bool rv)]⟩) (ok1 : argsOk "sorted" ⟨[.ref l], kw⟩) (ok2 : ∀ x, argsOk "list.sort" ⟨[.ref x], kw⟩)
    (e : PySem.W.EachIs R vs bs) (er : PySem.W.EachIs (fun v b => ∃ as, Reads s.heap v (enc b) as) vs bs) (hal : PySem.W.AllAlike (bs.map enc)) (hk : PySem.W.Sortable (bs.map enc)) (hL : vs.length ≤ sizeLine) (hu : ∀ b, b ∈ bs → A.units + 2 + (enc b).depth < cLine)
    (h : ∀ h' p out c, (∀ b o, s.heap.get? b = some o → h'.get? b = some o) → s.heap.objs.size ≤ p → h'.get? p = some { cls := .type "list", data := .seq (List.toArray out) c } → PySem.W.EachIs R out (bs.mergeSort (PySem.W.dataLe rv enc)) → Q (.ref p) { s with heap := h' }) :
    wpAny (model prog w) A (call (.builtin "sorted") [.ref l] kw) Q E s := by
  refine call_function_entry_kw kind_sorted plain_sorted entry_sorted ok1 ?_
  unfold Builtin.«sorted»
  refine wpAny_bind (m := checkCount "sorted" 1 1 _) (wpAny_pure ?_)
  refine wpAny_bind (collect_one hT ho hc hd hL ?_)
  generalize hh1 : (s.heap.push (seqObj "list" #[] 0)).update s.heap.objs.size (Obj.mapSeq (· ++ vs.toArray)) = h1
  have le1 : s.heap.objs.size ≤ h1.objs.size := by rw [← hh1, Heap.size_update, size_push']; exact Nat.le_succ _
  have k1 : ∀ b u, s.heap.get? b = some u → h1.get? b = some u := fun b u q => by
    rw [← hh1, Heap.get?_update_ne _ _ _ _ (Nat.ne_of_lt (Heap.lt_size q))]; exact Heap.get?_push_of_some _ q
  refine wpAny_bind (wpAny_newList ?_ hL)
  have hp : (h1.push (seqObj "list" vs.toArray 0)).get? h1.objs.size = some (seqObj "list" vs.toArray 0) := Heap.get?_push_size _ rfl
  have old : ∀ b u, s.heap.get? b = some u → b ≠ h1.objs.size ∧ (h1.push (seqObj "list" vs.toArray 0)).get? b = some u := fun b u q => ⟨Nat.ne_of_lt (Heap.lt_size (k1 b u q)), Heap.get?_push_of_some _ (k1 b u q)⟩
  refine wpAny_bind (wpAny_holding (wpAny_call_entry_kw slot_list_sort ⟨_, hp, rfl⟩ entry_list_sort ?body (ok2 _)))
  case body =>
    have er' : PySem.W.EachIs (fun v b => ∃ as, Reads (PySem.W.sortingHeap (h1.push (seqObj "list" vs.toArray 0)) h1.objs.size vs) v (enc b) as) vs bs := er.mono fun _ _ ⟨as, r⟩ => ⟨as, PyProof.Rows.Reads.keeps (fun b u q => PySem.W.sortingHeap_old (old b u q).1 (old b u q).2) r⟩
    show wpAny (model prog w) A.in1.in1 (Builtin.«list.sort» ⟨[.ref h1.objs.size], kw⟩) _ _ _
    rw [hkw]
    refine PySem.W.list_sort_rev_vals (κ := PySem.W.dataKind (PySem.W.sortingHeap (h1.push (seqObj "list" vs.toArray 0)) h1.objs.size vs) (bs.map enc)) hp (PySem.W.SortsAt.data (s := { s with heap := PySem.W.sortingHeap (h1.push (seqObj "list" vs.toArray 0)) h1.objs.size vs }) (PySem.W.each_map (R := fun v d => ∃ as, Reads (PySem.W.sortingHeap (h1.push (seqObj "list" vs.toArray 0)) h1.objs.size vs) v d as) enc er') hal hk (PySem.W.bound_map hu)) hL ⟨_, rfl, wpAny_pure ⟨_, rfl, ?_⟩⟩
    obtain ⟨c, hc2⟩ := sortedHeap_at (vs := vs) (out := (PySem.W.sortVals (PySem.W.dataKind (PySem.W.sortingHeap (h1.push (seqObj "list" vs.toArray 0)) h1.objs.size vs) (bs.map enc)) rv vs vs).toArray) hp
    refine h _ _ _ c (fun b u q => ?_) le1 hc2 (PySem.W.sortVals_data rv e er' hal)
    rw [sortedHeap_old (old b u q).1 (Heap.lt_size (old b u q).2)]
    exact (old b u q).2
end
section
variable {X : Cx} {G : Gh}
theorem each_pairs {K : PySem.W.Frag} {H : Hp} : ∀ {ds : List D} {us : List V} {vs : List Value}, RpL K H ds us → Vals us vs → PySem.W.EachIs (fun v (b : V × D) => RelV b.1 v) vs (us.zip ds)
  | _, _, _, .nil, .nil => .nil
  | _, _, _, .cons _ l, .cons r t => .cons r (each_pairs l t)
theorem each_reads {pins : List (Addr × Obj)} {s : Shared} {σ : St} {H : Hp} (I : Inv X pins σ H s) : ∀ {ds : List D} {us : List V} {vs : List Value}, (∀ d ∈ ds, d.canLay0 = true) → RpL X.K H ds us → Vals us vs → PySem.W.EachIs (fun v (b : V × D) => ∃ as, Reads s.heap v b.2 as) vs (us.zip ds)
  | _, _, _, _, .nil, .nil => .nil
  | _, _, _, z, .cons h l, .cons r t => .cons (Dp.reads I _ _ _ (h.dp (z _ (List.mem_cons_self ..))) r) (each_reads I (fun d hd => z d (List.mem_cons_of_mem _ hd)) l t)
theorem each_vals : ∀ {bs : List (V × D)} {vs : List Value}, PySem.W.EachIs (fun v (b : V × D) => RelV b.1 v) vs bs → Vals (bs.map (·.1)) vs
  | _, _, .nil => .nil
  | _, _, .cons r t => .cons r (each_vals t)
theorem zip_rp {K : PySem.W.Frag} {H : Hp} : ∀ {ds : List D} {us : List V}, RpL K H ds us → ∀ b ∈ us.zip ds, Rp K H b.2 b.1
  | _, _, .nil, b, hb => by simp at hb
  | _, _, .cons r l, b, hb => by
    rw [List.zip_cons_cons] at hb
    rcases List.mem_cons.mp hb with e | e
    · subst e; exact r
    · exact zip_rp l b e
theorem rp_zip {K : PySem.W.Frag} {H : Hp} : ∀ {bs : List (V × D)}, (∀ b ∈ bs, Rp K H b.2 b.1) → RpL K H (bs.map (·.2)) (bs.map (·.1))
  | [], _ => .nil
  | b :: bs, h => .cons (h b List.mem_cons_self) (rp_zip fun c hc => h c (List.mem_cons_of_mem _ hc))
theorem zip_snd2 {K : PySem.W.Frag} {H : Hp} {ds : List D} {us : List V} (l : RpL K H ds us) : (us.zip ds).map (·.2) = ds := by
  have := l.length
  rw [List.map_snd_zip (by omega)]
theorem le_snd (rv : Bool) : ∀ a b : V × D, PySem.W.dataLe rv (fun b : V × D => b.2) a b = PySem.W.dataLe rv (fun d : D => d) a.2 b.2 := fun _ _ => rfl
/-- sorted: the data in order -/
def sortD (rv : Bool) (xs : List D) : List D := xs.mergeSort (PySem.W.dataLe rv fun d : D => d)
def sortOk (xs : List D) : Prop := PySem.W.AllAlike xs ∧ PySem.W.Sortable xs ∧ ∀ d ∈ xs, d.depth ≤ 60 ∧ d.canLay0 = true
theorem sorted_run {rv : Bool} {kw : List (Str × Value)} (hu : X.A.units + 65 < cLine) {pins : List (Addr × Obj)} {s : Shared} {σ : St} {H : Hp} {a : Addr} {us : List V} {ds : List D} {Q : VK} (I : Inv X pins σ H s)
    (hs : SqL X.K H a us ∨ SqT X.K H a us) (l : RpL X.K H ds us) (ok : sortOk ds)
    (hkw : ∀ p, Builtin.«list.sort» ⟨[.ref p], kw⟩ = Builtin.«list.sort» ⟨[.ref p], [(Str.ofString "reverse", .bool rv)]⟩) (ok1 : argsOk "sorted" ⟨[.ref a], kw⟩) (ok2 : ∀ x, argsOk "list.sort" ⟨[.ref x], kw⟩)
    (q : ∀ ws p, H p = none → RpL X.K H (sortD rv ds) ws → Q (.ref p) (upd H p (.lst ws))) : wpAny (model X.prog X.w) X.A (call (.builtin "sorted") [.ref a] kw) (EP X pins σ Q) X.xe s := by
  obtain ⟨T, o, n, its, hT, ho, hc, hd, r, hz⟩ : ∃ (T : String) (o : Obj) (n : Nat) (its : List Value), (T = "list" ∨ T = "tuple") ∧ s.heap.get? a = some o ∧ o.cls = .type T ∧ o.data = .seq its.toArray n ∧ Vals us its ∧ us.length ≤ sizeLine := by
    rcases hs with hs | hs
    · obtain ⟨its, r, ⟨o, n, ho, hc, _, hd⟩, hz⟩ := I.list hs
      exact ⟨"list", o, n, its, .inl rfl, ho, hc, hd, r, hz⟩
    · obtain ⟨its, r, ⟨o, ho, hc, n, hd⟩, hz⟩ := I.tuple hs
      exact ⟨"tuple", o, n, its, .inr rfl, ho, hc, hd, r, hz⟩
  have e2 := zip_snd2 l
  refine sorted_seqD (enc := fun b : V × D => b.2) (R := fun v b => RelV b.1 v) (bs := us.zip ds) hT ho hc hd hkw ok1 ok2 (each_pairs l r) (each_reads I (fun d hd => (ok.2.2 d hd).2) l r) (by rw [e2]; exact ok.1) (by rw [e2]; exact ok.2.1) (by rw [← r.length]; exact hz) (fun b hb => ?_) fun h' p out c k1 hp hp2 eo => ?_
  · have := (ok.2.2 b.2 (by rw [← e2]; exact List.mem_map_of_mem hb)).1; omega
  · have rv1 := each_vals eo
    have hn : H p = none := I.hok.fresh hp
    have mem : ∀ b ∈ (us.zip ds).mergeSort (PySem.W.dataLe rv fun b : V × D => b.2), Rp X.K H b.2 b.1 := fun b hb => zip_rp l b ((List.mergeSort_perm _ _).mem_iff.mp hb)
    have e3 : ((us.zip ds).mergeSort (PySem.W.dataLe rv fun b : V × D => b.2)).map (·.2) = sortD rv ds := by
      unfold sortD
      rw [PySem.W.sort_maps (s := PySem.W.dataLe rv fun d : D => d) (fun b : V × D => b.2) (fun a _ b _ => le_snd rv a b), e2]
    have hr := rp_zip mem
    rw [e3] at hr
    have hlen : (((us.zip ds).mergeSort (PySem.W.dataLe rv fun b : V × D => b.2)).map (·.1)).length ≤ sizeLine := by
      rw [List.length_map, (List.mergeSort_perm _ _).length_eq, List.length_zip]; omega
    exact ⟨.ref p, upd H p (.lst _), I.laid (t' := s.toks) k1 hp ⟨hlen, out, c, rv1, hp2⟩, rfl, q _ p hn hr⟩
def caSorted : CaL := fun ds Q => match ds with
  | [.list xs] => sortOk xs ∧ Q (sortD false xs)
  | [.tuple xs] => sortOk xs ∧ Q (sortD false xs)
  | _ => False
theorem cr_sortedD (hu : X.A.units + 65 < cLine) : CallR X (.builtin "sorted") (fun vs H Q => ∃ (a : Addr) (us : List V) (ds : List D), vs = [.ref a] ∧ (SqL X.K H a us ∨ SqT X.K H a us) ∧ RpL X.K H ds us ∧ sortOk ds ∧ ∀ ws p, H p = none → RpL X.K H (sortD false ds) ws → Q (.ref p) (upd H p (.lst ws))) := by
  intro pins s σ H vs us Q I r h
  obtain ⟨a, ws, ds, rfl, hs, l, ok, q⟩ := h
  obtain rfl := Vals.ref1 r
  exact DL.sorted_run hu I hs l ok (fun p => PySem.W.plain_is_rev p) (args_sorted1 _) (fun _ => args_list_sort _) q
theorem cd_sorted (hu : X.A.units + 65 < cLine) : CaLD X (.builtin "sorted") caSorted := ⟨_, cr_sortedD hu, fun ds vs H QD Q hd q k => by
  match ds, q, hd with
  | [.list xs], q, hd =>
    obtain ⟨v, rfl, h⟩ := hd.one
    obtain ⟨a, us, rfl, hs, l⟩ := h.list
    exact ⟨a, us, xs, rfl, .inl hs, l, q.1, fun ws p hp hr => k _ _ _ q.2 hp hr⟩
  | [.tuple xs], q, hd =>
    obtain ⟨v, rfl, h⟩ := hd.one
    obtain ⟨a, us, rfl, hs, l⟩ := h.tuple
    exact ⟨a, us, xs, rfl, .inr hs, l, q.1, fun ws p hp hr => k _ _ _ q.2 hp hr⟩⟩
end
end DL
set_option Elab.async false
set_option linter.all false
set_option maxRecDepth 100000
set_option maxHeartbeats 1000000
/-! DL16: enumerate(t) of a tuple; count, index. -/
namespace DL
open PySem PySem.Spec PyProof.Rows L2 AutoSeq1
section
theorem meets_enumT (l : Addr) (items : Array Value) (n : Nat) (dct : Option Addr) (sl : Array (Option Value)) :
    Meets (Builtin.«enumerate.__new__» ⟨[.type "enumerate", .ref l], []⟩) (fun _ R s => s.heap.get? l = some { cls := .type "tuple", dict := dct, data := .seq items n, slots := sl } ∧
      R (.ok (.ret (.ref (s.heap.push { cls := .type "tuple_iterator", data := .fields #[.ref l, .int 0 0] }).objs.size)))
        { s with heap := (s.heap.push { cls := .type "tuple_iterator", data := .fields #[.ref l, .int 0 0] }).push { cls := .type "enumerate", data := .fields #[.none, .bool false, .ref s.heap.objs.size, rawInt 0, .none, .none] } }) :=
  .of_wp fun prog w A R s h => by
    obtain ⟨hp, g, d, tk, os⟩ := s; obtain ⟨hl, h⟩ := h
    have subE := sub_enumerate; have isT : Heap.IsTuple (Shared.heap ⟨hp, g, d, tk, os⟩) l items := ⟨_, hl, rfl, n, rfl⟩
    wp_walk using wpAny_loadPart' hl
    refine wpAny_stack_any fun st => wpAny_pure ?_
    split
    · rename_i c _ _ _ _ _
      cases (c == Value.type "enumerate") <;> (wp_walk using wpAny_loadPart' hl, wpAny_pyIter_tuple isT; exact ⟨_, rfl, h⟩)
    · wp_walk using wpAny_loadPart' hl, wpAny_pyIter_tuple isT; exact ⟨_, rfl, h⟩
variable {prog : Program} {w : World} {A : Around} {E : Value → Shared → Prop} {s : Shared}
theorem call_enumT {l : Addr} {items : Array Value} {Q : Value → Shared → Prop} (hL : s.heap.IsTuple l items)
    (fin : ∀ h', IsEnum h' (s.heap.objs.size + 1) s.heap.objs.size 0 .none → h'.IsTupleIter s.heap.objs.size l 0 → (∀ b o, s.heap.get? b = some o → h'.get? b = some o) → Q (.ref (s.heap.objs.size + 1)) { s with heap := h' }) :
    wpAny (model prog w) A (call (.type "enumerate") [.ref l]) Q E s := by
  obtain ⟨⟨c, dct, dt, sl⟩, hl, hc, n, hd⟩ := hL
  obtain rfl : c = .type "tuple" := hc
  obtain rfl : dt = .seq items n := hd
  refine callType_new F.called_enumerate (by decide) (F.typeCall_enumerate_1 _) (F.newCall_enumerate_1 _) (fun obj => F.args_object_init_2 obj _) F.entry_enumerate_new (meets_enumT l items n dct sl) ⟨hl, ?_⟩
  have z1 : (s.heap.push { cls := .type "tuple_iterator", data := .fields #[.ref l, .int 0 0] }).objs.size = s.heap.objs.size + 1 := Heap.size_push ..
  show _ ∧ _
  rw [z1]
  have is : IsEnum ((s.heap.push { cls := .type "tuple_iterator", data := .fields #[.ref l, .int 0 0] }).push { cls := .type "enumerate", data := .fields #[.none, .bool false, .ref s.heap.objs.size, rawInt 0, .none, .none] }) (s.heap.objs.size + 1) s.heap.objs.size 0 .none := by
    have q := Heap.get?_push_size (s.heap.push { cls := .type "tuple_iterator", data := .fields #[.ref l, .int 0 0] }) (o := { cls := .type "enumerate", data := .fields #[.none, .bool false, .ref s.heap.objs.size, rawInt 0, .none, .none] }) rfl
    rw [z1] at q; exact q
  exact ⟨⟨_, is, rfl⟩, fin _ is ⟨_, Heap.get?_push_of_some _ (Heap.get?_push_size _ rfl), rfl, rfl⟩ fun b o x => Heap.get?_push_of_some _ (Heap.get?_push_of_some _ x)⟩
end
/-- the tuple at a, each item in a new pair with its number -/
def IteT (K : PySem.W.Frag) (a : Addr) : It :=
  ⟨fun i H => ∃ (xs : List V) (x : V), SqT K H a xs ∧ xs[i]? = some x, fun i H v H' => ∃ T x, v = .ref T ∧ H T = none ∧ H' = upd H T (.tup [.int (i : Nat), x]) ∧ ∀ xs, SqT K H a xs → xs[i]? = some x, fun i H => ∃ xs : List V, SqT K H a xs ∧ xs.length = i⟩
theorem turn_enumT {P : Program} {w : World} {K : PySem.W.Frag} {elts : List Expr} {kk : Nat} {tpos : Pos} (a e it : Addr) :
    Turn P w K (.Tuple elts kk tpos) (IteT K a) [e, it] e (fun i h => (∃ old, IsEnum h e it ((i : Nat) : Int) old) ∧ h.IsTupleIter it a i ∧ e ≠ it ∧ a ≠ it ∧ a ≠ e) where
  mem := by simp
  obj := fun i h st b hb => by
    obtain ⟨⟨old, he⟩, ⟨o, ho, hc, hd⟩, _⟩ := st
    rcases (show b = e ∨ b = it by simpa using hb) with z | z
    · rw [z]; exact ⟨_, he, fun v q => nomatch q⟩
    · rw [z]; exact ⟨o, ho, fun v q => by rw [hd] at q; cases q⟩
  keep := fun i h h' st k => let ⟨⟨old, he⟩, hi, hne⟩ := st; ⟨⟨old, k e (by simp) _ he⟩, hi.at fun o q => k it (by simp) o q, hne⟩
  item := by
    intro X hP hw hK hc i pins s σ H E I hf st hg
    subst hP hw hK
    obtain ⟨⟨old, he⟩, hit, hne, hai, hae⟩ := st
    obtain ⟨xs, x, hq, hx⟩ := hg
    obtain ⟨its, rv, p, hz⟩ := I.tuple hq
    obtain ⟨u, hu, ru⟩ := rv.get hx
    have hel : e < s.heap.objs.size := Heap.lt_size he
    have hil : it < s.heap.objs.size := by obtain ⟨_, q, _⟩ := hit; exact Heap.lt_size q
    have lt : i < its.toArray.size := by simpa using (List.getElem?_eq_some_iff.mp hu).1
    have nf : e ∉ [it, a] := by simp; exact ⟨hne, Ne.symm hae⟩
    refine wpAny_pyNext_enum_itemD (Draws.tuple (A := X.A.in1) (I.ok.hd hc) it a hai its.toArray) he ⟨hit, p⟩ lt hne nf fun u2 h' tk hP2 ho hit' hT hsz hk => ?_
    obtain rfl : u2 = u := by
      have : its[i]? = some u2 := by simpa using hP2
      rw [hu] at this; exact (Option.some.inj this).symm
    refine ⟨_, rfl, wpAny_letOwnedTupleGo_enum (s := { s with heap := h', toks := tk + 1 }) ho fun h'' he' sb => ?_⟩
    have hT2 : h''.get? s.heap.objs.size = some { cls := .type "tuple", data := .seq #[.int i tk, u2] } := (sb.2 _ (Nat.ne_of_gt hel)).trans hT
    have new : ObjOk X.prog X.w (upd H s.heap.objs.size (.tup [.int (i : Nat), x])) h'' s.heap.objs.size (.tup [.int (i : Nat), x]) := ⟨by show 2 ≤ sizeLine; decide, [.int i tk, u2], .cons ⟨_, rfl⟩ (.cons ru .nil), ⟨_, hT2, rfl, _, rfl⟩⟩
    have I1 : Inv X pins σ (upd H s.heap.objs.size (.tup [.int (i : Nat), x])) { s with heap := h'', toks := tk + 1 } :=
      I.turnedNew (ch := [e, it]) (fun b ob hb q => (sb.2 b (fun z => hb (by simp [z]))).trans (hk b ob (fun z => hb (by simp [z])) (fun z => hb (by simp [z])) q)) hf (Nat.le_refl _) new
    refine ⟨.ref s.heap.objs.size, _, I1, rfl, ⟨_, x, rfl, I.hok.fresh (Nat.le_refl _), rfl, fun ys hy => by rw [I.tuple_inj hy hq]; exact hx⟩, ⟨⟨u2, ?_⟩, hit'.1.at fun o q => (sb.2 it (Ne.symm hne)).trans q, hne, hai, hae⟩, fun b hb => ?_⟩
    · rw [show ((i + 1 : Nat) : Int) = (i : Int) + 1 by omega]; exact he'
    · have hb' : b < s.heap.objs.size := by rcases (show b = e ∨ b = it by simpa using hb) with z | z <;> rw [z] <;> assumption
      rw [upd_ne (Nat.ne_of_lt hb')]; exact (hf b hb).1
  done := by
    intro X hP hw hK hc i pins s σ H E I hf st hg
    subst hP hw hK
    obtain ⟨⟨old, he⟩, hit, hne, hai, hae⟩ := st
    obtain ⟨xs, hq, hx⟩ := hg
    obtain ⟨its, rv, p, hz⟩ := I.tuple hq
    obtain ⟨f0, f1, f2, f3, f4, f5⟩ := hf it (by simp)
    have hl := rv.length
    subst hx
    have hit2 : s.heap.IsTupleIter it a its.toArray.size := by rw [List.size_toArray, ← hl]; exact hit
    exact wpAny_pyNext_enum_endD (Draws.tuple (A := X.A.in1) (I.ok.hd hc) it a hai its.toArray) he ⟨hit2, p⟩ fun h' eb => ⟨rfl, I.turned (t' := s.toks) (fun b o hb q => eb b o hb q) f0 f1 f3 f4 f5⟩
  self := fun A i s Q E st h => let ⟨⟨_, he⟩, _⟩ := st; wpAny_pyIter_enum he h
section
variable {X : Cx} {G : Gh} {e : Expr} {p pos tpos : Pos} {elts : List Expr} {kk : Nat}
theorem pi_enumT {ta : TA} (hg : Gl X "enumerate") (hm : X.mg "enumerate" = none) (ha : PA X [e] ta) (hs : starEach [e] X.env = [(false, eval e X.env)] := by rfl) :
    PI X (.Tuple elts kk tpos) (.Call (.Name "enumerate" p) [e] [] pos) (fun σ H R => ta σ H fun vs H1 => ∃ a xs, vs = [.ref a] ∧ SqT X.K H1 a xs ∧ R (IteT X.K a) H1) := by
  refine ⟨fun pins s σ H R I h => Call_ (ld_blt I hg hm boot_enumerate (PyProof.Rows.callWith_type1 (thn (ha.run pos pins s σ H _ I h) fun us s1 ⟨vs, H1, I1, r1, q1⟩ => ?_) hs rfl))⟩
  obtain ⟨a, xs, rfl, hq, q⟩ := q1
  obtain rfl := Vals.ref1 r1
  obtain ⟨its, rv, pt, hz⟩ := I1.tuple hq
  have lta : a < s1.heap.objs.size := by obtain ⟨o, ho, _⟩ := pt; exact Heap.lt_size ho
  refine call_enumT pt fun h' he hit hk => wpAny_pyIter_enum he ?_
  have I2 : Inv X pins σ H1 { s1 with heap := h' } := I1.kept (t' := s1.toks) hk
  refine ⟨s1.heap.objs.size + 1, [s1.heap.objs.size + 1, s1.heap.objs.size], _, _, H1, rfl, I2, turn_enumT a (s1.heap.objs.size + 1) s1.heap.objs.size, ⟨⟨.none, he⟩, hit, Nat.succ_ne_self _, Nat.ne_of_lt lta, Nat.ne_of_lt (Nat.lt_succ_of_lt lta)⟩, fun b hb => ?_, q⟩
  have hle : s1.heap.objs.size ≤ b := by rcases (show b = s1.heap.objs.size + 1 ∨ b = s1.heap.objs.size by simpa using hb) with z | z <;> rw [z]; exact Nat.le_succ _; exact Nat.le_refl _
  exact I1.fpOk hle (I1.hok.fresh hle)
def enumD (xs : List D) : List D := xs.zipIdx.map fun p => .tuple [.int ((p.2 : Nat) : Int), p.1]
theorem enumD_len (xs : List D) : (enumD xs).length = xs.length := by simp [enumD]
theorem enumD_get {xs : List D} {i : Nat} {d : D} (h : xs[i]? = some d) : (enumD xs)[i]? = some (.tuple [.int (i : Int), d]) := by
  unfold enumD
  rw [List.getElem?_map, List.getElem?_zipIdx, h]; simp
def iEnumT (t : TD) : TDs := fun E Q => t E fun d E1 => match d with
  | .tuple ds => Q (enumD ds) E1
  | _ => False
def iEnumL (t : TD) : TDs := fun E Q => t E fun d E1 => match d with
  | .list ds => Q (enumD ds) E1
  | _ => False
theorem walkD_enumT {K : PySem.W.Frag} {H : Hp} {a : Addr} {vs : List V} {ds : List D} (h : SqT K H a vs) (l : RpL K H ds vs) : WalkD true K (IteT K a) H (enumD ds) where
  goes := fun i H' x hi => by
    rw [enumD_len, l.length] at hi
    exact ⟨vs, vs[i], SqT.ext x h, List.getElem?_eq_getElem hi⟩
  yld := fun i H' v H2 x hi hy => by
    obtain ⟨T, v1, rfl, hT, rfl, e1⟩ := hy
    obtain ⟨d, hd, p⟩ := l.getV (e1 vs (SqT.ext x h))
    have px := PExt.new (o := .tup [.int (i : Nat), v1]) hT
    exact ⟨px, _, enumD_get hd, .pair (SqT.of upd_same) (.cons (.int _) (.cons ((p.ext x).ext px.ext) .nil))⟩
  stops := fun H' x => ⟨vs, SqT.ext x h, by rw [enumD_len, l.length]⟩
theorem id_enumT {t : TD} (h : ED X G e t) (hg : Gl X "enumerate") (hm : X.mg "enumerate" = none) (hs : starEach [e] X.env = [(false, eval e X.env)] := by rfl) : ID X G true (.Tuple elts kk tpos) (.Call (.Name "enumerate" p) [e] [] pos) (iEnumT t) :=
  ⟨PI.weak (pi_enumT hg hm (pa_cons h.pe pa_nil hs) hs) fun σ H R ⟨E, QE, r, q, k⟩ => ⟨E, _, r, q, fun d E1 v H1 q1 x1 r1 p1 => by
    cases p1 with
    | tup hs l => exact ⟨_, _, rfl, hs.1, k _ _ _ _ q1 x1 r1 (walkD_enumT hs.1 l)⟩
    | _ => exact q1.elim⟩⟩
end
end DL
set_option Elab.async false
set_option linter.all false
set_option maxRecDepth 100000
set_option maxHeartbeats 1000000
/-! DL17: count, index; x or y, not x by truth; sorted(.., reverse=True). -/
namespace DL
open PySem PySem.Spec PyProof.Rows L2
section
variable {X : Cx} {G : Gh} {a b e o : Expr} {es : List Expr} {pos p apos cpos : Pos}
/-! ### methods of tuples -/
theorem SqD.is {pins : List (Addr × Obj)} {s : Shared} {σ : St} {H : Hp} {p : Addr} {xs : List V} (I : Inv X pins σ H s) (h : SqD X.K H p xs) : s.TypeIs (.ref p) "tuple" ∧ ∃ ob, s.heap.get? p = some ob ∧ ob.dict = none := by
  obtain ⟨its, r, ⟨o, ho, hc, _⟩, hz⟩ := I.tuple h.1
  refine ⟨⟨o, ho, hc⟩, ?_⟩
  rcases h.2 with ⟨o2, u, e2, d2⟩ | ⟨o2, e2, d2⟩
  · exact ⟨o2, (I.hok _ _ e2).1, d2⟩
  · exact ⟨o2, I.kIn _ _ e2, d2⟩
def okAll (xs : List D) (y : D) : Prop := xs.all (shOk 60) = true ∧ shOk 60 y = true
theorem okAll.sp {xs : List D} {y : D} (h : okAll xs y) (hu : X.A.units + 65 < cLine) : PyData.canLayAll0 xs = true ∧ y.canLay0 = true ∧ X.A.units + 1 + min (PyData.depthAll xs) y.depth < cLine := by
  have ⟨a, b⟩ := shOk_spec 60 y h.2
  have c := (shOk_all (shOk_spec 60) xs h.1).1
  have : min (PyData.depthAll xs) y.depth ≤ y.depth := Nat.min_le_right _ _
  exact ⟨c, a, by omega⟩
def cntD (xs : List D) (y : D) : Nat := xs.countP fun z => PyData.eqv z y
def rCnt (S : PySem.W.Frag → Hp → Addr → List V → Prop) (K : PySem.W.Frag) : V → List V → Hp → VK → Prop := fun x xs H Q => ∃ (p : Addr) (us : List V) (ds : List D) (y : V) (d : D), x = .ref p ∧ xs = [y] ∧ S K H p us ∧ RpL K H ds us ∧ Rp K H d y ∧ okAll ds d ∧ Q (.int (cntD ds d : Nat)) H
theorem mt_countL (hu : X.A.units + 65 < cLine) : MtR X "list.count" (rCnt SqL X.K) := by
  intro pins s σ H x xs v us Q I rx rxs h
  obtain ⟨p, ws, ds, y, d, rfl, rfl, hs, l, hy, ok, q⟩ := h
  obtain rfl : v = Value.ref p := rx
  obtain ⟨u, rfl, ru⟩ := rxs.one
  obtain ⟨its, rv, pl, hz⟩ := I.list hs
  obtain ⟨c1, c2, c3⟩ := ok.sp hu
  obtain ⟨as, r1⟩ := Dp.readsAll I ds _ its (l.dp c1) rv
  obtain ⟨bs, r2⟩ := Dp.reads I d y u (hy.dp c2) ru
  exact SeqAt.count_list_data pl.isList (by simpa using r1) r2 (PyData.plainAll_of_canLay0 _ c1) (PyData.plain_of_canLay0 _ c2) c3 ⟨.int _, H, I.tok _, ⟨_, rfl⟩, q⟩
/-- xs.index(y): the first place of an equal one -/
def idxOk (xs : List D) (y : D) (j : Nat) : Prop := (∃ z, xs[j]? = some z ∧ PyData.eqv z y = true) ∧ ∀ m z, m < j → xs[m]? = some z → PyData.eqv z y = false
def tCountT (ta tb : TD) : TD := fun E Q => ta E fun x E1 => match x with
  | .tuple xs => tb E1 fun y E2 => okAll xs y ∧ Q (.int (cntD xs y : Nat)) E2
  | _ => False
def tCountL (ta tb : TD) : TD := fun E Q => ta E fun x E1 => match x with
  | .list xs => tb E1 fun y E2 => okAll xs y ∧ Q (.int (cntD xs y : Nat)) E2
  | _ => False
def tIndexT (ta tb : TD) : TD := fun E Q => ta E fun x E1 => match x with
  | .tuple xs => tb E1 fun y E2 => ∃ j, okAll xs y ∧ idxOk xs y j ∧ Q (.int (j : Nat)) E2
  | _ => False
def tIndexL (ta tb : TD) : TD := fun E Q => ta E fun x E1 => match x with
  | .list xs => tb E1 fun y E2 => ∃ j, okAll xs y ∧ idxOk xs y j ∧ Q (.int (j : Nat)) E2
  | _ => False
section
variable {ta tb : TD}
theorem ed_countL (hu : X.A.units + 65 < cLine) (ho : ED X G o ta) (he : ED X G e tb) (hbase : attributeBase o "count" X.env (eval o X.env) = eval o X.env := by rfl)
    (hfew : ((backTo cpos (starEach [e] X.env)).all (fun x => !x.1) && (backToKw cpos (keywordEach [] X.env)).all (fun x => x.1.isSome) && decide (([e] : List Expr).length + ([] : List Keyword).length + (if ([] : List Keyword).isEmpty then 0 else 1) < 30)) = true := by rfl)
    (hline : (apos.endLine == cpos.line) = true := by rfl) (hs : starEach [e] X.env = (false, eval e X.env) :: starEach [] X.env := by rfl) (hplain : (backTo cpos (starEach [] X.env)).any (·.1) = false := by rfl) :
    ED X G (.Call (.Attribute o "count" apos) [e] [] cpos) (tCountL ta tb) :=
  ⟨PE.weak (pe_bm PySem.F.plainAttrs_list PySem.F.slot_list_count PySem.F.type_list_count (mt_countL hu) ho.pe (pa_cons he.pe pa_nil hs) hbase hfew hline hs hplain) fun σ H Q ⟨E, QE, r, q, k⟩ => ⟨E, _, r, q, fun x E1 v H1 q1 x1 r1 p1 => by
    cases p1 with
    | lst hd l => exact ⟨.inl ⟨rfl, _, hd.sq⟩, E1, _, r1, q1, fun y E2 w H2 q2 x2 r2 p2 => ⟨_, _, _, w, y, rfl, rfl, (LsF.ext x2 hd).sq, l.ext x2, p2, q2.1, k _ _ _ _ q2.2 (x1.trans x2) r2 (.int _)⟩⟩
    | _ => exact q1.elim⟩⟩
theorem shaped_all {xs : List D} (h : xs.all (shOk 60) = true) : SeqAt.shaped (.list xs) = true := shaped_of (n := 61) (by rw [shOk_lst]; exact h)
theorem ed_indexL (hu : X.A.units + 65 < cLine) (ho : ED X G o ta) (he : ED X G e tb) (hbase : attributeBase o "index" X.env (eval o X.env) = eval o X.env := by rfl)
    (hfew : ((backTo cpos (starEach [e] X.env)).all (fun x => !x.1) && (backToKw cpos (keywordEach [] X.env)).all (fun x => x.1.isSome) && decide (([e] : List Expr).length + ([] : List Keyword).length + (if ([] : List Keyword).isEmpty then 0 else 1) < 30)) = true := by rfl)
    (hline : (apos.endLine == cpos.line) = true := by rfl) (hs : starEach [e] X.env = (false, eval e X.env) :: starEach [] X.env := by rfl) (hplain : (backTo cpos (starEach [] X.env)).any (·.1) = false := by rfl) :
    ED X G (.Call (.Attribute o "index" apos) [e] [] cpos) (tIndexL ta tb) :=
  ⟨PE.weak (pe_bm PySem.F.plainAttrs_list PySem.F.slot_list_index PySem.F.type_list_index (mt_indexD hu) ho.pe (pa_cons he.pe pa_nil hs) hbase hfew hline hs hplain) fun σ H Q ⟨E, QE, r, q, k⟩ => ⟨E, _, r, q, fun x E1 v H1 q1 x1 r1 p1 => by
    cases p1 with
    | lst hd l => exact ⟨.inl ⟨rfl, _, hd.sq⟩, E1, _, r1, q1, fun y E2 w H2 q2 x2 r2 p2 => let ⟨j, q2, ⟨⟨z, q3, q5⟩, q6⟩, q4⟩ := q2; ⟨_, w, y, _, j, z, rfl, rfl, .lst (LsF.ext x2 hd).sq ((l.ext x2).dp (q2.sp hu).1), p2.dp (q2.sp hu).2.1, shaped_all q2.1, shaped_of q2.2, q3, q5, fun m z' => q6 m z', k _ _ _ _ q4 (x1.trans x2) r2 (.int _)⟩⟩
    | _ => exact q1.elim⟩⟩
end
/-! ### truth -/
theorem tru_of {K : PySem.W.Frag} {H : Hp} {d : D} {v : V} {c : Bool} (h : Rp K H d v) (e : truD d = some c) (ok : okLen d) : TruV K v H c := by
  cases h with
  | non => cases e; rfl
  | bl b => cases e; rfl
  | int i => cases e; rfl
  | str x => cases e; exact ⟨ok, rfl⟩
  | tup hs l => cases e; exact .inr (.inl ⟨_, hs.1, by rw [isEmpty_RpL l]⟩)
  | lst hs l => cases e; exact .inl ⟨_, hs.sq, by rw [isEmpty_RpL l]⟩
  | dct _ _ _ _ => cases e
  | hdl _ => cases e
  | dck _ _ _ _ => cases e
def tOrT (t u : TD) : TD := fun E Q => t E fun x E1 => match truD x with
  | some c => okLen x ∧ if c = true then Q x E1 else u E1 Q
  | none => False
def tAndT (t u : TD) : TD := fun E Q => t E fun x E1 => match truD x with
  | some c => okLen x ∧ if c = true then u E1 Q else Q x E1
  | none => False
def tNotT (t : TD) : TD := fun E Q => t E fun x E1 => match truD x with
  | some c => okLen x ∧ Q (.bool (!c)) E1
  | none => False
theorem ed_orT {t u : TD} (h : ED X G a t) (hb : ED X G (.BoolOp .Or (b :: es) pos) u) : ED X G (.BoolOp .Or (a :: b :: es) pos) (DL.tOrT t u) :=
  ⟨PE.weak (pe_orT h.pe hb.pe) fun σ H Q ⟨E, QE, r, q, k⟩ => ⟨E, _, r, q, fun x E1 v H1 q1 x1 r1 p1 => by
    cases e : truD x with
    | none => rw [e] at q1; exact q1.elim
    | some c =>
      rw [e] at q1
      refine ⟨c, tru_of p1 e q1.1, ?_⟩
      cases c with
      | true => exact k _ _ _ _ q1.2 x1 r1 p1
      | false => exact ⟨E1, _, r1, q1.2, fun y E2 w H2 q2 x2 r2 p2 => k _ _ _ _ q2 (x1.trans x2) r2 p2⟩⟩⟩
/-! ### sorted(xs, reverse=True) -/
def tSortRev (ta : TD) : TLd := fun E Q => ta E fun x E1 => match x with
  | .list xs => sortOk xs ∧ Q (sortD true xs) E1
  | .tuple xs => sortOk xs ∧ Q (sortD true xs) E1
  | _ => False
end
end DL
set_option Elab.async false
set_option linter.all false
set_option maxRecDepth 100000
set_option maxHeartbeats 1000000
/-! DL18: a list of one's own is frozen where it is handed on; calls without arguments. -/
namespace DL
open PySem PySem.Spec PyProof.Rows L2
section
variable {K : PySem.W.Frag} {G : Gh} {H : Hp} {E : Env} {σ : St}
theorem RelX.freezeM {i : Nat} {s0 : S} {a : Addr} {u' : HO} {d : D} (r : RelE K G H E σ) (e : E[i]? = some s0) (m0 : s0.isMut = true) (hs : σ[i]? = some (some (.ref a))) (p : Rp K (upd H a u') d (.ref a)) :
    RelE K G (upd H a u') (E.set i (.d d)) σ := by
  obtain ⟨l, k, pn, dm, x0, A, h1, h2, h3⟩ := r
  obtain ⟨b, e1, e2, e3⟩ := (h3 i _ e).mut m0
  rw [hs] at e2
  have e2' : a = b := by injection e2 with z; injection z with z; injection z
  subst e2'
  obtain ⟨u0, g1, g2, g3⟩ := e3.soft
  have x : Ext H (upd H a u') := Ext.putS g1 g2 g3
  have own := h2 i a (by rw [e1]; simp)
  have hl : i < E.length := (List.getElem?_eq_some_iff.mp e).1
  refine ⟨by simpa using l, fun q u he ne => ?_, pn, fun q hq => ?_, x0.trans x, fun j => if j = i then [] else A j, fun j m b q1 q2 => ?_, fun j b q1 => ?_, fun j s he => ?_⟩
  · have : q ≠ a := by
      rintro rfl
      rcases own.1 with z | z
      · exact ne z
      · rw [z] at he; cases he
    rw [upd_ne this]; exact k q u he ne
  · by_cases z : q = a
    · subst z; rw [upd_same]; simp
    · rw [upd_ne z]; exact dm q hq
  · dsimp only at q1 q2
    split at q1
    · cases q1
    · split at q2
      · cases q2
      · exact h1 j m b q1 q2
  · dsimp only at q1
    split at q1
    · cases q1
    · exact h2 j b q1
  · by_cases z : j = i
    · subst z
      rw [List.getElem?_set_self hl] at he
      cases he
      simp only [if_true]
      exact ⟨rfl, _, hs, p⟩
    · rw [List.getElem?_set_ne (Ne.symm z)] at he
      simp only [z, if_false]
      exact (h3 j s he).move x fun c hc => upd_ne fun zz => z (h1 j i c hc (by rw [e1, zz]; simp))
theorem RelX.freezeV {i : Nat} {xs : List D} {a : Addr} {vs : List V} {o : Obj} (r : RelE K G H E σ) (e : E[i]? = some (.ol xs)) (hs : σ[i]? = some (some (.ref a))) (ha : H a = some (.lst vs)) (p : RpL K H xs vs) :
    RelE K G (upd H a (.frz o (.lst vs))) (E.set i (.d (.list xs))) σ :=
  r.freezeM e rfl hs (.lst (.of upd_same) (p.ext (Ext.put ha)))
end
section
variable {X : Cx} {G : Gh} {e : Expr} {pos p0 : Pos} {x : Str}
theorem PE.fzIf {t : TE} (h : PE X e t) : PE X e (fun σ H Q => t σ H fun v H1 => Q v H1 ∨ ∃ a u, v = .ref a ∧ H1 a = some u ∧ Mut (some u) ∧ ∀ o, Q v (upd H1 a (.frz o u))) :=
  ⟨fun pins s σ H Q I q => thn (h.run pins s σ H _ I q) fun u s1 ⟨v, H1, I1, r1, q1⟩ => by
    rcases q1 with q1 | ⟨a, xs, e1, e2, mu, q1⟩
    · exact ⟨v, _, I1, r1, q1⟩
    · obtain ⟨o, I2⟩ := I1.lock e2 mu
      exact ⟨v, _, I2, r1, q1 o⟩⟩
def tFzV (i : Nat) : TD := fun E Q => match E[i]? with
  | some (.d x) => Q x E
  | some (.ol xs) => Q (.list xs) (E.set i (.d (.list xs)))
  | some (.dt kvs) => Q (.dict kvs) (E.set i (.d (.dict kvs)))
  | _ => False
theorem ed_fzv (i : Nat) (hN : X.N[i]? = some x := by rfl) (hv : Vis X.env.scope x := by first | exact Or.inl rfl | exact Or.inr (Or.inl rfl) | exact Or.inr (Or.inr rfl)) (hd : (x == ("__debug__" : Str)) = false := by decide)
    (hcd : (x == ("__classdict__" : Str)) = false := by decide) : ED X G (.Name x p0) (tFzV i) :=
  ⟨PE.weak (PE.fzIf (pe_var hN hv hd hcd)) fun σ H Q ⟨E, QE, r, q, k⟩ => by
    unfold tFzV at q
    split at q
    · rename_i d0 he
      obtain ⟨v, e1, e2⟩ := r.data he
      exact ⟨v, e1, .inl (k _ _ _ _ q (Ext.refl _) r e2)⟩
    · rename_i xs he
      obtain ⟨a, vs, e1, e2, e3⟩ := r.ol he
      exact ⟨_, e1, .inr ⟨a, _, rfl, e2, trivial, fun o => k _ _ _ _ q (Ext.put e2) (r.freezeV he e1 e2 e3) (.lst (.of upd_same) (e3.ext (Ext.put e2)))⟩⟩
    · rename_i kvs he
      obtain ⟨a, e1, es, e2, l, nd, sm⟩ := r.mutAt he rfl
      refine ⟨_, e1, .inr ⟨a, _, rfl, e2, trivial, fun o => ?_⟩⟩
      have x : Ext H (upd H a (.frz o (dO a es))) := Ext.putS e2 (fun _ z => by cases z) (fun _ _ z => by cases z)
      have p : Rp X.K (upd H a (.frz o (dO a es))) (.dict kvs) (.ref a) := .dct upd_same (l.ext x) nd sm
      exact k _ _ _ _ q x (r.freezeM he rfl e1 p) p
    · exact q.elim⟩
end
end DL
set_option Elab.async false
set_option linter.all false
set_option maxRecDepth 100000
set_option maxHeartbeats 1000000
/-! DL19: x > y of any data that is alike. -/
namespace DL
open PySem PySem.Spec PyProof.Rows L2
section
variable {X : Cx}
theorem op_gtD (hu : X.A.units + 65 < cLine) : OpR X (compareOp .Gt) (fun x y H Q => ∃ d e, Dp X.K H x d ∧ Dp X.K H y e ∧ PySem.W.alike d e = true ∧ d ≠ .none ∧ d.depth ≤ 60 ∧ Q (.bl (PySem.W.dataLt e d)) H) := by
  intro pins s σ H x y v u Q I rx ry h
  obtain ⟨d, e, hd, he, al, nn, dp, q⟩ := h
  obtain ⟨as, r1⟩ := Dp.reads I d x v hd rx
  obtain ⟨bs, r2⟩ := Dp.reads I e y u he ry
  have : min d.depth e.depth ≤ d.depth := Nat.min_le_left _ _
  exact PySem.W.gt_data r1 r2 al nn (by omega) ⟨.bl _, H, I, rfl, q⟩
def opGtD : OpT := fun x y Q => (PySem.W.alike x y = true ∧ x ≠ .none ∧ x.depth ≤ 60 ∧ x.canLay0 = true ∧ y.canLay0 = true) ∧ Q (.bool (PySem.W.dataLt y x))
theorem od_gtD (hu : X.A.units + 65 < cLine) : OpD X (compareOp .Gt) opGtD := ⟨_, op_gtD hu, fun x y v u H QD Q hx hy q k => ⟨x, y, hx.dp q.1.2.2.2.1, hy.dp q.1.2.2.2.2, q.1.1, q.1.2.1, q.1.2.2.1, k _ _ _ q.2 (PExt.refl _) (.bl _)⟩⟩
end
end DL
set_option Elab.async false
set_option linter.all false
set_option maxRecDepth 100000
set_option maxHeartbeats 1000000
/-! DL20: sum, min, max of a tuple of ints. -/
namespace DL
open PySem PySem.Spec PyProof.Rows L2
section
variable {X : Cx}
def caSumT : CaT := fun ds Q => match ds with
  | [.tuple xs] => ∃ ns : List Int, xs = ns.map PyData.int ∧ Q (.int ns.sum)
  | _ => False
def caMaxT : CaT := fun ds Q => match ds with
  | [.tuple xs] => ∃ ns : List Int, xs = ns.map PyData.int ∧ 0 < ns.length ∧ ∀ m, m ∈ ns → (∀ y, y ∈ ns → y ≤ m) → Q (.int m)
  | _ => False
def caMinT : CaT := fun ds Q => match ds with
  | [.tuple xs] => ∃ ns : List Int, xs = ns.map PyData.int ∧ 0 < ns.length ∧ ∀ m, m ∈ ns → (∀ y, y ∈ ns → m ≤ y) → Q (.int m)
  | _ => False
end
end DL
set_option Elab.async false
set_option linter.all false
set_option maxRecDepth 100000
set_option maxHeartbeats 1000000
/-! DL21: zip of a list and a tuple. -/
namespace DL
open PySem PySem.Spec PyProof.Rows L2
section
variable {X : Cx} {G : Gh} {a b : Expr} {p pos tpos : Pos} {elts : List Expr} {kk : Nat}
def iZipM (ta tb : TD) : TDs := fun E Q => ta E fun x E1 => tb E1 fun y E2 => match x, y with
  | .list xs, .tuple ys => Q (zipD xs ys) E2
  | _, _ => False
end
end DL
set_option Elab.async false
set_option linter.all false
set_option maxRecDepth 100000
set_option maxHeartbeats 1000000
/-! DL22: t[::-1] of a tuple, str of an int, tuple * int, a chain of three comparisons, zip of three tuples, a comprehension with effects. -/
namespace DL
open PySem PySem.Spec PyProof.Rows L2
section
variable {prog : Program} {w : World} {A : Around} {E : Value → Shared → Prop} {s : Shared}
theorem sliceApplied_rev {sl : Addr} {vs : Value} {n : Nat} {Q : Int × Int × Nat → Shared → Prop} (hs : s.heap.IsSliceOf sl .none .none vs) (ps : IsPart vs (some (-1)))
    (h : Q ((n : Int) - 1, -1, n) s) : wpAny (model prog w) A (Builtin.Slice.sliceApplied (.ref sl) (pure (n : Int))) Q E s := by
  obtain ⟨os, hos, hcs, hds⟩ := id hs
  unfold Builtin.Slice.sliceApplied Builtin.Slice.sliceFields
  refine wpAny_bind (wpAny_bind (wpAny_field hos hds (x := .none) rfl (wpAny_bind (wpAny_field hos hds (x := .none) rfl (wpAny_bind (wpAny_field hos hds (x := vs) rfl (wpAny_pure ?_)))))))
  refine wpAny_bind (HT.slicePart_ ps ?_)
  show wpAny _ _ (if ((-1 : Int) == 0) = true then _ else _) _ _ s
  rw [if_neg (by decide)]
  refine wpAny_bind (slicePart_none (wpAny_bind (slicePart_none (wpAny_bind (wpAny_pure ?_)))))
  show wpAny _ _ (pure ((n : Int) - 1, (-1 : Int), Builtin.Slice.slicePlaces ((n : Int) - 1) (-1) (-1))) _ _ s
  have e : Builtin.Slice.slicePlaces ((n : Int) - 1) (-1) (-1) = n := by
    unfold Builtin.Slice.slicePlaces
    rw [if_neg (by decide)]
    split
    · have : ((n : Int) - 1 - -1 - 1) / (- -1) = n - 1 := by
        rw [show (- -1 : Int) = 1 from rfl, Int.ediv_one]; omega
      rw [this]; omega
    · omega
  rw [e]
  exact wpAny_pure h
theorem fm_congr {α β : Type} {f g : α → Option β} : ∀ {l : List α}, (∀ k ∈ l, f k = g k) → l.filterMap f = l.filterMap g
  | [], _ => rfl
  | a :: l, h => by rw [List.filterMap_cons, List.filterMap_cons, h a (List.mem_cons_self ..), fm_congr fun k hk => h k (List.mem_cons_of_mem _ hk)]
theorem pick_rev (xs : Array Value) : ((List.range xs.size).filterMap fun (k : Nat) => xs[(((xs.size : Int) - 1) + (k : Int) * (-1)).toNat]?).toArray = xs.toList.reverse.toArray := by
  congr 1
  have h : ∀ k ∈ List.range xs.size, xs[(((xs.size : Int) - 1) + (k : Int) * (-1)).toNat]? = xs.toList.reverse[k]? := fun k hk => by
    have hk := List.mem_range.mp hk
    rw [show ((((xs.size : Int) - 1) + (k : Int) * (-1)).toNat) = xs.size - 1 - k by omega, List.getElem?_reverse (by simpa using hk)]
    simp
  rw [fm_congr h]
  have g : ∀ (l : List Value), (List.range l.length).filterMap (fun k => l[k]?) = l := by
    intro l
    refine List.ext_getElem? fun i => ?_
    have : (List.range l.length).filterMap (fun k => l[k]?) = l := by
      have e2 : (List.range l.length).filterMap (fun k => l[k]?) = (List.range l.length).attach.map fun p => l[p.1]'(List.mem_range.mp p.2) := by
        have : ∀ (m : List Nat) (hm : ∀ k ∈ m, k < l.length), m.filterMap (fun k => l[k]?) = m.attach.map fun p => l[p.1]'(hm p.1 p.2) := by
          intro m
          induction m with
          | nil => intro _; rfl
          | cons a m ih =>
            intro hm
            rw [List.filterMap_cons, List.getElem?_eq_getElem (hm a (List.mem_cons_self ..)), List.attach_cons, List.map_cons]
            dsimp only
            rw [ih fun k hk => hm k (List.mem_cons_of_mem _ hk), List.map_map]
            rfl
        exact this _ fun k hk => List.mem_range.mp hk
      rw [e2]
      refine List.ext_getElem (by simp) fun i h1 h2 => ?_
      simp
    rw [this]
  have := g xs.toList.reverse
  rw [List.length_reverse, Array.length_toList] at this
  exact this
theorem rev_tuple {t sl : Addr} {items : Array Value} {vs : Value} {Q : Value → Shared → Prop} (ht : IsTup s.heap t items) (hs : s.heap.IsSliceOf sl .none .none vs) (ps : IsPart vs (some (-1)))
    (h : Q (.ref s.heap.objs.size) { s with heap := s.heap.push { cls := .type "tuple", data := .seq items.toList.reverse.toArray } }) (hsz : items.size ≤ sizeLine) : wpAny (model prog w) A (getItem (.ref t) (.ref sl)) Q E s := by
  have htake : sizeOk (.seq items.toList.reverse.toArray) := by
    show items.toList.reverse.toArray.size ≤ sizeLine
    rw [List.size_toArray, List.length_reverse, Array.length_toList]; exact hsz
  obtain ⟨os, hos, hcs, hds⟩ := id hs
  have hTs : s.TypeIs (.ref sl) "slice" := ⟨os, hos, hcs⟩
  unfold getItem
  try with_reducible refine wpAny_holding ?_
  first | refine wpAny_bind (wpAny_pure ?_) | skip
  refine wpAny_bind (wpAny_sequenceKey ht.typeIs (by decide) ?_)
  refine wpAny_bind (wpAny_callSpecial?_slot (name := Str.ofString "__getitem__") ht.typeIs PyProof.Rows.slot_tuple_getitem
    (wpAny_call_entry PyProof.Rows.slot_tuple_getitem ht.typeIs entry_tuple_getitem ?_ (args_tuple_getitem _ _)))
  show wpAny _ _ (Builtin.Tuple.tupleItemsOf (.ref t) >>= _) _ _ s
  refine wpAny_bind (tupleItemsOf_ ht ?_)
  refine wpAny_bind (wpAny_typeOf hTs ?_)
  rw [if_pos (by decide)]
  refine wpAny_bind (sliceApplied_rev hs ps ?_)
  have hno : ¬ (((((items.size : Int) - 1) == 0 && (-1 : Int) == 1 && items.size == items.size) = true)) := by simp
  show wpAny _ _ (if (((items.size : Int) - 1) == 0 && (-1 : Int) == 1 && items.size == items.size) = true then _ else _) _ _ s
  rw [if_neg hno, pick_rev]
  first
    | exact wpAny_bind (m := Builtin.Tuple.tupleExact _) (wpAny_newObj_type (wpAny_pure ⟨_, rfl, wpAny_pure h⟩) htake)
    | exact wpAny_bind (m := Builtin.Tuple.tupleExact _) (wpAny_newObj_type (wpAny_bind (wpAny_pure (wpAny_pure ⟨_, rfl, wpAny_pure h⟩))) htake)
    | exact wpAny_bind (wpAny_bind (m := Builtin.Tuple.tupleExact _) (wpAny_newObj_type (wpAny_pure (wpAny_pure ⟨_, rfl, wpAny_pure h⟩)) htake))
    | exact wpAny_bind (wpAny_bind (m := Builtin.Tuple.tupleExact _) (wpAny_newObj_type (wpAny_pure ⟨_, rfl, wpAny_pure h⟩) htake))
end
section
variable {X : Cx} {G : Gh} {a b c d e : Expr} {pos p p1 p2 p3 : Pos}
theorem pe_revT {te : TE} {k : Nat} (he : PE X e te) : PE X (.Subscript e (.Slice none none (some (.UnaryOp .USub (.Constant (.int 1) k p1) p2)) p3) pos)
    (fun σ H Q => te σ H fun x H1 => ∃ a xs, x = .ref a ∧ SqT X.K H1 a xs ∧ ∀ p o, H1 p = none → o.dict = none → Q (.ref p) (upd H1 p (.frz o (.tup xs.reverse)))) := by
  refine ⟨fun pins s σ H Q I h => ?_⟩
  refine Subscript_ (thn (he.run pins s σ H _ I h) fun v s1 ⟨x, H1, I1, r1, q1⟩ => ?_)
  obtain ⟨a, xs, ex, hx, q⟩ := q1
  subst ex
  cases r1
  have hst : PO X (some (.UnaryOp .USub (.Constant (.int 1) k p1) p2)) (tPart (tUn (rU fun i => .int (-i)) (tC (.int 1)))) := po_some (pe_un un_neg pe_int)
  refine wpAny_Slice (thn (po_none.run pins s1 σ H1 (fun o H2 => o = none ∧ H2 = H1) I1 ⟨rfl, rfl⟩) fun vl s2 ⟨l, H2, I2, pl, el, e2⟩ => ?_)
  subst el e2
  refine thn (po_none.run pins s2 σ H2 (fun o H3 => o = none ∧ H3 = H2) I2 ⟨rfl, rfl⟩) fun vu s3 ⟨u, H3, I3, pu, eu, e3⟩ => ?_
  subst eu e3
  refine thn (hst.run pins s3 σ H3 (fun o H4 => o = some (-1) ∧ H4 = H3) I3 ⟨1, rfl, -1, rfl, rfl, rfl⟩) fun vs s4 ⟨o, H4, I4, ps, eo, e4⟩ => ?_
  subst eo e4
  have I5 : Inv X pins σ H4 { s4 with heap := s4.heap.push { cls := .type "slice", data := .fields #[vl, vu, vs] } } := I4.kept (t' := s4.toks) fun b ob q => Heap.get?_push_of_some _ q
  obtain ⟨its, r, ht, hz⟩ := I5.tuple hx
  have hlen := r.length
  cases pl
  cases pu
  show wpAny (model X.prog X.w) X.A (subscriptTail e (.Slice none none (some (.UnaryOp .USub (.Constant (.int 1) k p1) p2)) p3) (.ref a) (.ref s4.heap.objs.size)) (EP X pins σ Q) X.xe { s4 with heap := s4.heap.push { cls := .type "slice", data := .fields #[.none, .none, vs] } }
  refine tail_any (ops := [.ref a, .ref s4.heap.objs.size]) ht.typeIs (PyProof.Rows.slot_tuple_getitem.lookup) ?_ (by with_unfolding_all rfl)
  refine rev_tuple ht (Heap.IsSliceOf.new _ .none .none vs) ps ?_ (by rw [List.size_toArray]; omega)
  exact ⟨.ref _, _, I5.laid (t' := s4.toks) (o := .frz _ (.tup xs.reverse)) (fun b ob q => Heap.get?_push_of_some _ q) (Nat.le_refl _) ⟨Heap.get?_push_size _ rfl, by rw [List.length_reverse]; exact hz, _, r.reverse, IsTup.new _ _⟩, rfl, q _ _ (I5.hok.fresh (Nat.le_refl _)) rfl⟩
/-- t[::-1] of a tuple -/
def tRevT (ta : TD) : TD := fun E Q => ta E fun x E1 => match x with
  | .tuple xs => Q (.tuple xs.reverse) E1
  | _ => False
theorem ed_revT {k : Nat} {ta : TD} (ha : ED X G a ta) : ED X G (.Subscript a (.Slice none none (some (.UnaryOp .USub (.Constant (.int 1) k p1) p2)) p3) pos) (tRevT ta) :=
  ⟨PE.weak (pe_revT ha.pe) fun σ H Q ⟨E, QE, rel, q, k⟩ => ⟨E, _, rel, q, fun x E1 v H1 q1 x1 r1 p1 => by
    cases p1 with
    | tup hs ll => exact ⟨_, _, rfl, hs.1, fun p o hp ho => k _ _ _ _ q1 (x1.trans (PExt.new hp).ext) (r1.pext (PExt.new hp)) (.tup (.new ho) (ll.reverse.ext (PExt.new hp).ext))⟩
    | _ => exact q1.elim⟩⟩
/-! ### str of an int -/
def caStr : CaT := fun ds Q => match ds with
  | [.int i] => i.natAbs.log2 < 1920 ∧ Q (.str (toString i))
  | _ => False
/-! ### tuple * int -/
def opRepT : OpT := fun x y Q => match x, y with
  | .tuple xs, .int k => (xs ≠ [] ∧ 2 ≤ k ∧ k ≤ 1000 ∧ xs.length ≤ 1000) ∧ Q (.tuple (List.replicate k.toNat xs).flatten)
  | _, _ => False
/-! ### a op b op' c op'' d -/
def tChain3D (o o' o'' : OpT) (ta tb tc td : TD) : TD := fun E Q => ta E fun x E1 => tb E1 fun y E2 => o x y fun z => match z with
  | .bool true => tc E2 fun w E3 => o' y w fun z' => match z' with
    | .bool true => td E3 fun u E4 => o'' w u fun r => Q r E4
    | .bool false => Q (.bool false) E3
    | _ => False
  | .bool false => Q (.bool false) E2
  | _ => False
end
/-! ### a comprehension with effects: an invariant of what was found and the environment -/
end DL
set_option Elab.async false
set_option linter.all false
set_option maxRecDepth 100000
set_option maxHeartbeats 1000000
/-! DL23: zip of three tuples. -/
namespace DL
open PySem PySem.Spec PyProof.Rows L2
end DL
set_option Elab.async false
set_option linter.all false
set_option maxRecDepth 100000
set_option maxHeartbeats 1000000
/-! DL24: the module's own constants. -/
namespace DL
open PySem PySem.Spec PyProof.Rows L2
end DL
set_option Elab.async false
set_option linter.all false
set_option maxRecDepth 100000
set_option maxHeartbeats 1000000
/-! DL25: max of a list of alike data, x < y of alike data. -/
namespace DL
open PySem PySem.Spec PyProof.Rows L2
section
variable {X : Cx}
def opLtD : OpT := fun x y Q => (PySem.W.alike x y = true ∧ x ≠ .none ∧ x.depth ≤ 60 ∧ x.canLay0 = true ∧ y.canLay0 = true) ∧ Q (.bool (PySem.W.dataLt x y))
end
end DL
set_option Elab.async false
set_option linter.all false
set_option maxRecDepth 100000
set_option maxHeartbeats 3200000
/-! DL26: set(t) of a tuple of pairs of ints, len and sorted of it. -/
namespace DL
open PySem PySem.Spec PyProof.Rows L2
end DL
set_option Elab.async false
set_option linter.all false
set_option maxRecDepth 100000
set_option maxHeartbeats 3200000
/-! DL27: len(set(t)), sorted(set(t)) of a tuple of pairs of ints. -/
namespace DL
open PySem PySem.Spec PyProof.Rows L2
def pE (c : Int × Int) : D := .tuple [.int c.1, .int c.2]
def ltC (a b : Int × Int) : Prop := a.1 < b.1 ∨ (a.1 = b.1 ∧ a.2 < b.2)
section
variable {X : Cx} {G : Gh} {a : Expr} {pos p p1 p2 p3 : Pos}
def tLenSetP (ta : TD) : TD := fun E Q => ta E fun x E1 => match x with
  | .tuple xs => ∃ cs : List (Int × Int), xs = cs.map pE ∧ cs.length < 64 ∧ ∀ zs : List (Int × Int), zs.Nodup → (∀ c, c ∈ zs ↔ c ∈ cs) → Q (.int (zs.length : Nat)) E1
  | _ => False
def tSortSetP (ta : TD) : TLd := fun E Q => ta E fun x E1 => match x with
  | .tuple xs => ∃ cs : List (Int × Int), xs = cs.map pE ∧ cs.length < 64 ∧ (∀ c ∈ cs, (0 ≤ c.1 ∧ c.1 < 64) ∧ (0 ≤ c.2 ∧ c.2 < 64)) ∧ ∀ zs : List (Int × Int), zs.Pairwise ltC → (∀ c, c ∈ zs ↔ c ∈ cs) → Q (zs.map pE) E1
  | _ => False
end
end DL
set_option Elab.async false
set_option linter.all false
set_option maxRecDepth 100000
set_option maxHeartbeats 1000000
/-! DL28: chains of comparisons as tests. -/
namespace DL
open PySem PySem.Spec PyProof.Rows L2
section
variable {X : Cx} {G : Gh} {a b c d e : Expr} {pos p p1 p2 p3 : Pos}
theorem tBo_lift {t : TD} {σ : St} {H : Hp} {Q : Bool → Hp → Prop} (h : liftT X.K G (tBo t) σ H Q) : liftE X.K G t σ H fun x H' => ∃ k, x = .bl k ∧ Q k H' := by
  obtain ⟨E, QE, rel, q, k⟩ := h
  refine ⟨E, _, rel, q, fun d E' v H' q1 x1 r1 p1 => ?_⟩
  cases p1 with
  | bl b => exact ⟨b, rfl, k b E' H' q1 x1 r1⟩
  | _ => exact q1.elim
theorem eb_chain {op op' : CmpOp} {o o' : OpT} {ta tb tc : TD} (ho : OpD X (compareOp op) o) (ho' : OpD X (compareOp op') o') (ha : ED X G a ta) (hb : ED X G b tb) (hc : ED X G c tc)
    (h1 : lastMarks [op, op'] [b, c] = false := by with_unfolding_all rfl) : EB X G (.Compare a [op, op'] [b, c] pos) (tBo (tChainD o o' ta tb tc)) := by
  obtain ⟨r, hr, hq⟩ := ho
  obtain ⟨r', hr', hq'⟩ := ho'
  refine ⟨PT.weak (pt_chain hr hr' ha.pe hb.pe hc.pe h1) fun σ H Q h => ?_⟩
  obtain ⟨E, QE, rel, q, k⟩ := tBo_lift h
  refine ⟨E, _, rel, q, fun x E1 v H1 q1 x1 r1 p1 => ⟨E1, _, r1, q1, fun y E2 u H2 q2 x2 r2 p2 => ?_⟩⟩
  refine hq x y v u H2 _ _ (.inl (p1.ext x2)) (.inl p2) q2 fun z w H3 q3 px rz => ?_
  cases rz with
  | bl b =>
    refine ⟨b, rfl, ?_⟩
    cases b with
    | true =>
      refine iteT ⟨E2, _, r2.pext px, q3, fun c E3 w H4 q4 x4 r4 p4 => ?_⟩
      exact hq' y c u w H4 _ _ (.inl ((p2.ext px.ext).ext x4)) (.inl p4) q4 fun z w H5 q5 px5 rz5 => k _ _ _ _ q5 ((((x1.trans x2).trans px.ext).trans x4).trans px5.ext) (r4.pext px5) rz5
    | false => exact iteF (k _ _ _ _ q3 ((x1.trans x2).trans px.ext) (r2.pext px) (.bl false))
  | _ => exact q3.elim
end
end DL
set_option Elab.async false
set_option linter.all false
set_option maxRecDepth 100000
set_option maxHeartbeats 1000000
/-! DL29: dicts whose keys are tuples of ints (nested): look-up, store, in. -/
namespace DL
open PySem PySem.Spec PyProof.Rows L2
def valN (kvs : List (D × D)) (k : D) : Option D := (kvs.find? fun p => decide (nkOf p.1 = nkOf k)).map (·.2)
def putN (kvs : List (D × D)) (k v : D) : List (D × D) := if (valN kvs k).isSome then kvs.map (fun p => if nkOf p.1 = nkOf k then (p.1, v) else p) else kvs ++ [(k, v)]
theorem valN_cons (p : D × D) (kvs : List (D × D)) (k : D) : valN (p :: kvs) k = if nkOf p.1 = nkOf k then some p.2 else valN kvs k := by
  unfold valN
  rw [List.find?_cons]
  by_cases h : nkOf p.1 = nkOf k
  · simp [h]
  · simp [h]
abbrev TR (K : PySem.W.Frag) (H : Hp) : List (D × D) → List (NestedKey × Addr × Value) → Prop :=
  Paired fun p x => (∃ l, p.1 = .tuple l) ∧ nkOf p.1 = some x.1 ∧ x.1.depth ≤ 8 ∧ Rp K H p.1 (.ref x.2.1) ∧ ∃ v, Rp K H p.2 v ∧ RelV v x.2.2
section
variable {K : PySem.W.Frag} {H : Hp} {P : Program} {w : World}
theorem RpD.tr (P : Program) (w : World) : ∀ {kvs : List (D × D)} {es : List DictEntry}, RpD K H kvs es → ∃ xs, TR K H kvs xs ∧ es = xs.map (entryOfKey (nestedKind P w))
  | _, _, .nil => ⟨[], .nil, rfl⟩
  | _, _, .cons (nk := nk) (b := b) (v := v) (e := e) t n1 n2 n3 e1 h g r l => by
    obtain ⟨xs, h1, rfl⟩ := RpD.tr P w l
    refine ⟨(nk, b, e.val) :: xs, .cons ⟨t, n1, n2, h, v, g, r⟩ h1, ?_⟩
    rw [List.map_cons]
    congr 1
    obtain ⟨eh, ek, ev⟩ := e
    have hh : eh = nk.hash w := n3 w
    have hk : ek = Value.ref b := e1
    subst hh hk
    rfl
theorem TR.ext {H' : Hp} (x : Ext H H') {kvs : List (D × D)} {xs : List (NestedKey × Addr × Value)} (h : TR K H kvs xs) : TR K H' kvs xs :=
  Paired.mapP h fun _ _ ⟨h1, h2, h3, h4, v, h5, h6⟩ => ⟨h1, h2, h3, h4.ext x, v, h5.ext x, h6⟩
theorem TR.keys {kvs : List (D × D)} {xs : List (NestedKey × Addr × Value)} (h : TR K H kvs xs) (nd : (kvs.map fun p => nkOf p.1).Nodup) : (xs.map (·.1)).Nodup := by
  have e : kvs.map (fun p => nkOf p.1) = (xs.map (·.1)).map some := by
    unfold TR at h
    induction h with
    | nil => rfl
    | cons q t ih => 
      rw [List.map_cons, List.map_cons, List.map_cons, q.2.1, ih (List.nodup_cons.mp (by simpa using nd)).2]
  rw [e] at nd
  exact (List.pairwise_map.mp nd).imp fun h z => h (by rw [z])
/-- what stands at a key -/
theorem TR.val {kvs : List (D × D)} {xs : List (NestedKey × Addr × Value)} (h : TR K H kvs xs) {k : D} {nk : NestedKey} (e : nkOf k = some nk) :
    (∀ d, valN kvs k = some d → ∃ p v, atKey xs nk = some p ∧ Rp K H d v ∧ RelV v p.2) ∧ (valN kvs k = none → atKey xs nk = none) := by
  unfold TR at h
  induction h with
  | nil => exact ⟨fun d hd => by simp [valN] at hd, fun _ => rfl⟩
  | @cons p x ps xs q t ih =>
    obtain ⟨h1, h2, h3, h4, v, h5, h6⟩ := q
    rw [valN_cons]
    by_cases hk : nkOf p.1 = nkOf k
    · have hx : x.1 = nk := by rw [h2, e] at hk; exact Option.some.inj hk
      rw [if_pos hk]
      refine ⟨fun d hd => ?_, fun z => nomatch z⟩
      cases hd
      exact ⟨x.2, v, by simp [atKey, hx], h5, h6⟩
    · have hx : ¬ x.1 = nk := fun z => hk (by rw [h2, e, z])
      rw [if_neg hk]
      have : atKey (x :: xs) nk = atKey xs nk := by simp [atKey, hx]
      rw [this]; exact ih
theorem TR.isSome {kvs : List (D × D)} {xs : List (NestedKey × Addr × Value)} (h : TR K H kvs xs) {k : D} {nk : NestedKey} (e : nkOf k = some nk) : (atKey xs nk).isSome = (valN kvs k).isSome := by
  obtain ⟨h1, h2⟩ := h.val e
  cases q : valN kvs k with
  | none => rw [h2 q]; rfl
  | some d => obtain ⟨p, v, hp, _⟩ := h1 d q; rw [hp]; rfl
end
end DL
set_option Elab.async false
set_option linter.all false
set_option maxRecDepth 100000
set_option maxHeartbeats 1000000
/-! DL30: rules for dicts whose keys are tuples of ints. -/
namespace DL
open PySem PySem.Spec PyProof.Rows L2
section
variable {X : Cx} {G : Gh} {pins : List (Addr × Obj)} {σ : St} {H : Hp} {s : Shared}
mutual
theorem nested_of (I : Inv X pins σ H s) : ∀ {d : D} {v : V} {u : Value} {k : NestedKey}, nkOf d = some k → Rp X.K H d v → RelV v u → NestedIs s.heap k u
  | .int i, v, u, k, h, r, q => by
    unfold nkOf at h; cases h; cases r
    obtain ⟨t, rfl⟩ := (show ∃ t, u = Value.int i t from q)
    exact .int i t
  | .tuple xs, v, u, k, h, r, q => by
    unfold nkOf at h
    obtain ⟨ks, h1, rfl⟩ := Option.map_eq_some_iff.mp h
    cases r with
    | tup hs l =>
      rename_i a vs
      obtain rfl : u = Value.ref a := q
      obtain ⟨its, rv, ⟨o, ho, hc, n, hd⟩, hz⟩ := I.tuple hs.1
      exact .tup ho hc hd (by simpa using nested_all I h1 l rv)
  | .none, _, _, k, h, _, _ => by simp [nkOf] at h
  | .bool _, _, _, k, h, _, _ => by simp [nkOf] at h
  | .str _, _, _, k, h, _, _ => by simp [nkOf] at h
  | .list _, _, _, k, h, _, _ => by simp [nkOf] at h
  | .dict _, _, _, k, h, _, _ => by simp [nkOf] at h
theorem nested_all (I : Inv X pins σ H s) : ∀ {ds : List D} {vs : List V} {us : List Value} {ks : List NestedKey}, nksOf ds = some ks → RpL X.K H ds vs → Vals vs us → NestedAll s.heap ks us
  | [], _, _, ks, h, r, q => by unfold nksOf at h; cases h; cases r; cases q; exact .nil
  | d :: ds, _, _, ks, h, r, q => by
    unfold nksOf at h
    split at h
    · rename_i k ks' h1 h2
      cases h
      cases r with
      | cons r1 r2 =>
        cases q with
        | cons q1 q2 => exact .cons (nested_of I h1 r1 q1) (nested_all I h2 r2 q2)
    · cases h
end
/-- a key -/
def keyB (d : D) : Bool := match d with
  | .tuple xs => match nksOf xs with
    | some ks => decide (NestedKey.depthAll ks ≤ 7)
    | none => false
  | _ => false
/-- a dict that is read -/
def DN (K : PySem.W.Frag) (H : Hp) (a : Addr) (kvs : List (D × D)) : Prop := ∃ es, Rd H a (dO a es) ∧ RpD K H kvs es ∧ (kvs.map fun p => nkOf p.1).Nodup ∧ (a == sysModules) = false
theorem DN.at (I : Inv X pins σ H s) {a : Addr} {kvs : List (D × D)} (h : DN X.K H a kvs) : ∃ xs, TR X.K H kvs xs ∧ s.heap.DictOfH (nestedKind X.prog X.w) a xs ∧ (a == sysModules) = false := by
  obtain ⟨es, e, l, nd, sm⟩ := h
  obtain ⟨xs, tr, rfl⟩ := l.tr X.prog X.w
  obtain ⟨⟨o, ep, h1, h2, h3⟩, _⟩ := e.ok I.hok
  refine ⟨xs, tr, ⟨o, _, ep, h1, h2, h3, by simp, ?_, tr.keys nd⟩, sm⟩
  intro x hx
  have : ∀ (kvs : List (D × D)) (xs : List (NestedKey × Addr × Value)), TR X.K H kvs xs → ∀ x ∈ xs, (nestedKind X.prog X.w).is s.heap x.1 x.2.1 := by
    intro kvs xs t
    unfold TR at t
    induction t with
    | nil => intro x hx; cases hx
    | cons q t ih =>
      intro x hx
      rcases List.mem_cons.mp hx with rfl | hx
      · exact ⟨nested_of I q.2.1 q.2.2.2.1 rfl, q.2.2.1⟩
      · exact ih x hx
  exact this kvs xs tr x hx
/-! ### expressions -/
variable {o i e f value : Expr} {pos pos' tpos apos cpos : Pos} {td ty tv tx : TE}
end
end DL
set_option Elab.async false
set_option linter.all false
set_option maxRecDepth 100000
set_option maxHeartbeats 1000000
/-! DL31: dicts over data. -/
namespace DL
open PySem PySem.Spec PyProof.Rows L2
theorem keyB_2 (a b : Int) : keyB (.tuple [.int a, .int b]) = true := rfl
theorem keyB_3 (a b c : Int) : keyB (.tuple [.int a, .int b, .int c]) = true := rfl
theorem keyB_4 (a b c d : Int) : keyB (.tuple [.int a, .int b, .int c, .int d]) = true := rfl
def dictAt (E : Env) (i : Nat) : Option (List (D × D)) := match E[i]? with
  | some (.dt kvs) => some kvs
  | some (.d (.dict kvs)) => some kvs
  | _ => none
def tupKeys (kvs : List (D × D)) : Bool := kvs.all fun p => match p.1 with
  | .tuple _ => true
  | _ => false
def optQ {α : Type} (o : Option α) (Q : α → Prop) : Prop := match o with
  | some d => Q d
  | none => False
section
variable {K : PySem.W.Frag} {G : Gh} {H : Hp} {E : Env} {σ : St} {ex : List Addr}
theorem Rd.pext {H' : Hp} (p : PExt H H') {a : Addr} {u : HO} (h : Rd H a u) : Rd H' a u := by
  rcases h with h | ⟨o, h⟩
  · exact .inl (p _ _ h)
  · exact .inr ⟨o, p _ _ h⟩
end
section
variable {X : Cx} {G : Gh} {a b c e f : Expr} {es : List Expr} {pos pos' p0 apos cpos : Pos} {x : Str} {tk tv tx ta : TD}
/-- d[k], d a name -/
def tDGetV (i : Nat) (tk : TD) : TD := fun E Q => match dictAt E i with
  | some _ => tk E fun k E1 => match dictAt E1 i with
    | some kvs => keyB k = true ∧ optQ (valN kvs k) fun d => Q d E1
    | none => False
  | none => False
/-- d[k], d data -/
def tDGetD (ta tk : TD) : TD := fun E Q => ta E fun x E1 => tk E1 fun k E2 => match x with
  | .dict kvs => keyB k = true ∧ optQ (valN kvs k) fun d => Q d E2
  | _ => False
/-- d.get(k, x), d a name -/
def tDGet2V (i : Nat) (tk tx : TD) : TD := fun E Q => match dictAt E i with
  | some kvs0 => tupKeys kvs0 = true ∧ tk E fun k E1 => tx E1 fun z E2 => match dictAt E2 i with
    | some kvs => keyB k = true ∧ tupKeys kvs = true ∧ Q ((valN kvs k).getD z) E2
    | none => False
  | none => False
/-- k in d, d a name of a dict of one's own -/
def tInN (tk : TD) (i : Nat) : TTd := fun E Q => tk E fun k E1 => match E1[i]? with
  | some (.dt kvs) => keyB k = true ∧ Q (valN kvs k).isSome E1
  | _ => False
def tNotInN (tk : TD) (i : Nat) : TTd := fun E Q => tk E fun k E1 => match E1[i]? with
  | some (.dt kvs) => keyB k = true ∧ Q (!(valN kvs k).isSome) E1
  | _ => False
/-- d[k] = v -/
def sDPutV (i : Nat) (tk tv : TD) : TSd := fun DE E => tv E fun d E1 => match E1[i]? with
  | some (.dt _) => tk E1 fun k E2 => match E2[i]? with
    | some (.dt kvs) => keyB k = true ∧ kvs.length < sizeLine ∧ DE.nx (E2.set i (.dt (putN kvs k d)))
    | _ => False
  | _ => False
/-! ### new mutable things -/
abbrev TM := Env → (S → Env → Prop) → Prop
def liftM (K : PySem.W.Frag) (G : Gh) (t : TM) : TE := fun σ H Q => ∃ (E : Env) (QE : S → Env → Prop), RelE K G H E σ ∧ t E QE ∧
  ∀ s E' a H', QE s E' → Ext H H' → RelX K G [a] H' E' σ → G.H0 a = none → a ∉ G.addrs → RelM K H' s a → Q (.ref a) H'
structure EM (X : Cx) (G : Gh) (e : Expr) (t : TM) : Prop where
  pe : PE X e (liftM X.K G t)
def mDt : TM := fun E Q => Q (.dt []) E
def mDk : TM := fun E Q => Q (.dk []) E
def sSetM (i : Nat) (t : TM) : TSd := fun DE E => t E fun s E1 => DE.nx (E1.set i s)
def pM (t : TM) (u : TPs) : TPs := fun E Q => t E fun s E1 => u E1 fun ss E2 => Q (s :: ss) E2
end
end DL
set_option Elab.async false
set_option linter.all false
set_option maxRecDepth 100000
set_option maxHeartbeats 1000000
/-! DL32: defs that may raise: raise X(), calls of such defs, try .. except X. -/
namespace DL
open PySem PySem.Spec PyProof.Rows L2
/-- X() -/
theorem pmk_own0 {X : Cx} {C : Addr} {bmB : List Value} {B newId initId : String} {x : Str} {p pos : Pos} (F : ExcBaseFacts B newId initId bmB) (q : PySem.W.excIn X.K C bmB newId = true) (gC : X.mg x = some (.ref C)) (kC : PySem.W.keepIn X.K (.ref C) = true) (r : Raises X (.ref C)) (hg : Gl X x)
    (hdb : (x == ("__debug__" : Str)) = false := by decide) : PMk X (.Call (.Name x p) [] [] pos) (fun _ H Q => Q (.ref C) none H) := by
  intro pins s σ H Q I h
  refine wpAny_Call_Name_kw (ld_glob I hg gC ?_ hdb)
  refine PySem.W.callWith_K0 I.kIn kC ?_
  show wpAny _ _ (call (.ref C) []) _ _ _
  obtain ⟨bm, N, nm, qn, bs, hdct, sn, sub, ab, col, dd, k0, k1, k2, k3, k5, mN, hC, hN, hni, T⟩ := exc_obj I.kIn q
  refine wpAny_call_exc_subT F T hC hN hni (fun h' e hm => ?_) (by show 0 ≤ sizeLine; exact Nat.zero_le _)
  exact mk_of I hm r h (I.hok.gone hm.new)
/-- an own class catches itself, and what stands below it -/
theorem exm_sub {K : PySem.W.Frag} {S T : Addr} {b : Bool} (h1 : PySem.W.subIn K (.ref T) (.type "BaseException") = some true) (h2 : PySem.W.isClsIn K T = true) (h3 : PySem.W.typeIn K (.ref T) = some (.type "type")) (h4 : PySem.W.subIn K (.ref S) (.ref T) = some b) : PySem.W.exmOne K (.ref S) (.ref T) = some b := by
  unfold PySem.W.exmOne
  rw [h1, if_pos (by rfl)]
  have e2 : ((PySem.W.clsIn K T).isSome && PySem.W.typeIn K (.ref T) == some (.type "type")) = true := by
    have h2' : (PySem.W.clsIn K T).isSome = true := h2
    rw [h2', h3] <;> rfl
  show (if ((PySem.W.clsIn K T).isSome && PySem.W.typeIn K (.ref T) == some (.type "type")) = true then PySem.W.subIn K (.ref S) (.ref T) else none) = some b
  rw [if_pos e2]
  exact h4
/-- what is wished of an exception, over data -/
abbrev WDt := Value → Env → Prop
def Wish (K : PySem.W.Frag) (G : Gh) (WD : WDt) (W : WX) : Prop := ∀ cls E σ H, WD cls E → RelE K G H E σ → W cls none σ H
section
variable {X : Cx} {G : Gh} {e : Expr} {pos : Pos}
def sRaise (WD : WDt) (c : Value) : TSd := fun _ E => WD c E
theorem sd_raise {W : WX} {WD : WDt} {c : Value} (hc : X.calm = true) (tk : Takes X W) (hW : Wish X.K G WD W) (mk : PMk X e (fun _ H Q => Q c none H)) : SD X G (.Raise (some e) none pos) (sRaise WD c) :=
  ⟨PS.weak (ps_raise hc tk mk) fun F σ H ⟨E, DE, r, q, _⟩ => hW c E σ H q r⟩
theorem SDs.nox {st : List Stmt} {t : TSd} (h : SDs X.nox G st t) : SDs X G st t := ⟨PSs.nox h.pss⟩
theorem SD.nox {st : Stmt} {t : TSd} (h : SD X.nox G st t) : SDs X G [st] t := SDs.nox (sds_one h)
end
/-! ### a call of such a def -/
/-! ### try .. except X -/
section
variable {X : Cx} {G : Gh} {x : Str} {c : Value} {body suite : List Stmt} {b₀ : Stmt} {np pos pos' : Pos}
theorem RelX.mark {K : PySem.W.Frag} {H : Hp} {E : Env} {σ : St} (r : RelE K G H E σ) : RelE K { G with X0 := H } H E σ := by
  obtain ⟨l, k, pn, dm, x0, A, h1, h2, h3⟩ := r
  exact ⟨l, k, pn, dm, Ext.refl _, A, h1, h2, h3⟩
theorem RelX.unmark {K : PySem.W.Frag} {H0 H H1 : Hp} {E E0 : Env} {σ σ0 : St} (r0 : RelE K G H0 E0 σ0) (r : RelE K { G with X0 := H0 } H E σ) : RelE K G H E σ := by
  obtain ⟨l, k, pn, dm, x0, A, h1, h2, h3⟩ := r
  exact ⟨l, k, pn, dm, r0.ext.trans x0, A, h1, h2, h3⟩
end
end DL
set_option Elab.async false
set_option linter.all false
set_option maxRecDepth 100000
set_option maxHeartbeats 1000000
/-! DL33: a call without arguments. -/
namespace DL
open PySem PySem.Spec PyProof.Rows L2
def tCall0D (sp : SpD) : TD := fun E Q => sp [] fun r _ => Q r E
end DL
set_option Elab.async false
set_option linter.all false
set_option maxRecDepth 100000
set_option maxHeartbeats 1000000
/-! DL34: a call whose last argument is a new mutable thing; list(range(n)). -/
namespace DL
open PySem PySem.Spec PyProof.Rows L2
abbrev TAm := Env → (List D → S → Env → Prop) → Prop
def amM (t : TM) : TAm := fun E Q => t E fun s E1 => s.isMut = true ∧ Q [] s E1
def amV (t : TD) (u : TAm) : TAm := fun E Q => t E fun d E1 => u E1 fun ds s E2 => Q (d :: ds) s E2
def tCallM (sp : SpD) (ta : TAm) : TD := fun E Q => ta E fun ds s E1 => sp (ds.map S.d ++ [s]) fun r _ => Q r E1
theorem AR.data {K : PySem.W.Frag} {H : Hp} {s : S} {a : Addr} (hm : s.isMut = true) (h : RelM K H s a) : ∀ {ds : List D} {vs : List V}, RpL K H ds vs → AR K H (ds.map S.d ++ [s]) (vs ++ [.ref a]) [a]
  | _, _, .nil => .o hm h .nil
  | _, _, .cons p t => .d p (AR.data hm h t)
section
variable {X : Cx} {G : Gh} {e : Expr} {es : List Expr} {pos p p1 p2 : Pos} {x : Str} {f : Addr} {fd : FuncData} {ps : List Str} {k : Nat} {sp : SpD} {ta : TAm}
/-- list(range(n)) -/
def tListRg (ta : TD) : TLd := fun E Q => ta E fun d E1 => match d with
  | .int n => (0 ≤ n ∧ n ≤ 10000000) ∧ Q (rangeD 0 n.toNat) E1
  | _ => False
end
end DL
set_option Elab.async false
set_option linter.all false
set_option maxRecDepth 100000
set_option maxHeartbeats 1000000
/-! DL35: a, b = a list -/
namespace DL
open PySem PySem.Spec PyProof.Rows L2
section
variable {X : Cx} {G : Gh} {e : Expr} {es : List Expr} {pos : Pos}
def gLstD (n : Nat) (u : TGsd) : TGd := fun d E Q => match d with
  | .list ds => ds.length = n ∧ u ds E Q
  | _ => False
end
end DL
set_option Elab.async false
set_option linter.all false
set_option maxRecDepth 100000
set_option maxHeartbeats 1000000
/-! DL36: dicts as data, walked: keys, values, pairs; list(d), list(d.values()). -/
namespace DL
open PySem PySem.Spec PyProof.Rows L2
/-- what stands in the entries -/
abbrev KVs (ps : List (V × V)) (es : List DictEntry) : Prop := Paired (fun p e => RelV p.1 e.key ∧ RelV p.2 e.val) ps es
theorem RpD.kvs {K : PySem.W.Frag} {H : Hp} : ∀ {kvs : List (D × D)} {es : List DictEntry}, RpD K H kvs es → ∃ ps, KVs ps es ∧ RpL K H (kvs.map (·.1)) (ps.map (·.1)) ∧ RpL K H (kvs.map (·.2)) (ps.map (·.2))
  | _, _, .nil => ⟨[], .nil, .nil, .nil⟩
  | _, _, .cons (b := b) (v := v) t n1 n2 n3 e1 h g r l => by
    obtain ⟨ps, h1, h2, h3⟩ := RpD.kvs l
    exact ⟨(.ref b, v) :: ps, .cons ⟨by rw [e1]; rfl, r⟩ h1, .cons h h2, .cons g h3⟩
/-! over data -/
section
variable {K : PySem.W.Frag} {H : Hp}
def pairD (p : D × D) : D := .tuple [p.1, p.2]
variable {d : Addr} {o : Obj} {es : List DictEntry} {ps : List (V × V)} {kvs : List (D × D)}
end
section
variable {X : Cx} {G : Gh} {tg e : Expr} {ta : TD} {apos cpos : Pos}
def iDk (ta : TD) : TDs := fun E Q => ta E fun x E1 => match x with
  | .dict kvs => tupKeys kvs = true ∧ Q (kvs.map (·.1)) E1
  | _ => False
def iDv (ta : TD) : TDs := fun E Q => ta E fun x E1 => match x with
  | .dict kvs => tupKeys kvs = true ∧ Q (kvs.map (·.2)) E1
  | _ => False
def iDi (ta : TD) : TDs := fun E Q => ta E fun x E1 => match x with
  | .dict kvs => tupKeys kvs = true ∧ Q (kvs.map pairD) E1
  | _ => False
end
end DL
set_option Elab.async false
set_option linter.all false
set_option maxRecDepth 100000
set_option maxHeartbeats 1000000
/-! DL37: list(d), list(d.values()), if d, {k: v} of dicts with tuple keys; new mutable things frozen. -/
namespace DL
open PySem PySem.Spec PyProof.Rows L2
/-! ### if d -/
section
variable {X : Cx} {G : Gh} {e : Expr} {ta : TD} {p p1 p2 apos cpos pos : Pos}
def tTruDk (ta : TD) : TTd := fun E Q => ta E fun x E1 => match x with
  | .dict kvs => tupKeys kvs = true ∧ kvs.length ≤ sizeLine ∧ Q (!kvs.isEmpty) E1
  | _ => False
/-! ### list(d), list(d.values()) -/
def tLDk (ta : TD) : TLd := fun E Q => ta E fun x E1 => match x with
  | .dict kvs => tupKeys kvs = true ∧ kvs.length ≤ sizeLine ∧ Q (kvs.map (·.1)) E1
  | _ => False
def tLDv (ta : TD) : TLd := fun E Q => ta E fun x E1 => match x with
  | .dict kvs => tupKeys kvs = true ∧ kvs.length ≤ sizeLine ∧ Q (kvs.map (·.2)) E1
  | _ => False
/-! ### new mutable things: one entry; frozen -/
def mDt1 (tk tv : TD) : TM := fun E Q => tk E fun k E1 => tv E1 fun d E2 => keyB k = true ∧ Q (.dt [(k, d)]) E2
def tFzM (t : TM) : TD := fun E Q => t E fun s E1 => match s with
  | .dt kvs => Q (.dict kvs) E1
  | .ol xs => Q (.list xs) E1
  | _ => False
theorem EM.ed {t : TM} (h : EM X G e t) : ED X G e (tFzM t) :=
  ⟨PE.weak (PE.fzIf h.pe) fun σ H Q ⟨E, QE, r, q, k⟩ => ⟨E, _, r, q, fun s E1 a H1 q1 x1 r1 h0 na m => by
    split at q1
    · rename_i kvs
      obtain ⟨es, e2, l, nd, sm⟩ := m
      refine .inr ⟨a, _, rfl, e2, trivial, fun o => ?_⟩
      have x2 : Ext H1 (upd H1 a (.frz o (dO a es))) := Ext.putS e2 (fun _ z => by cases z) (fun _ _ z => by cases z)
      exact k _ _ _ _ q1 (x1.trans x2) (r1.freezeS h0 na e2 (fun _ z => by cases z) (fun _ _ z => by cases z)) (.dct upd_same (l.ext x2) nd sm)
    · rename_i xs
      obtain ⟨vs, e2, l⟩ := m
      refine .inr ⟨a, _, rfl, e2, trivial, fun o => ?_⟩
      exact k _ _ _ _ q1 (x1.trans (Ext.put e2)) (r1.freeze h0 na e2) (.lst (.of upd_same) (l.ext (Ext.put e2)))
    · exact q1.elim⟩⟩
end
end DL
set_option Elab.async false
set_option linter.all false
set_option maxRecDepth 100000
set_option maxHeartbeats 1000000
/-! DL38: objects: where they stand in the environment, and how they change. -/
namespace DL
open PySem PySem.Spec PyProof.Rows L2
/-- objects by their footprints -/
abbrev ObsR (K : PySem.W.Frag) (H : Hp) : List S → List (List Addr) → Prop := Paired fun s fp => ∃ a C fs, s = .ob a C fs ∧ RelOb K H a C fs fp
def obsAt (E : Env) : List Nat → Option (List S)
  | [] => some []
  | j :: js => match E[j]?, obsAt E js with
    | some (.ob a C fs), some os => some (.ob a C fs :: os)
    | _, _ => none
def putOb : List Nat → List S → Env → Env
  | j :: js, s :: os, E => putOb js os (E.set j s)
  | _, _, E => E
theorem putOb_len : ∀ (js : List Nat) (os : List S) (E : Env), (putOb js os E).length = E.length
  | [], _, _ => by unfold putOb; rfl
  | _ :: _, [], _ => by unfold putOb; rfl
  | j :: js, s :: os, E => by show (putOb js os (E.set j s)).length = _; rw [putOb_len, List.length_set]
theorem putOb_out {i : Nat} : ∀ (js : List Nat) (os : List S) (E : Env), i ∉ js → (putOb js os E)[i]? = E[i]?
  | [], _, _, _ => by unfold putOb; rfl
  | _ :: _, [], _, _ => by unfold putOb; rfl
  | j :: js, s :: os, E, h => by
    show (putOb js os (E.set j s))[i]? = _
    rw [putOb_out js os _ fun z => h (List.mem_cons_of_mem _ z), List.getElem?_set_ne fun z => h (by rw [z]; exact List.mem_cons_self ..)]
/-- which one stands at a place -/
theorem putOb_in {i : Nat} {s : S} : ∀ (js : List Nat) (os : List S) (E : Env), js.Nodup → js.length = os.length → i ∈ js → (putOb js os E)[i]? = some s → ∃ k : Nat, js[k]? = some i ∧ os[k]? = some s
  | [], _, _, _, _, h, _ => by cases h
  | _ :: _, [], _, _, h, _, _ => by cases h
  | j :: js, t :: os, E, nd, hl, h, e => by
    obtain ⟨n1, n2⟩ := List.nodup_cons.mp nd
    have e : (putOb js os (E.set j t))[i]? = some s := e
    rcases List.mem_cons.mp h with z | z
    · subst z
      rw [putOb_out js os _ n1] at e
      by_cases hi : i < E.length
      · rw [List.getElem?_set_self hi] at e
        exact ⟨0, rfl, e⟩
      · rw [List.getElem?_eq_none (by simpa using hi)] at e; cases e
    · obtain ⟨k, h1, h2⟩ := putOb_in js os (E.set j t) n2 (by simpa using hl) z e
      exact ⟨k + 1, h1, h2⟩
theorem obsAt_get {E : Env} : ∀ {js : List Nat} {os : List S}, obsAt E js = some os → js.length = os.length ∧ ∀ (k j : Nat) (s : S), js[k]? = some j → os[k]? = some s → E[j]? = some s ∧ ∃ a C fs, s = S.ob a C fs
  | [], os, h => by cases h; exact ⟨rfl, fun k j s h => by simp at h⟩
  | j :: js, os, h => by
    unfold obsAt at h
    split at h
    · rename_i a C fs os' h1 h2
      cases h
      obtain ⟨g1, g2⟩ := obsAt_get h2
      refine ⟨by simp [g1], fun k i s h3 h4 => ?_⟩
      cases k with
      | zero =>
        simp at h3 h4
        subst h3 h4
        exact ⟨h1, _, _, _, rfl⟩
      | succ k => exact g2 k i s (by simpa using h3) (by simpa using h4)
    · cases h
theorem paired_at {α β : Type} {F : α → β → Prop} : ∀ {xs : List α} {ys : List β}, Paired F xs ys → ∀ {k : Nat} {x : α}, xs[k]? = some x → ∃ y, ys[k]? = some y ∧ F x y
  | _, _, .nil, k, x, h => by simp at h
  | _, _, .cons r t, 0, x, h => by simp at h; subst h; exact ⟨_, rfl, r⟩
  | _, _, .cons r t, k + 1, x, h => by obtain ⟨y, h1, h2⟩ := paired_at t (k := k) (x := x) (by simpa using h); exact ⟨y, by simpa using h1, h2⟩
theorem RelOb.soft {K : PySem.W.Frag} {H : Hp} {a C : Addr} {fs : List (Str × FS)} {fp : List Addr} (h : RelOb K H a C fs fp) : ∀ p ∈ fp, Soft H p := RelS.indom (s := .ob a C fs) (o := none) h
theorem RelOb.nodup {K : PySem.W.Frag} {H : Hp} {a C : Addr} {fs : List (Str × FS)} {fp : List Addr} (h : RelOb K H a C fs fp) : fp.Nodup := by obtain ⟨_, _, _, _, n, _⟩ := h; exact n
theorem obs_soft {K : PySem.W.Frag} {H : Hp} : ∀ {os : List S} {fps : List (List Addr)}, ObsR K H os fps → ∀ p ∈ fps.flatten, Soft H p
  | _, _, .nil, p, h => by simp at h
  | _, _, .cons r t, p, h => by
    rw [List.flatten_cons] at h
    rcases List.mem_append.mp h with z | z
    · obtain ⟨a, C, fs, _, q⟩ := r; exact q.soft p z
    · exact obs_soft t p z
/-- distinct places lie in distinct footprints -/
theorem flat_one {fps : List (List Addr)} (nd : fps.flatten.Nodup) {i j : Nat} {f g : List Addr} {p : Addr} (hi : fps[i]? = some f) (hj : fps[j]? = some g) (pf : p ∈ f) (pg : p ∈ g) : i = j := by
  induction fps generalizing i j with
  | nil => simp at hi
  | cons x xs ih =>
    rw [List.flatten_cons] at nd
    obtain ⟨n1, n2, n3⟩ := List.nodup_append.mp nd
    cases i with
    | zero =>
      simp at hi; subst hi
      cases j with
      | zero => rfl
      | succ j =>
        have hj : xs[j]? = some g := by simpa using hj
        exact absurd rfl (n3 p pf p (List.mem_flatten.mpr ⟨g, List.mem_of_getElem? hj, pg⟩))
    | succ i =>
      have hi : xs[i]? = some f := by simpa using hi
      cases j with
      | zero =>
        simp at hj; subst hj
        exact absurd rfl (n3 p pg p (List.mem_flatten.mpr ⟨f, List.mem_of_getElem? hi, pf⟩))
      | succ j =>
        have hj : xs[j]? = some g := by simpa using hj
        rw [ih n2 hi hj]
section
variable {K : PySem.W.Frag} {G : Gh} {H : Hp} {E : Env} {σ : St} {ex : List Addr}
/-- THE LENS: some objects, seen and changed -/
theorem RelX.obs (r : RelX K G ex H E σ) {js : List Nat} {os : List S} (nd : js.Nodup) (h : obsAt E js = some os) : ∃ fps : List (List Addr), ObsR K H os fps ∧ fps.flatten.Nodup ∧ (∀ p ∈ fps.flatten, (p ∈ G.addrs ∨ G.H0 p = none) ∧ p ∉ ex) ∧
    ∀ (H' : Hp) (os' : List S) (fps' : List (List Addr)), os'.length = js.length → (∀ p o, H p = some o → p ∉ fps.flatten → H' p = some o) → (∀ p ∈ fps.flatten, H' p ≠ none) → ObsR K H' os' fps' → fps'.flatten.Nodup → (∀ p ∈ fps'.flatten, p ∈ fps.flatten ∨ H p = none ∨ (p ∈ ex ∧ G.H0 p = none)) →
      Ext H H' ∧ RelE K G H' (putOb js os' E) σ := by
  obtain ⟨l, k, pn, dm, x0, A, h1, h2, h3⟩ := r
  obtain ⟨g1, g2⟩ := obsAt_get h
  have mk : ∀ (js : List Nat) (os : List S), obsAt E js = some os → ObsR K H os (js.map A) := by
    intro js
    induction js with
    | nil => intro os h; cases h; exact .nil
    | cons j js ih =>
      intro os h
      unfold obsAt at h
      split at h
      · rename_i a C fs os' e1 e2
        cases h
        exact .cons ⟨a, C, fs, rfl, h3 j _ e1⟩ (ih os' e2)
      · cases h
  have fn : ∀ (js : List Nat) (os : List S), js.Nodup → obsAt E js = some os → (js.map A).flatten.Nodup := by
    intro js
    induction js with
    | nil => intro os _ _; exact List.nodup_nil
    | cons j js ih =>
      intro os nd h
      obtain ⟨n1, n2⟩ := List.nodup_cons.mp nd
      unfold obsAt at h
      split at h
      · rename_i a C fs os' e1 e2
        rw [List.map_cons, List.flatten_cons]
        refine List.nodup_append.mpr ⟨RelOb.nodup (h3 j _ e1), ih os' n2 e2, fun p hp q hq e => ?_⟩
        subst e
        obtain ⟨f, hf, hpf⟩ := List.mem_flatten.mp hq
        obtain ⟨i, hi, rfl⟩ := List.mem_map.mp hf
        exact n1 (by rw [h1 j i p hp hpf]; exact hi)
      · cases h
  have inA : ∀ p, p ∈ (js.map A).flatten → ∃ j ∈ js, p ∈ A j := fun p hp => by
    obtain ⟨f, hf, hpf⟩ := List.mem_flatten.mp hp
    obtain ⟨j, hj, rfl⟩ := List.mem_map.mp hf
    exact ⟨j, hj, hpf⟩
  refine ⟨js.map A, mk js os h, fn js os nd h, fun p hp => ?_, fun H' os' fps' hl keep still ob' nd' fr => ?_⟩
  · obtain ⟨j, hj, hpj⟩ := inA p hp
    exact h2 j p hpj
  have x : Ext H H' := Ext.ofSoft keep (obs_soft (mk js os h))
  have lf : os'.length = fps'.length := Paired.length ob'
  have ix : ∀ {i k : Nat}, js[k]? = some i → js.idxOf i = k := fun {i k} e => by
    have hk := (List.getElem?_eq_some_iff.mp e).1
    have hm : i ∈ js := List.mem_of_getElem? e
    have h5 := List.idxOf_lt_length_of_mem hm
    have h6 : js[js.idxOf i] = i := List.getElem_idxOf h5
    have h7 : js[k] = i := (List.getElem?_eq_some_iff.mp e).2
    rcases Nat.lt_trichotomy (js.idxOf i) k with z | z | z
    · exact absurd (h6.trans h7.symm) (List.pairwise_iff_getElem.mp nd _ _ h5 hk z)
    · exact z
    · exact absurd (h7.trans h6.symm) (List.pairwise_iff_getElem.mp nd _ _ hk h5 z)
  have at' : ∀ {i : Nat} {p : Addr}, i ∈ js → p ∈ fps'.getD (js.idxOf i) [] → ∃ f, fps'[js.idxOf i]? = some f ∧ p ∈ f := fun {i p} _ hp => by
    rw [List.getD_eq_getElem?_getD] at hp
    cases q : fps'[js.idxOf i]? with
    | none => rw [q] at hp; simp at hp
    | some f => rw [q] at hp; exact ⟨f, rfl, hp⟩
  have fl : ∀ {i : Nat} {p : Addr}, i ∈ js → p ∈ fps'.getD (js.idxOf i) [] → p ∈ fps'.flatten := fun hi hp => by
    obtain ⟨f, h5, h6⟩ := at' hi hp
    exact List.mem_flatten.mpr ⟨f, List.mem_of_getElem? h5, h6⟩
  -- no old place outside is met by a new footprint
  have apart : ∀ {i : Nat} {p : Addr}, i ∉ js → E[i]? ≠ none → p ∈ A i → p ∉ fps'.flatten := fun {i p} hi he hp z => by
    cases q : E[i]? with
    | none => exact he q
    | some s =>
      obtain ⟨u, hu, _⟩ := (h3 i s q).indom p hp
      rcases fr p z with w | w | w
      · obtain ⟨j, hj, hpj⟩ := inA p w
        exact hi (by rw [h1 i j p hp hpj]; exact hj)
      · rw [w] at hu; cases hu
      · exact (h2 i p hp).2 w.1
  refine ⟨x, by rw [putOb_len]; exact l, fun p o e ne => ?_, pn, fun a ha => ?_, x0.trans x, fun i => if i ∈ js then fps'.getD (js.idxOf i) [] else if E[i]? = none then [] else A i, fun i j p e1 e2 => ?_, fun i p e => ⟨?_, by simp⟩, fun i s e => ?_⟩
  · refine keep p o (k p o e ne) fun z => ?_
    obtain ⟨j, hj, hpj⟩ := inA p z
    rcases (h2 j p hpj).1 with w | w
    · exact ne w
    · rw [w] at e; cases e
  · by_cases z : a ∈ (js.map A).flatten
    · exact still a z
    · cases q : H a with
      | none => exact absurd q (dm a ha)
      | some o => rw [keep a o q z]; simp
  · dsimp only at e1 e2
    by_cases hi : i ∈ js
    · rw [if_pos hi] at e1
      by_cases hj : j ∈ js
      · rw [if_pos hj] at e2
        obtain ⟨f, f1, f2⟩ := at' hi e1
        obtain ⟨g, f3, f4⟩ := at' hj e2
        have := flat_one nd' f1 f3 f2 f4
        have a1 : js[js.idxOf i]'(List.idxOf_lt_length_of_mem hi) = i := List.getElem_idxOf _
        have a2 : js[js.idxOf j]'(List.idxOf_lt_length_of_mem hj) = j := List.getElem_idxOf _
        rw [← a1, ← a2]
        congr 1
      · rw [if_neg hj] at e2
        by_cases he : E[j]? = none
        · rw [if_pos he] at e2; cases e2
        · rw [if_neg he] at e2; exact absurd (fl hi e1) (apart hj he e2)
    · rw [if_neg hi] at e1
      by_cases he : E[i]? = none
      · rw [if_pos he] at e1; cases e1
      · rw [if_neg he] at e1
        by_cases hj : j ∈ js
        · rw [if_pos hj] at e2; exact absurd (fl hj e2) (apart hi he e1)
        · rw [if_neg hj] at e2
          by_cases he2 : E[j]? = none
          · rw [if_pos he2] at e2; cases e2
          · rw [if_neg he2] at e2; exact h1 i j p e1 e2
  · dsimp only at e
    by_cases hi : i ∈ js
    · rw [if_pos hi] at e
      rcases fr p (fl hi e) with w | w | w
      · obtain ⟨j, hj, hpj⟩ := inA p w
        exact (h2 j p hpj).1
      · cases q : G.H0 p with
        | none => exact .inr rfl
        | some o =>
          by_cases z : p ∈ G.addrs
          · exact .inl z
          · have := k p o q z; rw [w] at this; cases this
      · exact .inr w.2
    · rw [if_neg hi] at e
      by_cases he : E[i]? = none
      · rw [if_pos he] at e; cases e
      · rw [if_neg he] at e; exact (h2 i p e).1
  · by_cases hi : i ∈ js
    · obtain ⟨q, q1, q2⟩ := putOb_in js os' E nd hl.symm hi e
      obtain ⟨f, f1, a, C, fs, rfl, f3⟩ := paired_at ob' q2
      simp only [if_pos hi]
      rw [ix q1, List.getD_eq_getElem?_getD, f1]
      exact f3
    · rw [putOb_out js os' E hi] at e
      have he : E[i]? ≠ none := by rw [e]; simp
      simp only [if_neg hi, if_neg he]
      refine (h3 i s e).move x fun p hp => ?_
      obtain ⟨u, hu, _⟩ := (h3 i s e).indom p hp
      rw [hu]
      refine keep p u hu fun z => ?_
      obtain ⟨j, hj, hpj⟩ := inA p z
      exact hi (by rw [h1 i j p hp hpj]; exact hj)
end
end DL
set_option Elab.async false
set_option linter.all false
set_option maxRecDepth 100000
set_option maxHeartbeats 1000000
/-! DL39: defs and methods over objects: promises, calls. -/
namespace DL
open PySem PySem.Spec PyProof.Rows L2
/-- a promise: arguments (data), objects; what it gives, what it raises -/
abbrev SpO := List D → List S → (D → List S → Prop) → (Value → List S → Prop) → Prop
/-- nothing but these footprints changes -/
structure Ch (H H' : Hp) (ps : List Addr) : Prop where
  keep : ∀ p o, H p = some o → p ∉ ps → H' p = some o
  still : ∀ p ∈ ps, H' p ≠ none
structure ObNew (K : PySem.W.Frag) (H H' : Hp) (fps : List (List Addr)) (os' : List S) (fps' : List (List Addr)) : Prop where
  ch : Ch H H' fps.flatten
  obs : ObsR K H' os' fps'
  nd : fps'.flatten.Nodup
  fr : ∀ p ∈ fps'.flatten, p ∈ fps.flatten ∨ H p = none
def spO (K : PySem.W.Frag) (sp : SpO) : Sp := fun vs H Q E => ∃ (ds : List D) (os : List S) (fps : List (List Addr)) (QD : D → List S → Prop) (QX : Value → List S → Prop), sp ds os QD QX ∧ RpL K H ds vs ∧ ObsR K H os fps ∧ fps.flatten.Nodup ∧
  (∀ d os' fps' v H', QD d os' → ObNew K H H' fps os' fps' → Rp K H' d v → Q v H') ∧ ∀ cls os' fps' H', QX cls os' → ObNew K H H' fps os' fps' → E cls none H'
/-- the objects at the end -/
def finG (js : List Nat) (E : Env) (Q : List S → Prop) : Prop := match obsAt E js with
  | some os => Q os
  | none => False
def ghJs (n g : Nat) : List Nat := (List.range g).map fun i => n - g + i
theorem ghJs_nd (n g : Nat) : (ghJs n g).Nodup := by
  unfold ghJs
  refine List.Pairwise.map _ (fun a b h => ?_) List.nodup_range
  intro z; apply h; omega
section
variable {K : PySem.W.Frag} {H : Hp}
/-- the start of such a def's body -/
theorem startO {ds : List D} {vs : List V} {os : List S} {fps : List (List Addr)} (m : Nat) (l : RpL K H ds vs) (ob : ObsR K H os fps) (nd : fps.flatten.Nodup) :
    RelE K ⟨H, [], fun _ => none, fps.flatten⟩ H (ds.map S.d ++ List.replicate m .un ++ os) (vs.map some ++ List.replicate (m + os.length) none) := by
  have lo : os.length = fps.length := Paired.length ob
  have hl := l.length
  refine ⟨by simp [hl], fun p o h _ => h, (fun i a h => by cases h), fun a h => ?_, ⟨(fun _ _ z => by cases z), (fun _ _ _ z => by cases z)⟩, fun i => if ds.length + m ≤ i then fps.getD (i - (ds.length + m)) [] else [], fun i j a h1 h2 => ?_, fun i a h => ⟨.inl ?_, by simp⟩, fun i s h => ?_⟩
  · have h : a ∈ fps.flatten := by simpa [Gh.addrs] using h
    obtain ⟨u, e, _⟩ := obs_soft ob a h
    show H a ≠ none
    rw [e]; simp
  · dsimp only at h1 h2
    split at h1
    · split at h2
      · rw [List.getD_eq_getElem?_getD] at h1 h2
        cases q1 : fps[i - (ds.length + m)]? with
        | none => rw [q1] at h1; simp at h1
        | some f =>
          cases q2 : fps[j - (ds.length + m)]? with
          | none => rw [q2] at h2; simp at h2
          | some g =>
            rw [q1] at h1; rw [q2] at h2
            have := flat_one nd q1 q2 h1 h2
            omega
      · cases h2
    · cases h1
  · dsimp only at h
    split at h
    · rw [List.getD_eq_getElem?_getD] at h
      cases q1 : fps[i - (ds.length + m)]? with
      | none => rw [q1] at h; simp at h
      | some f =>
        rw [q1] at h
        show a ∈ [] ++ fps.flatten
        exact List.mem_flatten.mpr ⟨f, List.mem_of_getElem? q1, h⟩
    · cases h
  · rcases Nat.lt_or_ge i (ds.length + m) with hi | hi
    · simp only [if_neg (Nat.not_le.mpr hi)]
      rw [List.getElem?_append_left (by simpa using hi)] at h
      rcases Nat.lt_or_ge i ds.length with hd | hd
      · rw [List.getElem?_append_left (by simpa using hd), List.getElem?_map] at h
        obtain ⟨d, h1, rfl⟩ := Option.map_eq_some_iff.mp h
        obtain ⟨v, h2, h3⟩ := l.get h1
        refine ⟨rfl, v, ?_, h3⟩
        rw [List.getElem?_append_left (by simpa [← hl] using hd), List.getElem?_map, h2]; rfl
      · rw [List.getElem?_append_right (by simpa using hd)] at h
        have := List.mem_of_getElem? h
        rw [(List.mem_replicate.mp this).2]; rfl
    · simp only [if_pos hi]
      rw [List.getElem?_append_right (by simpa using hi)] at h
      simp only [List.length_append, List.length_map, List.length_replicate] at h
      obtain ⟨f, f1, a, C, fs, rfl, f3⟩ := paired_at ob h
      rw [List.getD_eq_getElem?_getD, f1]
      exact f3
end
section
variable {P : Program} {w : World} {K : PySem.W.Frag} {mg : Str → Option Value} {base : Heap} {x qual : Str} {st : Stmt} {f : Addr} {fd : FuncData} {N ps : List Str} {k g : Nat} {sp : SpO}
theorem endO {H H' : Hp} {E' : Env} {σ' : St} {fps : List (List Addr)} {js : List Nat} {Q : List S → Prop} (nj : js.Nodup) (r : RelE K ⟨H, [], fun _ => none, fps.flatten⟩ H' E' σ') (q : finG js E' Q) : ∃ os' fps', Q os' ∧ ObNew K H H' fps os' fps' := by
  unfold finG at q
  split at q
  · rename_i os' he
    obtain ⟨fps', h1, h2, h3, _⟩ := r.obs nj he
    refine ⟨os', fps', q, ⟨fun p o e ne => r.keep p o e (by show p ∉ [] ++ fps.flatten; exact ne), fun p hp => r.dom p (by show p ∈ [] ++ fps.flatten; exact hp)⟩, h1, h2, fun p hp => ?_⟩
    rcases (h3 p hp).1 with z | z
    · exact .inl (by have z : p ∈ [] ++ fps.flatten := z; exact z)
    · exact .inr z
  · exact q.elim
/-- THE RULE for a def over objects (g of them) -/
theorem fn_okO {tb : TSd} (F : Fun K x qual st f fd) (Sc : FnScope N ps (defScope st)) (hg : ps.length + g ≤ N.length) (shape : ∀ ds os QD QX, sp ds os QD QX → ds.length = ps.length ∧ os.length = g)
    (body : ∀ (cdv : Value) (A : Around) (outer : List PySem.Env) (s : Shared) (H : Hp) (E : XK), Room k (A.deeper (envOfC qual (defScope st) s.heap.objs.size f cdv)) → ∀ G : Gh, G.slots = [] → SDs (cxOf CX0 P w K mg base N qual (defScope st) f cdv A outer s H E).nox G (defBody st) tb)
    (read : ∀ ds os QD QX, sp ds os QD QX → tb { nx := fun E' => finG (ghJs N.length g) E' (QD .none), rt := fun d E' => finG (ghJs N.length g) E' (QD d) } (ds.map S.d ++ List.replicate (N.length - ps.length - g) .un ++ os)) :
    FnOk P w K mg base CX0 (k + 1) f fd ps (spO K sp) := by
  refine F.ok Sc (fun vs H Q E ⟨ds, os, fps, QD, QX, h1, h2, _⟩ => by rw [← h2.length]; exact (shape _ _ _ _ h1).1) (fun cdv A outer s H vs Q E hr ⟨ds, os, fps, QD, QX, h1, h2, h3, h4, h5, h6⟩ => ?_)
  obtain ⟨hl, hm⟩ := shape _ _ _ _ h1
  refine ⟨_, (body cdv A outer s H E hr ⟨H, [], fun _ => none, fps.flatten⟩ rfl).pss, _, { nx := fun E' => finG (ghJs N.length g) E' (QD .none), rt := fun d E' => finG (ghJs N.length g) E' (QD d) }, ?_, read ds os QD QX h1, fun E' σ' H' q x r => ?_, fun d E' v σ' H' q x r p => ?_, fun _ _ _ q => False.elim q, fun _ _ _ q => False.elim q⟩
  · have := startO (N.length - ps.length - g) h2 h3 h4
    have hst : L2.start N vs = vs.map some ++ List.replicate (N.length - ps.length - g + os.length) none := by
      unfold L2.start; rw [← h2.length, hl, hm]; congr 2; omega
    rw [hst]; exact this
  · obtain ⟨os', fps', q1, q2⟩ := endO (ghJs_nd _ _) r q
    exact h5 .none os' fps' .non H' q1 q2 .non
  · obtain ⟨os', fps', q1, q2⟩ := endO (ghJs_nd _ _) r q
    exact h5 d os' fps' v H' q1 q2 p
/-- .. that may raise -/
theorem fn_okOX {tb : WDt → TSd} (F : Fun K x qual st f fd) (Sc : FnScope N ps (defScope st)) (hg : ps.length + g ≤ N.length) (shape : ∀ ds os QD QX, sp ds os QD QX → ds.length = ps.length ∧ os.length = g)
    (body : ∀ (cdv : Value) (A : Around) (outer : List PySem.Env) (s : Shared) (H : Hp) (E : XK), Room k (A.deeper (envOfC qual (defScope st) s.heap.objs.size f cdv)) → ∀ G : Gh, G.slots = [] → ∀ WD : WDt, Wish K G WD (fun cls d _ H' => E cls d H') →
      SDs (cxOf (L2.CX P w) P w K mg base N qual (defScope st) f cdv A outer s H E) G (defBody st) (tb WD))
    (read : ∀ ds os QD QX, sp ds os QD QX → tb (fun cls E' => finG (ghJs N.length g) E' (QX cls)) { nx := fun E' => finG (ghJs N.length g) E' (QD .none), rt := fun d E' => finG (ghJs N.length g) E' (QD d) } (ds.map S.d ++ List.replicate (N.length - ps.length - g) .un ++ os)) :
    FnOk P w K mg base (L2.CX P w) (k + 1) f fd ps (spO K sp) := by
  refine F.okX Sc (fun vs H Q E ⟨ds, os, fps, QD, QX, h1, h2, _⟩ => by rw [← h2.length]; exact (shape _ _ _ _ h1).1) (fun cdv A outer s H vs Q E hr ⟨ds, os, fps, QD, QX, h1, h2, h3, h4, h5, h6⟩ => ?_)
  obtain ⟨hl, hm⟩ := shape _ _ _ _ h1
  have hW : Wish K ⟨H, [], fun _ => none, fps.flatten⟩ (fun cls E' => finG (ghJs N.length g) E' (QX cls)) (fun cls d _ H' => E cls d H') := fun cls E' σ H' q r => by
    obtain ⟨os', fps', q1, q2⟩ := endO (ghJs_nd _ _) r q
    exact h6 cls os' fps' H' q1 q2
  refine ⟨_, (body cdv A outer s H E hr ⟨H, [], fun _ => none, fps.flatten⟩ rfl _ hW).pss, _, { nx := fun E' => finG (ghJs N.length g) E' (QD .none), rt := fun d E' => finG (ghJs N.length g) E' (QD d) }, ?_, read ds os QD QX h1, fun E' σ' H' q x r => ?_, fun d E' v σ' H' q x r p => ?_, fun _ _ _ q => False.elim q, fun _ _ _ q => False.elim q⟩
  · have := startO (N.length - ps.length - g) h2 h3 h4
    have hst : L2.start N vs = vs.map some ++ List.replicate (N.length - ps.length - g + os.length) none := by
      unfold L2.start; rw [← h2.length, hl, hm]; congr 2; omega
    rw [hst]; exact this
  · obtain ⟨os', fps', q1, q2⟩ := endO (ghJs_nd _ _) r q
    exact h5 .none os' fps' .non H' q1 q2 .non
  · obtain ⟨os', fps', q1, q2⟩ := endO (ghJs_nd _ _) r q
    exact h5 d os' fps' v H' q1 q2 p
end
/-! ### calls -/
/-- the objects that go along: js says where they stand -/
def tObs (sp : SpO) (ds : List D) (E : Env) (Q : D → Env → Prop) (WD : WDt) : Prop := ∃ js os, js.Nodup ∧ obsAt E js = some os ∧
  sp ds os (fun d os' => os'.length = js.length ∧ Q d (putOb js os' E)) (fun cls os' => os'.length = js.length ∧ WD cls (putOb js os' E))
def tCallO (sp : SpO) (ta : TDs) (WD : WDt) : TD := fun E Q => ta E fun ds E1 => tObs sp ds E1 Q WD
section
variable {K : PySem.W.Frag} {G : Gh} {H : Hp} {E : Env} {σ : St}
theorem obs_call {sp : SpO} {ds : List D} {vs : List V} {Q : D → Env → Prop} {WD : WDt} {QV : VK} {EX : XK} (r : RelE K G H E σ) (l : RpL K H ds vs) (h : tObs sp ds E Q WD)
    (k1 : ∀ d E' v H', Q d E' → Ext H H' → RelE K G H' E' σ → Rp K H' d v → QV v H') (k2 : ∀ cls E' H', WD cls E' → RelE K G H' E' σ → EX cls none H') : spO K sp vs H QV EX := by
  obtain ⟨js, os, nj, ho, q⟩ := h
  obtain ⟨fps, o1, o2, o3, up⟩ := r.obs nj ho
  have mv : ∀ {os' : List S} {fps' : List (List Addr)} {H' : Hp}, os'.length = js.length → ObNew K H H' fps os' fps' → Ext H H' ∧ RelE K G H' (putOb js os' E) σ := fun hl n =>
    up _ _ _ hl n.ch.keep n.ch.still n.obs n.nd fun p hp => (n.fr p hp).elim .inl fun z => .inr (.inl z)
  refine ⟨ds, os, fps, _, _, q, l, o1, o2, fun d os' fps' v H' q2 n p => ?_, fun cls os' fps' H' q2 n => ?_⟩
  · obtain ⟨x, r'⟩ := mv q2.1 n
    exact k1 d _ v H' q2.2 x r' p
  · exact k2 cls _ H' q2.2 (mv q2.1 n).2
end
section
variable {X : Cx} {G : Gh} {o e : Expr} {es : List Expr} {pos p apos : Pos} {x m : Str} {f C : Addr} {fd : FuncData} {ps : List Str} {k : Nat} {sp : SpO} {ta : TDs} {to : TD}
theorem ed_callO (F : FnOk X.prog X.w X.K X.mg X.base CX0 k f fd ps (spO X.K sp)) (hr : Room k X.A) (hg : Gl X x) (hm : X.mg x = some (.ref f)) (hk : PySem.W.keepIn X.K (.ref f) = true) (hb : Binds X.K fd ps []) (ha : EDs X G (e :: es) ta) (hdb : (x == ("__debug__" : Str)) = false := by decide)
    (hs : starEach (e :: es) X.env = (false, eval e X.env) :: starEach es X.env := by rfl) (hplain : (backTo pos (starEach es X.env)).any (·.1) = false := by rfl) : ED X G (.Call (.Name x p) (e :: es) [] pos) (tCallO sp ta fun _ _ => False) :=
  ⟨PE.weak (pe_call (dvs := []) (E := fun _ _ _ => False) F hr hg hm hk hb .nil pass0 ha.pa (hdb := hdb) (he := hs) (hpl := hplain)) fun σ H Q ⟨E0, QE, r, q, kk⟩ => ⟨E0, _, r, q, fun ds E1 vs H1 q1 x1 r1 p1 => by
    show spO X.K sp (vs ++ []) H1 Q _
    rw [List.append_nil]
    exact obs_call r1 p1 q1 (fun d E' v H' z x r p => kk d E' v H' z (x1.trans x) r p) fun _ _ _ z _ => z.elim⟩⟩
end
end DL
set_option Elab.async false
set_option linter.all false
set_option maxRecDepth 100000
set_option maxHeartbeats 1000000
/-! DL40: objects: fields read and written, their lists, methods. -/
namespace DL
open PySem PySem.Spec PyProof.Rows L2
/-- whose name it is -/
def unH : D → Option Addr
  | .dict [(.none, .int (.ofNat a))] => some a
  | _ => none
theorem unH_hdl (a : Addr) : unH (hdl a) = some a := rfl
theorem unH_some {d : D} {a : Addr} (h : unH d = some a) : d = hdl a := by
  unfold unH at h
  split at h
  · cases h; rfl
  · cases h
def obGet (a : Addr) : Env → Option (Addr × List (Str × FS))
  | [] => none
  | .ob b C fs :: E => if b = a then some (C, fs) else obGet a E
  | _ :: E => obGet a E
def setOb (a : Addr) (fs : List (Str × FS)) : Env → Env
  | [] => []
  | .ob b C gs :: E => if b = a then .ob b C fs :: E else .ob b C gs :: setOb a fs E
  | s :: E => s :: setOb a fs E
theorem obGet_ix {a C : Addr} {fs : List (Str × FS)} : ∀ {E : Env}, obGet a E = some (C, fs) → ∃ j : Nat, E[j]? = some (.ob a C fs) ∧ ∀ gs, setOb a gs E = E.set j (.ob a C gs)
  | [], h => by cases h
  | s :: E, h => by
    have step : obGet a E = some (C, fs) → (∀ gs, setOb a gs (s :: E) = s :: setOb a gs E) → ∃ j : Nat, (s :: E)[j]? = some (.ob a C fs) ∧ ∀ gs, setOb a gs (s :: E) = (s :: E).set j (.ob a C gs) := fun h1 h2 => by
      obtain ⟨j, e1, e2⟩ := obGet_ix h1
      exact ⟨j + 1, by simpa using e1, fun gs => by rw [h2, e2]; rfl⟩
    cases s with
    | ob b C' gs =>
      unfold obGet at h
      split at h
      · rename_i hb
        subst hb
        cases h
        exact ⟨0, rfl, fun gs => by unfold setOb; rw [if_pos rfl]; rfl⟩
      · rename_i hb
        exact step h fun gs => by
          show (if b = a then _ else _) = _
          rw [if_neg hb]
    | _ => exact step h fun _ => rfl
/-- the fields of the object that d names, of the class at C -/
def obD (C : Addr) (d : D) (E : Env) : Option (List (Str × FS)) := match unH d with
  | some a => match obGet a E with
    | some (C', fs) => if C' = C then some fs else none
    | none => none
  | none => none
def putOD (d : D) (fs : List (Str × FS)) (E : Env) : Env := match unH d with
  | some a => setOb a fs E
  | none => E
theorem obD_some {C : Addr} {d : D} {E : Env} {fs : List (Str × FS)} (h : obD C d E = some fs) : ∃ a j, d = hdl a ∧ E[j]? = some (.ob a C fs) ∧ ∀ gs, putOD d gs E = E.set j (.ob a C gs) := by
  unfold obD at h
  split at h
  · rename_i a ha
    split at h
    · rename_i C' fs' hb
      split at h
      · rename_i hC
        subst hC
        cases h
        obtain ⟨j, e1, e2⟩ := obGet_ix hb
        exact ⟨a, j, unH_some ha, e1, fun gs => by unfold putOD; rw [ha]; exact e2 gs⟩
      · cases h
    · cases h
  · cases h
def putFS (f : Str) (x : FS) : List (Str × FS) → List (Str × FS)
  | [] => [(f, x)]
  | (g, y) :: r => if g = f then (g, x) :: r else (g, y) :: putFS f x r
section
variable {K : PySem.W.Frag} {H H' : Hp}
theorem lk_cons {α : Type} {f g : Str} {x : α} {r : List (Str × α)} : ((g, x) :: r).lookup f = if f = g then some x else r.lookup f := by
  by_cases h : f = g
  · subst h; simp [List.lookup]
  · have hb : (f == g) = false := beq_eq_false_iff_ne.mpr h
    rw [if_neg h]; simp only [List.lookup, hb]
theorem FsR.getD {f : Str} {x : D} : ∀ {fs : List (Str × FS)} {vs : List (Str × V)} {ls : List Addr}, FsR K H fs vs ls → fs.lookup f = some (.d x) → ∃ v, vs.lookup f = some v ∧ Rp K H x v
  | _, _, _, .nil, h => by cases h
  | _, _, _, FsR.d r t, h => by
    rw [lk_cons] at h ⊢
    split at h
    · rename_i e; cases h; rw [if_pos e]; exact ⟨_, rfl, r⟩
    · rename_i e; rw [if_neg e]; exact FsR.getD t h
  | _, _, _, FsR.l r q t, h => by
    rw [lk_cons] at h ⊢
    split at h
    · cases h
    · rename_i e; rw [if_neg e]; exact FsR.getD t h
theorem FsR.getL {f : Str} {xs : List D} : ∀ {fs : List (Str × FS)} {vs : List (Str × V)} {ls : List Addr}, FsR K H fs vs ls → fs.lookup f = some (.l xs) → ∃ l us, vs.lookup f = some (.ref l) ∧ l ∈ ls ∧ H l = some (.lst us) ∧ RpL K H xs us
  | _, _, _, .nil, h => by cases h
  | _, _, _, FsR.d r t, h => by
    rw [lk_cons] at h ⊢
    split at h
    · cases h
    · rename_i e; rw [if_neg e]; exact FsR.getL t h
  | _, _, _, FsR.l r q t, h => by
    rw [lk_cons] at h ⊢
    split at h
    · rename_i e; cases h; rw [if_pos e]; exact ⟨_, _, rfl, List.mem_cons_self .., r, q⟩
    · rename_i e; rw [if_neg e]
      obtain ⟨l, us, h1, h2, h3⟩ := FsR.getL t h
      exact ⟨l, us, h1, List.mem_cons_of_mem _ h2, h3⟩
theorem FsR.getN {f : Str} : ∀ {fs : List (Str × FS)} {vs : List (Str × V)} {ls : List Addr}, FsR K H fs vs ls → fs.lookup f = none → vs.lookup f = none
  | _, _, _, .nil, h => rfl
  | _, _, _, FsR.d r t, h => by
    rw [lk_cons] at h ⊢
    split at h
    · cases h
    · rename_i e; rw [if_neg e]; exact FsR.getN t h
  | _, _, _, FsR.l r q t, h => by
    rw [lk_cons] at h ⊢
    split at h
    · cases h
    · rename_i e; rw [if_neg e]; exact FsR.getN t h
theorem FsR.len : ∀ {fs : List (Str × FS)} {vs : List (Str × V)} {ls : List Addr}, FsR K H fs vs ls → fs.length = vs.length
  | _, _, _, .nil => rfl
  | _, _, _, FsR.d _ t => by simp [FsR.len t]
  | _, _, _, FsR.l _ _ t => by simp [FsR.len t]
theorem FsR.putD {f : Str} {x : D} {v : V} (p : Rp K H x v) : ∀ {fs : List (Str × FS)} {vs : List (Str × V)} {ls : List Addr}, FsR K H fs vs ls → ∃ ls', FsR K H (putFS f (.d x) fs) (putF f v vs) ls' ∧ ls'.Sublist ls
  | _, _, _, .nil => ⟨[], FsR.d p .nil, .slnil⟩
  | _, _, _, FsR.d (f := g) r t => by
    unfold putFS putF
    by_cases e : g = f
    · rw [if_pos e, if_pos e]; exact ⟨_, FsR.d p t, List.Sublist.refl _⟩
    · rw [if_neg e, if_neg e]
      obtain ⟨ls', h1, h2⟩ := FsR.putD (f := f) p t
      exact ⟨_, FsR.d r h1, h2⟩
  | _, _, _, FsR.l (f := g) r q t => by
    unfold putFS putF
    by_cases e : g = f
    · rw [if_pos e, if_pos e]; exact ⟨_, FsR.d p t, List.sublist_cons_self ..⟩
    · rw [if_neg e, if_neg e]
      obtain ⟨ls', h1, h2⟩ := FsR.putD (f := f) p t
      exact ⟨_, FsR.l r q h1, h2.cons_cons _⟩
theorem FsR.putL {f : Str} {xs : List D} {l : Addr} {us : List V} (hl : H l = some (.lst us)) (p : RpL K H xs us) : ∀ {fs : List (Str × FS)} {vs : List (Str × V)} {ls : List Addr}, FsR K H fs vs ls → ls.Nodup → l ∉ ls → ∃ ls', FsR K H (putFS f (.l xs) fs) (putF f (.ref l) vs) ls' ∧ ls'.Nodup ∧ ∀ b ∈ ls', b ∈ ls ∨ b = l
  | _, _, _, .nil, _, _ => ⟨[l], FsR.l hl p .nil, by simp, by simp⟩
  | _, _, _, FsR.d (f := g) r t, nd, ni => by
    unfold putFS putF
    by_cases e : g = f
    · rw [if_pos e, if_pos e]; exact ⟨_, FsR.l hl p t, List.nodup_cons.mpr ⟨ni, nd⟩, fun b hb => (List.mem_cons.mp hb).elim .inr .inl⟩
    · rw [if_neg e, if_neg e]
      obtain ⟨ls', h1, h2, h3⟩ := FsR.putL (f := f) hl p t nd ni
      exact ⟨_, FsR.d r h1, h2, h3⟩
  | _, _, _, FsR.l (f := g) (a := b0) r q t, nd, ni => by
    obtain ⟨n1, n2⟩ := List.nodup_cons.mp nd
    have ni2 : l ∉ _ := fun z => ni (List.mem_cons_of_mem _ z)
    unfold putFS putF
    by_cases e : g = f
    · rw [if_pos e, if_pos e]; exact ⟨_, FsR.l hl p t, List.nodup_cons.mpr ⟨ni2, n2⟩, fun b hb => (List.mem_cons.mp hb).elim .inr fun z => .inl (List.mem_cons_of_mem _ z)⟩
    · rw [if_neg e, if_neg e]
      obtain ⟨ls', h1, h2, h3⟩ := FsR.putL (f := f) hl p t n2 ni2
      refine ⟨_, FsR.l r q h1, List.nodup_cons.mpr ⟨fun z => ?_, h2⟩, fun b hb => ?_⟩
      · rcases h3 _ z with w | w
        · exact n1 w
        · exact ni (by rw [w]; exact List.mem_cons_self ..)
      · rcases List.mem_cons.mp hb with w | w
        · exact .inl (by rw [w]; exact List.mem_cons_self ..)
        · exact (h3 b w).elim (fun z => .inl (List.mem_cons_of_mem _ z)) .inr
/-- a field's list changes -/
theorem FsR.chg {f : Str} {xs ys : List D} {l : Addr} {us : List V} (x : Ext H (upd H l (.lst us))) (p : RpL K (upd H l (.lst us)) ys us) : ∀ {fs : List (Str × FS)} {vs : List (Str × V)} {ls : List Addr}, FsR K H fs vs ls → ls.Nodup → fs.lookup f = some (.l xs) → vs.lookup f = some (.ref l) → l ∈ ls → FsR K (upd H l (.lst us)) (putFS f (.l ys) fs) vs ls
  | _, _, _, .nil, _, h, _, _ => by cases h
  | _, _, _, FsR.d (f := g) r t, nd, h, hv, hl => by
    rw [lk_cons] at h hv
    unfold putFS
    by_cases e : f = g
    · rw [if_pos e] at h; cases h
    · rw [if_neg e] at h hv
      rw [if_neg fun z => e z.symm]
      exact FsR.d (r.ext x) (FsR.chg x p t nd h hv hl)
  | _, _, _, FsR.l (f := g) (a := b0) r q t, nd, h, hv, hl => by
    obtain ⟨n1, n2⟩ := List.nodup_cons.mp nd
    rw [lk_cons] at h hv
    unfold putFS
    by_cases e : f = g
    · rw [if_pos e] at hv
      rw [if_pos e.symm]
      cases hv
      exact FsR.l upd_same p (t.move x fun b hb => upd_ne (by rintro rfl; exact n1 hb))
    · rw [if_neg e] at h hv
      rw [if_neg fun z => e z.symm]
      have hl2 : l ∈ _ := (FsR.getL t h).elim fun l' ⟨us', a1, a2, _⟩ => by rw [hv] at a1; cases a1; exact a2
      have ne : b0 ≠ l := by rintro rfl; exact n1 hl2
      exact FsR.l (by rw [upd_ne ne]; exact r) (q.ext x) (FsR.chg x p t n2 h hv hl2)
end
section
variable {K : PySem.W.Frag} {G : Gh} {H : Hp} {E : Env} {σ : St} {ex : List Addr} {a C : Addr} {j : Nat} {fs : List (Str × FS)}
/-- the lens, for one object -/
theorem RelX.ob1 (r : RelX K G ex H E σ) (e : E[j]? = some (.ob a C fs)) : ∃ fp, RelOb K H a C fs fp ∧ (∀ p ∈ fp, (p ∈ G.addrs ∨ G.H0 p = none) ∧ p ∉ ex) ∧
    ∀ (H' : Hp) (fs' : List (Str × FS)) (fp' : List Addr), (∀ p o, H p = some o → p ∉ fp → H' p = some o) → (∀ p ∈ fp, H' p ≠ none) → RelOb K H' a C fs' fp' → (∀ p ∈ fp', p ∈ fp ∨ H p = none ∨ (p ∈ ex ∧ G.H0 p = none)) → Ext H H' ∧ RelE K G H' (E.set j (.ob a C fs')) σ := by
  have h : obsAt E [j] = some [.ob a C fs] := by unfold obsAt; rw [e]; rfl
  obtain ⟨fps, h1, h2, h3, h4⟩ := r.obs (by simp : ([j] : List Nat).Nodup) h
  cases h1 with
  | cons q t =>
    cases t
    obtain ⟨a', C', fs', e1, q⟩ := q
    cases e1
    refine ⟨_, q, fun p hp => h3 p (by simpa using hp), fun H' fs' fp' k1 k2 k3 k4 => ?_⟩
    exact h4 H' [.ob a C fs'] [fp'] rfl (fun p o z n => k1 p o z (by simpa using n)) (fun p hp => k2 p (by simpa using hp)) (.cons ⟨_, _, _, rfl, k3⟩ .nil) (by simpa using k3.nodup) fun p hp => by simpa using k4 p (by simpa using hp)
/-- a field is written: data -/
theorem RelX.fldD {f : Str} {x : D} {v : V} (r : RelE K G H E σ) (e : E[j]? = some (.ob a C fs)) (p : Rp K H x v) : ∃ dx vs, H a = some (.ins C dx vs) ∧ vs.length = fs.length ∧ Ext H (upd H a (.ins C dx (putF f v vs))) ∧ RelE K G (upd H a (.ins C dx (putF f v vs))) (E.set j (.ob a C (putFS f (.d x) fs))) σ := by
  obtain ⟨fp, ⟨dx, vs, ls, rfl, nd, h1, h2, h3⟩, _, up⟩ := r.ob1 e
  have x1 : Ext H (upd H a (.ins C dx (putF f v vs))) := Ext.putS h1 (fun _ z => by cases z) fun _ _ z => by cases z
  obtain ⟨ls', g1, g2⟩ := FsR.putD (f := f) p h3
  obtain ⟨n1, n2⟩ := List.nodup_cons.mp nd
  obtain ⟨n3, n4⟩ := List.nodup_cons.mp n2
  refine ⟨dx, vs, h1, h3.len.symm, up _ _ (a :: dx :: ls') (fun q o z n => by rw [upd_ne fun w => n (by simp [w])]; exact z) (fun q hq => ?_) ⟨dx, putF f v vs, ls', rfl, ?_, upd_same, ?_, ?_⟩ fun q hq => .inl ?_⟩
  · by_cases w : q = a
    · subst w; rw [upd_same]; simp
    · rw [upd_ne w]
      obtain ⟨u, hu, _⟩ := RelOb.soft (⟨dx, vs, ls, rfl, nd, h1, h2, h3⟩ : RelOb K H a C fs (a :: dx :: ls)) q hq
      rw [hu]; simp
  · refine List.nodup_cons.mpr ⟨fun z => n1 ?_, List.nodup_cons.mpr ⟨fun z => n3 (g2.subset z), n4.sublist g2⟩⟩
    rcases List.mem_cons.mp z with w | w
    · rw [w]; exact List.mem_cons_self ..
    · exact List.mem_cons_of_mem _ (g2.subset w)
  · rw [upd_ne fun w => n1 (by rw [w]; exact List.mem_cons_self ..)]; exact h2
  · exact g1.move x1 fun q hq => upd_ne (by rintro rfl; exact n1 (List.mem_cons_of_mem _ (g2.subset hq)))
  · rcases List.mem_cons.mp hq with w | w
    · rw [w]; exact List.mem_cons_self ..
    · rcases List.mem_cons.mp w with w | w
      · rw [w]; simp
      · exact List.mem_cons_of_mem _ (List.mem_cons_of_mem _ (g2.subset w))
/-- .. a new list -/
theorem RelX.fldL {f : Str} {xs : List D} {l : Addr} {us : List V} (r : RelX K G [l] H E σ) (h0 : G.H0 l = none) (e : E[j]? = some (.ob a C fs)) (hl : H l = some (.lst us)) (p : RpL K H xs us) : ∃ dx vs, H a = some (.ins C dx vs) ∧ vs.length = fs.length ∧ Ext H (upd H a (.ins C dx (putF f (.ref l) vs))) ∧ RelE K G (upd H a (.ins C dx (putF f (.ref l) vs))) (E.set j (.ob a C (putFS f (.l xs) fs))) σ := by
  obtain ⟨fp, ⟨dx, vs, ls, rfl, nd, h1, h2, h3⟩, ow, up⟩ := r.ob1 e
  have x1 : Ext H (upd H a (.ins C dx (putF f (.ref l) vs))) := Ext.putS h1 (fun _ z => by cases z) fun _ _ z => by cases z
  obtain ⟨n1, n2⟩ := List.nodup_cons.mp nd
  obtain ⟨n3, n4⟩ := List.nodup_cons.mp n2
  have nl : l ∉ a :: dx :: ls := fun z => (ow l z).2 (List.mem_singleton.mpr rfl)
  obtain ⟨ls', g1, g2, g3⟩ := FsR.putL (f := f) hl p h3 n4 fun z => nl (List.mem_cons_of_mem _ (List.mem_cons_of_mem _ z))
  refine ⟨dx, vs, h1, h3.len.symm, up _ _ (a :: dx :: ls') (fun q o z n => by rw [upd_ne fun w => n (by simp [w])]; exact z) (fun q hq => ?_) ⟨dx, putF f (.ref l) vs, ls', rfl, ?_, upd_same, ?_, ?_⟩ fun q hq => ?_⟩
  · by_cases w : q = a
    · subst w; rw [upd_same]; simp
    · rw [upd_ne w]
      obtain ⟨u, hu, _⟩ := RelOb.soft (⟨dx, vs, ls, rfl, nd, h1, h2, h3⟩ : RelOb K H a C fs (a :: dx :: ls)) q hq
      rw [hu]; simp
  · refine List.nodup_cons.mpr ⟨fun z => ?_, List.nodup_cons.mpr ⟨fun z => ?_, g2⟩⟩
    · rcases List.mem_cons.mp z with w | w
      · exact n1 (by rw [w]; exact List.mem_cons_self ..)
      · rcases g3 _ w with w | w
        · exact n1 (List.mem_cons_of_mem _ w)
        · exact nl (by rw [← w]; exact List.mem_cons_self ..)
    · rcases g3 _ z with w | w
      · exact n3 w
      · exact nl (by rw [← w]; simp)
  · rw [upd_ne fun w => n1 (by rw [w]; exact List.mem_cons_self ..)]; exact h2
  · refine g1.move x1 fun q hq => upd_ne ?_
    rintro rfl
    rcases g3 _ hq with w | w
    · exact n1 (List.mem_cons_of_mem _ w)
    · exact nl (by rw [← w]; exact List.mem_cons_self ..)
  · rcases List.mem_cons.mp hq with w | w
    · exact .inl (by rw [w]; exact List.mem_cons_self ..)
    · rcases List.mem_cons.mp w with w | w
      · exact .inl (by rw [w]; simp)
      · rcases g3 _ w with w | w
        · exact .inl (List.mem_cons_of_mem _ (List.mem_cons_of_mem _ w))
        · exact .inr (.inr ⟨by simp [w], by rw [w]; exact h0⟩)
/-- a field's list changes -/
theorem RelX.fldC {f : Str} {xs ys : List D} {us : List V} (r : RelE K G H E σ) (e : E[j]? = some (.ob a C fs)) (hf : fs.lookup f = some (.l xs)) : ∃ dx vs l ws, H a = some (.ins C dx vs) ∧ vs.lookup f = some (.ref l) ∧ H l = some (.lst ws) ∧ RpL K H xs ws ∧
    (RpL K H ys us → Ext H (upd H l (.lst us)) ∧ RelE K G (upd H l (.lst us)) (E.set j (.ob a C (putFS f (.l ys) fs))) σ) := by
  obtain ⟨fp, ⟨dx, vs, ls, rfl, nd, h1, h2, h3⟩, ow, up⟩ := r.ob1 e
  obtain ⟨l, ws, g1, g2, g3, g4⟩ := h3.getL hf
  refine ⟨dx, vs, l, ws, h1, g1, g3, g4, fun p => ?_⟩
  have x1 : Ext H (upd H l (.lst us)) := Ext.putS g3 (fun _ z => by cases z) fun _ _ z => by cases z
  obtain ⟨n1, n2⟩ := List.nodup_cons.mp nd
  obtain ⟨n3, n4⟩ := List.nodup_cons.mp n2
  refine up _ _ (a :: dx :: ls) (fun q o z n => by rw [upd_ne fun w => n (by simp [w, g2])]; exact z) (fun q hq => ?_) ⟨dx, vs, ls, rfl, nd, ?_, ?_, ?_⟩ fun q hq => .inl hq
  · by_cases w : q = l
    · subst w; rw [upd_same]; simp
    · rw [upd_ne w]
      obtain ⟨u, hu, _⟩ := RelOb.soft (⟨dx, vs, ls, rfl, nd, h1, h2, h3⟩ : RelOb K H a C fs (a :: dx :: ls)) q hq
      rw [hu]; simp
  · rw [upd_ne fun w => n1 (by rw [w]; exact List.mem_cons_of_mem _ g2)]; exact h1
  · rw [upd_ne fun w => n3 (by rw [w]; exact g2)]; exact h2
  · exact FsR.chg x1 (p.ext x1) h3 n4 hf g1 g2
theorem RelX.insAt {fs : List (Str × FS)} (r : RelX K G ex H E σ) (e : E[j]? = some (.ob a C fs)) : ∃ dx vs ls, H a = some (.ins C dx vs) ∧ FsR K H fs vs ls := by
  obtain ⟨fp, ⟨dx, vs, ls, rfl, nd, h1, h2, h3⟩, _⟩ := r.ob1 e
  exact ⟨dx, vs, ls, h1, h3⟩
end
/-! ### rules -/
def fldD (C : Addr) (f : Str) (d : D) (E : Env) : Option D := match obD C d E with
  | some fs => match fs.lookup f with
    | some (.d x) => some x
    | _ => none
  | none => none
def fldL (C : Addr) (f : Str) (d : D) (E : Env) : Option (List D) := match obD C d E with
  | some fs => match fs.lookup f with
    | some (.l x) => some x
    | _ => none
  | none => none
/-- x.f, data -/
def tFldD (C : Addr) (f : Str) (i : Nat) : TD := fun E Q => match E[i]? with
  | some (.d d) => match fldD C f d E with
    | some x => Q x E
    | none => False
  | _ => False
/-- x.f, a list of its own, read now -/
def tFldR (C : Addr) (f : Str) (i : Nat) : TD := fun E Q => match E[i]? with
  | some (.d d) => match fldL C f d E with
    | some xs => Q (.list xs) E
    | none => False
  | _ => False
/-- x.f = e -/
def sFldD (C : Addr) (f : Str) (i : Nat) (tv : TD) : TSd := fun DE E => tv E fun x E1 => match E1[i]? with
  | some (.d d) => match obD C d E1 with
    | some fs => fs.length < 1000 ∧ DE.nx (putOD d (putFS f (.d x) fs) E1)
    | none => False
  | _ => False
/-- x.f = a new list -/
def sFldL (C : Addr) (f : Str) (i : Nat) (tv : TLd) : TSd := fun DE E => tv E fun xs E1 => match E1[i]? with
  | some (.d d) => match obD C d E1 with
    | some fs => fs.length < 1000 ∧ DE.nx (putOD d (putFS f (.l xs) fs) E1)
    | none => False
  | _ => False
/-- x.f.append((x.g, y)) -/
def tAppF (C : Addr) (f g : Str) (i k : Nat) : TD := fun E Q => match E[i]? with
  | some (.d d) => match obD C d E, fldL C f d E, fldD C g d E, E[k]? with
    | some fs, some xs, some x, some (.d y) => xs.length < sizeLine ∧ Q .none (putOD d (putFS f (.l (xs ++ [.tuple [x, y]])) fs) E)
    | _, _, _, _ => False
  | _ => False
/-- x.f.pop() -/
def tPopF (C : Addr) (f : Str) (i : Nat) : TD := fun E Q => match E[i]? with
  | some (.d d) => match obD C d E, fldL C f d E with
    | some fs, some xs => match xs.getLast? with
      | some y => Q y (putOD d (putFS f (.l xs.dropLast) fs) E)
      | none => False
    | _, _ => False
  | _ => False
/-- o.m(..) -/
def tMethO (C : Addr) (m : Str) (sp : SpO) (to : TD) (ta : TDs) (WD : WDt) : TD := fun E Q => to E fun d E1 => (match obD C d E1 with
  | some fs => fs.lookup m = none
  | none => False) ∧ ta E1 fun ds E2 => tObs sp (d :: ds) E2 Q WD
section
variable {X : Cx} {G : Gh} {o e value : Expr} {es : List Expr} {pos pos' p0 p1 p2 p3 p4 apos cpos npos tpos : Pos} {x f g y m : Str} {C : Addr} {i k : Nat}
theorem fldD_some {d : D} {E : Env} {z : D} (h : fldD C f d E = some z) : ∃ fs, obD C d E = some fs ∧ fs.lookup f = some (.d z) := by
  unfold fldD at h
  split at h
  · rename_i fs hf
    split at h
    · rename_i x hx; cases h; exact ⟨fs, hf, hx⟩
    · cases h
  · cases h
theorem fldL_some {d : D} {E : Env} {z : List D} (h : fldL C f d E = some z) : ∃ fs, obD C d E = some fs ∧ fs.lookup f = some (.l z) := by
  unfold fldL at h
  split at h
  · rename_i fs hf
    split at h
    · rename_i x hx; cases h; exact ⟨fs, hf, hx⟩
    · cases h
  · cases h
theorem hdl_ref {K : PySem.W.Frag} {H : Hp} {a : Addr} {v : V} (h : Rp K H (hdl a) v) : v = .ref a := by
  generalize hd : hdl a = d at h
  cases h with
  | dct _ l _ _ =>
    unfold hdl at hd
    cases hd
    cases l with
    | cons t => obtain ⟨xs, t⟩ := t; cases t
  | hdl b =>
    unfold hdl at hd
    have hd := PyData.dict.inj hd
    simp at hd
    have hd : a = b := Int.ofNat.inj hd
    rw [hd]
  | dck _ e _ _ =>
    unfold hdl at hd
    cases hd
    rename_i us _ _ _
    cases us with
    | nil => cases e
    | cons u us =>
      have e := (List.cons.inj e).1
      obtain ⟨kk, vv⟩ := u
      cases kk <;> cases e
  | _ => unfold hdl at hd; cases hd
/-- the object that a name's data tells -/
theorem obV {K : PySem.W.Frag} {ex : List Addr} {H : Hp} {E : Env} {σ : St} {d : D} {fs : List (Str × FS)} (r : RelX K G ex H E σ) (e : E[i]? = some (.d d)) (h : obD C d E = some fs) : ∃ a j, σ[i]? = some (some (.ref a)) ∧ d = hdl a ∧ E[j]? = some (.ob a C fs) ∧ ∀ gs, putOD d gs E = E.set j (.ob a C gs) := by
  obtain ⟨a, j, rfl, h2, h3⟩ := obD_some h
  obtain ⟨v, e1, p⟩ := r.data e
  rw [hdl_ref p] at e1
  exact ⟨a, j, e1, rfl, h2, h3⟩
theorem ed_fld (i : Nat) (hC : Cls X.K C) (hn : NoAttr X.K C f) (hN : X.N[i]? = some x := by rfl) (hv : Vis X.env.scope x := by first | exact Or.inl rfl | exact Or.inr (Or.inl rfl) | exact Or.inr (Or.inr rfl)) (hd : (x == ("__debug__" : Str)) = false := by decide)
    (hcd : (x == ("__classdict__" : Str)) = false := by decide) (hb : attributeBase (.Name x p0) f X.env (eval (.Name x p0) X.env) = eval (.Name x p0) X.env := by rfl) : ED X G (.Attribute (.Name x p0) f pos) (tFldD C f i) :=
  ⟨PE.weak (pe_fld (pe_var hN hv hd hcd) hb) fun σ H Q ⟨E, QE, r, q, kk⟩ => by
    unfold tFldD at q
    split at q
    · rename_i d he
      split at q
      · rename_i z hz
        obtain ⟨fs, h1, h2⟩ := fldD_some hz
        obtain ⟨a, j, e1, _, e2, _⟩ := obV r he h1
        obtain ⟨dx, vs, ls, g1, g2⟩ := r.insAt e2
        obtain ⟨v, g3, g4⟩ := g2.getD h2
        exact ⟨_, e1, a, C, dx, vs, v, rfl, g1, hC, hn, g3, kk _ _ _ _ q (Ext.refl _) r g4⟩
      · exact q.elim
    · exact q.elim⟩
theorem er_fld (i : Nat) (hC : Cls X.K C) (hn : NoAttr X.K C f) (hN : X.N[i]? = some x := by rfl) (hv : Vis X.env.scope x := by first | exact Or.inl rfl | exact Or.inr (Or.inl rfl) | exact Or.inr (Or.inr rfl)) (hd : (x == ("__debug__" : Str)) = false := by decide)
    (hcd : (x == ("__classdict__" : Str)) = false := by decide) (hb : attributeBase (.Name x p0) f X.env (eval (.Name x p0) X.env) = eval (.Name x p0) X.env := by rfl) : ER X G (.Attribute (.Name x p0) f pos) (tFldR C f i) :=
  ⟨PE.weak (pe_fld (pe_var hN hv hd hcd) hb) fun σ H Q ⟨E, QE, r, q, kk⟩ => by
    unfold tFldR at q
    split at q
    · rename_i d he
      split at q
      · rename_i z hz
        obtain ⟨fs, h1, h2⟩ := fldL_some hz
        obtain ⟨a, j, e1, _, e2, _⟩ := obV r he h1
        obtain ⟨dx, vs, ls, g1, g2⟩ := r.insAt e2
        obtain ⟨l, us, g3, _, g4, g5⟩ := g2.getL h2
        exact ⟨_, e1, a, C, dx, vs, _, rfl, g1, hC, hn, g3, kk _ _ _ _ q (Ext.refl _) r (.inr ⟨_, _, _, rfl, rfl, g4, g5⟩)⟩
      · exact q.elim
    · exact q.elim⟩
theorem sd_fld (i : Nat) {tv : TD} (hC : Cls X.K C) (hn : NoAttr X.K C f) (he : ED X G value tv) (hN : X.N[i]? = some x := by rfl) (hv : Vis X.env.scope x := by first | exact Or.inl rfl | exact Or.inr (Or.inl rfl) | exact Or.inr (Or.inr rfl)) (hd : (x == ("__debug__" : Str)) = false := by decide)
    (hcd : (x == ("__classdict__" : Str)) = false := by decide) (hs : swapsWith value (some (.Attribute (.Name x p0) f pos')) pos.line X.env = pure false := by rfl) : SD X G (.Assign [.Attribute (.Name x p0) f pos'] value pos) (sFldD C f i tv) :=
  ⟨PS.weak (ps_fld (pe_var hN hv hd hcd) he.pe hs) fun F σ H ⟨E, DE, r, q, k1, k2, k3, k4⟩ => ⟨E, _, r, q, fun z E1 v H1 q1 x1 r1 p1 => by
    split at q1
    · rename_i d hd1
      split at q1
      · rename_i fs hfs
        obtain ⟨a, j, e1, _, e2, e3⟩ := obV r1 hd1 hfs
        obtain ⟨dx, vs, g1, g2, g3, g4⟩ := r1.fldD (f := f) e2 p1
        exact ⟨_, e1, a, C, dx, vs, rfl, g1, hC, hn, by rw [g2]; exact q1.1, k1 _ _ _ q1.2 (x1.trans g3) (by rw [e3]; exact g4)⟩
      · exact q1.elim
    · exact q1.elim⟩⟩
theorem sd_fldL (i : Nat) {tv : TLd} (hC : Cls X.K C) (hn : NoAttr X.K C f) (he : EL X G value tv) (hN : X.N[i]? = some x := by rfl) (hv : Vis X.env.scope x := by first | exact Or.inl rfl | exact Or.inr (Or.inl rfl) | exact Or.inr (Or.inr rfl)) (hd : (x == ("__debug__" : Str)) = false := by decide)
    (hcd : (x == ("__classdict__" : Str)) = false := by decide) (hs : swapsWith value (some (.Attribute (.Name x p0) f pos')) pos.line X.env = pure false := by rfl) : SD X G (.Assign [.Attribute (.Name x p0) f pos'] value pos) (sFldL C f i tv) :=
  ⟨PS.weak (ps_fld (pe_var hN hv hd hcd) he.pe hs) fun F σ H ⟨E, DE, r, q, k1, k2, k3, k4⟩ => ⟨E, _, r, q, fun zs E1 b us H1 q1 x1 r1 h0 na hb p1 => by
    split at q1
    · rename_i d hd1
      split at q1
      · rename_i fs hfs
        obtain ⟨a, j, e1, _, e2, e3⟩ := obV r1 hd1 hfs
        obtain ⟨dx, vs, g1, g2, g3, g4⟩ := r1.fldL (f := f) h0 e2 hb p1
        exact ⟨_, e1, a, C, dx, vs, rfl, g1, hC, hn, by rw [g2]; exact q1.1, k1 _ _ _ q1.2 (x1.trans g3) (by rw [e3]; exact g4)⟩
      · exact q1.elim
    · exact q1.elim⟩⟩
theorem ed_appF (i k : Nat) {kk : Nat} {q0 q1 q2 q3 : Pos} (hC : Cls X.K C) (hf : NoAttr X.K C f) (hg : NoAttr X.K C g) (hN : X.N[i]? = some x := by rfl) (hM : X.N[k]? = some y := by rfl) (hv : Vis X.env.scope x := by first | exact Or.inl rfl | exact Or.inr (Or.inl rfl) | exact Or.inr (Or.inr rfl)) (hw : Vis X.env.scope y := by first | exact Or.inl rfl | exact Or.inr (Or.inl rfl) | exact Or.inr (Or.inr rfl))
    (hd : (x == ("__debug__" : Str)) = false := by decide) (hcd : (x == ("__classdict__" : Str)) = false := by decide) (hd2 : (y == ("__debug__" : Str)) = false := by decide) (hcd2 : (y == ("__classdict__" : Str)) = false := by decide)
    (hb1 : attributeBase (.Name x p0) f X.env (eval (.Name x p0) X.env) = eval (.Name x p0) X.env := by rfl) (hb2 : attributeBase (.Name x q0) g X.env (eval (.Name x q0) X.env) = eval (.Name x q0) X.env := by rfl)
    (hbase : attributeBase (.Attribute (.Name x p0) f p1) "append" X.env (eval (.Attribute (.Name x p0) f p1) X.env) = eval (.Attribute (.Name x p0) f p1) X.env := by rfl)
    (hfew : ((backTo cpos (starEach [.Tuple [.Attribute (.Name x q0) g q1, .Name y q2] kk q3] X.env)).all (fun x => !x.1) && (backToKw cpos (keywordEach [] X.env)).all (fun x => x.1.isSome)
      && decide (([.Tuple [.Attribute (.Name x q0) g q1, .Name y q2] kk q3] : List Expr).length + ([] : List Keyword).length + (if ([] : List Keyword).isEmpty then 0 else 1) < 30)) = true := by rfl)
    (hline : (apos.endLine == cpos.line) = true := by rfl) (hs : starEach [.Tuple [.Attribute (.Name x q0) g q1, .Name y q2] kk q3] X.env = (false, eval (.Tuple [.Attribute (.Name x q0) g q1, .Name y q2] kk q3) X.env) :: starEach [] X.env := by rfl) (hplain : (backTo cpos (starEach [] X.env)).any (·.1) = false := by rfl)
    (hs1 : starEach [.Attribute (.Name x q0) g q1, .Name y q2] X.env = (false, eval (.Attribute (.Name x q0) g q1) X.env) :: starEach [.Name y q2] X.env := by rfl) (hs2 : starEach [.Name y q2] X.env = (false, eval (.Name y q2) X.env) :: starEach [] X.env := by rfl) :
    ED X G (.Call (.Attribute (.Attribute (.Name x p0) f p1) "append" apos) [.Tuple [.Attribute (.Name x q0) g q1, .Name y q2] kk q3] [] cpos) (tAppF C f g i k) :=
  ⟨PE.weak (pe_bm PySem.F.plainAttrs_list PySem.F.slot_list_append PySem.F.type_list_append mt_append (pe_fld (pe_var hN hv hd hcd) hb1) (pa_cons (pe_tupF (pa_cons (pe_fld (pe_var hN hv hd hcd) hb2) (pa_cons (pe_var hM hw hd2 hcd2) pa_nil hs2) hs1)) pa_nil hs) hbase hfew hline hs hplain) fun σ H Q ⟨E, QE, r, q, kk⟩ => by
    unfold tAppF at q
    split at q
    · rename_i d he
      split at q
      · rename_i fs xs z d2 h1 h2 h3 h4
        obtain ⟨fs', i1, i2⟩ := fldL_some h2
        rw [h1] at i1; cases i1
        obtain ⟨fs', i1, i3⟩ := fldD_some h3
        rw [h1] at i1; cases i1
        obtain ⟨a, j, e1, _, e2, e3⟩ := obV r he h1
        obtain ⟨dx, vs, ls, g1, g2⟩ := r.insAt e2
        obtain ⟨v, g3, g4⟩ := g2.getD i3
        obtain ⟨l, us, g5, _, g6, g7⟩ := g2.getL i2
        obtain ⟨w, e4, p4⟩ := r.data h4
        refine ⟨_, e1, a, C, dx, vs, _, rfl, g1, hC, hf, g5, .inl ⟨rfl, _, SqL.of g6⟩, ⟨_, e1, a, C, dx, vs, v, rfl, g1, hC, hg, g3, _, e4, by show 2 ≤ sizeLine; decide, fun p o hp ho => ?_⟩⟩
        have x1 : PExt H (upd H p (.frz o (.tup [v, w]))) := PExt.new hp
        have r1 := r.pext x1
        have pt : Rp X.K (upd H p (.frz o (.tup [v, w]))) (.tuple [z, d2]) (.ref p) := .tup (.new ho) (.cons (g4.ext x1.ext) (.cons (p4.ext x1.ext) .nil))
        obtain ⟨dx', vs', l', us', k1, k2, k3, k4, k5⟩ := r1.fldC (ys := xs ++ [.tuple [z, d2]]) (us := us ++ [.ref p]) e2 i2
        rw [x1 _ _ g1] at k1; cases k1
        rw [g5] at k2; cases k2
        rw [x1 _ _ g6] at k3; cases k3
        obtain ⟨k6, k7⟩ := k5 (RpL.append k4 (.cons pt .nil))
        exact ⟨l, us, _, rfl, rfl, x1 _ _ g6, by rw [← g7.length]; exact q.1, kk _ _ _ _ q.2 (x1.ext.trans k6) (by rw [e3]; exact k7) .non⟩
      · exact q.elim
    · exact q.elim⟩
theorem ed_popF (i : Nat) (hC : Cls X.K C) (hf : NoAttr X.K C f) (hN : X.N[i]? = some x := by rfl) (hv : Vis X.env.scope x := by first | exact Or.inl rfl | exact Or.inr (Or.inl rfl) | exact Or.inr (Or.inr rfl)) (hd : (x == ("__debug__" : Str)) = false := by decide) (hcd : (x == ("__classdict__" : Str)) = false := by decide)
    (hb1 : attributeBase (.Name x p0) f X.env (eval (.Name x p0) X.env) = eval (.Name x p0) X.env := by rfl)
    (hbase : attributeBase (.Attribute (.Name x p0) f p1) "pop" X.env (eval (.Attribute (.Name x p0) f p1) X.env) = eval (.Attribute (.Name x p0) f p1) X.env := by rfl) (hline : (apos.endLine == cpos.line) = true := by rfl) :
    ED X G (.Call (.Attribute (.Attribute (.Name x p0) f p1) "pop" apos) [] [] cpos) (tPopF C f i) :=
  ⟨PE.weak (pe_bm0 PySem.F.plainAttrs_list PySem.F.slot_list_pop PySem.F.type_list_pop mt_pop (pe_fld (pe_var hN hv hd hcd) hb1) hbase hline) fun σ H Q ⟨E, QE, r, q, kk⟩ => by
    unfold tPopF at q
    split at q
    · rename_i d he
      split at q
      · rename_i fs xs h1 h2
        split at q
        · rename_i y hy
          obtain ⟨fs', i1, i2⟩ := fldL_some h2
          rw [h1] at i1; cases i1
          obtain ⟨a, j, e1, _, e2, e3⟩ := obV r he h1
          obtain ⟨dx, vs, ls, g1, g2⟩ := r.insAt e2
          obtain ⟨l, us, g5, _, g6, g7⟩ := g2.getL i2
          obtain ⟨dx', vs', l', us', k1, k2, k3, k4, k5⟩ := r.fldC (ys := xs.dropLast) (us := us.dropLast) e2 i2
          rw [g1] at k1; cases k1
          rw [g5] at k2; cases k2
          rw [g6] at k3; cases k3
          rw [List.getLast?_eq_getElem?] at hy
          obtain ⟨v, hv1, hv2⟩ := g7.get hy
          obtain ⟨k6, k7⟩ := k5 (by rw [List.dropLast_eq_take, List.dropLast_eq_take, g7.length]; exact g7.take _)
          refine ⟨_, e1, a, C, dx, vs, _, rfl, g1, hC, hf, g5, .inl ⟨rfl, _, SqL.of g6⟩, l, us, v, rfl, rfl, g6, by rw [← g7.length]; exact hv1, kk _ _ _ _ q k6 (by rw [e3]; exact k7) (hv2.ext k6)⟩
        · exact q.elim
      · exact q.elim
    · exact q.elim⟩
end
/-! ### methods -/
section
variable {X : Cx} {CX : CXT} {G : Gh} {o e : Expr} {es : List Expr} {pos apos : Pos} {m : Str} {C f : Addr} {fd : FuncData} {ps : List Str} {n : Nat} {to : TD} {ta : TDs} {sp : SpO} {tE : TE} {tA : TA} {spv : Sp} {EW : L2.St → XK}
/-- how a method's call runs -/
abbrev MethEq (X : Cx) (o : Expr) (m : Str) (es : List Expr) (apos pos : Pos) (pl : Sem Bool) : Prop := eval (.Call (.Attribute o m apos) es [] pos) X.env = (do let vo ← eval o X.env; standAt apos.atName; let (mf, m0) ← holding [vo] (getMethod vo m pl); callWith pos mf m0 (backTo pos (starEach es X.env)) (backToKw pos (keywordEach [] X.env)))
/-- o.m(..), what is raised wished for at the caller's slots -/
def tMethW (C : Addr) (m : Str) (sp : Sp) (EW : L2.St → XK) (ta : TE) (t : TA) : TE := fun σ H Q => ta σ H fun x H1 => ∃ a dx fs, x = .ref a ∧ H1 a = some (.ins C dx fs) ∧ fs.lookup m = none ∧ t σ H1 fun vs H2 => sp (x :: vs) H2 Q (EW σ)
theorem pe_methW {pl : Sem Bool} (he : PE X o tE) (c : Cls X.K C) (hm : Meth X.K C m f) (F : FnOk X.prog X.w X.K X.mg X.base CX n f fd ps spv) (hr : Room n X.A) (hb : Binds X.K fd ps []) (hx : ∀ σ, PassesAt CX X σ (EW σ)) (ha : PA X (e :: es) tA)
    (hst : starEach (e :: es) X.env = (false, eval e X.env) :: starEach es X.env := by rfl) (hpl : (backTo pos (starEach es X.env)).any (·.1) = false := by rfl)
    (ht : MethEq X o m (e :: es) apos pos pl := by rfl) :
    PE X (.Call (.Attribute o m apos) (e :: es) [] pos) (tMethW C m spv EW tE tA) := by
  refine ⟨fun pins s σ H Q I h => PySem.W.methodCall_KW (pl := pl) (thn (he.run pins s σ H _ I h) ?_) ht⟩
  rintro u s1 ⟨x, H1, I1, rx, a, dx, fs, rfl, ea, l, q⟩
  cases (show u = Value.ref a from rx)
  refine getmeth_ok I1 ea c hm l (PySem.W.callWith_K (first := [.ref a]) (h₀ := X.base) I.ok.mod.kin hm.kp (thn (ha.run pos pins s1 σ H1 _ I1 q) ?_) hst hpl)
  rintro us s2 ⟨vs, H2, I2, r, q2⟩
  exact ⟨I2.kIn, run_fnS (us := .ref a :: us) (vs := .ref a :: vs) F hr hb (hx σ) I2 (.cons rfl r) q2⟩
theorem pe_methW0 {pl : Sem Bool} (he : PE X o tE) (c : Cls X.K C) (hm : Meth X.K C m f) (F : FnOk X.prog X.w X.K X.mg X.base CX n f fd ps spv) (hr : Room n X.A) (hb : Binds X.K fd ps []) (hx : ∀ σ, PassesAt CX X σ (EW σ))
    (ht : MethEq X o m [] apos pos pl := by rfl) :
    PE X (.Call (.Attribute o m apos) [] [] pos) (tMethW C m spv EW tE tNil) := by
  refine ⟨fun pins s σ H Q I h => PySem.W.methodCall_KW (pl := pl) (thn (he.run pins s σ H _ I h) ?_) ht⟩
  rintro u s1 ⟨x, H1, I1, rx, a, dx, fs, rfl, ea, l, q⟩
  cases (show u = Value.ref a from rx)
  exact getmeth_ok I1 ea c hm l (PySem.W.callWith_K0 (first := [.ref a]) I1.kIn hm.kp (run_fnS (us := [.ref a]) (vs := [.ref a]) F hr hb (hx σ) I1 (.cons rfl .nil) q))
theorem lift_methO {W : WX} {WD : WDt} {K : PySem.W.Frag} (hW : ∀ cls E σ H, WD cls E → RelE K G H E σ → W cls none σ H) {te : TE} {tA : TA} (h1 : ∀ σ H Q, liftE K G to σ H Q → te σ H Q) (h2 : ∀ σ H Q, liftDs K G ta σ H Q → tA σ H Q) (σ : L2.St) (H : Hp) (Q : VK) (h : liftE K G (tMethO C m sp to ta WD) σ H Q) :
    tMethW C m (spO K sp) (WE W) te tA σ H Q := by
  obtain ⟨E0, QE, r, q, kk⟩ := h
  refine h1 σ H _ ⟨E0, _, r, q, fun d E1 v H1 q1 x1 r1 p1 => ?_⟩
  obtain ⟨q0, q1⟩ := q1
  split at q0
  · rename_i fs hfs
    obtain ⟨a, j, rfl, e2, _⟩ := obD_some hfs
    have ev := hdl_ref p1
    subst ev
    obtain ⟨dx, vs, ls, g1, g2⟩ := r1.insAt e2
    refine ⟨a, dx, vs, rfl, g1, g2.getN q0, h2 σ H1 _ ⟨E1, _, r1, q1, fun ds E2 ws H2 q2 x2 r2 p2 => ?_⟩⟩
    exact obs_call r2 (.cons (p1.ext x2) p2) q2 (fun d E' v H' z x r p => kk d E' v H' z ((x1.trans x2).trans x) r p) fun cls E' H' z r => hW _ _ _ _ z r
  · exact q0.elim
theorem ed_methO {pl : Sem Bool} (he : ED X G o to) (c : Cls X.K C) (hm : Meth X.K C m f) (F : FnOk X.prog X.w X.K X.mg X.base CX0 n f fd ps (spO X.K sp)) (hr : Room n X.A) (hb : Binds X.K fd ps []) (ha : EDs X G (e :: es) ta)
    (hst : starEach (e :: es) X.env = (false, eval e X.env) :: starEach es X.env := by rfl) (hpl : (backTo pos (starEach es X.env)).any (·.1) = false := by rfl)
    (ht : MethEq X o m (e :: es) apos pos pl := by rfl) : ED X G (.Call (.Attribute o m apos) (e :: es) [] pos) (tMethO C m sp to ta fun _ _ => False) :=
  ⟨PE.weak (pe_methW (EW := WE fun _ _ _ _ => False) he.pe c hm F hr hb (fun σ => fun pins H s e s' I c => pass0 pins σ H s e s' I c) ha.pa hst hpl ht) (lift_methO (fun _ _ _ _ z _ => z) (fun _ _ _ h => h) fun _ _ _ h => h)⟩
theorem ed_methO0 {pl : Sem Bool} (he : ED X G o to) (c : Cls X.K C) (hm : Meth X.K C m f) (F : FnOk X.prog X.w X.K X.mg X.base CX0 n f fd ps (spO X.K sp)) (hr : Room n X.A) (hb : Binds X.K fd ps [])
    (ht : MethEq X o m [] apos pos pl := by rfl) : ED X G (.Call (.Attribute o m apos) [] [] pos) (tMethO C m sp to dNil fun _ _ => False) :=
  ⟨PE.weak (pe_methW0 (EW := WE fun _ _ _ _ => False) he.pe c hm F hr hb (fun σ => fun pins H s e s' I c => pass0 pins σ H s e s' I c) ht) (lift_methO (fun _ _ _ _ z _ => z) (fun _ _ _ h => h) fun σ H Q ⟨E, QE, r, q, kk⟩ => kk _ _ _ _ q (Ext.refl _) r .nil)⟩
theorem ed_methOX {pl : Sem Bool} {W : WX} {WD : WDt} (he : ED X G o to) (c : Cls X.K C) (hm : Meth X.K C m f) (F : FnOk X.prog X.w X.K X.mg X.base (L2.CX X.prog X.w) n f fd ps (spO X.K sp)) (tk : Takes X W) (hW : Wish X.K G WD W) (hr : Room n X.A) (hb : Binds X.K fd ps []) (ha : EDs X G (e :: es) ta)
    (hst : starEach (e :: es) X.env = (false, eval e X.env) :: starEach es X.env := by rfl) (hpl : (backTo pos (starEach es X.env)).any (·.1) = false := by rfl)
    (ht : MethEq X o m (e :: es) apos pos pl := by rfl) : ED X G (.Call (.Attribute o m apos) (e :: es) [] pos) (tMethO C m sp to ta WD) :=
  ⟨PE.weak (pe_methW (EW := WE W) he.pe c hm F hr hb (fun σ => passAt tk σ) ha.pa hst hpl ht) (lift_methO hW (fun _ _ _ h => h) fun _ _ _ h => h)⟩
theorem ed_methOX0 {pl : Sem Bool} {W : WX} {WD : WDt} (he : ED X G o to) (c : Cls X.K C) (hm : Meth X.K C m f) (F : FnOk X.prog X.w X.K X.mg X.base (L2.CX X.prog X.w) n f fd ps (spO X.K sp)) (tk : Takes X W) (hW : Wish X.K G WD W) (hr : Room n X.A) (hb : Binds X.K fd ps [])
    (ht : MethEq X o m [] apos pos pl := by rfl) : ED X G (.Call (.Attribute o m apos) [] [] pos) (tMethO C m sp to dNil WD) :=
  ⟨PE.weak (pe_methW0 (EW := WE W) he.pe c hm F hr hb (fun σ => passAt tk σ) ht) (lift_methO hW (fun _ _ _ h => h) fun σ H Q ⟨E, QE, r, q, kk⟩ => kk _ _ _ _ q (Ext.refl _) r .nil)⟩
end
end DL
set_option Elab.async false
set_option linter.all false
set_option maxRecDepth 100000
set_option maxHeartbeats 1000000
/-! DL41: objects are made; a def with defaults; a comprehension over a field's list. -/
namespace DL
open PySem PySem.Spec PyProof.Rows L2
section
variable {P : Program} {w : World} {K : PySem.W.Frag} {mg : Str → Option Value} {base : Heap} {x qual : Str} {st : Stmt} {f : Addr} {fd : FuncData} {N ps : List Str} {k g : Nat} {sp : SpO}
/-- a def over objects, with defaults -/
theorem fn_okOD {tb : TSd} {dvs : List V} {kws : List (Str × V)} (F : FunD K x qual (defArgs st) (defBody st) (defScope st) dvs kws f fd) (Sc : FnScope N ps (defScope st)) (hg : ps.length + g ≤ N.length) (shape : ∀ ds os QD QX, sp ds os QD QX → ds.length = ps.length ∧ os.length = g)
    (body : ∀ (cdv : Value) (A : Around) (outer : List PySem.Env) (s : Shared) (H : Hp) (E : XK), Room k (A.deeper (envOfC qual (defScope st) s.heap.objs.size f cdv)) → ∀ G : Gh, G.slots = [] → SDs (cxOf CX0 P w K mg base N qual (defScope st) f cdv A outer s H E).nox G (defBody st) tb)
    (read : ∀ ds os QD QX, sp ds os QD QX → tb { nx := fun E' => finG (ghJs N.length g) E' (QD .none), rt := fun d E' => finG (ghJs N.length g) E' (QD d) } (ds.map S.d ++ List.replicate (N.length - ps.length - g) .un ++ os)) :
    FnOk P w K mg base CX0 (k + 1) f fd ps (spO K sp) := by
  refine F.ok Sc (fun vs H Q E ⟨ds, os, fps, QD, QX, h1, h2, _⟩ => by rw [← h2.length]; exact (shape _ _ _ _ h1).1) (fun cdv A outer s H vs Q E hr ⟨ds, os, fps, QD, QX, h1, h2, h3, h4, h5, h6⟩ => ?_)
  obtain ⟨hl, hm⟩ := shape _ _ _ _ h1
  refine ⟨_, PSs.nox (body cdv A outer s H E hr ⟨H, [], fun _ => none, fps.flatten⟩ rfl).pss, _, { nx := fun E' => finG (ghJs N.length g) E' (QD .none), rt := fun d E' => finG (ghJs N.length g) E' (QD d) }, ?_, read ds os QD QX h1, fun E' σ' H' q x r => ?_, fun d E' v σ' H' q x r p => ?_, fun _ _ _ q => False.elim q, fun _ _ _ q => False.elim q⟩
  · have := startO (N.length - ps.length - g) h2 h3 h4
    have hst : L2.start N vs = vs.map some ++ List.replicate (N.length - ps.length - g + os.length) none := by
      unfold L2.start; rw [← h2.length, hl, hm]; congr 2; omega
    rw [hst]; exact this
  · obtain ⟨os', fps', q1, q2⟩ := endO (ghJs_nd _ _) r q
    exact h5 .none os' fps' .non H' q1 q2 .non
  · obtain ⟨os', fps', q1, q2⟩ := endO (ghJs_nd _ _) r q
    exact h5 d os' fps' v H' q1 q2 p
end
/-! ### a new object -/
section
variable {K : PySem.W.Frag} {G : Gh} {H H' : Hp} {E : Env} {σ : St} {a C : Addr} {j : Nat} {fs : List (Str × FS)} {fp : List Addr}
theorem RelX.newOb (r : RelE K G H E σ) (x : PExt H H') (o : RelOb K H' a C fs fp) (fr : ∀ p ∈ fp, H p = none) : RelE K G H' (E.set j (.ob a C fs)) σ := by
  obtain ⟨l, k, pn, dm, x0, _⟩ := r.pext x
  obtain ⟨_, k0, _, dm0, _, A, g1, g2, g3⟩ := r
  have old : ∀ {i p}, E[i]? ≠ none → p ∈ A i → p ∉ fp := fun {i p} e hp z => by
    cases q : E[i]? with
    | none => exact e q
    | some s =>
      obtain ⟨u, hu, _⟩ := (g3 i s q).indom p hp
      rw [fr p z] at hu; cases hu
  refine ⟨by simpa using l, k, pn, dm, x0, fun i => if i = j then fp else if E[i]? = none then [] else A i, fun i m p e1 e2 => ?_, fun i p e => ⟨?_, by simp⟩, fun i s e => ?_⟩
  · dsimp only at e1 e2
    by_cases hi : i = j
    · rw [if_pos hi] at e1
      by_cases hm : m = j
      · rw [hi, hm]
      · rw [if_neg hm] at e2
        by_cases he : E[m]? = none
        · rw [if_pos he] at e2; cases e2
        · rw [if_neg he] at e2; exact absurd e1 (old he e2)
    · rw [if_neg hi] at e1
      by_cases he : E[i]? = none
      · rw [if_pos he] at e1; cases e1
      · rw [if_neg he] at e1
        by_cases hm : m = j
        · rw [if_pos hm] at e2; exact absurd e2 (old he e1)
        · rw [if_neg hm] at e2
          by_cases he2 : E[m]? = none
          · rw [if_pos he2] at e2; cases e2
          · rw [if_neg he2] at e2; exact g1 i m p e1 e2
  · dsimp only at e
    by_cases hi : i = j
    · rw [if_pos hi] at e
      by_cases na : p ∈ G.addrs
      · exact .inl na
      · cases q : G.H0 p with
        | none => exact .inr rfl
        | some u => have := k0 p u q na; rw [fr p e] at this; cases this
    · rw [if_neg hi] at e
      by_cases he : E[i]? = none
      · rw [if_pos he] at e; cases e
      · rw [if_neg he] at e; exact (g2 i p e).1
  · by_cases hi : i = j
    · subst hi
      simp only [if_true]
      by_cases hl : i < E.length
      · rw [List.getElem?_set_self hl] at e; cases e; exact o
      · rw [List.getElem?_eq_none (by simpa using hl)] at e; cases e
    · rw [List.getElem?_set_ne (Ne.symm hi)] at e
      have he : E[i]? ≠ none := by rw [e]; simp
      simp only [if_neg hi, if_neg he]
      exact (g3 i s e).pext x
theorem obGet_none {x : Addr} (r : RelE K G H E σ) (hx : H x = none) : obGet x E = none := by
  cases q : obGet x E with
  | none => rfl
  | some p =>
    obtain ⟨C, fs⟩ := p
    obtain ⟨j, e, _⟩ := obGet_ix q
    obtain ⟨dx, vs, ls, h1, _⟩ := r.insAt e
    rw [hx] at h1; cases h1
end
/-- C(..): the new object stands at the ghost slot j; dd: defaults that fill up -/
def tMakeO (C : Addr) (sp : SpO) (dd : List D) (j : Nat) (ta : TDs) : TD := fun E Q => ta E fun ds E1 => ∀ x, obGet x E1 = none →
  sp (hdl x :: (ds ++ dd)) [.ob x C []] (fun d os' => d = .none ∧ ∃ fs, os' = [.ob x C fs] ∧ Q (hdl x) (E1.set j (.ob x C fs))) (fun _ _ => False)
section
variable {X : Cx} {G : Gh} {e : Expr} {es : List Expr} {pos p : Pos} {x : Str} {C f : Addr} {fd : FuncData} {ps : List Str} {k : Nat} {sp : SpO} {ta : TDs} {dvs : List V} {dv : List Value} {dd : List D}
theorem make_lift {G : Gh} {K : PySem.W.Frag} {H1 : Hp} {E1 : Env} {σ : L2.St} {j : Nat} {ds : List D} {vs : List V} {Q : D → Env → Prop} {QV : VK} (r : RelE K G H1 E1 σ) (p : RpL K H1 ds vs) (y dx : Addr) (hy : H1 y = none) (hx : H1 dx = none) (ne : dx ≠ y)
    (q : obGet y E1 = none → sp (hdl y :: ds) [.ob y C []] (fun d os' => d = .none ∧ ∃ fs, os' = [.ob y C fs] ∧ Q (hdl y) (E1.set j (.ob y C fs))) (fun _ _ => False))
    (kk : ∀ E' H', Q (hdl y) E' → Ext H1 H' → RelE K G H' E' σ → QV (.ref y) H') : spO K sp (.ref y :: vs) (upd (upd H1 dx (.own y)) y (.ins C dx [])) (fun v H2 => v = .non ∧ QV (.ref y) H2) (fun _ _ _ => False) := by
  have x1 : PExt H1 (upd H1 dx (.own y)) := PExt.new hx
  have x2 : PExt (upd H1 dx (.own y)) (upd (upd H1 dx (.own y)) y (.ins C dx [])) := PExt.new (by rw [upd_ne (Ne.symm ne)]; exact hy)
  have xx := PExt.trans x1 x2
  refine ⟨hdl y :: ds, [.ob y C []], [[y, dx]], _, _, q (obGet_none r hy), .cons (.hdl y) (p.ext xx.ext), .cons ⟨y, C, [], rfl, dx, [], [], rfl, by simp [ne.symm], upd_same, by rw [upd_ne ne, upd_same], .nil⟩ .nil, by simp [ne.symm], fun d os' fps' v H' q2 n pv => ?_, fun _ _ _ _ z _ => z⟩
  obtain ⟨rfl, fs, rfl, q2⟩ := q2
  refine ⟨by cases pv; rfl, ?_⟩
  have keep : PExt H1 H' := fun b o e => n.ch.keep b o (xx b o e) (by
    simp only [List.flatten_cons, List.flatten_nil, List.append_nil, List.mem_cons, List.not_mem_nil, or_false]
    rintro (rfl | rfl)
    · rw [hy] at e; cases e
    · rw [hx] at e; cases e)
  have ob := n.obs
  have frr := n.fr
  cases ob with
  | cons o1 t =>
    cases t
    obtain ⟨a', C', fs', e1, o1⟩ := o1
    cases e1
    refine kk _ _ q2 keep.ext (RelX.newOb r keep o1 fun b hb => ?_)
    rcases frr b (by simpa using hb) with z | z
    · simp only [List.flatten_cons, List.flatten_nil, List.append_nil, List.mem_cons, List.not_mem_nil, or_false] at z
      rcases z with rfl | rfl
      · exact hy
      · exact hx
    · cases w : H1 b with
      | none => rfl
      | some o => have := xx b o w; rw [z] at this; cases this
theorem ed_makeO (j : Nat) (M : Mk X.K C f) (F : FnOk X.prog X.w X.K X.mg X.base CX0 k f fd ps (spO X.K sp)) (hr : Room (k + 1) X.A) (hg : Gl X x) (hm : X.mg x = some (.ref C)) (hb : Binds X.K fd ps dv) (hd : Vals dvs dv) (hdd : ∀ H, RpL X.K H dd dvs) (ha : EDs X G (e :: es) ta)
    (hdb : (x == ("__debug__" : Str)) = false := by decide) (he : starEach (e :: es) X.env = (false, eval e X.env) :: starEach es X.env := by rfl) (hpl : (backTo pos (starEach es X.env)).any (·.1) = false := by rfl) : ED X G (.Call (.Name x p) (e :: es) [] pos) (tMakeO C sp dd j ta) :=
  ⟨PE.weak (pe_make (E := fun _ _ _ => False) M F hr hg hm hb hd pass0 ha.pa hdb he hpl) fun σ H Q ⟨E0, QE, r, q, kk⟩ => ⟨E0, _, r, q, fun ds E1 vs H1 q1 x1 r1 p1 y dx hy hx ne =>
    make_lift (j := j) r1 (p1.append (hdd H1)) y dx hy hx ne (q1 y) fun E' H' z x2 r2 => kk _ _ _ _ z (x1.trans x2) r2 (.hdl y)⟩⟩
end
/-! ### a comprehension over a list that stands in the heap and may change later -/
structure WalkP (W : Bool) (K : PySem.W.Frag) (J : It) (H0 : Hp) (ds : List D) : Prop where
  goes : ∀ i H, PExt H0 H → i < ds.length → J.go i H
  yld : ∀ i H x H', PExt H0 H → i < ds.length → J.yld i H x H' → PExt H H' ∧ ∃ d, ds[i]? = some d ∧ RpB W K H' d x
  stops : ∀ H, PExt H0 H → J.stop ds.length H
theorem walkP_lst {K : PySem.W.Frag} {H : Hp} {a : Addr} {vs : List V} {ds : List D} (h : H a = some (.lst vs)) (l : RpL K H ds vs) : WalkP false K (Itl K a) H ds where
  goes := fun i H' x hi => by
    rw [l.length] at hi
    exact ⟨vs, vs[i], SqL.of (x _ _ h), List.getElem?_eq_getElem hi⟩
  yld := fun i H' v H2 x hi hy => by
    obtain ⟨e1, e2⟩ := hy
    subst e1
    have hv := e2 vs (SqL.of (x _ _ h))
    obtain ⟨d, hd, p⟩ := l.getV hv
    exact ⟨PExt.refl _, d, hd, p.ext x.ext⟩
  stops := fun H' x => ⟨vs, SqL.of (x _ _ h), by rw [l.length]; exact Nat.le_refl _⟩
def onlyD : S → S
  | .d x => .d x
  | _ => .un
def freshG (H : Hp) : Gh := ⟨H, [], fun _ => none, []⟩
theorem relD {K : PySem.W.Frag} {G : Gh} {H : Hp} {E : Env} {σ : St} (r : RelE K G H E σ) : RelE K (freshG H) H (E.map onlyD) σ := by
  refine ⟨by rw [List.length_map]; exact r.len, fun p o h _ => h, (fun i a h => by cases h), (fun a h => by cases h), ⟨(fun _ _ z => by cases z), (fun _ _ _ z => by cases z)⟩, fun _ => [], (fun i j a h => by cases h), (fun i a h => by cases h), fun i s e => ?_⟩
  rw [List.getElem?_map] at e
  obtain ⟨s0, e1, e2⟩ := Option.map_eq_some_iff.mp e
  subst e2
  cases s0 with
  | d y => obtain ⟨v, e3, p⟩ := r.data e1; exact ⟨rfl, v, e3, p⟩
  | _ => exact rfl
theorem relD_pext {K : PySem.W.Frag} {ex : List Addr} {H H' : Hp} {E : Env} {σ : St} (r : RelX K (freshG H) ex H' E σ) : PExt H H' := fun p o e => r.keep p o e (by show p ∉ [] ++ []; simp)
section
variable {X : Cx} {G : Gh} {tg iter e : Expr} {pos : Pos}
theorem comp_loopP {W : Bool} {K : PySem.W.Frag} {J : It} {ds : List D} {E1 : Env} {g : TGd} {tt : TTd} {te : TD} {ms : List Nat} {σ : L2.St} {H1 : Hp} {QE : List D → Prop} {Q : VK} (r1 : RelE K (freshG H1) H1 E1 σ) (wk : WalkP W K J H1 ds) (q1 : compD g tt te ms ds [] E1 fun xs _ => QE xs)
    (k : ∀ xs L vs H', QE xs → H1 L = none → PExt H1 H' → H' L = some (.lst vs) → RpL K H' xs vs → Q (.ref L) H') :
    ∀ L, H1 L = none → ∃ Wv : Nat → Nat → Hp → Prop, (∃ m, Wv 0 m (upd H1 L (.lst []))) ∧ ∀ i m H, Wv i m H →
      (J.stop i H ∧ Q (.ref L) H) ∨ (J.go i H ∧ ∃ Nx : Hp → Prop, (∀ H', Nx H' → ∃ m', m' < m ∧ Wv (i + 1) m' H') ∧ ∀ x H', J.yld i H x H' → anyG W K (freshG H1) ms g x (L2.wipe σ ms) H' fun σ2 H2 => L2.wipe σ2 ms = L2.wipe σ ms ∧ anyT K (freshG H1) tt σ2 H2 fun b H3 =>
        if b = true then anyE K (freshG H1) te σ2 H3 fun y H4 => ∃ acc, H4 L = some (.lst acc) ∧ acc.length < sizeLine ∧ Nx (upd H4 L (.lst (acc ++ [y]))) else Nx H3) := by
  intro L hL
  have hm : ∀ i ∈ ms, i ∉ (freshG H1).slots := fun i _ z => by cases z
  obtain ⟨rL, h0, na⟩ := r1.fresh (o := .lst []) hL
  refine ⟨fun i m H' => ∃ (E' : Env) (σ' : L2.St) (acc : List D) (vs : List V), i + m = ds.length ∧ RelX K (freshG H1) [L] H' E' σ' ∧ L2.wipe σ' ms = L2.wipe σ ms ∧ H' L = some (.lst vs) ∧ RpL K H' acc vs ∧
    compD g tt te ms (ds.drop i) acc E' fun xs _ => QE xs, ⟨ds.length, E1, σ, [], [], by omega, rL, rfl, upd_same, .nil, q1⟩, fun i m H2 hW => ?_⟩
  obtain ⟨E2, σ2, acc, vs, hm2, r2, w2, a2, p2, q2⟩ := hW
  have xL : PExt H1 H2 := relD_pext r2
  by_cases hi : i < ds.length
  · obtain ⟨d, hd⟩ : ∃ d, ds[i]? = some d := ⟨ds[i], List.getElem?_eq_getElem hi⟩
    have hdr : ds.drop i = d :: ds.drop (i + 1) := by
      rw [List.drop_eq_getElem_cons hi]
      rw [List.getElem?_eq_getElem hi] at hd
      rw [Option.some.inj hd]
    rw [hdr] at q2
    refine .inr ⟨wk.goes i H2 xL hi, fun H' => ∃ (E' : Env) (σ' : L2.St) (acc : List D) (vs : List V), RelX K (freshG H1) [L] H' E' σ' ∧ L2.wipe σ' ms = L2.wipe σ ms ∧ H' L = some (.lst vs) ∧ RpL K H' acc vs ∧
      compD g tt te ms (ds.drop (i + 1)) acc E' fun xs _ => QE xs, fun H' ⟨E', σ', acc, vs, b2, b3, b4, b5, b6⟩ => ⟨m - 1, by omega, E', σ', acc, vs, by omega, b2, b3, b4, b5, b6⟩, fun x H3 hy => ?_⟩
    obtain ⟨px, d', hd', p⟩ := wk.yld i H2 x H3 xL hi hy
    rw [hd] at hd'; cases hd'
    have hs0 : (pend (freshG H1) L (.lst vs)).slots = (freshG H1).slots := rfl
    have r3 : RelE K (pend (freshG H1) L (.lst vs)) H3 (wipeE E2 ms) (L2.wipe σ ms) := by
      have := ((r2.pext px).wipe hm).toPend (px _ _ a2) na
      rw [w2] at this; exact this
    refine ⟨pend (freshG H1) L (.lst vs), hs0, _, d, _, r3, p, q2, fun E4 σ4 H4 q4 x4 r4 w4 => ?_⟩
    have ww : ∀ (l : List Nat), L2.wipe (L2.wipe σ l) l = L2.wipe σ l := by
      intro l
      have : ∀ (τ : L2.St) (l k : List Nat), (∀ j ∈ l, j ∈ k) → (∀ j ∈ k, ∀ v, τ[j]? = some v → v = none) → L2.wipe τ l = τ := by
        intro τ l
        induction l with
        | nil => intro _ _ _; rfl
        | cons v vs ih =>
          intro k hk hn
          show (L2.wipe τ vs).set v none = τ
          rw [ih k (fun j hj => hk j (List.mem_cons_of_mem _ hj)) hn]
          refine List.ext_getElem? fun j => ?_
          by_cases hv : v = j
          · subst hv
            by_cases hl : v < τ.length
            · rw [List.getElem?_set_self hl]
              have := hn v (hk v (List.mem_cons_self ..)) _ (List.getElem?_eq_getElem hl)
              rw [List.getElem?_eq_getElem hl, this]
            · rw [List.getElem?_eq_none (by simpa using hl), List.getElem?_eq_none (by simpa using hl)]
          · rw [List.getElem?_set_ne hv]
      refine this _ l l (fun j hj => hj) fun j hj v e => ?_
      cases v with
      | none => rfl
      | some y => exact absurd hj (wipe_some e).2
    refine ⟨by rw [w4]; exact ww ms, pend (freshG H1) L (.lst vs), hs0, E4, _, r4, q4, fun b E5 H5 q5 x5 r5 => ?_⟩
    have w45 : L2.wipe σ4 ms = L2.wipe σ ms := by rw [w4]; exact ww ms
    cases b with
    | false =>
      rw [if_neg Bool.false_ne_true] at q5
      refine iteF ?_
      obtain ⟨r6, a6⟩ := RelX.ofPend r5 h0 na
      exact ⟨E5, σ4, acc, vs, r6, w45, a6, p2.ext ((px.ext.trans x4).trans x5), q5⟩
    | true =>
      rw [if_pos rfl] at q5
      refine iteT ?_
      refine ⟨pend (freshG H1) L (.lst vs), hs0, E5, _, r5, q5, fun y E6 u H6 q6 x6 r6 p6 => ?_⟩
      obtain ⟨r7, a7⟩ := RelX.ofPend r6 h0 na
      have pv := p2.ext (((px.ext.trans x4).trans x5).trans x6)
      have xp : Ext H6 (upd H6 L (.lst (vs ++ [u]))) := Ext.put a7
      refine ⟨vs, a7, by rw [← pv.length]; exact q6.1, E6, σ4, acc ++ [y], vs ++ [u], ?_, w45, upd_same, (RpL.append pv (.cons p6 .nil)).ext xp, q6.2⟩
      obtain ⟨l, kk, pn, dm, x0, A, h1, h2, h3⟩ := r7
      refine ⟨l, fun p o e ne => ?_, pn, fun p hp => ?_, x0.trans xp, fun j => if E6[j]? = none then [] else A j, fun i j b e1 e2 => ?_, fun i b e => ?_, fun j s e => ?_⟩
      · have : p ≠ L := by rintro rfl; rw [h0] at e; cases e
        rw [upd_ne this]; exact kk p o e ne
      · have : p ≠ L := by rintro rfl; exact na hp
        rw [upd_ne this]; exact dm p hp
      · dsimp only at e1 e2
        split at e1
        · cases e1
        · split at e2
          · cases e2
          · exact h1 i j b e1 e2
      · dsimp only at e
        split at e
        · cases e
        · exact h2 i b e
      · have : E6[j]? ≠ none := by rw [e]; simp
        simp only [this, if_false]
        exact (h3 j s e).move xp fun p hp => upd_ne (by rintro rfl; exact (h2 j p hp).2 (by simp))
  · have e0 : ds.drop i = [] := List.drop_eq_nil_of_le (by omega)
    have ei : i = ds.length := by omega
    rw [e0] at q2
    exact .inl ⟨by rw [ei]; exact wk.stops H2 xL, k _ _ _ _ q2 hL xL a2 p2⟩
/-- [elt for target in x.f if ..] -/
def tCompF (C : Addr) (f : Str) (i : Nat) (g : TGd) (tt : TTd) (te : TD) (ms : List Nat) : TLd := fun E Q => match E[i]? with
  | some (.d d) => match fldL C f d E with
    | some xs => compD g tt te ms xs [] (E.map onlyD) fun ys _ => Q ys E
    | none => False
  | _ => False
theorem RelX.aside {K : PySem.W.Frag} {H H' : Hp} {E : Env} {σ : L2.St} {L : Addr} {o : HO} (r : RelE K G H E σ) (x : PExt H H') (hL : H L = none) (h : H' L = some o) : RelX K G [L] H' E σ ∧ G.H0 L = none ∧ L ∉ G.addrs := by
  obtain ⟨r1, h1, h2⟩ := r.fresh (o := o) hL
  refine ⟨r1.pext fun p u e => ?_, h1, h2⟩
  by_cases z : p = L
  · subst z; rw [upd_same] at e; cases e; exact h
  · rw [upd_ne z] at e; exact x p u e
section
variable {elt : Expr} {ifs : List Expr} {scope : Scope} {g : TGd} {tt : TTd} {te : TD} {ms : List Nat} {x f : Str} {p0 p1 : Pos} {C : Addr} {i : Nat}
theorem el_compF (i : Nat) (own : List (Str × Nat)) (hC : Cls X.K C) (hf : NoAttr X.K C f) (hc : X.calm = true) (hN : X.N.Nodup) (hms : own.map (·.2) = ms) (ok : BlkOk X.N X.env.scope scope own)
    (hg : ∀ (G' : Gh), G'.slots = [] → ∀ (s : Shared) (H : Hp) (C : Addr) (cl : List (Str × Addr)) (fp : List Addr), GD (X.blk s H scope (compEnvC scope cl C X.env) fp) G' false ms tg g)
    (ht : ∀ (G' : Gh), G'.slots = [] → ∀ (s : Shared) (H : Hp) (C : Addr) (cl : List (Str × Addr)) (fp : List Addr), EBs (X.blk s H scope (compEnvC scope cl C X.env) fp) G' ifs tt)
    (he : ∀ (G' : Gh), G'.slots = [] → ∀ (s : Shared) (H : Hp) (C : Addr) (cl : List (Str × Addr)) (fp : List Addr), ED (X.blk s H scope (compEnvC scope cl C X.env) fp) G' elt te)
    (hx : X.N[i]? = some x := by rfl) (hv : Vis X.env.scope x := by first | exact Or.inl rfl | exact Or.inr (Or.inl rfl) | exact Or.inr (Or.inr rfl)) (hd : (x == ("__debug__" : Str)) = false := by decide)
    (hcd : (x == ("__classdict__" : Str)) = false := by decide) (hb : attributeBase (.Name x p0) f X.env (eval (.Name x p0) X.env) = eval (.Name x p0) X.env := by rfl)
    (hs : ∀ y, foldedSetIterable (.Attribute (.Name x p0) f p1) X.env y = pure y := by intro _; rfl) :
    EL X G (.ListComp elt [⟨tg, .Attribute (.Name x p0) f p1, ifs, 0⟩] scope pos) (tCompF C f i g tt te ms) := by
  obtain ⟨Pg, Pt, Pe⟩ := comp_parts (G := freshG fun _ => none) hg ht he
  refine ⟨PE.weak (pe_lc hc hN (pi_list (pe_fld (pe_var hx hv hd hcd) hb)) ok Pg Pt Pe hs) fun σ H Q ⟨E, QE, r, q, k⟩ => ?_⟩
  unfold tCompF at q
  split at q
  · rename_i d hd1
    split at q
    · rename_i xs hz
      obtain ⟨fs, h1, h2⟩ := fldL_some hz
      obtain ⟨a, j, e1, _, e2, _⟩ := obV r hd1 h1
      obtain ⟨dx, vs, ls, g1, g2⟩ := r.insAt e2
      obtain ⟨l, us, g3, _, g4, g5⟩ := g2.getL h2
      rw [hms]
      refine ⟨_, e1, a, C, dx, vs, _, rfl, g1, hC, hf, g3, l, rfl, ⟨_, SqL.of g4⟩, ?_⟩
      refine comp_loopP (QE := fun ys => QE ys E) (relD r) (walkP_lst g4 g5) q fun ys L ws H' z hL x2 hw p => ?_
      obtain ⟨r2, h0, na⟩ := r.aside x2 hL hw
      exact k _ _ _ _ _ z x2.ext r2 h0 na hw p
    · exact q.elim
  · exact q.elim
end
end
end DL
set_option Elab.async false
set_option linter.all false
set_option maxRecDepth 100000
set_option maxHeartbeats 1000000
/-! DL42: except X as e: got = word(e); a def that tells an exception's class by a text. -/
namespace DL
open PySem PySem.Spec PyProof.Rows L2
/-- called with the exception that is handled, of the class cls, it gives the text x -/
structure FnW (P : Program) (w : World) (K : PySem.W.Frag) (mg : Str → Option Value) (base : Heap) (k : Nat) (f : Addr) (fd : FuncData) (y : Str) (cls : Value) (x : Str) : Prop where
  run : ∀ (A : Around) (outer : List PySem.Env) (s : Shared) (H : Hp) (args : Args) (a : Addr) (oe : Obj) (Q : VK), L2H.RoomH k A → Zc cls none oe → (∃ vs, oe.data = .fields vs) → L2H.PinOk outer H s (a, oe) → Env0 P w K mg base A outer s H → BindsTo s fd args [(y, .ref a)] →
    (∀ H', PExt H H' → Q (.str x) H') → codeAny (model P w) A (.call (.ref f) args) (CR CX0 outer P w H s Q fun _ _ _ => False) s
theorem fnW_ok {P : Program} {w : World} {K : PySem.W.Frag} {mg : Str → Option Value} {base : Heap} {nm qual y x : Str} {st : Stmt} {f : Addr} {fd : FuncData} {N : List Str} {k : Nat} {cls : Value} {tb : Addr → TSd} (F : Fun K nm qual st f fd) (Sc : FnScope N [y] (defScope st))
    (body : ∀ (cdv : Value) (A : Around) (outer : List PySem.Env) (s : Shared) (H : Hp) (a : Addr) (oe : Obj), L2H.RoomH k (A.deeper (envOfC qual (defScope st) s.heap.objs.size f cdv)) → Zc cls none oe → (∃ vs, oe.data = .fields vs) → ∀ G : Gh, G.slots = [] →
      SDs (L2H.cxH CX0 P w K mg base N qual (defScope st) f cdv A outer s H (fun _ _ _ => False) (a, oe)) G (defBody st) (tb a))
    (read : ∀ a, tb a { nx := fun _ => False, rt := fun d _ => d = .str x } (.d (hdl a) :: List.replicate (N.length - 1) .un)) : FnW P w K mg base (k + 1) f fd y cls x := by
  obtain ⟨oc, od, kV, doc, pm, an, cdv, ct, osl, rfl, lk, hcd⟩ := F.ex
  refine ⟨fun A outer s H args a oe Q hr hz hf hpin env hb hQ => ?_⟩
  have inK : K.In s.heap := env.mod.kin.keeps fun b o e => (env.bs b o e).1
  have vs1 : Vals [V.ref a] [Value.ref a] := .cons rfl .nil
  have kinds : ∀ n ∈ [(y, Value.ref a)], (defScope st).names.lookup n.1 = some .local ∨ ((defScope st).names.lookup n.1 = some .cell ∧ ((cellsFrom (s.heap.objs.size + 1) (defScope st).names []).lookup n.1).isSome = true) := fun n hn => by
    rw [List.mem_singleton.mp hn]
    rcases Sc.par y (List.mem_singleton.mpr rfl) with z | z
    · exact .inl z
    · exact .inr ⟨z, PySem.W.cellsFrom_some _ _ _ (.inl z)⟩
  refine codeAny_call_function hr.depth (inK _ _ lk) rfl Sc.co Sc.gen rfl (PySem.W.codeRec_of inK hcd) (hb _ _ _ _ (wpAny_newFunctionEnv_cells Sc.kind kinds fun env1 he s1 ic => ?_))
  subst he
  refine ⟨(env.mod.nolimit.keeps fun b o e => (env.bs b o e).1).keeps ic.toInCall.keep, codeAny_func ?_⟩
  have I := L2H.inv_startH (CX := CX0) (cd := cdv) (qual := qual) (f := f) (E := fun _ _ _ => False) (ps := [y]) (us := [.ref a]) (vs := [.ref a]) Sc hpin env rfl vs1 ic
  have B := body cdv A outer s H a oe (hr.deeper _) hz hf (freshG H) rfl
  have r0 : RelE K (freshG H) H (.d (hdl a) :: List.replicate (N.length - 1) .un) (L2.start N [.ref a]) := by
    have := startO (K := K) (H := H) (ds := [hdl a]) (vs := [.ref a]) (os := []) (fps := []) (N.length - 1) (.cons (.hdl a) .nil) .nil (by simp)
    simpa [L2.start, freshG] using this
  refine wpAny_mono (B.pss.run [] s1 _ H { nx := fun _ H' => Q .non H', rt := Q } I ⟨_, { nx := fun _ => False, rt := fun d _ => d = .str x }, r0, read a, (fun _ _ _ z => z.elim), fun d E' v σ' H' z x1 r1 p1 => ?_, (fun _ _ _ z => z.elim), fun _ _ _ z => z.elim⟩) (fun fl s' hs => ?_) fun e s' z => ?_
  · subst z
    cases p1
    exact hQ _ (relD_pext r1)
  · have done : ∀ {σ' : L2.St} {H' : Hp} {v : V} {u : Value}, Inv (L2H.cxH CX0 P w K mg base N qual (defScope st) f cdv A outer s H (fun _ _ _ => False) (a, oe)) [] σ' H' s' → RelV v u → Q v H' → CE outer P w H s Q u s' :=
      fun {σ' H' v u} J rv q => ⟨v, H', J.os, J.bare, J.base, J.hok, rv, q⟩
    cases fl with
    | ret u => obtain ⟨v, σ', H', J, rv, q⟩ := hs; exact done J rv q
    | next => obtain ⟨σ', H', J, q⟩ := hs; exact done (v := V.non) (u := Value.none) J rfl q
    | brk => obtain ⟨_, _, _, q⟩ := hs; exact q.elim
    | cont => obtain ⟨_, _, _, q⟩ := hs; exact q.elim
  · exact z
/-! ### isinstance of it -/
theorem call_isP {X : Cx} {a D : Addr} {oe : Obj} (C : ExcC X.K D) (hp : (a, oe) ∈ X.pn) (hz : Zc (.ref D) none oe) (hf : ∃ vs, oe.data = .fields vs) : CallR X (.builtin "isinstance") (rIsE X.K D a) := by
  rintro pins s σ H xs us Q I r ⟨c, cv, b, rfl, hcv, e, q⟩
  obtain ⟨u1, u2, rfl, rx, rt⟩ : ∃ u1 u2, us = [u1, u2] ∧ RelV (V.ref a) u1 ∧ RelV c u2 := by
    cases r with
    | cons rx rr => cases rr with
      | cons rt rr => cases rr; exact ⟨_, _, rfl, rx, rt⟩
  cases rx
  cases hcv _ rt
  obtain ⟨hget, _⟩ := I.pin (a, oe) (List.mem_append.mpr (.inl hp))
  have J : PySem.W.InstAt s.heap a oe D none := by
    obtain ⟨vs, hv⟩ := hf
    obtain ⟨oc, od, oda, osl⟩ := oe
    obtain ⟨h1, h2⟩ := hz
    dsimp only at h1 h2 hv
    subst h1 h2 hv
    exact ⟨hget, rfl, rfl, trivial⟩
  exact PySem.W.kia_one (PySem.W.handS_kitx_exc C.hg C.hk C.hs C.hd C.ha C.hn C.ht C.hm) I.kIn J e (fun z => nomatch z) fun tk => ⟨.bl b, H, I.kept (t' := tk) fun _ _ z => z, rfl, q⟩
/-- isinstance(e, C) where e names the exception -/
def tIsE (i : Nat) (a : Addr) (b : Bool) : TD := fun E Q => E[i]? = some (.d (hdl a)) ∧ Q (.bool b) E
section
variable {X : Cx} {G : Gh} {a D : Addr} {oe : Obj} {x c : Str} {p p1 p2 pos : Pos} {b : Bool} {v : V} {cv : Value}
theorem ed_isE (i : Nat) (C : ExcC X.K D) (hp : (a, oe) ∈ X.pn) (hz : Zc (.ref D) none oe) (hf : ∃ vs, oe.data = .fields vs) (he : PE X (.Name c p2) (tC v)) (hcv : ∀ u, RelV v u → u = cv) (hk : PySem.W.kitOne X.K (.ref D) cv = some b) (hg : Gl X "isinstance") (hm : X.mg "isinstance" = none)
    (hN : X.N[i]? = some x := by rfl) (hv : Vis X.env.scope x := by first | exact Or.inl rfl | exact Or.inr (Or.inl rfl) | exact Or.inr (Or.inr rfl)) (hd : (x == ("__debug__" : Str)) = false := by decide) (hcd : (x == ("__classdict__" : Str)) = false := by decide)
    (hs : starEach [.Name x p1, .Name c p2] X.env = (false, eval (.Name x p1) X.env) :: starEach [.Name c p2] X.env := by rfl) (hs2 : starEach [.Name c p2] X.env = (false, eval (.Name c p2) X.env) :: starEach [] X.env := by rfl) (hpl : (backTo pos (starEach [.Name c p2] X.env)).any (·.1) = false := by rfl) :
    ED X G (.Call (.Name "isinstance" p) [.Name x p1, .Name c p2] [] pos) (tIsE i a b) :=
  ⟨PE.weak (pe_callB (call_isP C hp hz hf) hg hm (by decide +kernel) (pa_cons (pe_var hN hv hd hcd) (pa_cons he pa_nil hs2) hs) (he := hs) (hpl := hpl)) fun σ H Q ⟨E, QE, r, ⟨q0, q⟩, k⟩ => by
    obtain ⟨w, e1, p⟩ := r.data q0
    have := hdl_ref p
    subst this
    exact ⟨_, e1, v, cv, b, rfl, hcv, hk, k _ _ _ _ q (Ext.refl _) r (.bl b)⟩⟩
end
/-! ### try .. except X as e: got = word(e) -/
section
variable {X : Cx} {G : Gh} {x n got wn : Str} {c : Value} {i j k : Nat} {body : List Stmt} {np pos pos' pg pw pe pc pa : Pos} {f : Addr} {fd : FuncData} {wd : Value → Option Str}
def sTryW (m : Value → Option Bool) (wd : Value → Option Str) (i j : Nat) (Wo : WDt) (tb : WDt → TSd) : TSd := fun DE E => tb (fun cls E1 => match m cls with
  | some true => match wd cls with
    | some y => i < E1.length ∧ DE.nx ((E1.set j (.d (.str y))).set i .un)
    | none => False
  | some false => Wo cls E1
  | none => False) DE E
theorem pe_word {X : Cx} {a : Addr} {oe : Obj} {pn : List (Addr × Obj)} {cls : Value} {d : Option Addr} {y : Str} (hw : ∀ cls y', wd cls = some y' → FnW X.prog X.w X.K X.mg X.base k f fd y cls y') (hr : L2H.RoomH k X.A) (hg : Gl X wn) (hm : X.mg wn = some (.ref f)) (hk : PySem.W.keepIn X.K (.ref f) = true) (hb : Binds X.K fd [y] [])
    (hz : Zc cls d oe) (hf : ∃ vs, oe.data = .fields vs) (hi : X.N[i]? = some n) (hv : Vis X.env.scope n) (hdn : (n == ("__debug__" : Str)) = false) (hcd : (n == ("__classdict__" : Str)) = false) (hdb : (wn == ("__debug__" : Str)) = false)
    (hs : starEach [.Name n pe] X.env = (false, eval (.Name n pe) X.env) :: starEach [] X.env) (hpl : (backTo pc (starEach [] X.env)).any (·.1) = false) :
    PE (X.suite a ((a, oe) :: pn)) (.Call (.Name wn pw) [.Name n pe] [] pc) (fun σ H Q => ∃ y', wd cls = some y' ∧ d = none ∧ σ[i]? = some (some (.ref a)) ∧ ∀ H', PExt H H' → Q (.str y') H') := by
  refine ⟨fun pins s σ H Q I ⟨y', hy, hd, hσ, hQ⟩ => ?_⟩
  subst hd
  have pav := pa_cons (X := X.suite a ((a, oe) :: pn)) (pe_var (i := i) (pos := pe) hi hv hdn hcd) pa_nil hs
  refine wpAny_Call_Name_kw (ld_glob I hg hm (PySem.W.callWith_K (h₀ := X.base) I.ok.mod.kin hk (thn (pav.run pc pins s σ H (fun vs H1 => vs = [.ref a] ∧ H1 = H) I ⟨_, hσ, rfl, rfl⟩) ?_) hs hpl) hdb)
  rintro us s1 ⟨vs, H1, I1, r, rfl, rfl⟩
  refine ⟨I1.kIn, ?_⟩
  obtain ⟨u, rfl, ru⟩ : ∃ u, us = [u] ∧ RelV (V.ref a) u := by
    cases r with
    | cons ru rr => cases rr; exact ⟨_, rfl, ru⟩
  cases ru
  have hpin := I1.pin (a, oe) (List.mem_append_left _ List.mem_cons_self)
  have P1 : L2H.PinOk X.stack H1 s1 (a, oe) := ⟨hpin.1, hpin.2.1, fun z => (List.mem_cons.mp (I1.stkSub a z)).elim hpin.2.2.1 hpin.2.2.2.1, hpin.2.2.2.2⟩
  have bnd := hb s1 [.ref a] I1.kIn rfl
  refine wpAny_call (codeAny_mono ((hw cls y' hy).run _ X.stack s1 H1 ⟨[.ref a], []⟩ a oe Q ⟨hr.dp, hr.un⟩ hz hf P1 I1.env0 bnd hQ) fun r s' hq => ?_)
  cases r with
  | error e => exact (hq : False).elim
  | ok fl =>
    cases fl with
    | ret u => exact I1.after hq
    | _ => exact (hq : False).elim
theorem set3 {α : Type} (l : List α) (i j : Nat) (a b c : α) : ((l.set i a).set j b).set i c = (l.set j b).set i c := by
  by_cases h : i = j
  · subst h; simp
  · rw [List.set_comm _ _ h, List.set_set]
theorem sd_tryW {m : Value → Option Bool} {Wo : WDt} {Wout : WX} {tb : WDt → TSd} {y : Str} (hm : ∀ cls b, m cls = some b → PySem.W.exmOne X.K cls c = some b) (hWo : Wish X.K G Wo Wout) (hs : X.stack = X.env :: X.outer) (hf : X.env.frame = some X.env.locals) (hc : Names X x c) (tk : Takes X Wout)
    (hb : ∀ (W : WX) (pn : List (Addr × Obj)) (xe : Value → Shared → Prop), Takes (X.tr pn xe) W → PassesOwn (model X.prog X.w) X.A X.env xe → ∀ G' : Gh, G'.slots = G.slots → ∀ WD : WDt, Wish X.K G' WD W → SDs (X.tr pn xe) G' body (tb WD))
    (hw : ∀ cls y', wd cls = some y' → FnW X.prog X.w X.K X.mg X.base k f fd y cls y') (hr : L2H.RoomH k X.A) (hgw : Gl X wn) (hmw : X.mg wn = some (.ref f)) (hkw : PySem.W.keepIn X.K (.ref f) = true) (hbw : Binds X.K fd [y] [])
    (hN : X.N.Nodup) (hi : X.N[i]? = some n) (hln : X.env.kindOf n = some .local) (hj : X.N[j]? = some got) (hlj : Loc X.env.scope got) (hfj : X.fn got = true ∨ X.env.scope.names.lookup got = some .local) (si : i ∉ G.slots) (sj : j ∉ G.slots) (hv : Vis X.env.scope n)
    (hdn : (n == ("__debug__" : Str)) = false := by decide) (hcd : (n == ("__classdict__" : Str)) = false := by decide) (hdb : (wn == ("__debug__" : Str)) = false := by decide)
    (hst : starEach [.Name n pe] X.env = (false, eval (.Name n pe) X.env) :: starEach [] X.env := by rfl) (hpl : (backTo pc (starEach [] X.env)).any (·.1) = false := by rfl)
    (hsw : swapsWith (.Call (.Name wn pw) [.Name n pe] [] pc) (some (.Name got pg)) pa.line X.env = pure false := by rfl) :
    SD X G (.Try body [.ExceptHandler (some (.Name x np)) (some n) [.Assign [.Name got pg] (.Call (.Name wn pw) [.Name n pe] [] pc) pa] pos'] [] [] pos) (sTryW m wd i j Wo tb) := by
  let tB : WX → TS := fun W D σ H => ∃ (G' : Gh) (WD : WDt), G'.slots = G.slots ∧ Wish X.K G' WD W ∧ liftS X.K G' (tb WD) D σ H
  have hb' : ∀ (W : WX) (pn : List (Addr × Obj)) (xe : Value → Shared → Prop), Takes (X.tr pn xe) W → PassesOwn (model X.prog X.w) X.A X.env xe → PSs (X.tr pn xe) body (tB W) := fun W pn xe t p =>
    ⟨fun pins s σ H F I ⟨G', WD, hg, hw, q⟩ => (hb W pn xe t p G' hg WD hw).pss.run pins s σ H F I q⟩
  let ts : Addr → Value → Option Addr → TS := fun a cls d D σ H => ∃ y', wd cls = some y' ∧ d = none ∧ σ[i]? = some (some (.ref a)) ∧ ∀ H', PExt H H' → D.nx (σ.set j (some (.str y'))) H'
  have hsu : ∀ (a : Addr) (oe : Obj) (cls : Value) (d : Option Addr) (pn : List (Addr × Obj)), Zc cls d oe → (∃ vs, oe.data = .fields vs) → PSs (X.suite a ((a, oe) :: pn)) [.Assign [.Name got pg] (.Call (.Name wn pw) [.Name n pe] [] pc) pa] (ts a cls d) := fun a oe cls d pn hz hfo =>
    pss_one (PS.weak (ps_set (X := X.suite a ((a, oe) :: pn)) hN hj hlj (pe_word (a := a) (pn := pn) hw hr hgw hmw hkw hbw hz hfo hi hv hdn hcd hdb hst hpl) hsw hfj) fun F σ H h => h)
  refine ⟨PS.weak (ps_try_as hs hf hN hi hln hc tk hb' hsu) fun F σ H ⟨E, DE, r, q, k1, k2, k3, k4⟩ => ?_⟩
  refine ⟨{ G with X0 := H }, _, rfl, fun cls E1 σ1 H1 q1 r1 => ?_, E, DE, r.mark, q, fun E' σ' H' z x r' => k1 E' σ' H' z x (RelX.unmark (H1 := H) r r'), fun d E' v σ' H' z x r' p => k2 d E' v σ' H' z x (RelX.unmark (H1 := H) r r') p, fun E' σ' H' z x r' => k3 E' σ' H' z x (RelX.unmark (H1 := H) r r'), fun E' σ' H' z x r' => k4 E' σ' H' z x (RelX.unmark (H1 := H) r r')⟩
  have ext : Ext H H1 := r1.ext
  have r2 : RelE X.K G H1 E1 σ1 := RelX.unmark (H1 := H) r r1
  show wAs X.K c i ts Wout F cls none σ1 H1
  cases e : m cls with
  | none => rw [e] at q1; exact q1.elim
  | some b =>
    rw [e] at q1
    refine ⟨b, hm cls b e, fun hbt a ha => ?_, fun hbf => ?_⟩
    · subst hbt
      dsimp only at q1
      split at q1
      · rename_i y' hy
        obtain ⟨li, q1⟩ := q1
        rw [r2.len] at li
        refine ⟨y', hy, rfl, List.getElem?_set_self li, fun H' x2 => ?_⟩
        refine k1 _ _ _ q1 (ext.trans x2.ext) ?_
        rw [set3]
        exact ((r2.pext x2).setD sj (.str y')).wipe1 si
      · exact q1.elim
    · subst hbf
      exact hWo _ _ _ _ q1 r2
end
end DL
set_option Elab.async false
set_option linter.all false
set_option maxRecDepth 100000
/-! DL43: small things for defs over objects. -/
namespace DL
open PySem PySem.Spec PyProof.Rows L2
theorem u65H {k : Nat} {A : Around} (r : L2H.RoomH k A) : A.units + 65 < cLine := by have := r.un; omega
theorem u64H {k : Nat} {A : Around} (r : L2H.RoomH k A) : A.units + 64 < cLine := by have := r.un; omega
/-- the defaults 0, None -/
def dflB : List Value → Bool
  | [.int 0 _, .none] => true
  | _ => false
theorem dfl_ok {l : List Value} (h : dflB l = true) : Vals [V.int 0, V.non] l := by
  unfold dflB at h
  split at h
  · exact .cons ⟨_, rfl⟩ (.cons rfl .nil)
  · cases h
theorem funD_mk {K : PySem.W.Frag} {x qual : Str} {st : Stmt} {f T : Addr} {oc kV doc pm cdv ct : Value} {od an : Option Addr} {osl : Array (Option Value)} {tc : Value} {td : Option Addr} {its : Array Value} {n : Nat} {ts : Array (Option Value)}
    (l : K.lookup f = some ⟨oc, od, .func (PySem.W.fnOf x qual (defArgs st) (defBody st) (defScope st) (.ref T) kV doc pm an cdv ct), osl⟩) (c : PySem.W.codeIn K cdv qual = true) (k : PySem.W.keepIn K (.ref f) = true)
    (lT : K.lookup T = some ⟨tc, td, .seq its n, ts⟩) (v : dflB its.toList = true) : FunD K x qual (defArgs st) (defBody st) (defScope st) [V.int 0, V.non] [] f (PySem.W.fnOf x qual (defArgs st) (defBody st) (defScope st) (.ref T) kV doc pm an cdv ct) :=
  ⟨⟨oc, od, .ref T, kV, doc, pm, an, cdv, ct, osl, rfl, l, c, .inr ⟨by simp, T, _, its.toList, n, rfl, lT, by simp, dfl_ok v⟩, .inl rfl⟩, k⟩
end DL
set_option Elab.async false
set_option linter.all false
set_option maxRecDepth 100000
set_option maxHeartbeats 4000000
/-! FnBase: _law_draw, _law_pick, _law_same -/
namespace DL
open PySem PySem.Spec PyProof.Rows L2
local macro_rules | `(tactic| walk_at "dl") => `(tactic| simp only [tV, tVr, tFzV, turnD, DL.wipeE, tK, tOpD, tUnD, tBo, tAndD, tOrD, tNotD, tIfE, DL.tAndV, DL.tOrV, DL.tNotV, tTru, truD, okLen, sSet, sSetL, sExpr, sRet, sIf, sNx, tTupD, dNil, dCons, tLstD, tFzD, tApp, tExtd, tPopAt, sSetIx, tIxO, tChainD, tChain3D, tRevT, caStr, opRepT, opAdd, opSub, opMul, opDiv, opMod, opPow, DL.opI, DL.opI0, opB0, opLt, opLe, opGt, opGtD, opLtD, opGe, opEq, opNe, opIs, opIsN, isNone, opIn, opNotIn, opIx, atD_0, atD_1, atD_2, atD_3, putD_0, unNeg, tCa1, tCa2, tCaL1, caLen, caAbs, caMax2, caMin2, caSum, caMax, caMin, caSumT, caMaxT, caMinT, caAll, caTuple, caList, caInt, tIsi, isInt, isBool, isStr, isTuple, isList, notDict, sAsg, gSet, gTupD, gsNil, gsCons, sPar, pNil, pD, pL, setAll, tCallD, aNil, aV, aO, argS, oixs, ndp, putO, tOpL, opCat, opRep, tSlD, slD, tSlL, oNo, oE, tRevD, iLstD, iTupD, iRange1, iRange2, iZipD, iZipM, finO, tTrue, Option.map, eqv_int, eqv_bool, eqv_none, shaped_int, shaped_bool, shaped_none, tLenRange, tSortSet, tLenSet, tLenSetP, tSortSetP, tCountL, tCountT, tIndexL, tIndexT, DL.tOrT, DL.tAndT, DL.tNotT, tSortRev, caSorted, iEnumL, iEnumT, decide_eq_true_eq, and_self, List.cons_append, List.nil_append, List.replicate, List.getElem?_cons_zero, List.getElem?_cons_succ, List.set_cons_zero, List.set_cons_succ, List.length_cons, List.length_nil, true_and, and_true, if_true, if_false, Bool.false_eq_true, List.contains_nil, Bool.not_false, Bool.not_true, Bool.and_self, Bool.and_true, Bool.true_and, decide_true, decide_false, beq_self_eq_true])
def tb_law_draw : TSd :=
  sSeq (sIf (tNotD (tTru (tVr 1))) (sExpr (tApp 1 (tCa1 caMax (tFzD (tOpL opCat (tFzD (tComp (iLstD (tV 0)) (gSet 4) (tTrue) (tCa1 caAbs (tV 4)) [4])) (tFzD (tLstD (dCons (tK (.int 0)) (dNil))))))))) (sNx))
      (sSeq (sExpr (tApp 1 (tK (.int 0))))
      (sSeq (sSet 3 (tCa1 caLen (tVr 1)))
      (sSeq (sSet 4 (tIfE (tTru (tV 0)) (tOpD opIx (tV 0) (tOpD opMod (tV 3) (tCa1 caLen (tV 0)))) (tK (.int 0))))
      (sSeq (sSet 5 (tOpD opMod (tIxO 1 (tK (.int 0))) (tK (.int 65536))))
      (sSeq (sSetIx 1 (tK (.int 0)) (tOpD opDiv (tIxO 1 (tK (.int 0))) (tK (.int 65536))))
      (sSeq (sSet 6 (tOpD opMod (tOpD opAdd (tOpD opAdd (tV 4) (tOpD opMul (tK (.int 40503)) (tV 5))) (tOpD opMul (tK (.int 104729)) (tV 3))) (tK (.int 4294967291))))
      (sSeq (sSet 6 (tOpD opMod (tOpD opMul (tOpD opMod (tOpD opMul (tV 6) (tV 6)) (tK (.int 4294967279))) (tK (.int 48271))) (tK (.int 4294967291))))
      (sSeq (sSet 7 (tOpD opMod (tOpD opMul (tOpD opMod (tOpD opMul (tV 6) (tV 6)) (tK (.int 4294967279))) (tK (.int 69621))) (tK (.int 4294967291))))
      (sRet (tOpD opMod (tOpD opAdd (tOpD opMul (tOpD opDiv (tV 6) (tK (.int 64))) (tK (.int 67108864))) (tOpD opDiv (tV 7) (tK (.int 64)))) (tV 2)))))))))))
def tb_law_pick (sp_law_draw : SpD) : TSd :=
  sRet (tOpD opIx (tV 2) (tCallD sp_law_draw (aV (tV 0) (aO 1 (aV (tCa1 caLen (tV 2)) (aNil))))))
def tb_law_same (sp_law_same : SpD) : TSd :=
  sSeq (sIf (tBo (tOpD opIs (tV 1) (tK .none))) (sRet (tOpD opIs (tV 0) (tK .none))) (sNx))
      (sSeq (sIf (tTru (tIsi isBool (tV 1))) (sRet (tAndV (tIsi isBool (tV 0)) (tOpD opEq (tV 0) (tV 1)))) (sNx))
      (sSeq (sIf (tTru (tIsi isTuple (tV 1))) (sSeq (sIf (tOrD (tNotD (tTru (tIsi isTuple (tV 0)))) (tBo (tOpD opNe (tCa1 caLen (tV 0)) (tCa1 caLen (tV 1))))) (sRet (tK (.bool false))) (sNx))
      (sRet (tCa1 caAll (tFzD (tComp (iZipD (tV 0) (tV 1)) (gTupD 2 (gsCons (gSet 2) (gsCons (gSet 3) (gsNil)))) (tTrue) (tCallD sp_law_same (aV (tV 2) (aV (tV 3) (aNil)))) [2, 3]))))) (sNx))
      (sSeq (sIf (tTru (tIsi isStr (tV 1))) (sRet (tAndV (tIsi isStr (tV 0)) (tOpD opEq (tV 0) (tV 1)))) (sNx))
      (sRet (tAndV (tIsi isInt (tV 0)) (tAndV (tNotV (tIsi isBool (tV 0))) (tOpD opEq (tV 0) (tV 1))))))))
def TownOk (t : List D) (b : Nat) : Prop := t.length ≤ b ∧ (t = [] ∨ ∃ (h : Int) (r : List D), t = .int h :: r)
theorem TownOk.mono {t : List D} {b b' : Nat} (h : TownOk t b) (hb : b ≤ b') : TownOk t b' := ⟨Nat.le_trans h.1 hb, h.2⟩
def spDraw : SpD := fun ss Q => ∃ (ns : List Int) (t : List D) (m : Int) (b : Nat), ss = [.d (.list (ns.map PyData.int)), .ol t, .d (.int m)] ∧ 0 < m ∧ ns.length ≤ 63 ∧ TownOk t b ∧ b ≤ 10000000 ∧
  ∀ r t', 0 ≤ r → r < m → TownOk t' (b + 2) → Q (.int r) [.ol t']
theorem small_line {n : Nat} (h : n ≤ 10000010) : n ≤ sizeLine := by rw [sizeLine_eq]; omega
theorem cmul_small {i j : Int} (h1 : i.natAbs < 2 ^ 64) (h2 : j.natAbs < 2 ^ 64) : CMulW i j := wide_mul (a := 64) (b := 64) h1 h2 (by decide) (by decide) (by decide)
theorem cdiv_small {i j : Int} (h0 : 0 < j) (h1 : j < 2 ^ 64) : CDivW i j := wide_div (b := 64) h0 (by omega) (by decide) (by decide)
theorem rd_law_draw : ∀ ss QD, spDraw ss QD → tb_law_draw { nx := fun E' => finO [1] E' (QD .none), rt := fun d E' => finO [1] E' (QD d) } (ss ++ List.replicate 5 .un) := by
  rintro ss QD ⟨ns, t, m, b, rfl, hm, hn, ht, hb, k⟩
  unfold tb_law_draw
  refine seq_step fun R hR => ?_
  have main : ∀ (h : Int) (r : List D), (h' : (PyData.int h :: r).length ≤ b + 1) → R [.d (.list (ns.map PyData.int)), .ol (.int h :: r), .d (.int m), .un, .un, .un, .un, .un] := by
    intro h r h'
    refine hR _ ?_
    rw [List.length_cons] at h'
    refine seq_step fun R hR => ?_
    walk_at "dl"
    refine ⟨Nat.lt_of_lt_of_le (show r.length + 1 < 10000002 by omega) (small_line (by omega)), hR _ ?_⟩
    refine seq_step fun R hR => ?_
    walk_at "dl"
    refine hR _ ?_
    generalize hk : (((r ++ [PyData.int 0]).length + 1 : Nat) : Int) = kk
    have hkk : 0 ≤ kk ∧ kk ≤ 10000003 := by rw [List.length_append, List.length_cons, List.length_nil] at hk; omega
    refine seq_step fun R hR => ?_
    have c4 : ∀ c : Int, R [.d (.list (ns.map PyData.int)), .ol (.int h :: (r ++ [.int 0])), .d (.int m), .d (.int kk), .d (.int c), .un, .un, .un] := by
      intro c
      refine hR _ ?_
      refine seq_step fun R hR => ?_
      walk_at "dl"
      refine ⟨by decide, hR _ ?_⟩
      have hd0 : 0 ≤ h % 65536 := Int.emod_nonneg _ (by decide)
      have hd1 : h % 65536 < 65536 := Int.emod_lt_of_pos _ (by decide)
      generalize h % 65536 = dg at hd0 hd1 ⊢
      refine seq_step fun R hR => ?_
      walk_at "dl"
      refine ⟨cdiv_small (by decide) (by decide), hR _ ?_⟩
      generalize h / 65536 = h2
      refine seq_step fun R hR => ?_
      walk_at "dl"
      refine ⟨cmul_small (by omega) (by omega), cmul_small (by omega) (by omega), by decide, hR _ ?_⟩
      generalize hn1 : (c + 40503 * dg + 104729 * kk) % 4294967291 = n1
      have h10 : 0 ≤ n1 := by rw [← hn1]; exact Int.emod_nonneg _ (by decide)
      have h11 : n1 < 4294967291 := by rw [← hn1]; exact Int.emod_lt_of_pos _ (by decide)
      refine seq_step fun R hR => ?_
      walk_at "dl"
      have g0 : 0 ≤ n1 * n1 % 4294967279 := Int.emod_nonneg _ (by decide)
      have g1 : n1 * n1 % 4294967279 < 4294967279 := Int.emod_lt_of_pos _ (by decide)
      generalize n1 * n1 % 4294967279 = n2 at g0 g1 ⊢
      refine ⟨cmul_small (by omega) (by omega), by decide, cmul_small (by omega) (by omega), by decide, hR _ ?_⟩
      generalize hn3 : n2 * 48271 % 4294967291 = n3
      have h30 : 0 ≤ n3 := by rw [← hn3]; exact Int.emod_nonneg _ (by decide)
      have h31 : n3 < 4294967291 := by rw [← hn3]; exact Int.emod_lt_of_pos _ (by decide)
      refine seq_step fun R hR => ?_
      walk_at "dl"
      have g0 : 0 ≤ n3 * n3 % 4294967279 := Int.emod_nonneg _ (by decide)
      have g1 : n3 * n3 % 4294967279 < 4294967279 := Int.emod_lt_of_pos _ (by decide)
      generalize n3 * n3 % 4294967279 = n4 at g0 g1 ⊢
      refine ⟨cmul_small (by omega) (by omega), by decide, cmul_small (by omega) (by omega), by decide, hR _ ?_⟩
      generalize n4 * 69621 % 4294967291 = n5
      walk_at "dl"
      refine ⟨cdiv_small (by decide) (by decide), cmul_small (by omega) (by omega), cdiv_small (by decide) (by decide), hm, ?_⟩
      refine k _ _ (Int.emod_nonneg _ (by omega)) (Int.emod_lt_of_pos _ hm) ⟨?_, .inr ⟨_, _, rfl⟩⟩
      rw [List.length_cons, List.length_append, List.length_cons, List.length_nil]; omega
    walk_at "dl"
    refine ifB (fun e => ?_) (fun e => c4 0)
    have hp : 0 < ns.length := by
      cases ns with
      | nil => simp at e
      | cons a l => simp
    rw [List.length_map]
    refine ⟨by omega, ?_⟩
    have i0 : 0 ≤ kk % (ns.length : Int) := Int.emod_nonneg _ (by omega)
    have i1 : kk % (ns.length : Int) < ns.length := Int.emod_lt_of_pos _ (by omega)
    exact atD_at i0 (getElem_map_int (by omega)) (c4 _)
  walk_at "dl"
  refine ifB (fun e => ?_) (fun e => ?_)
  · have e0 : t = [] := by
      cases t with
      | nil => rfl
      | cons a l => simp at e
    subst e0
    refine comp_map (E1 := [.d (.list (ns.map PyData.int)), .ol [], .d (.int m), .un, .un, .un, .un, .un]) ns PyData.int (fun i => .int (if i < 0 then -i else i)) (fun R h => h) (un1 rfl) (small_line (by omega)) (fun i _ R hq => hq _ rfl) ?_
    · refine ⟨small_line (by omega), ?_, (ns.map fun i => if i < 0 then -i else i) ++ [0], ?_, ?_, fun mm _ _ => ?_⟩
      · rw [List.length_map]; exact small_line (by omega)
      · rw [List.map_append, List.map_map]; rfl
      · simp
      · refine ⟨small_line (by decide), ?_⟩
        exact main mm [] (by rw [List.length_cons, List.length_nil]; omega)
  · rcases ht.2 with e0 | ⟨h, r, e0⟩
    · subst e0; simp at e
    · subst e0
      exact main h r (by have := ht.1; omega)
theorem sh_law_draw : ∀ ss QD, spDraw ss QD → ss.length = 3 ∧ mpos 0 ss = [1] := by
  rintro ss QD ⟨ns, t, m, b, rfl, _⟩
  exact ⟨rfl, rfl⟩
/-- some[..]: any item -/
def spPick : SpD := fun ss Q => ∃ (ns : List Int) (t : List D) (sm : D) (xs : List D) (b : Nat), ss = [.d (.list (ns.map PyData.int)), .ol t, .d sm] ∧ (sm = .list xs ∨ sm = .tuple xs) ∧ xs ≠ [] ∧ ns.length ≤ 63 ∧ TownOk t b ∧ b ≤ 10000000 ∧
  ∀ x t', x ∈ xs → TownOk t' (b + 2) → Q x [.ol t']
theorem sh_law_pick : ∀ ss QD, spPick ss QD → ss.length = 3 ∧ mpos 0 ss = [1] := by
  rintro ss QD ⟨ns, t, sm, xs, b, rfl, _⟩
  exact ⟨rfl, rfl⟩
theorem rd_law_pick : ∀ ss QD, spPick ss QD → tb_law_pick spDraw { nx := fun E' => finO [1] E' (QD .none), rt := fun d E' => finO [1] E' (QD d) } (ss ++ List.replicate 0 .un) := by
  rintro ss QD ⟨ns, t, sm, xs, b, rfl, hs, hx, hn, ht, hb, k⟩
  unfold tb_law_pick
  have hp : 0 < xs.length := by
    cases xs with
    | nil => exact absurd rfl hx
    | cons a l => simp
  have mem : ∀ (r : Int) (t' : List D), 0 ≤ r → r < xs.length → TownOk t' (b + 2) → atD xs r fun x => QD x [.ol t'] := fun r t' h0 h1 h2 =>
    atD_at (d := xs[r.toNat]) h0 (List.getElem?_eq_getElem (by omega)) (k _ _ (List.getElem_mem _) h2)
  rcases hs with rfl | rfl
  · walk_at "dl"
    exact ⟨ns, t, _, b, rfl, by omega, hn, ht, hb, mem⟩
  · walk_at "dl"
    exact ⟨ns, t, _, b, rfl, by omega, hn, ht, hb, mem⟩
/-- data without lists, n tuples deep at most -/
def sameOk : Nat → D → Bool
  | _, .none => true
  | _, .bool _ => true
  | _, .int _ => true
  | _, .str x => PyData.strOk x
  | n + 1, .tuple ds => ds.all (sameOk n) && decide (ds.length ≤ 10000000)
  | _, _ => false
def spSame (n : Nat) : SpD := fun ss Q => ∃ d, ss = [.d d, .d d] ∧ sameOk n d = true ∧ Q (.bool true) []
theorem sh_law_same (n : Nat) : ∀ ss QD, spSame n ss QD → ss.length = 2 ∧ mpos 0 ss = [] := by
  rintro ss QD ⟨d, rfl, _⟩
  exact ⟨rfl, rfl⟩
def spNo : SpD := fun _ _ => False
theorem eqv_scal {d : D} (h : (match d with | .tuple _ => False | .list _ => False | .dict _ => False | _ => True)) : PyData.eqv d d = true := by
  cases d <;> first | exact h.elim | simp [PyData.eqv]
theorem zip_self {α : Type} : ∀ l : List α, l.zip l = l.map fun x => (x, x)
  | [] => rfl
  | a :: l => by rw [List.zip_cons_cons, zip_self l]; rfl
theorem rd_law_same (n : Nat) (sp : SpD) (hsp : ∀ m, n = m + 1 → sp = spSame m) : ∀ ss QD, spSame n ss QD → tb_law_same sp { nx := fun E' => finO [] E' (QD .none), rt := fun d E' => finO [] E' (QD d) } (ss ++ List.replicate 2 .un) := by
  rintro ss QD ⟨d, rfl, hd, q⟩
  unfold tb_law_same
  cases d with
  | none => exact q
  | bool b =>
    refine seq_step fun R hR => ?_
    walk_at "dl"
    refine hR _ ?_
    refine seq_step fun R hR => ?_
    walk_at "dl"
    exact q
  | int i =>
    refine seq_step fun R hR => ?_
    walk_at "dl"
    refine hR _ ?_
    refine seq_step fun R hR => ?_
    walk_at "dl"
    refine hR _ ?_
    refine seq_step fun R hR => ?_
    walk_at "dl"
    refine hR _ ?_
    refine seq_step fun R hR => ?_
    walk_at "dl"
    refine hR _ ?_
    walk_at "dl"
    exact q
  | str x =>
    refine seq_step fun R hR => ?_
    walk_at "dl"
    refine hR _ ?_
    refine seq_step fun R hR => ?_
    walk_at "dl"
    refine hR _ ?_
    refine seq_step fun R hR => ?_
    walk_at "dl"
    refine hR _ ?_
    refine seq_step fun R hR => ?_
    have hs : SeqAt.shaped (.str x) = true := by
      have : PyData.strOk x = true := by cases n <;> exact hd
      show (PyData.strOk x && decide ((0 : Nat) ≤ 64)) = true
      rw [this]; rfl
    walk_at "dl"
    refine ⟨hs, ?_⟩
    rw [eqv_scal trivial]; exact q
  | list _ => cases n <;> cases hd
  | dict _ => cases n <;> cases hd
  | tuple ds =>
    cases n with
    | zero => cases hd
    | succ m =>
      have hsp := hsp m rfl
      subst hsp
      have hd : (ds.all (sameOk m) && decide (ds.length ≤ 10000000)) = true := hd
      rw [Bool.and_eq_true] at hd
      have hl : ds.length ≤ 10000000 := of_decide_eq_true hd.2
      have ha := List.all_eq_true.mp hd.1
      refine seq_step fun R hR => ?_
      walk_at "dl"
      refine hR _ ?_
      refine seq_step fun R hR => ?_
      walk_at "dl"
      refine hR _ ?_
      refine seq_step fun R hR => ?_
      refine ⟨trivial, trivial, ifT (b := isTuple (.tuple ds)) rfl ?_⟩
      refine seq_step fun R2 hR2 => ?_
      walk_at "dl"
      refine hR2 _ ?_
      show tComp _ _ _ _ _ _ _
      refine comp_map (E1 := [.d (.tuple ds), .d (.tuple ds), .un, .un]) ds (fun x => PyData.tuple [x, x]) (fun _ => PyData.bool true) (fun R h => ?_) (un2 rfl rfl) (small_line (by omega)) (fun x hx R hq => ?_) ?_
      · show R (zipD ds ds) _
        unfold zipD
        rw [zip_self, List.map_map]
        exact h
      · exact ⟨rfl, rfl, x, rfl, ha x hx, hq _ rfl⟩
      · refine ⟨ds.map fun _ => true, by rw [List.map_map]; rfl, ?_⟩
        have : (ds.map fun _ => true).all id = true := by simp
        rw [this]; exact q
end DL
set_option Elab.async false
set_option linter.all false
set_option maxRecDepth 100000
set_option maxHeartbeats 4000000
namespace DL
open PySem PySem.Spec PyProof.Rows L2
local macro_rules | `(tactic| walk_at "dl") => `(tactic| simp only [tV, tVr, tK, tOpD, tUnD, tBo, tAndD, tOrD, tNotD, tIfE, DL.tAndV, DL.tOrV, DL.tNotV, tTru, truD, okLen, sSet, sSetL, sExpr, sRet, sIf, sNx, tTupD, dNil, dCons, tLstD, tFzD, tApp, tExtd, tPopAt, sSetIx, tIxO, tChainD, opAdd, opSub, opMul, opDiv, opMod, opPow, DL.opI, DL.opI0, opB0, opLt, opLe, opGt, opGe, opEq, opNe, opIs, opIsN, isNone, opIn, opNotIn, opIx, atD_0, atD_1, atD_2, atD_3, putD_0, unNeg, tCa1, tCa2, tCaL1, caLen, caAbs, caMax2, caMin2, caSum, caMax, caMin, caAll, caTuple, caList, caInt, tIsi, isInt, isBool, isStr, isTuple, isList, notDict, sAsg, gSet, gTupD, gsNil, gsCons, sPar, pNil, pD, pL, setAll, tCallD, aNil, aV, aO, argS, oixs, ndp, putO, tOpL, opCat, opRep, tSlD, slD, tSlL, oNo, oE, tRevD, iLstD, iTupD, iRange1, iRange2, iZipD, finO, tTrue, Option.map, eqv_int, eqv_bool, eqv_none, shaped_int, shaped_bool, shaped_none, tLenRange, decide_eq_true_eq, and_self, List.cons_append, List.nil_append, List.replicate, List.getElem?_cons_zero, List.getElem?_cons_succ, List.set_cons_zero, List.set_cons_succ, List.length_cons, List.length_nil, true_and, and_true, if_true, if_false, Bool.false_eq_true, List.contains_nil, Bool.not_false, Bool.not_true, Bool.and_self, Bool.and_true, Bool.true_and, decide_true, decide_false, beq_self_eq_true])
def tb_book_of : TSd :=
  sRet (tOpD opDiv (tOpD opSub (tV 0) (tK (.int 1))) (tK (.int 2)))
def tb_levels_of (sp_book_of : SpD) : TSd :=
  sRet (tOpD opSub (tV 0) (tCallD sp_book_of (aV (tV 0) (aNil))))
def tb_trick_worth : TSd :=
  sRet (tIfE (tBo (tOpD opLt (tV 0) (tK (.int 2)))) (tK (.int 20)) (tK (.int 30)))
def tb_lost_by : TSd :=
  sSeq (sIf (tBo (tOpD opEq (tV 1) (tK (.int 1)))) (sRet (tOpD opMul (tV 0) (tIfE (tTru (tV 2)) (tK (.int 100)) (tK (.int 50))))) (sNx))
      (sSeq (sSet 3 (tK (.int 0)))
      (sSeq (sFor (iRange1 (tV 0)) (gSet 4) (sIf (tBo (tOpD opEq (tV 4) (tK (.int 0)))) (sSet 3 (tOpD opAdd (tV 3) (tIfE (tTru (tV 2)) (tK (.int 200)) (tK (.int 100))))) (sIf (tAndD (tBo (tOpD opLt (tV 4) (tK (.int 3)))) (tNotD (tTru (tV 2)))) (sSet 3 (tOpD opAdd (tV 3) (tK (.int 200)))) (sSet 3 (tOpD opAdd (tV 3) (tK (.int 300)))))))
      (sRet (tOpD opDiv (tOpD opMul (tV 3) (tV 1)) (tK (.int 2))))))
def tb_won_by (sp_trick_worth : SpD) (sp_book_of : SpD) : TSd :=
  sSeq (sAsg (tV 1) (gTupD 4 (gsCons (gSet 4) (gsCons (gSet 5) (gsCons (gSet 6) (gsCons (gSet 7) (gsNil)))))))
      (sSeq (sSet 8 (tOpD opMul (tOpD opAdd (tOpD opMul (tV 4) (tCallD sp_trick_worth (aV (tV 5) (aNil)))) (tIfE (tBo (tOpD opEq (tV 5) (tK (.int 4)))) (tK (.int 10)) (tK (.int 0)))) (tV 6)))
      (sSeq (sSet 9 (tOpD opAdd (tV 8) (tK (.int 50))))
      (sSeq (sIf (tBo (tOpD opGe (tV 8) (tK (.int 100)))) (sSet 9 (tOpD opAdd (tV 8) (tIfE (tTru (tV 2)) (tK (.int 500)) (tK (.int 300))))) (sNx))
      (sSeq (sSet 10 (tOpD opAdd (tCallD sp_book_of (aV (tV 0) (aNil))) (tV 4)))
      (sSeq (sIf (tBo (tOpD opEq (tV 10) (tOpD opSub (tV 0) (tK (.int 1))))) (sSet 9 (tOpD opAdd (tV 9) (tIfE (tTru (tV 2)) (tK (.int 750)) (tK (.int 500))))) (sNx))
      (sSeq (sIf (tBo (tOpD opEq (tV 10) (tV 0))) (sSet 9 (tOpD opAdd (tV 9) (tIfE (tTru (tV 2)) (tK (.int 1500)) (tK (.int 1000))))) (sNx))
      (sSeq (sSet 9 (tOpD opAdd (tV 9) (tOpD opIx (tTupD (dCons (tK (.int 0)) (dCons (tK (.int 50)) (dCons (tK (.int 100)) (dNil))))) (tOpD opDiv (tV 6) (tK (.int 2))))))
      (sSeq (sIf (tBo (tOpD opEq (tV 6) (tK (.int 1)))) (sRet (tOpD opAdd (tV 9) (tOpD opMul (tV 3) (tCallD sp_trick_worth (aV (tV 5) (aNil)))))) (sNx))
      (sRet (tOpD opAdd (tV 9) (tOpD opMul (tOpD opMul (tV 3) (tIfE (tTru (tV 2)) (tK (.int 100)) (tK (.int 50)))) (tV 6))))))))))))
def tb_paid (sp_won_by : SpD) (sp_lost_by : SpD) (sp_book_of : SpD) : TSd :=
  sSeq (sSet 4 (tOpD opSub (tOpD opSub (tV 3) (tCallD sp_book_of (aV (tV 0) (aNil)))) (tOpD opIx (tV 1) (tK (.int 0)))))
      (sSeq (sIf (tBo (tOpD opLt (tV 4) (tK (.int 0)))) (sRet (tUnD unNeg (tCallD sp_lost_by (aV (tUnD unNeg (tV 4)) (aV (tOpD opIx (tV 1) (tK (.int 2))) (aV (tV 2) (aNil))))))) (sNx))
      (sRet (tCallD sp_won_by (aV (tV 0) (aV (tV 1) (aV (tV 2) (aV (tV 4) (aNil))))))))
def bookF (r : Int) : Int := (r - 1) / 2
def worthF (s : Int) : Int := if s < 2 then 20 else 30
def lostStep (risk : Bool) (n : Nat) (t : Int) : Int := if n = 0 then t + (if risk = true then 200 else 100) else if n < 3 ∧ risk = false then t + 200 else t + 300
def lostSum (risk : Bool) : Nat → Int
  | 0 => 0
  | n + 1 => lostStep risk n (lostSum risk n)
def lostF (lack times : Int) (risk : Bool) : Int := if times = 1 then lack * (if risk = true then 100 else 50) else lostSum risk lack.toNat * times / 2
def cntF (l s t : Int) : Int := (l * worthF s + (if s = 4 then 10 else 0)) * t
def wonF (r l s t : Int) (risk : Bool) (more : Int) : Int :=
  (if 100 ≤ cntF l s t then cntF l s t + (if risk = true then 500 else 300) else cntF l s t + 50)
  + (if bookF r + l = r - 1 then (if risk = true then 750 else 500) else 0)
  + (if bookF r + l = r then (if risk = true then 1500 else 1000) else 0)
  + (if t = 1 then 0 else if t = 2 then 50 else 100)
  + (if t = 1 then more * worthF s else more * (if risk = true then 100 else 50) * t)
def paidF (r l s t : Int) (risk : Bool) (tr : Int) : Int := if tr - bookF r - l < 0 then -(lostF (-(tr - bookF r - l)) t risk) else wonF r l s t risk (tr - bookF r - l)
/-- a number in its line -/
structure Con (r l s t tr : Int) : Prop where
  r0 : 1 ≤ r
  r1 : r ≤ 13
  l0 : 0 ≤ l
  l1 : l ≤ 13
  s0 : 0 ≤ s
  s1 : s ≤ 4
  t1 : t = 1 ∨ t = 2 ∨ t = 4
  tr0 : 0 ≤ tr
  tr1 : tr ≤ 13
def spBook : SpD := fun ss Q => ∃ r : Int, ss = [.d (.int r)] ∧ Q (.int (bookF r)) []
theorem sh_book_of : ∀ ss QD, spBook ss QD → ss.length = 1 ∧ mpos 0 ss = [] := by rintro ss QD ⟨r, rfl, _⟩; exact ⟨rfl, rfl⟩
theorem rd_book_of : ∀ ss QD, spBook ss QD → tb_book_of { nx := fun E' => finO [] E' (QD .none), rt := fun d E' => finO [] E' (QD d) } (ss ++ List.replicate 0 .un) := by
  rintro ss QD ⟨r, rfl, q⟩
  exact ⟨cdiv_small (by decide) (by decide), q⟩
def spLevels : SpD := fun ss Q => ∃ r : Int, ss = [.d (.int r)] ∧ Q (.int (r - bookF r)) []
theorem sh_levels_of : ∀ ss QD, spLevels ss QD → ss.length = 1 ∧ mpos 0 ss = [] := by rintro ss QD ⟨r, rfl, _⟩; exact ⟨rfl, rfl⟩
theorem rd_levels_of : ∀ ss QD, spLevels ss QD → tb_levels_of spBook { nx := fun E' => finO [] E' (QD .none), rt := fun d E' => finO [] E' (QD d) } (ss ++ List.replicate 0 .un) := by
  rintro ss QD ⟨r, rfl, q⟩
  exact ⟨rfl, r, rfl, q⟩
def spWorth : SpD := fun ss Q => ∃ s : Int, ss = [.d (.int s)] ∧ Q (.int (worthF s)) []
theorem sh_trick_worth : ∀ ss QD, spWorth ss QD → ss.length = 1 ∧ mpos 0 ss = [] := by rintro ss QD ⟨r, rfl, _⟩; exact ⟨rfl, rfl⟩
theorem rd_trick_worth : ∀ ss QD, spWorth ss QD → tb_trick_worth { nx := fun E' => finO [] E' (QD .none), rt := fun d E' => finO [] E' (QD d) } (ss ++ List.replicate 0 .un) := by
  rintro ss QD ⟨s, rfl, q⟩
  unfold tb_trick_worth
  unfold worthF at q
  walk_at "dl"
  by_cases h : s < 2
  · rw [if_pos h] at q ⊢; exact q
  · rw [if_neg h] at q ⊢; exact q
def spLost : SpD := fun ss Q => ∃ (lack t : Int) (risk : Bool), ss = [.d (.int lack), .d (.int t), .d (.bool risk)] ∧ 0 ≤ lack ∧ lack ≤ 1000 ∧ 0 < t ∧ t ≤ 4 ∧ Q (.int (lostF lack t risk)) []
theorem sh_lost_by : ∀ ss QD, spLost ss QD → ss.length = 3 ∧ mpos 0 ss = [] := by rintro ss QD ⟨l, t, r, rfl, _⟩; exact ⟨rfl, rfl⟩
theorem lostSum_le (risk : Bool) : ∀ n : Nat, 0 ≤ lostSum risk n ∧ lostSum risk n ≤ 300 * n
  | 0 => ⟨Int.le_refl _, by show (0 : Int) ≤ 300 * 0; decide⟩
  | n + 1 => by
    have ih := lostSum_le risk n
    show 0 ≤ lostStep risk n (lostSum risk n) ∧ lostStep risk n (lostSum risk n) ≤ 300 * ((n + 1 : Nat) : Int)
    unfold lostStep
    split
    · split <;> omega
    · split <;> omega
theorem rd_lost_by : ∀ ss QD, spLost ss QD → tb_lost_by { nx := fun E' => finO [] E' (QD .none), rt := fun d E' => finO [] E' (QD d) } (ss ++ List.replicate 2 .un) := by
  rintro ss QD ⟨lack, t, risk, rfl, h0, h1, t0, t1, q⟩
  unfold tb_lost_by
  refine seq_step fun R hR => ?_
  unfold lostF at q
  walk_at "dl"
  by_cases e : t = 1
  · rw [if_pos e]
    rw [if_pos e] at q
    cases risk
    · exact ⟨cmul_small (by omega) (by omega), q⟩
    · exact ⟨cmul_small (by omega) (by omega), q⟩
  · rw [if_neg e]
    rw [if_neg e] at q
    refine hR _ ?_
    refine seq_step fun R hR => ?_
    walk_at "dl"
    refine hR _ ?_
    refine seq_step fun R hR => ?_
    refine for_inv (ds := rangeD 0 lack.toNat) (E1 := [.d (.int lack), .d (.int t), .d (.bool risk), .d (.int 0), .un]) (fun Q h => ⟨⟨by omega, by omega⟩, h⟩)
      (fun i E => ∃ y, E = [.d (.int lack), .d (.int t), .d (.bool risk), .d (.int (lostSum risk i)), y]) ⟨_, rfl⟩ (fun i d E hd hE R hR => ?_) (fun E hE => ?_)
    · obtain ⟨y, rfl⟩ := hE
      have hi : i < lack.toNat := by
        have := (List.getElem?_eq_some_iff.mp hd).1
        rwa [rangeD_length] at this
      rw [rangeD_get hi] at hd
      cases hd
      have hst : lostSum risk (i + 1) = lostStep risk i (lostSum risk i) := rfl
      have fin : ∀ z, z = lostSum risk (i + 1) → R [.d (.int lack), .d (.int t), .d (.bool risk), .d (.int z), .d (.int (0 + (i : Int)))] := fun z e => by subst e; exact hR _ ⟨_, rfl⟩
      unfold lostStep at hst
      walk_at "dl"
      by_cases e0 : i = 0
      · rw [if_pos (by omega)]
        rw [if_pos e0] at hst
        cases risk
        · exact fin _ hst.symm
        · exact fin _ hst.symm
      · rw [if_neg (by omega)]
        rw [if_neg e0] at hst
        by_cases e1 : i < 3
        · rw [if_pos (by omega)]
          cases risk
          · rw [if_pos ⟨e1, rfl⟩] at hst
            exact fin _ hst.symm
          · rw [if_neg (by simp)] at hst
            exact fin _ hst.symm
        · rw [if_neg (by omega)]
          rw [if_neg (fun z => e1 z.1)] at hst
          exact fin _ hst.symm
    · obtain ⟨y, rfl⟩ := hE
      rw [rangeD_length]
      refine hR _ ?_
      have := lostSum_le risk lack.toNat
      exact ⟨cmul_small (by omega) (by omega), cdiv_small (by decide) (by decide), q⟩
def spWon : SpD := fun ss Q => ∃ (r l s t pl : Int) (risk : Bool) (more : Int), ss = [.d (.int r), .d (.tuple [.int l, .int s, .int t, .int pl]), .d (.bool risk), .d (.int more)] ∧ Con r l s t 0 ∧ 0 ≤ more ∧ more ≤ 100 ∧ Q (.int (wonF r l s t risk more)) []
theorem sh_won_by : ∀ ss QD, spWon ss QD → ss.length = 4 ∧ mpos 0 ss = [] := by rintro ss QD ⟨r, l, s, t, pl, k, m, rfl, _⟩; exact ⟨rfl, rfl⟩
theorem worth_two (s : Int) : worthF s = 20 ∨ worthF s = 30 := by unfold worthF; split <;> simp
theorem rd_won_by : ∀ ss QD, spWon ss QD → tb_won_by spWorth spBook { nx := fun E' => finO [] E' (QD .none), rt := fun d E' => finO [] E' (QD d) } (ss ++ List.replicate 7 .un) := by
  rintro ss QD ⟨r, l, s, t, pl, risk, more, rfl, hc, m0, m1, q⟩
  have hw := worth_two s
  have ⟨r0, r1, l0, l1, s0, s1, t1, _, _⟩ := hc
  unfold tb_won_by
  unfold wonF at q
  refine seq_step fun R hR => ?_
  refine ⟨rfl, hR _ ?_⟩
  refine seq_step fun R hR => ?_
  have hcnt : cntF l s t = (l * worthF s + (if s = 4 then 10 else 0)) * t := rfl
  generalize hcv : cntF l s t = cn at hcnt q
  have hcb : 0 ≤ cn ∧ cn ≤ 2000 := by
    rw [hcnt]
    rcases hw with e | e <;> rw [e] <;> rcases t1 with e | e | e <;> rw [e] <;> split <;> omega
  have step8 : R [.d (.int r), .d (.tuple [.int l, .int s, .int t, .int pl]), .d (.bool risk), .d (.int more), .d (.int l), .d (.int s), .d (.int t), .d (.int pl), .d (.int cn), .un, .un] := by
    refine hR _ ?_
    refine seq_step fun R hR => hR _ ?_
    refine seq_step fun R hR => ?_
    have step9 : ∀ v9 : Int, v9 = (if 100 ≤ cn then cn + (if risk = true then 500 else 300) else cn + 50) → R [.d (.int r), .d (.tuple [.int l, .int s, .int t, .int pl]), .d (.bool risk), .d (.int more), .d (.int l), .d (.int s), .d (.int t), .d (.int pl), .d (.int cn), .d (.int v9), .un] := by
      intro v9 e9
      rw [← e9] at q
      refine hR _ ?_
      refine seq_step fun R hR => ?_
      refine ⟨rfl, r, rfl, hR _ ?_⟩
      refine seq_step fun R hR => ?_
      have stepA : ∀ va : Int, va = v9 + (if bookF r + l = r - 1 then (if risk = true then 750 else 500) else 0) → R [.d (.int r), .d (.tuple [.int l, .int s, .int t, .int pl]), .d (.bool risk), .d (.int more), .d (.int l), .d (.int s), .d (.int t), .d (.int pl), .d (.int cn), .d (.int va), .d (.int (bookF r + l))] := by
        intro va ea
        rw [← ea] at q
        refine hR _ ?_
        refine seq_step fun R hR => ?_
        have stepB : ∀ vb : Int, vb = va + (if bookF r + l = r then (if risk = true then 1500 else 1000) else 0) → R [.d (.int r), .d (.tuple [.int l, .int s, .int t, .int pl]), .d (.bool risk), .d (.int more), .d (.int l), .d (.int s), .d (.int t), .d (.int pl), .d (.int cn), .d (.int vb), .d (.int (bookF r + l))] := by
          intro vb eb
          rw [← eb] at q
          refine hR _ ?_
          refine seq_step fun R hR => ?_
          walk_at "dl"
          refine ⟨small_line (by decide), cdiv_small (by decide) (by decide), ?_⟩
          rcases t1 with e | e | e
          · subst e
            refine atD_at (d := .int 0) (by decide) rfl ?_
            refine hR _ ?_
            refine ⟨⟨rfl, rfl⟩, ifT (b := PyData.eqv (.int 1) (.int 1)) rfl ?_⟩
            refine ⟨rfl, s, rfl, ?_⟩
            refine ⟨cmul_small (by omega) (by rcases hw with e | e <;> rw [e] <;> decide), ?_⟩
            exact q
          · subst e
            refine atD_at (d := .int 50) (by decide) rfl ?_
            refine hR _ ?_
            refine ⟨⟨rfl, rfl⟩, ifF (b := PyData.eqv (.int 2) (.int 1)) rfl ?_⟩
            walk_at "dl"
            cases risk
            · exact ⟨cmul_small (by omega) (by decide), cmul_small (by omega) (by decide), q⟩
            · exact ⟨cmul_small (by omega) (by decide), cmul_small (by omega) (by decide), q⟩
          · subst e
            refine atD_at (d := .int 100) (by decide) rfl ?_
            refine hR _ ?_
            refine ⟨⟨rfl, rfl⟩, ifF (b := PyData.eqv (.int 4) (.int 1)) rfl ?_⟩
            walk_at "dl"
            cases risk
            · exact ⟨cmul_small (by omega) (by decide), cmul_small (by omega) (by decide), q⟩
            · exact ⟨cmul_small (by omega) (by decide), cmul_small (by omega) (by decide), q⟩
        walk_at "dl"
        by_cases e : bookF r + l = r
        · rw [if_pos e]
          cases risk
          · exact stepB _ (by rw [if_pos e]; rfl)
          · exact stepB _ (by rw [if_pos e]; rfl)
        · rw [if_neg e]
          exact stepB _ (by rw [if_neg e]; omega)
      walk_at "dl"
      by_cases e : bookF r + l = r - 1
      · rw [if_pos e]
        cases risk
        · exact stepA _ (by rw [if_pos e]; rfl)
        · exact stepA _ (by rw [if_pos e]; rfl)
      · rw [if_neg e]
        exact stepA _ (by rw [if_neg e]; omega)
    walk_at "dl"
    by_cases e : 100 ≤ cn
    · rw [if_pos e]
      cases risk
      · exact step9 _ (by rw [if_pos e]; rfl)
      · exact step9 _ (by rw [if_pos e]; rfl)
    · rw [if_neg e]
      exact step9 _ (by rw [if_neg e])
  walk_at "dl"
  refine ⟨s, rfl, ?_⟩
  dsimp only
  have hm : CMulW l (worthF s) := cmul_small (by omega) (by rcases hw with e | e <;> rw [e] <;> decide)
  have hb : ∀ z : Int, z = 10 ∨ z = 0 → CMulW (l * worthF s + z) t := fun z hz => cmul_small (by rcases hw with e | e <;> rw [e] <;> omega) (by omega)
  by_cases e : s = 4
  · rw [if_pos e] at hcnt ⊢
    rw [hcnt] at step8
    exact ⟨hm, hb 10 (.inl rfl), step8⟩
  · rw [if_neg e] at hcnt ⊢
    rw [hcnt] at step8
    exact ⟨hm, hb 0 (.inr rfl), step8⟩
def spPaid : SpD := fun ss Q => ∃ (r l s t pl : Int) (risk : Bool) (tr : Int), ss = [.d (.int r), .d (.tuple [.int l, .int s, .int t, .int pl]), .d (.bool risk), .d (.int tr)] ∧ Con r l s t tr ∧ Q (.int (paidF r l s t risk tr)) []
theorem sh_paid : ∀ ss QD, spPaid ss QD → ss.length = 4 ∧ mpos 0 ss = [] := by rintro ss QD ⟨r, l, s, t, pl, k, m, rfl, _⟩; exact ⟨rfl, rfl⟩
theorem book_le {r : Int} (h0 : 1 ≤ r) (h1 : r ≤ 13) : 0 ≤ bookF r ∧ bookF r ≤ 6 := by unfold bookF; omega
theorem rd_paid : ∀ ss QD, spPaid ss QD → tb_paid spWon spLost spBook { nx := fun E' => finO [] E' (QD .none), rt := fun d E' => finO [] E' (QD d) } (ss ++ List.replicate 1 .un) := by
  rintro ss QD ⟨r, l, s, t, pl, risk, tr, rfl, hc, q⟩
  have ⟨r0, r1, l0, l1, s0, s1, t1, tr0, tr1⟩ := hc
  have hb := book_le r0 r1
  unfold tb_paid
  unfold paidF at q
  refine seq_step fun R hR => ?_
  walk_at "dl"
  refine ⟨r, rfl, hR _ ?_⟩
  generalize hm : tr - bookF r - l = m at q ⊢
  refine seq_step fun R hR => ?_
  walk_at "dl"
  by_cases e : m < 0
  · rw [if_pos e] at q ⊢
    exact ⟨_, _, _, rfl, by omega, by omega, by omega, by omega, q⟩
  · rw [if_neg e] at q ⊢
    refine hR _ ?_
    exact ⟨rfl, r, l, s, t, pl, risk, m, rfl, ⟨r0, r1, l0, l1, s0, s1, t1, by decide, by decide⟩, by omega, by omega, q⟩
end DL
set_option Elab.async false
set_option linter.all false
set_option maxRecDepth 100000
set_option maxHeartbeats 4000000
namespace DL
open PySem PySem.Spec PyProof.Rows L2
local macro_rules | `(tactic| walk_at "dl") => `(tactic| simp only [tV, tVr, tK, tOpD, tUnD, tBo, tAndD, tOrD, tNotD, tIfE, DL.tAndV, DL.tOrV, DL.tNotV, tTru, truD, okLen, sSet, sSetL, sExpr, sRet, sIf, sNx, tTupD, dNil, dCons, tLstD, tFzD, tApp, tExtd, tPopAt, sSetIx, tIxO, tChainD, opAdd, opSub, opMul, opDiv, opMod, opPow, DL.opI, DL.opI0, opB0, opLt, opLe, opGt, opGe, opEq, opNe, opIs, opIsN, isNone, opIn, opNotIn, opIx, atD_0, atD_1, atD_2, atD_3, putD_0, unNeg, tCa1, tCa2, tCaL1, caLen, caAbs, caMax2, caMin2, caSum, caMax, caMin, caAll, caTuple, caList, caInt, tIsi, isInt, isBool, isStr, isTuple, isList, notDict, sAsg, gSet, gTupD, gsNil, gsCons, sPar, pNil, pD, pL, setAll, tCallD, aNil, aV, aO, argS, oixs, ndp, putO, tOpL, opCat, opRep, tSlD, slD, tSlL, oNo, oE, tRevD, iLstD, iTupD, iRange1, iRange2, iZipD, finO, tTrue, Option.map, eqv_int, eqv_bool, eqv_none, shaped_int, shaped_bool, shaped_none, tLenRange, decide_eq_true_eq, and_self, List.cons_append, List.nil_append, List.replicate, List.getElem?_cons_zero, List.getElem?_cons_succ, List.set_cons_zero, List.set_cons_succ, List.length_cons, List.length_nil, true_and, and_true, if_true, if_false, Bool.false_eq_true, List.contains_nil, Bool.not_false, Bool.not_true, Bool.and_self, Bool.and_true, Bool.true_and, decide_true, decide_false, beq_self_eq_true])
end DL
set_option Elab.async false
set_option linter.all false
set_option maxRecDepth 100000
set_option maxHeartbeats 1000000
/-! FnCallsT: rows of calls, plain Lean. -/
namespace DL
open PySem PySem.Spec PyProof.Rows L2
theorem snoc_ind {α : Type} {P : List α → Prop} (h0 : P []) (hs : ∀ l a, P l → P (l ++ [a])) : ∀ l, P l := by
  have : ∀ l : List α, P l.reverse := by
    intro l
    induction l with
    | nil => exact h0
    | cons a l ih => rw [List.reverse_cons]; exact hs _ _ ih
  intro l
  have := this l.reverse
  rwa [List.reverse_reverse] at this
inductive Call where
  | pass
  | dbl
  | rdb
  | bid (l s : Int)
deriving DecidableEq
namespace Call
def enc : Call → D
  | .pass => .str "pass"
  | .dbl => .str "double"
  | .rdb => .str "redouble"
  | .bid l s => .tuple [.int l, .int s]
def isBid : Call → Bool
  | .bid _ _ => true
  | _ => false
def said : Call → Bool
  | .pass => false
  | _ => true
end Call
open Call
theorem ok_pass : PyData.strOk "pass" = true := by decide +kernel
theorem ok_dbl : PyData.strOk "double" = true := by decide +kernel
theorem ok_rdb : PyData.strOk "redouble" = true := by decide +kernel
theorem enc_eqv (c d : Call) : PyData.eqv c.enc d.enc = decide (c = d) := by
  cases c <;> cases d <;> first | rfl | (simp [enc, PyData.eqv, PyData.eqvAll]; done) | (simp [enc, PyData.eqv]; decide) | skip
  rename_i l s l' s'
  show PyData.eqv (.tuple [.int l, .int s]) (.tuple [.int l', .int s']) = _
  rw [eqv_tup, PyData.eqvAll, PyData.eqvAll, PyData.eqvAll, eqv_int, eqv_int, Bool.and_true]
  by_cases h1 : l = l' <;> by_cases h2 : s = s' <;> simp [h1, h2]
theorem sh_enc (n : Nat) (c : Call) : shOk (n + 1) c.enc = true := by
  cases c with
  | pass => exact ok_pass
  | dbl => exact ok_dbl
  | rdb => exact ok_rdb
  | bid l s => cases n <;> rfl
theorem same_enc (n : Nat) (c : Call) : sameOk (n + 1) c.enc = true := by
  cases c with
  | pass => exact ok_pass
  | dbl => exact ok_dbl
  | rdb => exact ok_rdb
  | bid l s => cases n <;> rfl
/-! ### places -/
def ixOf (p : Call → Bool) (cs : List Call) : List Nat := (cs.zipIdx.filter fun q => p q.1).map (·.2)
theorem ixOf_snoc (p : Call → Bool) (cs : List Call) (c : Call) : ixOf p (cs ++ [c]) = ixOf p cs ++ if p c = true then [cs.length] else [] := by
  unfold ixOf
  rw [List.zipIdx_append, List.filter_append, List.map_append]
  simp
  split <;> simp_all
def lastIx (p : Call → Bool) (cs : List Call) : Option Nat := (ixOf p cs).getLast?
def lastC (p : Call → Bool) (cs : List Call) : Option Call := (cs.filter p).getLast?
theorem lastIx_snoc (p : Call → Bool) (cs : List Call) (c : Call) : lastIx p (cs ++ [c]) = if p c = true then some cs.length else lastIx p cs := by
  unfold lastIx
  rw [ixOf_snoc]
  split <;> simp
theorem lastC_snoc (p : Call → Bool) (cs : List Call) (c : Call) : lastC p (cs ++ [c]) = if p c = true then some c else lastC p cs := by
  unfold lastC
  rw [List.filter_append]
  cases h : p c <;> simp [h]
theorem last_spec (p : Call → Bool) (cs : List Call) : (lastIx p cs = none ∧ lastC p cs = none ∧ ixOf p cs = []) ∨ ∃ j c, lastIx p cs = some j ∧ lastC p cs = some c ∧ cs[j]? = some c ∧ p c = true := by
  induction cs using snoc_ind with
  | h0 => exact .inl ⟨rfl, rfl, rfl⟩
  | hs cs c ih =>
    rw [lastIx_snoc, lastC_snoc, ixOf_snoc]
    by_cases h : p c = true
    · rw [if_pos h, if_pos h]
      exact .inr ⟨_, _, rfl, rfl, by simp, h⟩
    · rw [if_neg h, if_neg h, if_neg h, List.append_nil]
      rcases ih with ih | ⟨j, d, e1, e2, e3, e4⟩
      · exact .inl ih
      · refine .inr ⟨j, d, e1, e2, ?_, e4⟩
        have := (List.getElem?_eq_some_iff.mp e3).1
        rw [List.getElem?_append_left this]; exact e3
theorem ixOf_mem {p : Call → Bool} {cs : List Call} {j : Nat} : j ∈ ixOf p cs ↔ ∃ c, cs[j]? = some c ∧ p c = true := by
  unfold ixOf
  constructor
  · intro h
    obtain ⟨⟨c, k⟩, h1, h2⟩ := List.mem_map.mp h
    have h3 := List.mem_filter.mp h1
    have h4 := List.mem_zipIdx_iff_getElem?.mp h3.1
    simp only at h2 h4
    subst h2
    exact ⟨c, h4, h3.2⟩
  · rintro ⟨c, h1, h2⟩
    exact List.mem_map.mpr ⟨(c, j), List.mem_filter.mpr ⟨List.mem_zipIdx_iff_getElem?.mpr h1, h2⟩, rfl⟩
/-- passes at the end -/
def quiet (cs : List Call) : Int := (cs.length : Int) - 1 - (match lastIx said cs with | some j => (j : Int) | none => -1)
theorem quiet_nil : quiet [] = 0 := rfl
theorem quiet_snoc (cs : List Call) (c : Call) : quiet (cs ++ [c]) = if c = .pass then quiet cs + 1 else 0 := by
  unfold quiet
  rw [lastIx_snoc, List.length_append, List.length_cons, List.length_nil]
  cases c with
  | pass => simp only [said, if_true, Bool.false_eq_true, if_false]; omega
  | _ => simp [said]
theorem quiet_nn (cs : List Call) : 0 ≤ quiet cs := by
  induction cs using snoc_ind with
  | h0 => rw [quiet_nil]; omega
  | hs cs c ih => rw [quiet_snoc]; split <;> omega
theorem quiet_le (cs : List Call) : quiet cs ≤ cs.length := by
  induction cs using snoc_ind with
  | h0 => rw [quiet_nil]; simp
  | hs cs c ih => rw [quiet_snoc, List.length_append]; simp; split <;> omega
theorem said_nil {cs : List Call} : ixOf said cs = [] ↔ quiet cs = cs.length := by
  unfold quiet
  rcases last_spec said cs with ⟨e1, e2, e3⟩ | ⟨j, c, e1, e2, e3, e4⟩
  · rw [e1, e3]; simp
  · rw [e1]
    constructor
    · intro h
      have : j ∈ ixOf said cs := ixOf_mem.mpr ⟨c, e3, e4⟩
      rw [h] at this; cases this
    · intro h
      have h : (cs.length : Int) - 1 - (j : Int) = cs.length := h
      omega
def isOver (cs : List Call) : Bool := decide (4 ≤ cs.length) && decide (cs.drop (cs.length - 3) = [.pass, .pass, .pass])
theorem tail3 (cs : List Call) : 3 ≤ cs.length → (cs.drop (cs.length - 3) = [Call.pass, .pass, .pass] ↔ 3 ≤ quiet cs) := by
  intro h
  obtain ⟨a, x, y, z, rfl⟩ : ∃ a x y z, cs = a ++ [x] ++ [y] ++ [z] := by
    refine ⟨cs.take (cs.length - 3), cs[cs.length - 3], cs[cs.length - 2], cs[cs.length - 1], ?_⟩
    have e : cs.drop (cs.length - 3) = [cs[cs.length - 3], cs[cs.length - 2], cs[cs.length - 1]] := by
      rw [List.drop_eq_getElem_cons (by omega), List.drop_eq_getElem_cons (by omega), List.drop_eq_getElem_cons (by omega), List.drop_eq_nil_of_le (by omega)]
      congr 1
      · congr 1
        · congr 1; omega
        · congr 1
          congr 1; omega
    rw [List.append_assoc, List.append_assoc]
    show cs = _ ++ [cs[cs.length - 3], cs[cs.length - 2], cs[cs.length - 1]]
    rw [← e, List.take_append_drop]
  rw [quiet_snoc, quiet_snoc, quiet_snoc]
  have e : (a ++ [x] ++ [y] ++ [z]).drop ((a ++ [x] ++ [y] ++ [z]).length - 3) = [x, y, z] := by
    rw [show (a ++ [x] ++ [y] ++ [z]).length - 3 = a.length by simp, List.append_assoc, List.append_assoc, List.drop_left]; rfl
  rw [e]
  have := quiet_nn a
  by_cases h1 : z = .pass <;> by_cases h2 : y = .pass <;> by_cases h3 : x = .pass <;> simp [h1, h2, h3] <;> omega
theorem over_iff (cs : List Call) : isOver cs = true ↔ 4 ≤ cs.length ∧ 3 ≤ quiet cs := by
  unfold isOver
  rw [Bool.and_eq_true, decide_eq_true_eq, decide_eq_true_eq]
  constructor
  · rintro ⟨a, b⟩; exact ⟨a, (tail3 cs (by omega)).mp b⟩
  · rintro ⟨a, b⟩; exact ⟨a, (tail3 cs (by omega)).mpr b⟩
/-! ### bids -/
def allB (L : Nat) : List (Int × Int) := (List.range L).flatMap fun l : Nat => (List.range 5).map fun s : Nat => ((l : Int) + 1, (s : Int))
def gtB (x y : Int × Int) : Bool := decide (y.1 < x.1 ∨ (y.1 = x.1 ∧ y.2 < x.2))
def bidOf : Call → Int × Int
  | .bid l s => (l, s)
  | _ => (0, 4)
def lastB (cs : List Call) : Int × Int := match lastC isBid cs with
  | some c => bidOf c
  | none => (0, 4)
def encB (b : Int × Int) : Call := .bid b.1 b.2
/-- what may be said, by the law -/
def mayL (L : Nat) (cs : List Call) : List Call :=
  if quiet cs = 4 ∨ (ixOf said cs ≠ [] ∧ quiet cs = 3) then []
  else [.pass] ++ (if ixOf said cs ≠ [] ∧ quiet cs ≠ 1 ∧ lastC said cs ≠ some .rdb then [if lastC said cs = some .dbl then Call.rdb else .dbl] else [])
    ++ ((allB L).filter fun b => gtB b (lastB cs)).map encB
def dblP (n : Nat) : Option Nat → Option Call → List Call
  | some j, some c => if ((n : Int) - j) % 2 = 1 then (if c.isBid = true then [.dbl] else if c = .dbl then [.rdb] else []) else []
  | _, _ => []
theorem dblP_len (n : Nat) (o : Option Nat) (c : Option Call) : (dblP n o c).length ≤ 1 := by
  unfold dblP
  split
  · split
    · split
      · simp
      · split <;> simp
    · simp
  · simp
/-- what may be said, by the program -/
def mayP (L : Nat) (cs : List Call) : List Call :=
  if isOver cs = true then []
  else [.pass] ++ dblP cs.length (lastIx said cs) (lastC said cs)
    ++ ((allB L).filter fun b => gtB b (lastB cs)).map encB
/-! ### rows that came about by what may be said -/
inductive Reach (L : Nat) : List Call → Prop
  | nil : Reach L []
  | snoc {cs : List Call} {c : Call} : Reach L cs → c ∈ mayL L cs → Reach L (cs ++ [c])
/-- where a row stands: no bid, a bid, doubled, redoubled; 4: none of these -/
def stepS (s : Nat) (c : Call) : Nat := match c with
  | .pass => s
  | .bid _ _ => if s = 4 then 4 else 1
  | .dbl => if s = 1 then 2 else 4
  | .rdb => if s = 2 then 3 else 4
def stand (cs : List Call) : Nat := cs.foldl stepS 0
theorem stand_snoc (cs : List Call) (c : Call) : stand (cs ++ [c]) = stepS (stand cs) c := by unfold stand; rw [List.foldl_append]; rfl
theorem stand_last (cs : List Call) : stand cs ≠ 4 → (stand cs = 0 ∧ lastC said cs = none ∧ lastC isBid cs = none) ∨ (stand cs = 1 ∧ ∃ l s, lastC said cs = some (.bid l s) ∧ lastC isBid cs = some (.bid l s)) ∨ (stand cs = 2 ∧ lastC said cs = some .dbl ∧ lastC isBid cs ≠ none) ∨ (stand cs = 3 ∧ lastC said cs = some .rdb ∧ lastC isBid cs ≠ none) := by
  induction cs using snoc_ind with
  | h0 => intro _; exact .inl ⟨rfl, rfl, rfl⟩
  | hs cs c ih =>
    rw [stand_snoc, lastC_snoc, lastC_snoc]
    cases c with
    | pass => intro h; simpa [stepS, said, isBid] using ih h
    | bid l s =>
      intro h
      have h4 : stand cs ≠ 4 := fun e => h (by simp [stepS, e])
      refine .inr (.inl ⟨by simp [stepS, h4], l, s, by simp [said], by simp [isBid]⟩)
    | dbl =>
      intro h
      have h1 : stand cs = 1 := by
        by_cases e : stand cs = 1
        · exact e
        · exact absurd (by simp [stepS, e]) h
      rcases ih (by omega) with ⟨a, _⟩ | ⟨a, l, s, b, c⟩ | ⟨a, _⟩ | ⟨a, _⟩
      · omega
      · exact .inr (.inr (.inl ⟨by simp [stepS, h1], by simp [said], by simp [isBid, c]⟩))
      · omega
      · omega
    | rdb =>
      intro h
      have h1 : stand cs = 2 := by
        by_cases e : stand cs = 2
        · exact e
        · exact absurd (by simp [stepS, e]) h
      rcases ih (by omega) with ⟨a, _⟩ | ⟨a, l, s, b, c⟩ | ⟨a, b, c⟩ | ⟨a, _⟩
      · omega
      · omega
      · exact .inr (.inr (.inr ⟨by simp [stepS, h1], by simp [said], by simpa [isBid] using c⟩))
      · omega
theorem mem_mayL {L : Nat} {cs : List Call} {c : Call} (h : c ∈ mayL L cs) : ¬ (quiet cs = 4 ∨ (ixOf said cs ≠ [] ∧ quiet cs = 3)) ∧ (c = .pass ∨ (c = .dbl ∧ lastC said cs ≠ some .rdb ∧ lastC said cs ≠ some .dbl ∧ ixOf said cs ≠ []) ∨ (c = .rdb ∧ lastC said cs = some .dbl) ∨ ∃ l s, c = .bid l s) := by
  unfold mayL at h
  split at h
  · cases h
  · rename_i h0
    refine ⟨h0, ?_⟩
    rcases List.mem_append.mp h with h | h
    · rcases List.mem_append.mp h with h | h
      · exact .inl (by simpa using h)
      · split at h
        · rename_i h1
          by_cases e : lastC said cs = some .dbl
          · rw [if_pos e] at h
            exact .inr (.inr (.inl ⟨by simpa using h, e⟩))
          · rw [if_neg e] at h
            exact .inr (.inl ⟨by simpa using h, h1.2.2, e, h1.1⟩)
        · cases h
    · obtain ⟨b, _, rfl⟩ := List.mem_map.mp h
      exact .inr (.inr (.inr ⟨_, _, rfl⟩))
theorem said_last {cs : List Call} : ixOf said cs = [] ↔ lastC said cs = none := by
  rcases last_spec said cs with ⟨e1, e2, e3⟩ | ⟨j, c, e1, e2, e3, e4⟩
  · simp [e2, e3]
  · constructor
    · intro h
      have : j ∈ ixOf said cs := ixOf_mem.mpr ⟨c, e3, e4⟩
      rw [h] at this; cases this
    · intro h; rw [h] at e2; cases e2
structure Good (cs : List Call) : Prop where
  st : stand cs ≠ 4
  q : (ixOf said cs = [] → cs.length ≤ 4) ∧ (ixOf said cs ≠ [] → quiet cs ≤ 3)
theorem Reach.good {L : Nat} {cs : List Call} (h : Reach L cs) : Good cs := by
  induction h with
  | nil => exact ⟨by decide, fun _ => by decide, fun e => absurd rfl e⟩
  | snoc h hc ih =>
    rename_i cs c
    obtain ⟨h0, hc⟩ := mem_mayL hc
    have sl := stand_last cs ih.st
    constructor
    · rw [stand_snoc]
      rcases hc with rfl | ⟨rfl, h1, h2, h3⟩ | ⟨rfl, h1⟩ | ⟨l, s, rfl⟩
      · exact ih.st
      · rcases sl with ⟨a, b, _⟩ | ⟨a, _⟩ | ⟨a, b, _⟩ | ⟨a, b, _⟩
        · exact absurd (said_last.mpr b) h3
        · simp [stepS, a]
        · exact absurd b h2
        · exact absurd b h1
      · rcases sl with ⟨a, b, _⟩ | ⟨a, l, s, b, _⟩ | ⟨a, b, _⟩ | ⟨a, b, _⟩
        · rw [b] at h1; cases h1
        · rw [b] at h1; cases h1
        · simp [stepS, a]
        · rw [b] at h1; cases h1
      · have := ih.st; simp [stepS, this]
    · rw [ixOf_snoc, quiet_snoc, List.length_append, List.length_cons, List.length_nil]
      have qn := quiet_nn cs
      rcases hc with rfl | ⟨rfl, h1⟩ | ⟨rfl, h1⟩ | ⟨l, s, rfl⟩
      · simp only [said, Bool.false_eq_true, if_false, List.append_nil, if_true]
        refine ⟨fun e => ?_, fun e => ?_⟩
        · have h1 := said_nil.mp e
          have h2 := ih.q.1 e
          have h3 : quiet cs ≠ 4 := fun z => h0 (.inl z)
          omega
        · have h1 := ih.q.2 e
          have h3 : quiet cs ≠ 3 := fun z => h0 (.inr ⟨e, z⟩)
          omega
      · simp [said]
      · simp [said]
      · simp [said]
theorem Good.over {cs : List Call} (h : Good cs) : isOver cs = true ↔ (quiet cs = 4 ∨ (ixOf said cs ≠ [] ∧ quiet cs = 3)) := by
  rw [over_iff]
  have qn := quiet_le cs
  by_cases e : ixOf said cs = []
  · have h1 := said_nil.mp e
    have h2 := h.q.1 e
    constructor
    · intro z; exact .inl (by omega)
    · rintro (z | z)
      · exact ⟨by omega, by omega⟩
      · exact absurd e z.1
  · have h1 := h.q.2 e
    have h2 : quiet cs ≠ cs.length := fun z => e (said_nil.mpr z)
    constructor
    · intro z; exact .inr ⟨e, by omega⟩
    · rintro (z | ⟨_, z⟩)
      · exact ⟨by omega, by omega⟩
      · exact ⟨by omega, by omega⟩
theorem may_eq {L : Nat} {cs : List Call} (h : Good cs) : mayP L cs = mayL L cs := by
  unfold mayP mayL
  by_cases ho : isOver cs = true
  · rw [if_pos ho, if_pos (h.over.mp ho)]
  · have ho2 : ¬ (quiet cs = 4 ∨ (ixOf said cs ≠ [] ∧ quiet cs = 3)) := fun z => ho (h.over.mpr z)
    rw [if_neg ho, if_neg ho2]
    congr 2
    have qn := quiet_nn cs
    rcases last_spec said cs with ⟨e1, e2, e3⟩ | ⟨j, c, e1, e2, e3, e4⟩
    · rw [e1, e2, e3]; simp [dblP]
    · have hne : ixOf said cs ≠ [] := fun z => by have := said_last.mp z; rw [e2] at this; cases this
      have hq : quiet cs = (cs.length : Int) - 1 - j := by unfold quiet; rw [e1]
      have h3 := h.q.2 hne
      have h4 : quiet cs ≠ 3 := fun z => ho2 (.inr ⟨hne, z⟩)
      rw [e1, e2]
      unfold dblP
      have par : ((cs.length : Int) - j) % 2 = 1 ↔ quiet cs ≠ 1 := by omega
      by_cases hp : quiet cs ≠ 1
      · simp only [par.mpr hp, if_true, hne, ne_eq, not_false_eq_true, hp, true_and]
        cases c with
        | pass => cases e4
        | bid l s => simp [isBid]
        | dbl => simp [isBid]
        | rdb => simp [isBid]
      · have hp2 : ¬ ((cs.length : Int) - j) % 2 = 1 := fun z => hp (par.mp z)
        simp only [hp2, if_false]
        rw [if_neg (fun z => hp z.2.1)]
/-! ### contracts -/
def strAt (cs : List Call) (k : Nat) : Int := (bidOf (cs.getD k .pass)).2
def qual (cs : List Call) (s : Int) (b k : Nat) : Bool := (cs.getD k .pass).isBid && (decide (strAt cs k = s) && decide (k % 2 = b % 2))
def firstIx (cs : List Call) (s : Int) (b : Nat) : Nat := ((List.range cs.length).find? (qual cs s b)).getD 0
theorem first_of {cs : List Call} {s : Int} {b i : Nat} (hi : i < cs.length) (hq : qual cs s b i = true) (hno : ∀ k, k < i → qual cs s b k = false) : firstIx cs s b = i := by
  unfold firstIx
  rw [List.find?_range_eq_some.mpr ⟨hq, List.mem_range.mpr hi, fun j hj => by rw [hno j hj]; rfl⟩]; rfl
theorem qual_last {cs : List Call} {b : Nat} {l s : Int} (h : cs[b]? = some (.bid l s)) : qual cs s b b = true := by
  unfold qual strAt
  rw [List.getD_eq_getElem?_getD, h]; simp [isBid, bidOf]
def timesP (cs : List Call) (b : Nat) : Int := if Call.rdb ∈ cs.drop b then 4 else if Call.dbl ∈ cs.drop b then 2 else 1
/-- the contract as data -/
def contrD (dealer : Int) (cs : List Call) : D := match lastIx isBid cs, lastC isBid cs with
  | some b, some c => .tuple [.int (bidOf c).1, .int (bidOf c).2, .int (timesP cs b), .int ((dealer + firstIx cs (bidOf c).2 b) % 4)]
  | _, _ => .none
end DL
set_option Elab.async false
set_option linter.all false
set_option maxRecDepth 100000
set_option maxHeartbeats 4000000
namespace DL
open PySem PySem.Spec PyProof.Rows L2
local macro_rules | `(tactic| walk_at "dl") => `(tactic| simp only [tV, tVr, tFzV, turnD, DL.wipeE, tK, tOpD, tUnD, tBo, tAndD, tOrD, tNotD, tIfE, DL.tAndV, DL.tOrV, DL.tNotV, tTru, truD, okLen, sSet, sSetL, sExpr, sRet, sIf, sNx, tTupD, dNil, dCons, tLstD, tFzD, tApp, tExtd, tPopAt, sSetIx, tIxO, tChainD, tChain3D, tRevT, caStr, opRepT, opAdd, opSub, opMul, opDiv, opMod, opPow, DL.opI, DL.opI0, opB0, opLt, opLe, opGt, opGtD, opLtD, opGe, opEq, opNe, opIs, opIsN, isNone, opIn, opNotIn, opIx, atD_0, atD_1, atD_2, atD_3, putD_0, unNeg, tCa1, tCa2, tCaL1, caLen, caAbs, caMax2, caMin2, caSum, caMax, caMin, caSumT, caMaxT, caMinT, caAll, caTuple, caList, caInt, tIsi, isInt, isBool, isStr, isTuple, isList, notDict, sAsg, gSet, gTupD, gsNil, gsCons, sPar, pNil, pD, pL, setAll, tCallD, aNil, aV, aO, argS, oixs, ndp, putO, tOpL, opCat, opRep, tSlD, slD, tSlL, oNo, oE, tRevD, iLstD, iTupD, iRange1, iRange2, iZipD, iZipM, finO, tTrue, Option.map, eqv_int, eqv_bool, eqv_none, shaped_int, shaped_bool, shaped_none, tLenRange, tSortSet, tLenSet, tLenSetP, tSortSetP, tCountL, tCountT, tIndexL, tIndexT, DL.tOrT, DL.tAndT, DL.tNotT, tSortRev, caSorted, iEnumL, iEnumT, decide_eq_true_eq, and_self, List.cons_append, List.nil_append, List.replicate, List.getElem?_cons_zero, List.getElem?_cons_succ, List.set_cons_zero, List.set_cons_succ, List.length_cons, List.length_nil, true_and, and_true, if_true, if_false, Bool.false_eq_true, List.contains_nil, Bool.not_false, Bool.not_true, Bool.and_self, Bool.and_true, Bool.true_and, decide_true, decide_false, beq_self_eq_true])
def tb_is_over : TSd :=
  sRet (tAndV (tOpD opGe (tCa1 caLen (tV 0)) (tK (.int 4))) (tOpD opEq (tSlD (tV 0) (oE (tUnD unNeg (tK (.int 3)))) (oNo)) (tTupD (dCons (tK (.str "pass")) (dCons (tK (.str "pass")) (dCons (tK (.str "pass")) (dNil)))))))
def tb_last_but_pass : TSd :=
  sSeq (sSet 1 (tK .none))
      (sSeq (sFor (iEnumT (tV 0)) (gTupD 2 (gsCons (gSet 2) (gsCons (gSet 3) (gsNil)))) (sIf (tBo (tOpD opNe (tV 3) (tK (.str "pass")))) (sSet 1 (tV 2)) (sNx)))
      (sRet (tV 1)))
def tb_last_bid : TSd :=
  sSeq (sSet 1 (tK .none))
      (sSeq (sFor (iEnumT (tV 0)) (gTupD 2 (gsCons (gSet 2) (gsCons (gSet 3) (gsNil)))) (sIf (tTru (tIsi isTuple (tV 3))) (sSet 1 (tV 2)) (sNx)))
      (sRet (tV 1)))
def tb_all_bids : TSd :=
  sSeq (sSetL 1 (tLstD (dNil)))
      (sSeq (sFor (iRange2 (tK (.int 1)) (tOpD opAdd (tV 0) (tK (.int 1)))) (gSet 2) (sExpr (tExtd 1 (tComp (iRange1 (tK (.int 5))) (gSet 3) (tTrue) (tTupD (dCons (tV 2) (dCons (tV 3) (dNil)))) [3]))))
      (sRet (tFzV 1)))
def tb_may_call (sp_all_bids : SpD) (sp_last_but_pass : SpD) (sp_last_bid : SpD) (sp_is_over : SpD) : TSd :=
  sSeq (sIf (tTru (tCallD sp_is_over (aV (tV 1) (aNil)))) (sRet (tTupD (dNil))) (sNx))
      (sSeq (sSetL 2 (tLstD (dCons (tK (.str "pass")) (dNil))))
      (sSeq (sPar [3, 4] (pD (tCallD sp_last_but_pass (aV (tV 1) (aNil))) (pD (tCallD sp_last_bid (aV (tV 1) (aNil))) (pNil))))
      (sSeq (sIf (tAndD (tBo (tOpD opIsN (tV 3) (tK .none))) (tBo (tOpD opEq (tOpD opMod (tOpD opSub (tCa1 caLen (tV 1)) (tV 3)) (tK (.int 2))) (tK (.int 1))))) (sIf (tTru (tIsi isTuple (tOpD opIx (tV 1) (tV 3)))) (sExpr (tApp 2 (tK (.str "double")))) (sIf (tBo (tOpD opEq (tOpD opIx (tV 1) (tV 3)) (tK (.str "double")))) (sExpr (tApp 2 (tK (.str "redouble")))) (sNx))) (sNx))
      (sRet (tCa1 caTuple (tFzD (tOpL opCat (tFzV 2) (tFzD (tComp (iLstD (tCallD sp_all_bids (aV (tV 0) (aNil)))) (gSet 5) (tOrD (tBo (tOpD opIs (tV 4) (tK .none))) (tBo (tOpD opGtD (tV 5) (tOpD opIx (tV 1) (tV 4))))) (tV 5) [5])))))))))
def tb_contract_of (sp_is_over : SpD) (sp_last_bid : SpD) : TSd :=
  sSeq (sSet 2 (tCallD sp_last_bid (aV (tV 1) (aNil))))
      (sSeq (sIf (tOrD (tBo (tOpD opIs (tV 2) (tK .none))) (tNotD (tTru (tCallD sp_is_over (aV (tV 1) (aNil)))))) (sRet (tK .none)) (sNx))
      (sSeq (sAsg (tOpD opIx (tV 1) (tV 2)) (gTupD 2 (gsCons (gSet 3) (gsCons (gSet 4) (gsNil)))))
      (sSeq (sSet 5 (tK (.int 1)))
      (sSeq (sIf (tBo (tOpD opIn (tK (.str "double")) (tSlD (tV 1) (oE (tV 2)) (oNo)))) (sSet 5 (tK (.int 2))) (sNx))
      (sSeq (sIf (tBo (tOpD opIn (tK (.str "redouble")) (tSlD (tV 1) (oE (tV 2)) (oNo)))) (sSet 5 (tK (.int 4))) (sNx))
      (sSeq (sFor (iEnumT (tV 1)) (gTupD 2 (gsCons (gSet 6) (gsCons (gSet 7) (gsNil)))) (sIf (tAndD (tTru (tIsi isTuple (tV 7))) (tAndD (tBo (tOpD opEq (tOpD opIx (tV 7) (tK (.int 1))) (tV 4))) (tBo (tOpD opEq (tOpD opMod (tOpD opSub (tV 2) (tV 6)) (tK (.int 2))) (tK (.int 0)))))) (sRet (tTupD (dCons (tV 3) (dCons (tV 4) (dCons (tV 5) (dCons (tOpD opMod (tOpD opAdd (tV 0) (tV 6)) (tK (.int 4))) (dNil))))))) (sNx)))
      (sRet (tK .none))))))))
open Call
theorem cut_neg {xs : List D} {k : Nat} (h : 0 < k) : cutD xs (some (-(k : Int))) none = xs.drop (xs.length - k) := by
  unfold cutD
  rw [HT.sIx_none]
  have e : HT.sIx xs.length 0 (some (-(k : Int))) = xs.length - k := by
    show (if -(k : Int) < 0 then (-(k : Int) + (xs.length : Int)).toNat else _) = _
    rw [if_pos (by omega)]; omega
  rw [e, List.take_of_length_le (by rw [List.length_drop]; omega)]
def rowD (cs : List Call) : D := .tuple (cs.map enc)
theorem sh_row (cs : List Call) : shOk 2 (rowD cs) = true := all_enc (sh_enc 0) cs
theorem same_row {cs : List Call} (h : cs.length ≤ 10000000) : sameOk 2 (rowD cs) = true := by
  show ((cs.map enc).all (sameOk 1) && decide ((cs.map enc).length ≤ 10000000)) = true
  rw [List.length_map, decide_eq_true h, Bool.and_true, List.all_map]
  exact List.all_eq_true.mpr fun c _ => same_enc 0 c
theorem eqv_rows (a b : List Call) : PyData.eqv (rowD a) (rowD b) = decide (a = b) := by unfold rowD; rw [eqv_tup, eqvAll_enc enc_eqv]
theorem get_row {cs : List Call} {i : Nat} {c : Call} (h : cs[i]? = some c) : (cs.map enc)[i]? = some c.enc := by rw [List.getElem?_map, h]; rfl
def optD : Option Nat → D
  | none => .none
  | some j => .int (j : Int)
/-! ### is_over -/
def spOver : SpD := fun ss Q => ∃ cs, ss = [.d (rowD cs)] ∧ Q (.bool (isOver cs)) []
theorem sh_is_over : ∀ ss QD, spOver ss QD → ss.length = 1 ∧ mpos 0 ss = [] := by rintro ss QD ⟨cs, rfl, _⟩; exact ⟨rfl, rfl⟩
theorem rd_is_over : ∀ ss QD, spOver ss QD → tb_is_over { nx := fun E' => finO [] E' (QD .none), rt := fun d E' => finO [] E' (QD d) } (ss ++ List.replicate 0 .un) := by
  rintro ss QD ⟨cs, rfl, q⟩
  unfold tb_is_over rowD
  walk_at "dl"
  rw [List.length_map]
  unfold isOver at q
  by_cases h : (4 : Int) ≤ cs.length
  · rw [decide_eq_true h]
    rw [decide_eq_true (show 4 ≤ cs.length by omega), Bool.true_and] at q
    refine ⟨small_line (by decide), ⟨shaped_of (n := 2) ?_, shaped_of (n := 2) (sh_row [.pass, .pass, .pass])⟩, ?_⟩
    · rw [show (-3 : Int) = -((3 : Nat) : Int) from rfl, cut_neg (by decide), ← List.map_drop]; exact sh_row _
    · rw [show (-3 : Int) = -((3 : Nat) : Int) from rfl, cut_neg (by decide), ← List.map_drop, List.length_map]
      rw [show (PyData.tuple [.str "pass", .str "pass", .str "pass"]) = rowD [.pass, .pass, .pass] from rfl, show PyData.tuple ((cs.drop (cs.length - 3)).map enc) = rowD (cs.drop (cs.length - 3)) from rfl, eqv_rows]
      exact q
  · rw [decide_eq_false h]
    rw [decide_eq_false (show ¬ 4 ≤ cs.length by omega), Bool.false_and] at q
    exact q
/-! ### last_but_pass, last_bid -/
def spLastP : SpD := fun ss Q => ∃ cs, ss = [.d (rowD cs)] ∧ Q (optD (lastIx said cs)) []
def spLastB : SpD := fun ss Q => ∃ cs, ss = [.d (rowD cs)] ∧ Q (optD (lastIx isBid cs)) []
theorem sh_last_but_pass : ∀ ss QD, spLastP ss QD → ss.length = 1 ∧ mpos 0 ss = [] := by rintro ss QD ⟨cs, rfl, _⟩; exact ⟨rfl, rfl⟩
theorem sh_last_bid : ∀ ss QD, spLastB ss QD → ss.length = 1 ∧ mpos 0 ss = [] := by rintro ss QD ⟨cs, rfl, _⟩; exact ⟨rfl, rfl⟩
theorem take_next {cs : List Call} {i : Nat} {c : Call} (h : cs[i]? = some c) : cs.take (i + 1) = cs.take i ++ [c] := by rw [List.take_add_one, h]; rfl
theorem enum_next {cs : List Call} {i : Nat} {d : D} (h : (enumD (cs.map enc))[i]? = some d) : ∃ c, cs[i]? = some c ∧ d = .tuple [.int (i : Int), c.enc] := by
  have hl : i < cs.length := by have := (List.getElem?_eq_some_iff.mp h).1; rwa [enumD_len, List.length_map] at this
  refine ⟨cs[i], List.getElem?_eq_getElem hl, ?_⟩
  rw [enumD_get (get_row (List.getElem?_eq_getElem hl))] at h
  exact (Option.some.inj h).symm
theorem said_ne (c : Call) : (!PyData.eqv c.enc (.str "pass")) = c.said := by
  rw [show (PyData.str "pass") = Call.pass.enc from rfl, enc_eqv]
  cases c <;> rfl
theorem rd_last_but_pass : ∀ ss QD, spLastP ss QD → tb_last_but_pass { nx := fun E' => finO [] E' (QD .none), rt := fun d E' => finO [] E' (QD d) } (ss ++ List.replicate 3 .un) := by
  rintro ss QD ⟨cs, rfl, q⟩
  unfold tb_last_but_pass rowD
  refine seq_step fun R hR => ?_
  walk_at "dl"
  refine hR _ ?_
  refine seq_step fun R hR => ?_
  refine for_inv (ds := enumD (cs.map enc)) (E1 := [.d (.tuple (cs.map enc)), .d .none, .un, .un]) (fun Q h => h)
    (fun i E => ∃ a2 a3, E = [.d (.tuple (cs.map enc)), .d (optD (lastIx said (cs.take i))), a2, a3]) ⟨_, _, rfl⟩ (fun i d E hd hE R2 hR2 => ?_) (fun E hE => ?_)
  · obtain ⟨a2, a3, rfl⟩ := hE
    obtain ⟨c, hc, rfl⟩ := enum_next hd
    walk_at "dl"
    refine ⟨⟨shaped_of (sh_enc 0 c), shaped_of (n := 1) (sh_enc 0 .pass)⟩, ?_⟩
    rw [said_ne]
    refine ifB (fun e => hR2 _ ⟨.d (.int (i : Int)), .d c.enc, ?_⟩) (fun e => hR2 _ ⟨.d (.int (i : Int)), .d c.enc, ?_⟩)
    · rw [take_next hc, lastIx_snoc, if_pos e, List.length_take, Nat.min_eq_left (by have := (List.getElem?_eq_some_iff.mp hc).1; omega)]; rfl
    · rw [take_next hc, lastIx_snoc, if_neg (by rw [e]; decide)]
  · obtain ⟨a2, a3, rfl⟩ := hE
    rw [enumD_len, List.length_map, List.take_length]
    exact hR _ q
theorem rd_last_bid : ∀ ss QD, spLastB ss QD → tb_last_bid { nx := fun E' => finO [] E' (QD .none), rt := fun d E' => finO [] E' (QD d) } (ss ++ List.replicate 3 .un) := by
  rintro ss QD ⟨cs, rfl, q⟩
  unfold tb_last_bid rowD
  refine seq_step fun R hR => ?_
  walk_at "dl"
  refine hR _ ?_
  refine seq_step fun R hR => ?_
  refine for_inv (ds := enumD (cs.map enc)) (E1 := [.d (.tuple (cs.map enc)), .d .none, .un, .un]) (fun Q h => h)
    (fun i E => ∃ a2 a3, E = [.d (.tuple (cs.map enc)), .d (optD (lastIx isBid (cs.take i))), a2, a3]) ⟨_, _, rfl⟩ (fun i d E hd hE R2 hR2 => ?_) (fun E hE => ?_)
  · obtain ⟨a2, a3, rfl⟩ := hE
    obtain ⟨c, hc, rfl⟩ := enum_next hd
    have fin : ∀ b : Bool, b = c.isBid → if b = true then R2 [.d (.tuple (cs.map enc)), .d (.int (i : Int)), .d (.int (i : Int)), .d c.enc] else R2 [.d (.tuple (cs.map enc)), .d (optD (lastIx isBid (cs.take i))), .d (.int (i : Int)), .d c.enc] := fun b hb => by
      refine ifB (fun e => hR2 _ ⟨.d (.int (i : Int)), .d c.enc, ?_⟩) (fun e => hR2 _ ⟨.d (.int (i : Int)), .d c.enc, ?_⟩)
      · rw [take_next hc, lastIx_snoc, if_pos (by rw [← hb]; exact e), List.length_take, Nat.min_eq_left (by have := (List.getElem?_eq_some_iff.mp hc).1; omega)]; rfl
      · rw [take_next hc, lastIx_snoc, if_neg (by rw [← hb, e]; decide)]
    cases c with
    | bid l s => exact ⟨rfl, trivial, trivial, fin true rfl⟩
    | _ => exact ⟨rfl, trivial, trivial, fin false rfl⟩
  · obtain ⟨a2, a3, rfl⟩ := hE
    rw [enumD_len, List.length_map, List.take_length]
    exact hR _ q
/-! ### all_bids -/
def bE (b : Int × Int) : D := .tuple [.int b.1, .int b.2]
theorem allB_len (L : Nat) : (allB L).length = 5 * L := by
  unfold allB
  induction L with
  | zero => rfl
  | succ n ih => rw [show List.range (n + 1) = List.range n ++ [n] from List.range_succ, List.flatMap_append, List.length_append, ih]; simp; omega
theorem allB_succ (L : Nat) : allB (L + 1) = allB L ++ (List.range 5).map fun s : Nat => ((L : Int) + 1, (s : Int)) := by
  unfold allB
  rw [show List.range (L + 1) = List.range L ++ [L] from List.range_succ, List.flatMap_append]; simp
theorem allB_pos {L : Nat} {b : Int × Int} (h : b ∈ allB L) : 1 ≤ b.1 ∧ b.1 ≤ L ∧ 0 ≤ b.2 ∧ b.2 ≤ 4 := by
  unfold allB at h
  obtain ⟨l, h1, h2⟩ := List.mem_flatMap.mp h
  obtain ⟨s, h3, rfl⟩ := List.mem_map.mp h2
  have := List.mem_range.mp h1
  have := List.mem_range.mp h3
  dsimp only
  omega
def spBids : SpD := fun ss Q => ∃ L : Nat, ss = [.d (.int L)] ∧ L ≤ 1000 ∧ Q (.list ((allB L).map bE)) []
theorem sh_all_bids : ∀ ss QD, spBids ss QD → ss.length = 1 ∧ mpos 0 ss = [] := by rintro ss QD ⟨L, rfl, _⟩; exact ⟨rfl, rfl⟩
theorem range_0 (n : Nat) : rangeD 0 n = (List.range n).map fun i : Nat => PyData.int (i : Int) := by
  unfold rangeD; exact List.map_congr_left fun i _ => by rw [show (0 : Int) + (i : Int) = i by omega]
theorem rd_all_bids : ∀ ss QD, spBids ss QD → tb_all_bids { nx := fun E' => finO [] E' (QD .none), rt := fun d E' => finO [] E' (QD d) } (ss ++ List.replicate 3 .un) := by
  rintro ss QD ⟨L, rfl, hL, q⟩
  unfold tb_all_bids
  refine seq_step fun R hR => ?_
  walk_at "dl"
  refine ⟨small_line (by decide), hR _ ?_⟩
  refine seq_step fun R hR => ?_
  refine for_inv (ds := rangeD 1 L) (E1 := [.d (.int L), .ol [], .un, .un]) (fun Q h => ⟨⟨by decide, by decide, by omega, by omega⟩, by rw [show ((L : Int) + 1 - 1).toNat = L by omega]; exact h⟩)
    (fun i E => ∃ a2, E = [.d (.int L), .ol ((allB i).map bE), a2, .un]) ⟨_, rfl⟩ (fun i d E hd hE R2 hR2 => ?_) (fun E hE => ?_)
  · obtain ⟨a2, rfl⟩ := hE
    have hi : i < L := by have := (List.getElem?_eq_some_iff.mp hd).1; rwa [rangeD_length] at this
    rw [rangeD_get hi] at hd
    cases hd
    walk_at "dl"
    refine comp_map (E1 := [.d (.int L), .ol ((allB i).map bE), .d (.int (1 + (i : Int))), .un]) (List.range 5) (fun s : Nat => .int (s : Int)) (fun s : Nat => bE (1 + (i : Int), (s : Int))) (fun Q h => ⟨⟨by decide, by decide⟩, by rw [show ((5 : Int)).toNat = 5 from rfl, range_0]; exact h⟩) (un1 rfl) (small_line (by decide)) (fun x hx R hq => ?_) ?_
    · exact ⟨small_line (by simp), hq _ rfl⟩
    · refine ⟨?_, hR2 _ ⟨.d (.int (1 + (i : Int))), ?_⟩⟩
      · rw [List.length_map, allB_len, List.length_map, List.length_range]; exact small_line (by omega)
      · rw [allB_succ, List.map_append, List.map_map, Int.add_comm (i : Int) 1]; rfl
  · obtain ⟨a2, rfl⟩ := hE
    rw [rangeD_length]
    exact hR _ q
/-! ### may_call -/
theorem row_app (pre : List Call) (bs : List (Int × Int)) : PyData.tuple (pre.map enc ++ bs.map bE) = rowD (pre ++ bs.map encB) := by
  unfold rowD; rw [List.map_append, List.map_map]; rfl
def spMay : SpD := fun ss Q => ∃ (L : Nat) (cs : List Call), ss = [.d (.int L), .d (rowD cs)] ∧ L ≤ 1000 ∧ cs.length ≤ 1000 ∧ Q (rowD (mayP L cs)) []
theorem sh_may_call : ∀ ss QD, spMay ss QD → ss.length = 2 ∧ mpos 0 ss = [] := by rintro ss QD ⟨L, cs, rfl, _⟩; exact ⟨rfl, rfl⟩
theorem lastB_none {cs : List Call} (h : lastC isBid cs = none) {L : Nat} {b : Int × Int} (hb : b ∈ allB L) : gtB b (lastB cs) = true := by
  unfold lastB; rw [h]
  have := allB_pos hb
  unfold gtB
  exact decide_eq_true (.inl (by dsimp only; omega))
theorem gt_bid (b : Int × Int) (l s : Int) : PySem.W.dataLt (.tuple [.int l, .int s]) (bE b) = gtB b (l, s) := by
  unfold bE gtB; rw [PySem.W.dataLt_ii]
theorem alike_bid (b : Int × Int) (l s : Int) : PySem.W.alike (bE b) (.tuple [.int l, .int s]) = true := rfl
theorem bE_ok (b : Int × Int) {l s : Int} : bE b ≠ .none ∧ (bE b).depth ≤ 60 ∧ (bE b).canLay0 = true ∧ (PyData.tuple [.int l, .int s]).canLay0 = true := by
  unfold bE
  exact ⟨(fun h => nomatch h), by simp [PyData.depth, PyData.depthAll], by simp [PyData.canLay0, PyData.canLayAll0], by simp [PyData.canLay0, PyData.canLayAll0]⟩
theorem rd_may_call : ∀ ss QD, spMay ss QD → tb_may_call spBids spLastP spLastB spOver { nx := fun E' => finO [] E' (QD .none), rt := fun d E' => finO [] E' (QD d) } (ss ++ List.replicate 4 .un) := by
  rintro ss QD ⟨L, cs, rfl, hL, hc, q⟩
  unfold tb_may_call
  refine seq_step fun R hR => ?_
  walk_at "dl"
  refine ⟨cs, rfl, ?_⟩
  walk_at "dl"
  refine ifB (fun e => ⟨small_line (by decide), ?_⟩) (fun e => hR _ ?_)
  · unfold mayP at q; rw [if_pos e] at q; exact q
  unfold mayP at q
  rw [if_neg (by rw [e]; decide)] at q
  have hml := dblP_len cs.length (lastIx said cs) (lastC said cs)
  generalize hmid : dblP cs.length (lastIx said cs) (lastC said cs) = mid at q hml
  refine seq_step fun R hR => ?_
  walk_at "dl"
  refine ⟨small_line (by decide), hR _ ?_⟩
  refine seq_step fun R hR => ?_
  walk_at "dl"
  refine ⟨cs, rfl, ?_⟩
  walk_at "dl"
  refine ⟨cs, rfl, ?_⟩
  walk_at "dl"
  refine hR _ ?_
  refine seq_step fun R hR => ?_
  have main : R [.d (.int L), .d (rowD cs), .ol (([Call.pass] ++ mid).map enc), .d (optD (lastIx said cs)), .d (optD (lastIx isBid cs)), .un] := by
    refine hR _ ?_
    unfold rowD
    walk_at "dl"
    refine comp_filter (E1 := [.d (.int L), .d (.tuple (cs.map enc)), .d (.list (([Call.pass] ++ mid).map enc)), .d (optD (lastIx said cs)), .d (optD (lastIx isBid cs)), .un]) (allB L) bE (fun b => gtB b (lastB cs)) bE (fun Q h => ⟨rfl, L, rfl, hL, h⟩) (un1 rfl) (by rw [allB_len]; exact small_line (by omega)) (fun b hb R2 hq => ?_) ?_
    · rcases last_spec isBid cs with ⟨e1, e2, e3⟩ | ⟨j, c, e1, e2, e3, e4⟩
      · rw [lastB_none e2 hb, e1] at hq
        rw [e1]
        exact hq _ rfl
      · rw [e1] at hq ⊢
        have hj := (List.getElem?_eq_some_iff.mp e3).1
        cases c with
        | bid l s =>
          refine atD_at (d := (Call.bid l s).enc) (by omega) (by rw [Int.toNat_natCast]; exact get_row e3) ⟨⟨alike_bid b l s, bE_ok b⟩, ?_⟩
          show if PySem.W.dataLt (.tuple [.int l, .int s]) (bE b) = true then R2 (some (bE b)) _ else R2 none _
          have hlb : lastB cs = (l, s) := by unfold lastB; rw [e2]; rfl
          rw [gt_bid, ← hlb]
          refine ifB (fun g => ?_) (fun g => ?_)
          · rw [g] at hq; exact hq _ rfl
          · rw [g] at hq; exact hq _ rfl
        | _ => cases e4
    · refine ⟨?_, ?_⟩
      · have := List.length_filter_le (fun b => gtB b (lastB cs)) (allB L)
        rw [allB_len] at this
        rw [List.length_map, List.length_map]
        show mid.length + 1 + _ ≤ _
        exact small_line (by omega)
      · rw [row_app]
        exact q
  rcases last_spec said cs with ⟨e1, e2, e3⟩ | ⟨j, c, e1, e2, e3, e4⟩
  · rw [e1, e2] at hmid
    rw [e1] at main ⊢
    rw [← hmid] at main
    walk_at "dl"
    exact main
  · rw [e1, e2] at hmid
    rw [e1] at main ⊢
    have hj := (List.getElem?_eq_some_iff.mp e3).1
    unfold optD
    unfold rowD
    walk_at "dl"
    rw [List.length_map]
    refine ⟨by decide, ?_⟩
    have at_j : ∀ {P : D → Prop}, P c.enc → atD (cs.map enc) (j : Int) P := fun q => atD_at (by omega) (by rw [Int.toNat_natCast]; exact get_row e3) q
    have one : 0 + 1 < sizeLine := Nat.lt_of_lt_of_le (show 0 + 1 < 3 by decide) (small_line (by decide))
    simp only [dblP] at hmid
    by_cases hp : ((cs.length : Int) - j) % 2 = 1
    · rw [if_pos hp] at hmid ⊢
      refine at_j ?_
      cases c with
      | pass => cases e4
      | bid l s => subst hmid; exact ⟨trivial, one, main⟩
      | dbl =>
        subst hmid
        refine ⟨trivial, at_j ⟨⟨shaped_of (n := 1) (sh_enc 0 .dbl), shaped_of (n := 1) (sh_enc 0 .dbl)⟩, ?_⟩⟩
        rw [show PyData.eqv Call.dbl.enc (.str "double") = true from enc_eqv .dbl .dbl]
        exact ⟨one, main⟩
      | rdb =>
        subst hmid
        refine ⟨trivial, at_j ⟨⟨shaped_of (n := 1) (sh_enc 0 .rdb), shaped_of (n := 1) (sh_enc 0 .dbl)⟩, ?_⟩⟩
        rw [show PyData.eqv Call.rdb.enc (.str "double") = false from enc_eqv .rdb .dbl]
        exact main
    · rw [if_neg hp] at hmid ⊢
      subst hmid
      exact main
/-! ### _law_may_call -/
/-! ### _law_drawn_calls -/
/-! ### contract_of -/
theorem any_enc (xs : List Call) (c : Call) : ((xs.map enc).any fun z => PyData.eqv z c.enc) = decide (c ∈ xs) := by
  induction xs with
  | nil => rfl
  | cons a l ih =>
    rw [List.map_cons, List.any_cons, ih, enc_eqv]
    by_cases h1 : a = c
    · simp [h1]
    · have h1' : ¬ c = a := fun e => h1 e.symm
      by_cases h2 : c ∈ l <;> simp [h1, h1', h2]
def spContr : SpD := fun ss Q => ∃ (dealer : Int) (cs : List Call), ss = [.d (.int dealer), .d (rowD cs)] ∧ cs.length ≤ 1000 ∧ Q (if isOver cs = true then contrD dealer cs else .none) []
theorem sh_contract_of : ∀ ss QD, spContr ss QD → ss.length = 2 ∧ mpos 0 ss = [] := by rintro ss QD ⟨d, cs, rfl, _⟩; exact ⟨rfl, rfl⟩
theorem rd_contract_of : ∀ ss QD, spContr ss QD → tb_contract_of spOver spLastB { nx := fun E' => finO [] E' (QD .none), rt := fun d E' => finO [] E' (QD d) } (ss ++ List.replicate 6 .un) := by
  rintro ss QD ⟨dealer, cs, rfl, hc, q⟩
  unfold tb_contract_of rowD
  refine seq_step fun R hR => ?_
  walk_at "dl"
  refine ⟨cs, rfl, ?_⟩
  walk_at "dl"
  refine hR _ ?_
  refine seq_step fun R hR => ?_
  rcases last_spec isBid cs with ⟨e1, e2, e3⟩ | ⟨b, c, e1, e2, e3, e4⟩
  · rw [e1]
    walk_at "dl"
    have : (if isOver cs = true then contrD dealer cs else .none) = PyData.none := by
      unfold contrD; rw [e1]; split <;> rfl
    rw [this] at q
    exact q
  · rw [e1]
    unfold optD
    walk_at "dl"
    refine ⟨cs, rfl, ?_⟩
    walk_at "dl"
    by_cases ho : isOver cs = true
    · rw [if_pos ho] at q
      refine ifF (by rw [ho]; rfl) (hR _ ?_)
      have hb := (List.getElem?_eq_some_iff.mp e3).1
      cases c with
      | pass => cases e4
      | dbl => cases e4
      | rdb => cases e4
      | bid l s =>
        have hq : contrD dealer cs = .tuple [.int l, .int s, .int (timesP cs b), .int ((dealer + firstIx cs s b) % 4)] := by unfold contrD; rw [e1, e2]; rfl
        rw [hq] at q
        refine seq_step fun R hR => ?_
        refine atD_at (d := (Call.bid l s).enc) (xs := cs.map enc) (by omega) (by rw [Int.toNat_natCast]; exact get_row e3) ⟨rfl, hR _ ?_⟩
        refine seq_step fun R hR => ?_
        walk_at "dl"
        refine hR _ ?_
        have cut : cutD (cs.map enc) (some (b : Int)) none = (cs.drop b).map enc := by rw [cut_from (by omega), Int.toNat_natCast, List.map_drop]
        refine seq_step fun R hR => ?_
        have st5 : R [.d (.int dealer), .d (.tuple (cs.map enc)), .d (.int (b : Int)), .d (.int l), .d (.int s), .d (.int (if Call.dbl ∈ cs.drop b then 2 else 1)), .un, .un] := by
          refine hR _ ?_
          refine seq_step fun R hR => ?_
          have st6 : R [.d (.int dealer), .d (.tuple (cs.map enc)), .d (.int (b : Int)), .d (.int l), .d (.int s), .d (.int (timesP cs b)), .un, .un] := by
            refine hR _ ?_
            refine seq_step fun R hR => ?_
            refine for_inv (ds := enumD (cs.map enc)) (E1 := [.d (.int dealer), .d (.tuple (cs.map enc)), .d (.int (b : Int)), .d (.int l), .d (.int s), .d (.int (timesP cs b)), .un, .un]) (fun Q h => h)
              (fun i E => ∃ a6 a7, E = [.d (.int dealer), .d (.tuple (cs.map enc)), .d (.int (b : Int)), .d (.int l), .d (.int s), .d (.int (timesP cs b)), a6, a7] ∧ ∀ k, k < i → qual cs s b k = false) ⟨_, _, rfl, fun k hk => absurd hk (Nat.not_lt_zero k)⟩ (fun i d E hd hE R2 hR2 => ?_) (fun E hE => ?_)
            · obtain ⟨a6, a7, rfl, hno⟩ := hE
              obtain ⟨c, hci, rfl⟩ := enum_next hd
              have hi := (List.getElem?_eq_some_iff.mp hci).1
              have gd : cs.getD i .pass = c := by rw [List.getD_eq_getElem?_getD, hci]; rfl
              have next : qual cs s b i = false → ∀ k, k < i + 1 → qual cs s b k = false := fun h k hk => by
                rcases Nat.lt_or_ge k i with z | z
                · exact hno k z
                · rw [show k = i by omega]; exact h
              cases c with
              | bid l2 s2 =>
                have hqi : qual cs s b i = (decide (s2 = s) && decide (i % 2 = b % 2)) := by unfold qual strAt; rw [gd]; rfl
                simp only [Call.enc]
                walk_at "dl"
                by_cases h1 : s2 = s
                · rw [if_pos h1]
                  refine ⟨by decide, ?_⟩
                  by_cases h2 : ((b : Int) - i) % 2 = 0
                  · rw [if_pos h2]
                    have hf : firstIx cs s b = i := first_of hi (by rw [hqi, decide_eq_true h1, decide_eq_true (show i % 2 = b % 2 by omega)]; rfl) hno
                    rw [hf] at q
                    exact ⟨by decide, small_line (by simp), q⟩
                  · rw [if_neg h2]
                    exact hR2 _ ⟨_, _, rfl, next (by rw [hqi, decide_eq_false (show ¬ i % 2 = b % 2 by omega), Bool.and_false])⟩
                · rw [if_neg h1]
                  exact hR2 _ ⟨_, _, rfl, next (by rw [hqi, decide_eq_false h1, Bool.false_and])⟩
              | _ => exact ⟨rfl, trivial, trivial, hR2 _ ⟨_, _, rfl, next (by unfold qual; rw [gd]; rfl)⟩⟩
            · obtain ⟨a6, a7, rfl, hno⟩ := hE
              rw [enumD_len, List.length_map] at hno
              have := hno b hb
              rw [qual_last e3] at this
              cases this
          walk_at "dl"
          rw [cut]
          refine ⟨⟨shaped_of (n := 1) (sh_enc 0 .rdb), shaped_of (n := 2) (sh_row _)⟩, ?_⟩
          rw [show (PyData.str "redouble") = Call.rdb.enc from rfl, any_enc]
          unfold timesP at st6
          by_cases h : Call.rdb ∈ cs.drop b
          · rw [decide_eq_true h]; rw [if_pos h] at st6; exact st6
          · rw [decide_eq_false h]; rw [if_neg h] at st6; exact st6
        walk_at "dl"
        rw [cut]
        refine ⟨⟨shaped_of (n := 1) (sh_enc 0 .dbl), shaped_of (n := 2) (sh_row _)⟩, ?_⟩
        rw [show (PyData.str "double") = Call.dbl.enc from rfl, any_enc]
        by_cases h : Call.dbl ∈ cs.drop b
        · rw [decide_eq_true h]; rw [if_pos h] at st5; exact st5
        · rw [decide_eq_false h]; rw [if_neg h] at st5; exact st5
    · rw [if_neg ho] at q
      exact ifT (by rw [show isOver cs = false by simpa using ho]; rfl) q
/-! ### _law_contract -/
end DL
set_option Elab.async false
set_option linter.all false
set_option maxRecDepth 100000
set_option maxHeartbeats 4000000
namespace DL
open PySem PySem.Spec PyProof.Rows L2
local macro_rules | `(tactic| walk_at "dl") => `(tactic| simp only [tV, tVr, tFzV, turnD, DL.wipeE, tK, tOpD, tUnD, tBo, tAndD, tOrD, tNotD, tIfE, DL.tAndV, DL.tOrV, DL.tNotV, tTru, truD, okLen, sSet, sSetL, sExpr, sRet, sIf, sNx, tTupD, dNil, dCons, tLstD, tFzD, tApp, tExtd, tPopAt, sSetIx, tIxO, tChainD, tChain3D, tRevT, caStr, opRepT, opAdd, opSub, opMul, opDiv, opMod, opPow, DL.opI, DL.opI0, opB0, opLt, opLe, opGt, opGtD, opLtD, opGe, opEq, opNe, opIs, opIsN, isNone, opIn, opNotIn, opIx, atD_0, atD_1, atD_2, atD_3, putD_0, unNeg, tCa1, tCa2, tCaL1, caLen, caAbs, caMax2, caMin2, caSum, caMax, caMin, caSumT, caMaxT, caMinT, caAll, caTuple, caList, caInt, tIsi, isInt, isBool, isStr, isTuple, isList, notDict, sAsg, gSet, gTupD, gsNil, gsCons, sPar, pNil, pD, pL, setAll, tCallD, aNil, aV, aO, argS, oixs, ndp, putO, tOpL, opCat, opRep, tSlD, slD, tSlL, oNo, oE, tRevD, iLstD, iTupD, iRange1, iRange2, iZipD, iZipM, finO, tTrue, Option.map, eqv_int, eqv_bool, eqv_none, shaped_int, shaped_bool, shaped_none, tLenRange, tSortSet, tLenSet, tLenSetP, tSortSetP, tCountL, tCountT, tIndexL, tIndexT, DL.tOrT, DL.tAndT, DL.tNotT, tSortRev, caSorted, iEnumL, iEnumT, decide_eq_true_eq, and_self, List.cons_append, List.nil_append, List.replicate, List.getElem?_cons_zero, List.getElem?_cons_succ, List.set_cons_zero, List.set_cons_succ, List.length_cons, List.length_nil, true_and, and_true, if_true, if_false, Bool.false_eq_true, List.contains_nil, Bool.not_false, Bool.not_true, Bool.and_self, Bool.and_true, Bool.true_and, decide_true, decide_false, beq_self_eq_true])
def tb_is_whole : TSd :=
  sRet (tAndV (tIsi isInt (tV 0)) (tNotV (tIsi isBool (tV 0))))
def tb_is_bid (sp_is_whole : SpD) : TSd :=
  sSeq (sIf (tOrD (tNotD (tTru (tIsi isTuple (tV 1)))) (tOrD (tBo (tOpD opNe (tCa1 caLen (tV 1)) (tK (.int 2)))) (tOrD (tNotD (tTru (tCallD sp_is_whole (aV (tOpD opIx (tV 1) (tK (.int 0))) (aNil))))) (tNotD (tTru (tCallD sp_is_whole (aV (tOpD opIx (tV 1) (tK (.int 1))) (aNil)))))))) (sRet (tK (.bool false))) (sNx))
      (sRet (tAndV (tChainD opLe opLe (tK (.int 1)) (tOpD opIx (tV 1) (tK (.int 0))) (tV 0)) (tChainD opLe opLe (tK (.int 0)) (tOpD opIx (tV 1) (tK (.int 1))) (tK (.int 4)))))
def tb_is_call (sp_is_bid : SpD) : TSd :=
  sSeq (sIf (tTru (tIsi isStr (tV 1))) (sRet (tOpD opIn (tV 1) (tTupD (dCons (tK (.str "pass")) (dCons (tK (.str "double")) (dCons (tK (.str "redouble")) (dNil))))))) (sNx))
      (sRet (tCallD sp_is_bid (aV (tV 0) (aV (tV 1) (aNil)))))
open Call
def wholeD : D → Bool
  | .int _ => true
  | _ => false
def isBidD (L : Int) : D → Bool
  | .tuple [.int a, .int b] => decide (1 ≤ a) && (decide (a ≤ L) && (decide (0 ≤ b) && decide (b ≤ 4)))
  | _ => false
def isCallD (L : Int) : D → Bool
  | .str x => ([.str "pass", .str "double", .str "redouble"] : List D).any fun z => PyData.eqv z (.str x)
  | d => isBidD L d
def spWhole : SpD := fun ss Q => ∃ d, ss = [.d d] ∧ notDict d ∧ Q (.bool (wholeD d)) []
theorem sh_is_whole : ∀ ss QD, spWhole ss QD → ss.length = 1 ∧ mpos 0 ss = [] := by rintro ss QD ⟨d, rfl, _⟩; exact ⟨rfl, rfl⟩
theorem rd_is_whole : ∀ ss QD, spWhole ss QD → tb_is_whole { nx := fun E' => finO [] E' (QD .none), rt := fun d E' => finO [] E' (QD d) } (ss ++ List.replicate 0 .un) := by
  rintro ss QD ⟨d, rfl, hd, q⟩
  unfold tb_is_whole
  cases d with
  | dict _ => exact hd.elim
  | int i => exact ⟨trivial, trivial, q⟩
  | bool i => exact ⟨trivial, trivial, q⟩
  | _ => exact ⟨trivial, q⟩
theorem nd_of {n : Nat} {d : D} (h : shOk n d = true) : notDict d := by
  cases d with
  | dict _ => cases n <;> cases h
  | _ => trivial
def spIsBid : SpD := fun ss Q => ∃ (L : Int) (d : D) (n : Nat), ss = [.d (.int L), .d d] ∧ shOk n d = true ∧ Q (.bool (isBidD L d)) []
theorem sh_is_bid : ∀ ss QD, spIsBid ss QD → ss.length = 2 ∧ mpos 0 ss = [] := by rintro ss QD ⟨L, d, n, rfl, _⟩; exact ⟨rfl, rfl⟩
theorem rd_is_bid : ∀ ss QD, spIsBid ss QD → tb_is_bid spWhole { nx := fun E' => finO [] E' (QD .none), rt := fun d E' => finO [] E' (QD d) } (ss ++ List.replicate 0 .un) := by
  rintro ss QD ⟨L, d, n, rfl, hd, q⟩
  unfold tb_is_bid
  refine seq_step fun R hR => ?_
  cases d with
  | dict _ => cases n <;> cases hd
  | tuple ds =>
    cases n with
    | zero => cases hd
    | succ n =>
      rw [shOk_tup] at hd
      by_cases h2 : ds.length = 2
      · match ds, h2, hd, q with
        | [x, y], _, hd, q =>
          have hx : shOk n x = true ∧ shOk n y = true := by simpa using hd
          walk_at "dl"
          refine ⟨x, rfl, nd_of hx.1, ?_⟩
          walk_at "dl"
          have fq : isBidD L (.tuple [x, y]) = false → QD (.bool false) [] := fun h => by rw [h] at q; exact q
          by_cases hx1 : wholeD x = true
          · refine ifF (by rw [hx1]; rfl) ⟨y, rfl, nd_of hx.2, ?_⟩
            walk_at "dl"
            by_cases hy1 : wholeD y = true
            · refine ifF (by rw [hy1]; rfl) (hR _ ?_)
              cases x with
              | int a =>
                cases y with
                | int b =>
                  have q : QD (.bool (decide (1 ≤ a) && (decide (a ≤ L) && (decide (0 ≤ b) && decide (b ≤ 4))))) [] := q
                  walk_at "dl"
                  by_cases h1 : 1 ≤ a
                  · rw [decide_eq_true h1, Bool.true_and] at q
                    rw [decide_eq_true h1]
                    by_cases h3 : a ≤ L
                    · rw [decide_eq_true h3, Bool.true_and] at q
                      rw [decide_eq_true h3]
                      by_cases h4 : 0 ≤ b
                      · rw [decide_eq_true h4, Bool.true_and] at q
                        rw [decide_eq_true h4]
                        exact q
                      · rw [decide_eq_false h4, Bool.false_and] at q
                        rw [decide_eq_false h4]
                        exact q
                    · rw [decide_eq_false h3, Bool.false_and] at q
                      rw [decide_eq_false h3]
                      exact q
                  · rw [decide_eq_false h1, Bool.false_and] at q
                    rw [decide_eq_false h1]
                    exact q
                | _ => cases hy1
              | _ => cases hx1
            · refine ifT (by rw [show wholeD y = false by simpa using hy1]; rfl) (fq ?_)
              cases x with
              | int a =>
                cases y with
                | int b => exact absurd rfl hy1
                | _ => rfl
              | _ => rfl
          · refine ifT (by rw [show wholeD x = false by simpa using hx1]; rfl) (fq ?_)
            cases x with
            | int a => exact absurd rfl hx1
            | _ => rfl
      · walk_at "dl"
        refine ifT (by rw [decide_eq_false (by omega)]; rfl) ?_
        have fq : isBidD L (.tuple ds) = false := by
          match ds, h2 with
          | [], _ => rfl
          | [x], _ => cases x <;> rfl
          | [x, y], h2 => exact absurd rfl h2
          | x :: y :: z :: r, _ => cases x <;> cases y <;> rfl
        rw [fq] at q
        exact q
  | _ => exact ⟨trivial, trivial, q⟩
def spIsCall : SpD := fun ss Q => ∃ (L : Int) (d : D) (n : Nat), ss = [.d (.int L), .d d] ∧ shOk n d = true ∧ n ≤ 64 ∧ Q (.bool (isCallD L d)) []
theorem sh_is_call : ∀ ss QD, spIsCall ss QD → ss.length = 2 ∧ mpos 0 ss = [] := by rintro ss QD ⟨L, d, n, rfl, _⟩; exact ⟨rfl, rfl⟩
theorem rd_is_call : ∀ ss QD, spIsCall ss QD → tb_is_call spIsBid { nx := fun E' => finO [] E' (QD .none), rt := fun d E' => finO [] E' (QD d) } (ss ++ List.replicate 0 .un) := by
  rintro ss QD ⟨L, d, n, rfl, hd, hn, q⟩
  unfold tb_is_call
  refine seq_step fun R hR => ?_
  cases d with
  | dict _ => cases n <;> cases hd
  | str x => exact ⟨trivial, trivial, small_line (by decide), ⟨shaped_of hd hn, shaped_of (n := 2) (sh_row [.pass, .dbl, .rdb])⟩, q⟩
  | _ => exact ⟨trivial, trivial, hR _ ⟨rfl, L, _, n, rfl, hd, q⟩⟩
/-! ### calls_fault -/
theorem notin_enc (xs : List Call) (c : Call) : (!(xs.map enc).any fun z => PyData.eqv z c.enc) = !decide (c ∈ xs) := by rw [any_enc]
/-! ### _law_end_holds -/
end DL
set_option Elab.async false
set_option linter.all false
set_option maxRecDepth 100000
set_option maxHeartbeats 1000000
/-! FnCallsU: more of rows of calls: their length, faults. -/
namespace DL
open PySem PySem.Spec PyProof.Rows L2
open Call
theorem bid_mayL {L : Nat} {cs : List Call} {l s : Int} (h : Call.bid l s ∈ mayL L cs) : (l, s) ∈ allB L ∧ gtB (l, s) (lastB cs) = true := by
  unfold mayL at h
  split at h
  · cases h
  · rcases List.mem_append.mp h with h | h
    · exfalso
      rcases List.mem_append.mp h with h | h
      · simp at h
      · split at h
        · split at h <;> simp at h
        · cases h
    · obtain ⟨b, hb, e⟩ := List.mem_map.mp h
      unfold encB at e
      injection e with e1 e2
      have : b = (l, s) := by rw [← e1, ← e2]
      rw [this] at hb
      exact List.mem_filter.mp hb
def nb (cs : List Call) : Nat := (cs.filter isBid).length
theorem nb_snoc (cs : List Call) (c : Call) : nb (cs ++ [c]) = nb cs + if c.isBid = true then 1 else 0 := by
  unfold nb; rw [List.filter_append]
  cases h : c.isBid <;> simp [h]
theorem Reach.len {L : Nat} {cs : List Call} (h : Reach L cs) : (stand cs = 0 ∧ cs.length ≤ 4) ∨ (1 ≤ stand cs ∧ stand cs ≤ 3 ∧ 1 ≤ nb cs ∧ (cs.length : Int) ≤ 4 + 9 * ((nb cs : Int) - 1) + 3 * ((stand cs : Int) - 1) + quiet cs) := by
  induction h with
  | nil => exact .inl ⟨rfl, by decide⟩
  | snoc h hc ih =>
    rename_i cs c
    have hg := h.good
    have hg2 := (Reach.snoc h hc).good
    obtain ⟨hno, hc2⟩ := mem_mayL hc
    have sl := stand_last cs hg.st
    have qn := quiet_nn cs
    have q2 : ixOf said cs ≠ [] → quiet cs ≤ 2 := fun e => by
      have h1 := hg.q.2 e
      have h3 : quiet cs ≠ 3 := fun z => hno (.inr ⟨e, z⟩)
      omega
    rw [stand_snoc, nb_snoc, quiet_snoc, List.length_append, List.length_cons, List.length_nil]
    have sd : stand cs ≠ 0 → ixOf said cs ≠ [] := fun e z => by
      have := said_last.mp z
      rcases sl with ⟨a, _⟩ | ⟨a, l, s, b, _⟩ | ⟨a, b, _⟩ | ⟨a, b, _⟩
      · exact e a
      · rw [this] at b; cases b
      · rw [this] at b; cases b
      · rw [this] at b; cases b
    rcases hc2 with rfl | ⟨rfl, h1, h2, h3⟩ | ⟨rfl, h1⟩ | ⟨l, s, rfl⟩
    · simp only [stepS, isBid, Bool.false_eq_true, if_false, if_true]
      rcases ih with ⟨a, b⟩ | ⟨a1, a2, a3, a4⟩
      · refine .inl ⟨a, ?_⟩
        rcases sl with ⟨_, b2, _⟩ | ⟨z, _⟩ | ⟨z, _⟩ | ⟨z, _⟩
        · have e := said_last.mpr b2
          have e2 := said_nil.mp e
          have e3 : quiet cs ≠ 4 := fun z => hno (.inl z)
          omega
        · omega
        · omega
        · omega
      · exact .inr ⟨a1, a2, by omega, by omega⟩
    · have s1 : stand cs = 1 := by
        rcases sl with ⟨a, b, _⟩ | ⟨a, _⟩ | ⟨a, b, _⟩ | ⟨a, b, _⟩
        · exact absurd (said_last.mpr b) h3
        · exact a
        · exact absurd b h2
        · exact absurd b h1
      have := q2 h3
      simp only [stepS, s1, isBid, if_true, Bool.false_eq_true, if_false]
      rcases ih with ⟨a, b⟩ | ⟨a1, a2, a3, a4⟩
      · omega
      · refine .inr ⟨by decide, by decide, by omega, ?_⟩
        rw [s1] at a4
        simp
        omega
    · have s2 : stand cs = 2 := by
        rcases sl with ⟨a, b, _⟩ | ⟨a, l, s, b, _⟩ | ⟨a, b, _⟩ | ⟨a, b, _⟩
        · rw [b] at h1; cases h1
        · rw [b] at h1; cases h1
        · exact a
        · rw [b] at h1; cases h1
      have := q2 (sd (by omega))
      simp only [stepS, s2, isBid, if_true, Bool.false_eq_true, if_false]
      rcases ih with ⟨a, b⟩ | ⟨a1, a2, a3, a4⟩
      · omega
      · refine .inr ⟨by decide, by decide, by omega, ?_⟩
        rw [s2] at a4
        simp
        omega
    · have h4 := hg.st
      simp only [stepS, h4, isBid, if_true, if_false]
      refine .inr ⟨by decide, by decide, by omega, ?_⟩
      rcases ih with ⟨a, b⟩ | ⟨a1, a2, a3, a4⟩
      · have e3 : quiet cs ≠ 4 := fun z => hno (.inl z)
        have e1 : ixOf said cs = [] := by
          rcases sl with ⟨_, b2, _⟩ | ⟨z, _⟩ | ⟨z, _⟩ | ⟨z, _⟩
          · exact said_last.mpr b2
          · omega
          · omega
          · omega
        have e2 := said_nil.mp e1
        simp
        omega
      · have := q2 (sd (by omega))
        simp
        omega
/-! ### faults -/
theorem Reach.at {L : Nat} {cs : List Call} (h : Reach L cs) : ∀ k, k < cs.length → cs.getD k .pass ∈ mayL L (cs.take k) := by
  induction h with
  | nil => intro k hk; simp at hk
  | snoc h hc ih =>
    rename_i cs c
    intro k hk
    rw [List.length_append] at hk
    simp only [List.length_cons, List.length_nil] at hk
    rcases Nat.lt_or_ge k cs.length with z | z
    · rw [List.getD_eq_getElem?_getD, List.getElem?_append_left z, List.take_append_of_le_length (by omega), ← List.getD_eq_getElem?_getD]
      exact ih k z
    · have : k = cs.length := by omega
      subst this
      rw [List.take_left' rfl, List.getD_eq_getElem?_getD]
      simpa using hc
end DL
set_option Elab.async false
set_option linter.all false
set_option maxRecDepth 100000
set_option maxHeartbeats 4000000
namespace DL
open PySem PySem.Spec PyProof.Rows L2
local macro_rules | `(tactic| walk_at "dl") => `(tactic| simp only [tV, tVr, tFzV, turnD, DL.wipeE, tK, tOpD, tUnD, tBo, tAndD, tOrD, tNotD, tIfE, DL.tAndV, DL.tOrV, DL.tNotV, tTru, truD, okLen, sSet, sSetL, sExpr, sRet, sIf, sNx, tTupD, dNil, dCons, tLstD, tFzD, tApp, tExtd, tPopAt, sSetIx, tIxO, tChainD, tChain3D, tRevT, caStr, opRepT, opAdd, opSub, opMul, opDiv, opMod, opPow, DL.opI, DL.opI0, opB0, opLt, opLe, opGt, opGtD, opLtD, opGe, opEq, opNe, opIs, opIsN, isNone, opIn, opNotIn, opIx, atD_0, atD_1, atD_2, atD_3, putD_0, unNeg, tCa1, tCa2, tCaL1, caLen, caAbs, caMax2, caMin2, caSum, caMax, caMin, caSumT, caMaxT, caMinT, caAll, caTuple, caList, caInt, tIsi, isInt, isBool, isStr, isTuple, isList, notDict, sAsg, gSet, gTupD, gsNil, gsCons, sPar, pNil, pD, pL, setAll, tCallD, aNil, aV, aO, argS, oixs, ndp, putO, tOpL, opCat, opRep, tSlD, slD, tSlL, oNo, oE, tRevD, iLstD, iTupD, iRange1, iRange2, iZipD, iZipM, finO, tTrue, Option.map, eqv_int, eqv_bool, eqv_none, shaped_int, shaped_bool, shaped_none, tLenRange, tSortSet, tLenSet, tCountL, tCountT, tIndexL, tIndexT, DL.tOrT, DL.tAndT, DL.tNotT, tSortRev, caSorted, iEnumL, iEnumT, decide_eq_true_eq, and_self, List.cons_append, List.nil_append, List.replicate, List.getElem?_cons_zero, List.getElem?_cons_succ, List.set_cons_zero, List.set_cons_succ, List.length_cons, List.length_nil, true_and, and_true, if_true, if_false, Bool.false_eq_true, List.contains_nil, Bool.not_false, Bool.not_true, Bool.and_self, Bool.and_true, Bool.true_and, decide_true, decide_false, beq_self_eq_true])
/-! ### _law_bent -/
/-- n deep at most, each row of 1000 at most -/
def bnd : Nat → D → Bool
  | _, .none => true
  | _, .bool _ => true
  | _, .int _ => true
  | _, .str x => PyData.strOk x && decide (x.length ≤ 1000)
  | n + 1, .tuple ds => ds.all (bnd n) && decide (ds.length ≤ 1000)
  | n + 1, .list ds => ds.all (bnd n) && decide (ds.length ≤ 1000)
  | _, _ => false
end DL
set_option Elab.async false
set_option linter.all false
set_option maxRecDepth 100000
set_option maxHeartbeats 4000000
namespace DL
open PySem PySem.Spec PyProof.Rows L2
local macro_rules | `(tactic| walk_at "dl") => `(tactic| simp only [tV, tVr, tFzV, turnD, DL.wipeE, tK, tOpD, tUnD, tBo, tAndD, tOrD, tNotD, tIfE, DL.tAndV, DL.tOrV, DL.tNotV, tTru, truD, okLen, sSet, sSetL, sExpr, sRet, sIf, sNx, tTupD, dNil, dCons, tLstD, tFzD, tApp, tExtd, tPopAt, sSetIx, tIxO, tChainD, tChain3D, tRevT, caStr, opRepT, opAdd, opSub, opMul, opDiv, opMod, opPow, DL.opI, DL.opI0, opB0, opLt, opLe, opGt, opGtD, opLtD, opGe, opEq, opNe, opIs, opIsN, isNone, opIn, opNotIn, opIx, atD_0, atD_1, atD_2, atD_3, putD_0, unNeg, tCa1, tCa2, tCaL1, caLen, caAbs, caMax2, caMin2, caSum, caMax, caMin, caSumT, caMaxT, caMinT, caAll, caTuple, caList, caInt, tIsi, isInt, isBool, isStr, isTuple, isList, notDict, sAsg, gSet, gTupD, gsNil, gsCons, sPar, pNil, pD, pL, setAll, tCallD, aNil, aV, aO, argS, oixs, ndp, putO, tOpL, opCat, opRep, tSlD, slD, tSlL, oNo, oE, tRevD, iLstD, iTupD, iRange1, iRange2, iZipD, iZipM, finO, tTrue, Option.map, eqv_int, eqv_bool, eqv_none, shaped_int, shaped_bool, shaped_none, tLenRange, tSortSet, tLenSet, tLenSetP, tSortSetP, tCountL, tCountT, tIndexL, tIndexT, DL.tOrT, DL.tAndT, DL.tNotT, tSortRev, caSorted, iEnumL, iEnumT, decide_eq_true_eq, and_self, List.cons_append, List.nil_append, List.replicate, List.getElem?_cons_zero, List.getElem?_cons_succ, List.set_cons_zero, List.set_cons_succ, List.length_cons, List.length_nil, true_and, and_true, if_true, if_false, Bool.false_eq_true, List.contains_nil, Bool.not_false, Bool.not_true, Bool.and_self, Bool.and_true, Bool.true_and, decide_true, decide_false, beq_self_eq_true])
def tb_law_mixed (sp_law_draw : SpD) : TSd :=
  sSeq (sPar [3, 4] (pL (tCaL1 caList (tV 2)) (pL (tLstD (dNil)) (pNil))))
      (sSeq (sWhile (tTru (tVr 3)) (sExpr (tApp 4 (tPopAt 3 (tCallD sp_law_draw (aV (tV 0) (aO 1 (aV (tCa1 caLen (tVr 3)) (aNil)))))))))
      (sRet (tFzV 4)))
def tb_law_all_cards : TSd :=
  sSeq (sSetL 1 (tLstD (dNil)))
      (sSeq (sFor (iRange1 (tK (.int 4))) (gSet 2) (sExpr (tExtd 1 (tComp (iRange2 (tK (.int 1)) (tOpD opAdd (tV 0) (tK (.int 1)))) (gSet 3) (tTrue) (tTupD (dCons (tV 2) (dCons (tV 3) (dNil)))) [3]))))
      (sRet (tFzV 1)))
def tb_law_drawn_deal (sp_law_all_cards : SpD) (sp_law_mixed : SpD) : TSd :=
  sSeq (sSet 3 (tCallD sp_law_mixed (aV (tV 0) (aO 1 (aV (tCallD sp_law_all_cards (aV (tV 2) (aNil))) (aNil))))))
      (sRet (tCa1 caTuple (tFzD (tComp (iRange1 (tK (.int 4))) (gSet 4) (tTrue) (tCa1 caTuple (tFzD (tCaL1 caSorted (tFzD (tSlL (tV 3) (oE (tOpD opMul (tV 4) (tV 2))) (oE (tOpD opAdd (tOpD opMul (tV 4) (tV 2)) (tV 2)))))))) [4]))))
/-! cards: a card is a pair of ints -/
abbrev Card := Int × Int
def cE (b : Card) : D := .tuple [.int b.1, .int b.2]
theorem sh_cE (n : Nat) (b : Card) : shOk (n + 1) (cE b) = true := by cases n <;> rfl
def handD (h : List Card) : D := .tuple (h.map cE)
def allC (R : Nat) : List Card := (List.range 4).flatMap fun s : Nat => (List.range R).map fun r : Nat => ((s : Int), (r : Int) + 1)
theorem allC_len (R : Nat) : (allC R).length = 4 * R := by
  unfold allC
  simp [List.range_succ]
  omega
theorem range_1 (n : Nat) : rangeD 1 n = (List.range n).map fun i : Nat => PyData.int ((i : Int) + 1) := by
  unfold rangeD; exact List.map_congr_left fun i _ => by rw [Int.add_comm]
/-! ### _law_mixed -/
def spMixed : SpD := fun ss Q => ∃ (ns : List Int) (t xs : List D) (b : Nat), ss = [.d (.list (ns.map PyData.int)), .ol t, .d (.list xs)] ∧ ns.length ≤ 63 ∧ xs.length ≤ 1000 ∧ TownOk t b ∧ b ≤ 9000000 ∧
  ∀ ys t', ys.Perm xs → TownOk t' (b + 2 * xs.length) → Q (.list ys) [.ol t']
theorem sh_law_mixed : ∀ ss QD, spMixed ss QD → ss.length = 3 ∧ mpos 0 ss = [1] := by rintro ss QD ⟨ns, t, xs, b, rfl, _⟩; exact ⟨rfl, rfl⟩
theorem perm_pop {xs ys rest : List D} {i : Nat} {y : D} (h : (ys ++ rest).Perm xs) (hi : rest[i]? = some y) : ((ys ++ [y]) ++ rest.eraseIdx i).Perm xs := by
  refine List.Perm.trans ?_ h
  rw [List.append_assoc]
  refine List.Perm.append_left ys ?_
  exact L2.erase_perm rest i y hi
theorem rd_law_mixed : ∀ ss QD, spMixed ss QD → tb_law_mixed spDraw { nx := fun E' => finO [1] E' (QD .none), rt := fun d E' => finO [1] E' (QD d) } (ss ++ List.replicate 2 .un) := by
  rintro ss QD ⟨ns, t, xs, b, rfl, hn, hx, ht, hb, q⟩
  unfold tb_law_mixed
  refine seq_step fun R hR => ?_
  walk_at "dl"
  refine ⟨small_line (by decide), hR _ ?_⟩
  refine seq_step fun R hR => ?_
  refine ⟨fun m E => ∃ t ys rest, E = [.d (.list (ns.map PyData.int)), .ol t, .d (.list xs), .ol rest, .ol ys] ∧ (ys ++ rest).Perm xs ∧ m = rest.length ∧ TownOk t (b + 2 * ys.length), ⟨_, t, [], xs, rfl, List.Perm.refl _, rfl, ht⟩, fun m E hE => ?_⟩
  obtain ⟨t, ys, rest, rfl, hp, rfl, ht⟩ := hE
  have hlen := hp.length_eq
  rw [List.length_append] at hlen
  walk_at "dl"
  refine ifB (fun e => ?_) (fun e => ?_)
  · have hr : 0 < rest.length := by
      cases rest with
      | nil => simp at e
      | cons a l => simp
    refine ⟨ns, t, _, _, rfl, by omega, hn, ht, by omega, fun r t2 r0 r1 ht2 => ?_⟩
    walk_at "dl"
    refine ⟨⟨r0, by omega, by omega⟩, fun y hy => ⟨?_, rest.length - 1, by omega, t2, ys ++ [y], rest.eraseIdx r.toNat, rfl, perm_pop hp hy, ?_, ht2.mono (by rw [List.length_append]; simp; omega)⟩⟩
    · exact Nat.lt_of_lt_of_le (show ys.length < 10000 by omega) (small_line (by decide))
    · rw [List.length_eraseIdx_of_lt (by omega)]
  · have hr : rest = [] := by
      cases rest with
      | nil => rfl
      | cons a l => simp at e
    subst hr
    rw [List.append_nil] at hp
    refine hR _ ?_
    walk_at "dl"
    exact q ys t hp (ht.mono (by rw [hp.length_eq]; exact Nat.le_refl _))
/-! ### _law_all_cards -/
def spAllC : SpD := fun ss Q => ∃ R : Nat, ss = [.d (.int R)] ∧ R ≤ 100 ∧ Q (.list ((allC R).map cE)) []
theorem sh_law_all_cards : ∀ ss QD, spAllC ss QD → ss.length = 1 ∧ mpos 0 ss = [] := by rintro ss QD ⟨R, rfl, _⟩; exact ⟨rfl, rfl⟩
def cardsTo (R n : Nat) : List Card := (List.range n).flatMap fun s : Nat => (List.range R).map fun r : Nat => ((s : Int), (r : Int) + 1)
theorem cardsTo_succ (R n : Nat) : cardsTo R (n + 1) = cardsTo R n ++ (List.range R).map fun r : Nat => ((n : Int), (r : Int) + 1) := by
  unfold cardsTo
  rw [show List.range (n + 1) = List.range n ++ [n] from List.range_succ, List.flatMap_append]; simp
theorem cardsTo_len (R n : Nat) : (cardsTo R n).length = n * R := by
  induction n with
  | zero => simp [cardsTo]
  | succ n ih => rw [cardsTo_succ, List.length_append, ih]; simp [Nat.add_mul]
theorem rd_law_all_cards : ∀ ss QD, spAllC ss QD → tb_law_all_cards { nx := fun E' => finO [] E' (QD .none), rt := fun d E' => finO [] E' (QD d) } (ss ++ List.replicate 3 .un) := by
  rintro ss QD ⟨RR, rfl, hRR, q⟩
  unfold tb_law_all_cards
  refine seq_step fun R hR => ?_
  walk_at "dl"
  refine ⟨small_line (by decide), hR _ ?_⟩
  refine seq_step fun R hR => ?_
  refine for_inv (ds := rangeD 0 4) (E1 := [.d (.int RR), .ol [], .un, .un]) (fun Q h => ⟨⟨by decide, by decide⟩, h⟩)
    (fun i E => ∃ a2, E = [.d (.int RR), .ol ((cardsTo RR i).map cE), a2, .un]) ⟨_, rfl⟩ (fun i d E hd hE R2 hR2 => ?_) (fun E hE => ?_)
  · obtain ⟨a2, rfl⟩ := hE
    have hi : i < 4 := by have := (List.getElem?_eq_some_iff.mp hd).1; rwa [rangeD_length] at this
    rw [rangeD_get hi] at hd
    cases hd
    walk_at "dl"
    refine comp_map (E1 := [.d (.int RR), .ol ((cardsTo RR i).map cE), .d (.int (0 + (i : Int))), .un]) (List.range RR) (fun s : Nat => .int ((s : Int) + 1)) (fun s : Nat => cE (0 + (i : Int), (s : Int) + 1)) (fun Q h => ⟨⟨by decide, by decide, by omega, by omega⟩, by rw [show ((RR : Int) + 1 - 1).toNat = RR by omega, range_1]; exact h⟩) (un1 rfl) (by rw [List.length_range]; exact small_line (by omega)) (fun x hx R hq => ?_) ?_
    · exact ⟨small_line (by simp), hq _ rfl⟩
    · refine ⟨?_, hR2 _ ⟨.d (.int (0 + (i : Int))), ?_⟩⟩
      · rw [List.length_map, cardsTo_len, List.length_map, List.length_range]
        have : i * RR ≤ 3 * RR := Nat.mul_le_mul_right _ (by omega)
        exact small_line (by omega)
      · rw [cardsTo_succ, List.map_append, List.map_map, Int.zero_add]; rfl
  · obtain ⟨a2, rfl⟩ := hE
    rw [rangeD_length]
    exact hR _ q
/-! ### sorted hands -/
def le2 (p q : Card) : Bool := decide (p.1 < q.1 ∨ (p.1 = q.1 ∧ p.2 ≤ q.2))
def sortC (h : List Card) : List Card := h.mergeSort le2
theorem le2_total : PySem.W.TotalLe le2 := by
  constructor
  · intro a b c h1 h2
    have h1 := of_decide_eq_true h1
    have h2 := of_decide_eq_true h2
    exact decide_eq_true (by omega)
  · intro a b
    unfold le2
    by_cases h : a.1 < b.1 ∨ (a.1 = b.1 ∧ a.2 ≤ b.2)
    · exact .inl (decide_eq_true h)
    · exact .inr (decide_eq_true (by omega))
theorem sortC_perm (h : List Card) : (sortC h).Perm h := List.mergeSort_perm _ _
theorem sortC_up (h : List Card) : (sortC h).Pairwise fun a b => le2 a b = true := PySem.W.sort_pairwise le2_total h
theorem sort_cards (h : List Card) : sortD false (h.map cE) = (sortC h).map cE := by
  unfold sortD sortC
  refine (PySem.W.sort_maps (r := le2) (s := PySem.W.dataLe false fun d : D => d) cE fun a _ b _ => ?_).symm
  have := congrFun (congrFun (PySem.W.dataLe_ii (β := Card) (fun b => b.1) (fun b => b.2)) a) b
  exact this.symm
theorem sortOk_cards (h : List Card) : sortOk (h.map cE) := by
  refine ⟨fun d hd e he => ?_, .inl fun d hd => ?_, fun d hd => ?_⟩
  · obtain ⟨a, _, rfl⟩ := List.mem_map.mp hd
    obtain ⟨b, _, rfl⟩ := List.mem_map.mp he
    rfl
  · obtain ⟨a, _, rfl⟩ := List.mem_map.mp hd
    exact ⟨_, _, rfl⟩
  · obtain ⟨a, _, rfl⟩ := List.mem_map.mp hd
    simp [cE, PyData.depth, PyData.depthAll, PyData.canLay0, PyData.canLayAll0]
theorem perm_map_inv {α β : Type} {f : α → β} {l m : List β} (h : l.Perm m) : ∀ xs : List α, m = xs.map f → ∃ zs : List α, zs.Perm xs ∧ l = zs.map f := by
  induction h with
  | nil => intro xs e; exact ⟨xs, List.Perm.refl _, e⟩
  | cons x h ih =>
    intro xs e
    cases xs with
    | nil => cases e
    | cons y ys =>
      rw [List.map_cons] at e
      injection e with e1 e2
      obtain ⟨zs, h1, h2⟩ := ih ys e2
      exact ⟨y :: zs, h1.cons y, by rw [List.map_cons, e1, h2]⟩
  | swap x y l =>
    intro xs e
    match xs, e with
    | a :: b :: r, e =>
      rw [List.map_cons, List.map_cons] at e
      injection e with e1 e2
      injection e2 with e2 e3
      exact ⟨b :: a :: r, List.Perm.swap _ _ _, by rw [List.map_cons, List.map_cons, e1, e2, e3]⟩
  | trans h1 h2 ih1 ih2 =>
    intro xs e
    obtain ⟨zs, p1, e1⟩ := ih2 xs e
    obtain ⟨ws, p2, e2⟩ := ih1 zs e1
    exact ⟨ws, p2.trans p1, e2⟩
def cutH (zs : List Card) (R i : Nat) : List Card := (zs.take (i * R + R)).drop (i * R)
theorem cutH_len {zs : List Card} {R i : Nat} (hz : zs.length = 4 * R) (hi : i < 4) : (cutH zs R i).length = R := by
  unfold cutH
  have : i * R + R ≤ 4 * R := by rw [show i * R + R = (i + 1) * R by rw [Nat.add_mul]; omega]; exact Nat.mul_le_mul_right _ (by omega)
  rw [List.length_drop, List.length_take]; omega
theorem cutH_all {zs : List Card} {R : Nat} (hz : zs.length = 4 * R) : cutH zs R 0 ++ cutH zs R 1 ++ cutH zs R 2 ++ cutH zs R 3 = zs := by
  unfold cutH
  have e0 : (zs.take (0 * R + R)).drop (0 * R) = zs.take R := by simp
  have step : ∀ n : Nat, zs.take n ++ (zs.take (n + R)).drop n = zs.take (n + R) := fun n => by
    rw [List.drop_take, Nat.add_sub_cancel_left, List.take_add]
  rw [e0]
  have s1 := step R
  have s2 := step (R + R)
  have s3 := step (R + R + R)
  rw [show 1 * R = R by omega, show 2 * R = R + R by omega, show 3 * R = R + R + R by omega, s1, s2, s3, List.take_of_length_le (by omega)]
/-! ### _law_drawn_deal -/
def dealD (h0 h1 h2 h3 : List Card) : D := .tuple [handD h0, handD h1, handD h2, handD h3]
structure Deal (R : Nat) (h0 h1 h2 h3 : List Card) : Prop where
  l0 : h0.length = R
  l1 : h1.length = R
  l2 : h2.length = R
  l3 : h3.length = R
  u0 : h0.Pairwise fun a b => le2 a b = true
  u1 : h1.Pairwise fun a b => le2 a b = true
  u2 : h2.Pairwise fun a b => le2 a b = true
  u3 : h3.Pairwise fun a b => le2 a b = true
  all : (h0 ++ h1 ++ h2 ++ h3).Perm (allC R)
def spDeal : SpD := fun ss Q => ∃ (ns : List Int) (t : List D) (R b : Nat), ss = [.d (.list (ns.map PyData.int)), .ol t, .d (.int R)] ∧ R ≤ 100 ∧ ns.length ≤ 63 ∧ TownOk t b ∧ b ≤ 9000000 ∧
  ∀ h0 h1 h2 h3 t', Deal R h0 h1 h2 h3 → TownOk t' (b + 8 * R) → Q (dealD h0 h1 h2 h3) [.ol t']
theorem sh_law_drawn_deal : ∀ ss QD, spDeal ss QD → ss.length = 3 ∧ mpos 0 ss = [1] := by rintro ss QD ⟨ns, t, R, b, rfl, _⟩; exact ⟨rfl, rfl⟩
theorem rd_law_drawn_deal : ∀ ss QD, spDeal ss QD → tb_law_drawn_deal spAllC spMixed { nx := fun E' => finO [1] E' (QD .none), rt := fun d E' => finO [1] E' (QD d) } (ss ++ List.replicate 2 .un) := by
  rintro ss QD ⟨ns, t, RR, b, rfl, hRR, hn, ht, hb, q⟩
  unfold tb_law_drawn_deal
  refine seq_step fun R hR => ?_
  walk_at "dl"
  refine ⟨RR, rfl, hRR, ?_⟩
  walk_at "dl"
  refine ⟨ns, t, _, b, rfl, hn, by rw [List.length_map, allC_len]; omega, ht, hb, fun ys t2 hp ht2 => ?_⟩
  walk_at "dl"
  refine hR _ ?_
  obtain ⟨zs, hz, rfl⟩ := perm_map_inv hp _ rfl
  have hzl : zs.length = 4 * RR := by rw [hz.length_eq, allC_len]
  walk_at "dl"
  refine comp_map (E1 := [.d (.list (ns.map PyData.int)), .ol t2, .d (.int RR), .d (.list (zs.map cE)), .un]) (List.range 4) (fun i : Nat => .int (i : Int)) (fun i : Nat => handD (sortC (cutH zs RR i))) (fun Q h => ⟨⟨by decide, by decide⟩, by rw [show (4 : Int).toNat = 4 from rfl, show rangeD 0 4 = (List.range 4).map fun i : Nat => PyData.int (i : Int) from rfl]; exact h⟩) (un1 rfl) (small_line (by decide)) (fun i hi R hq => ?_) ?_
  · have hi := List.mem_range.mp hi
    have hm : (i : Int) * (RR : Int) = ((i * RR : Nat) : Int) := by simp
    have hb1 : i * RR ≤ 300 := Nat.le_trans (Nat.mul_le_mul_right _ (show i ≤ 3 by omega)) (by omega)
    walk_at "dl"
    refine ⟨cmul_small (by omega) (by omega), cmul_small (by omega) (by omega), ?_⟩
    rw [hm, cut_mid (by omega) (by omega), Int.toNat_natCast, show (((i * RR : Nat) : Int) + (RR : Int)).toNat = i * RR + RR by omega, ← List.map_take, ← List.map_drop]
    refine ⟨sortOk_cards _, ?_⟩
    rw [sort_cards]
    exact hq _ rfl
  · refine q (sortC (cutH zs RR 0)) (sortC (cutH zs RR 1)) (sortC (cutH zs RR 2)) (sortC (cutH zs RR 3)) t2 ⟨?_, ?_, ?_, ?_, sortC_up _, sortC_up _, sortC_up _, sortC_up _, ?_⟩ (ht2.mono (by rw [List.length_map, allC_len]; omega))
    · rw [(sortC_perm _).length_eq, cutH_len hzl (by decide)]
    · rw [(sortC_perm _).length_eq, cutH_len hzl (by decide)]
    · rw [(sortC_perm _).length_eq, cutH_len hzl (by decide)]
    · rw [(sortC_perm _).length_eq, cutH_len hzl (by decide)]
    · refine List.Perm.trans ?_ hz
      have := cutH_all hzl
      exact ((((sortC_perm _).append (sortC_perm _)).append (sortC_perm _)).append (sortC_perm _)).trans (by rw [this])
end DL
set_option Elab.async false
set_option linter.all false
set_option maxRecDepth 100000
set_option maxHeartbeats 4000000
/-! FnPlaysT: plays (plain). -/
namespace DL
open PySem PySem.Spec PyProof.Rows L2
theorem snoc_indP {α : Type} {P : List α → Prop} (h0 : P []) (hs : ∀ l a, P l → P (l ++ [a])) : ∀ l, P l := by
  intro l
  have : ∀ r : List α, P r.reverse := by
    intro r
    induction r with
    | nil => exact h0
    | cons a r ih => rw [List.reverse_cons]; exact hs _ _ ih
  rw [← List.reverse_reverse l]; exact this _
/-! ### who wins a trick -/
def cAt (tr : List Card) (i : Nat) : Card := tr.getD i (0, 0)
def beat (st : Int) (tr : List Card) (b i : Nat) : Bool := decide (((cAt tr i).1 = (cAt tr b).1 ∧ (cAt tr b).2 < (cAt tr i).2) ∨ ((cAt tr i).1 = st ∧ (cAt tr b).1 ≠ st))
def winTo (st : Int) (tr : List Card) : Nat → Nat
  | 0 => 0
  | n + 1 => if beat st tr (winTo st tr n) (n + 1) = true then n + 1 else winTo st tr n
def winI (st : Int) (tr : List Card) : Nat := winTo st tr 3
theorem winTo_le (st : Int) (tr : List Card) : ∀ n, winTo st tr n ≤ n
  | 0 => Nat.le_refl _
  | n + 1 => by
    have := winTo_le st tr n
    unfold winTo; split <;> omega
theorem cAt_get {tr : List Card} {i : Nat} (h : i < tr.length) : tr[i]? = some (cAt tr i) := by
  unfold cAt; rw [List.getD_eq_getElem?_getD, List.getElem?_eq_getElem h]; rfl
/-! ### trick by trick -/
/-- who leads, the cards of the trick that goes on, the tricks won -/
structure Stand where
  ld : Int
  tr : List Card
  w0 : Int
  w1 : Int
def upW (s : Stand) (l : Int) : Stand := ⟨l, [], if l % 2 = 0 then s.w0 + 1 else s.w0, if l % 2 = 0 then s.w1 else s.w1 + 1⟩
/-- a card more -/
def stepP (st : Int) (s : Stand) (c : Card) : Stand := if (s.tr ++ [c]).length = 4 then upW s ((s.ld + winI st (s.tr ++ [c])) % 4) else { s with tr := s.tr ++ [c] }
def walkP (st ld : Int) (cs : List Card) : Stand := cs.foldl (stepP st) ⟨ld, [], 0, 0⟩
theorem walk_snoc (st ld : Int) (cs : List Card) (c : Card) : walkP st ld (cs ++ [c]) = stepP st (walkP st ld cs) c := by unfold walkP; rw [List.foldl_append]; rfl
theorem walk_tr (st ld : Int) (cs : List Card) : (walkP st ld cs).tr = cs.drop (cs.length / 4 * 4) := by
  refine snoc_indP (P := fun cs => (walkP st ld cs).tr = cs.drop (cs.length / 4 * 4)) rfl (fun cs c ih => ?_) cs
  rw [walk_snoc]
  unfold stepP
  rw [ih, List.length_append, List.length_drop, List.length_cons, List.length_nil, List.length_append, List.length_cons, List.length_nil]
  split
  · rename_i h
    show [] = _
    rw [List.drop_of_length_le (by rw [List.length_append, List.length_cons, List.length_nil]; omega)]
  · rename_i h
    show cs.drop _ ++ [c] = _
    rw [show (cs.length + 1) / 4 * 4 = cs.length / 4 * 4 by omega, List.drop_append_of_le_length (by omega)]
end DL
set_option Elab.async false
set_option linter.all false
set_option maxRecDepth 100000
set_option maxHeartbeats 4000000
namespace DL
open PySem PySem.Spec PyProof.Rows L2
local macro_rules | `(tactic| walk_at "dl") => `(tactic| simp only [tV, tVr, tFzV, turnD, DL.wipeE, tK, tOpD, tUnD, tBo, tAndD, tOrD, tNotD, tIfE, DL.tAndV, DL.tOrV, DL.tNotV, tTru, truD, okLen, sSet, sSetL, sExpr, sRet, sIf, sNx, tTupD, dNil, dCons, tLstD, tFzD, tApp, tExtd, tPopAt, sSetIx, tIxO, tChainD, tChain3D, tRevT, caStr, opRepT, opAdd, opSub, opMul, opDiv, opMod, opPow, DL.opI, DL.opI0, opB0, opLt, opLe, opGt, opGtD, opLtD, opGe, opEq, opNe, opIs, opIsN, isNone, opIn, opNotIn, opIx, atD_0, atD_1, atD_2, atD_3, putD_0, unNeg, tCa1, tCa2, tCaL1, caLen, caAbs, caMax2, caMin2, caSum, caMax, caMin, caSumT, caMaxT, caMinT, caAll, caTuple, caList, caInt, tIsi, isInt, isBool, isStr, isTuple, isList, notDict, sAsg, gSet, gTupD, gsNil, gsCons, sPar, pNil, pD, pL, setAll, tCallD, aNil, aV, aO, argS, oixs, ndp, putO, tOpL, opCat, opRep, tSlD, slD, tSlL, oNo, oE, tRevD, iLstD, iTupD, iRange1, iRange2, iZipD, iZipM, finO, tTrue, Option.map, eqv_int, eqv_bool, eqv_none, shaped_int, shaped_bool, shaped_none, tLenRange, tSortSet, tLenSet, tLenSetP, tSortSetP, tCountL, tCountT, tIndexL, tIndexT, DL.tOrT, DL.tAndT, DL.tNotT, tSortRev, caSorted, iEnumL, iEnumT, decide_eq_true_eq, and_self, List.cons_append, List.nil_append, List.replicate, List.getElem?_cons_zero, List.getElem?_cons_succ, List.set_cons_zero, List.set_cons_succ, List.length_cons, List.length_nil, true_and, and_true, if_true, if_false, Bool.false_eq_true, List.contains_nil, Bool.not_false, Bool.not_true, Bool.and_self, Bool.and_true, Bool.true_and, decide_true, decide_false, beq_self_eq_true])
def tb_winner_of : TSd :=
  sSeq (sSet 3 (tK (.int 0)))
      (sSeq (sFor (iRange2 (tK (.int 1)) (tK (.int 4))) (gSet 4) (sSeq (sAsg (tOpD opIx (tV 2) (tV 4)) (gTupD 2 (gsCons (gSet 5) (gsCons (gSet 6) (gsNil)))))
      (sIf (tOrD (tAndD (tBo (tOpD opEq (tV 5) (tOpD opIx (tOpD opIx (tV 2) (tV 3)) (tK (.int 0))))) (tBo (tOpD opGt (tV 6) (tOpD opIx (tOpD opIx (tV 2) (tV 3)) (tK (.int 1)))))) (tAndD (tBo (tOpD opEq (tV 5) (tV 0))) (tBo (tOpD opNe (tOpD opIx (tOpD opIx (tV 2) (tV 3)) (tK (.int 0))) (tV 0))))) (sSet 3 (tV 4)) (sNx))))
      (sRet (tOpD opMod (tOpD opAdd (tV 1) (tV 3)) (tK (.int 4)))))
def tb_walked (sp_winner_of : SpD) : TSd :=
  sSeq (sSetL 3 (tLstD (dCons (tK (.int 0)) (dCons (tK (.int 0)) (dNil)))))
      (sSeq (sFor (iRange3 (tK (.int 0)) (tOpD opSub (tCa1 caLen (tV 2)) (tK (.int 3))) (tK (.int 4))) (gSet 4) (sSeq (sSet 1 (tCallD sp_winner_of (aV (tV 0) (aV (tV 1) (aV (tSlD (tV 2) (oE (tV 4)) (oE (tOpD opAdd (tV 4) (tK (.int 4))))) (aNil))))))
      (sSetIx 3 (tOpD opMod (tV 1) (tK (.int 2))) (tOpD opAdd (tIxO 3 (tOpD opMod (tV 1) (tK (.int 2)))) (tK (.int 1))))))
      (sRet (tTupD (dCons (tV 1) (dCons (tSlD (tV 2) (oE (tOpD opMul (tOpD opDiv (tCa1 caLen (tV 2)) (tK (.int 4))) (tK (.int 4)))) (oNo)) (dCons (tCa1 caTuple (tVr 3)) (dNil)))))))
def tb_left_of : TSd :=
  sRet (tCa1 caTuple (tFzD (tComp (iTupD (tV 0)) (gSet 2) (tTrue) (tCa1 caTuple (tFzD (tComp (iTupD (tV 2)) (gSet 3) (tBo (tOpD opNotIn (tV 3) (tV 1))) (tV 3) [3]))) [2])))
def tb_turn_of (sp_walked : SpD) : TSd :=
  sSeq (sIf (tBo (tOpD opEq (tCa1 caLen (tV 3)) (tOpD opMul (tK (.int 4)) (tCa1 caLen (tOpD opIx (tV 0) (tK (.int 0))))))) (sRet (tK .none)) (sNx))
      (sSeq (sAsg (tCallD sp_walked (aV (tV 1) (aV (tV 2) (aV (tV 3) (aNil))))) (gTupD 3 (gsCons (gSet 4) (gsCons (gSet 5) (gsCons (gSet 6) (gsNil))))))
      (sRet (tOpD opMod (tOpD opAdd (tV 4) (tCa1 caLen (tV 5))) (tK (.int 4)))))
def tb_may_play (sp_walked : SpD) (sp_left_of : SpD) (sp_turn_of : SpD) : TSd :=
  sSeq (sSet 4 (tCallD sp_turn_of (aV (tV 0) (aV (tV 1) (aV (tV 2) (aV (tV 3) (aNil)))))))
      (sSeq (sIf (tBo (tOpD opIs (tV 4) (tK .none))) (sRet (tTupD (dNil))) (sNx))
      (sSeq (sSet 5 (tOpD opIx (tCallD sp_left_of (aV (tV 0) (aV (tV 3) (aNil)))) (tV 4)))
      (sSeq (sSet 6 (tOpD opIx (tCallD sp_walked (aV (tV 1) (aV (tV 2) (aV (tV 3) (aNil))))) (tK (.int 1))))
      (sSeq (sSet 7 (tCa1 caTuple (tFzD (tComp (iTupD (tV 5)) (gSet 8) (tAndD (tTru (tV 6)) (tBo (tOpD opEq (tOpD opIx (tV 8) (tK (.int 0))) (tOpD opIx (tOpD opIx (tV 6) (tK (.int 0))) (tK (.int 0)))))) (tV 8) [8]))))
      (sRet (tOrT (tV 7) (tV 5)))))))
def tb_tricks_of (sp_walked : SpD) : TSd :=
  sRet (tOpD opIx (tCallD sp_walked (aV (tV 0) (aV (tV 1) (aV (tV 2) (aNil))))) (tK (.int 2)))
/-! ### winner_of -/
def spWin : SpD := fun ss Q => ∃ (st ld : Int) (tr : List Card), ss = [.d (.int st), .d (.int ld), .d (handD tr)] ∧ tr.length = 4 ∧ Q (.int ((ld + (winI st tr : Int)) % 4)) []
theorem sh_winner_of : ∀ ss QD, spWin ss QD → ss.length = 3 ∧ mpos 0 ss = [] := by rintro ss QD ⟨_, _, _, rfl, _⟩; exact ⟨rfl, rfl⟩
theorem at_card {tr : List Card} {i : Int} {Q : D → Prop} (h0 : 0 ≤ i) (h : i.toNat < tr.length) (q : Q (cE (cAt tr i.toNat))) : atD (tr.map cE) i Q :=
  atD_at h0 (by rw [List.getElem?_map, cAt_get h]; rfl) q
theorem rd_winner_of : ∀ ss QD, spWin ss QD → tb_winner_of { nx := fun E' => finO [] E' (QD .none), rt := fun d E' => finO [] E' (QD d) } (ss ++ List.replicate 4 .un) := by
  rintro ss QD ⟨st, ld, tr, rfl, h4, q⟩
  unfold tb_winner_of handD
  refine seq_step fun R hR => ?_
  walk_at "dl"
  refine hR _ ?_
  refine seq_step fun R hR => ?_
  refine for_inv (ds := rangeD 1 3) (E1 := [.d (.int st), .d (.int ld), .d (.tuple (tr.map cE)), .d (.int 0), .un, .un, .un]) (fun Q h => ⟨⟨by decide, by decide⟩, h⟩)
    (fun i E => ∃ a4 a5 a6, E = [.d (.int st), .d (.int ld), .d (.tuple (tr.map cE)), .d (.int ((winTo st tr i : Nat) : Int)), a4, a5, a6]) ⟨_, _, _, rfl⟩ (fun i d E hd hE R2 hR2 => ?_) (fun E hE => ?_)
  · obtain ⟨a4, a5, a6, rfl⟩ := hE
    have hi : i < 3 := by have := (List.getElem?_eq_some_iff.mp hd).1; rwa [rangeD_length] at this
    rw [rangeD_get hi] at hd
    cases hd
    have hw := winTo_le st tr i
    refine seq_step fun R3 hR3 => ?_
    walk_at "dl"
    refine at_card (by omega) (by omega) ?_
    rw [show (1 + (i : Int)).toNat = i + 1 by omega]
    refine ⟨rfl, hR3 _ ?_⟩
    have nx : (if beat st tr (winTo st tr i) (i + 1) = true then i + 1 else winTo st tr i) = winTo st tr (i + 1) := rfl
    have yes : beat st tr (winTo st tr i) (i + 1) = true → R2 [.d (.int st), .d (.int ld), .d (.tuple (tr.map cE)), .d (.int (1 + (i : Int))), .d (.int (1 + (i : Int))), .d (.int (cAt tr (i + 1)).1), .d (.int (cAt tr (i + 1)).2)] := fun h => by
      rw [if_pos h] at nx
      refine hR2 _ ⟨.d (.int (1 + (i : Int))), .d (.int (cAt tr (i + 1)).1), .d (.int (cAt tr (i + 1)).2), ?_⟩
      rw [← nx, show (((i + 1 : Nat) : Nat) : Int) = 1 + (i : Int) by omega]
    have no : beat st tr (winTo st tr i) (i + 1) = false → R2 [.d (.int st), .d (.int ld), .d (.tuple (tr.map cE)), .d (.int ((winTo st tr i : Nat) : Int)), .d (.int (1 + (i : Int))), .d (.int (cAt tr (i + 1)).1), .d (.int (cAt tr (i + 1)).2)] := fun h => by
      rw [h, if_neg Bool.false_ne_true] at nx
      refine hR2 _ ⟨.d (.int (1 + (i : Int))), .d (.int (cAt tr (i + 1)).1), .d (.int (cAt tr (i + 1)).2), ?_⟩
      rw [← nx]
    unfold beat at yes no
    generalize winTo st tr i = b at hw yes no ⊢
    have atb : ∀ {Q : D → Prop}, Q (.tuple [.int (cAt tr b).1, .int (cAt tr b).2]) → atD (tr.map cE) ((b : Nat) : Int) Q := fun {Q} h => at_card (by omega) (by omega) (by rw [Int.toNat_natCast]; exact h)
    walk_at "dl"
    refine atb ?_
    walk_at "dl"
    by_cases g1 : (cAt tr (i + 1)).1 = (cAt tr b).1
    · rw [if_pos g1]
      refine atb ?_
      walk_at "dl"
      by_cases g2 : (cAt tr b).2 < (cAt tr (i + 1)).2
      · rw [if_pos g2]
        exact yes (decide_eq_true (.inl ⟨g1, g2⟩))
      · rw [if_neg g2]
        by_cases g3 : (cAt tr (i + 1)).1 = st
        · rw [if_pos g3]
          refine atb ?_
          walk_at "dl"
          rw [decide_eq_true (show (cAt tr b).1 = st by omega)]
          exact ifF rfl (no (decide_eq_false (by omega)))
        · rw [if_neg g3]
          exact no (decide_eq_false (by omega))
    · rw [if_neg g1]
      by_cases g3 : (cAt tr (i + 1)).1 = st
      · rw [if_pos g3]
        refine atb ?_
        walk_at "dl"
        by_cases g4 : (cAt tr b).1 = st
        · rw [decide_eq_true g4]
          exact ifF rfl (no (decide_eq_false (by omega)))
        · rw [decide_eq_false g4]
          exact ifT rfl (yes (decide_eq_true (.inr ⟨g3, g4⟩)))
      · rw [if_neg g3]
        exact no (decide_eq_false (by omega))
  · obtain ⟨a4, a5, a6, rfl⟩ := hE
    refine hR _ ?_
    rw [rangeD_length]
    walk_at "dl"
    exact ⟨by decide, q⟩
theorem rg_up {n c : Nat} (hc : 1 ≤ c) (hc' : c ≤ 5) (b : Int) (hb : -1000000 ≤ b) (hb' : b ≤ 1000000) (h : (if 0 < b then (b - 1) / (c : Int) + 1 else 0) = (n : Int)) : RgC 0 b (c : Int) n := by
  have hs : Builtin.Range.rangeSize 0 b (c : Int) = n := by
    unfold Builtin.Range.rangeSize
    rw [if_pos (by omega)]
    rw [← h]
    simp
  refine ⟨by omega, by omega, ?_, hs⟩
  unfold Builtin.Range.small
  rw [hs]
  have hn : (n : Int) ≤ 1000001 := by
    rw [← h]
    split
    · have := Int.ediv_le_self (a := b - 1) (c : Int) (by omega)
      omega
    · omega
  simp only [Builtin.Range.rangeFitsLong, Bool.and_eq_true, Bool.or_eq_true, decide_eq_true_eq, beq_iff_eq]
  rw [if_pos (by omega : (c : Int) > 0)]
  simp only [Bool.and_eq_true, decide_eq_true_eq]
  omega
theorem rgc4 {n : Nat} (h : n ≤ 1000) : RgC 0 ((n : Int) - 3) 4 (n / 4) := rg_up (c := 4) (by decide) (by decide) _ (by omega) (by omega) (by split <;> omega)
/-! ### walked, left_of, turn_of, may_play, tricks_of -/
def standD (s : Stand) : D := .tuple [.int s.ld, .tuple (s.tr.map cE), .tuple [.int s.w0, .int s.w1]]
theorem block4 {cs : List Card} {k : Nat} (h : 4 * k + 4 ≤ cs.length) : ((cs.take (4 * k + 4)).drop (4 * k)).length = 4 ∧ cs.take (4 * k + 4) = cs.take (4 * k) ++ (cs.take (4 * k + 4)).drop (4 * k) := by
  refine ⟨by rw [List.length_drop, List.length_take]; omega, ?_⟩
  have := List.take_append_drop (4 * k) (cs.take (4 * k + 4))
  rw [List.take_take, show min (4 * k) (4 * k + 4) = 4 * k by omega] at this
  exact this.symm
theorem walk_four (st : Int) (s : Stand) (hs : s.tr = []) {bl : List Card} (h : bl.length = 4) : bl.foldl (stepP st) s = upW s ((s.ld + (winI st bl : Int)) % 4) := by
  match bl, h with
  | [a, b, c, d], _ =>
    obtain ⟨ld, tr, w0, w1⟩ := s
    simp only at hs
    subst hs
    rfl
theorem walk_block (st ld : Int) {cs : List Card} {k : Nat} (h : 4 * k + 4 ≤ cs.length) : walkP st ld (cs.take (4 * k + 4)) = upW (walkP st ld (cs.take (4 * k))) (((walkP st ld (cs.take (4 * k))).ld + (winI st ((cs.take (4 * k + 4)).drop (4 * k)) : Int)) % 4) := by
  obtain ⟨h1, h2⟩ := block4 h
  have e : walkP st ld (cs.take (4 * k + 4)) = ((cs.take (4 * k + 4)).drop (4 * k)).foldl (stepP st) (walkP st ld (cs.take (4 * k))) := by
    conv => lhs; rw [h2]
    unfold walkP
    rw [List.foldl_append]
  rw [e]
  refine walk_four st _ ?_ h1
  rw [walk_tr, List.drop_of_length_le (by rw [List.length_take]; omega)]
theorem walk_few (st : Int) (s : Stand) : ∀ (cs : List Card), s.tr.length + cs.length < 4 → cs.foldl (stepP st) s = { s with tr := s.tr ++ cs }
  | [], _ => by rw [List.append_nil]; rfl
  | c :: cs, h => by
    rw [List.length_cons] at h
    have e : stepP st s c = { s with tr := s.tr ++ [c] } := by
      unfold stepP; rw [if_neg (by rw [List.length_append, List.length_cons, List.length_nil]; omega)]
    rw [List.foldl_cons, e, walk_few st _ cs (by rw [List.length_append, List.length_cons, List.length_nil]; omega)]
    simp
theorem walk_all (st ld : Int) (cs : List Card) : walkP st ld cs = { walkP st ld (cs.take (cs.length / 4 * 4)) with tr := cs.drop (cs.length / 4 * 4) } := by
  have e : walkP st ld cs = (cs.drop (cs.length / 4 * 4)).foldl (stepP st) (walkP st ld (cs.take (cs.length / 4 * 4))) := by
    conv => lhs; rw [← List.take_append_drop (cs.length / 4 * 4) cs]
    unfold walkP
    rw [List.foldl_append]
  have ht : (walkP st ld (cs.take (cs.length / 4 * 4))).tr = [] := by rw [walk_tr, List.drop_of_length_le (by rw [List.length_take]; omega)]
  rw [e, walk_few _ _ _ (by rw [ht, List.length_drop, List.length_nil]; omega), ht, List.nil_append]
def spWalked : SpD := fun ss Q => ∃ (st ld : Int) (cs : List Card), ss = [.d (.int st), .d (.int ld), .d (handD cs)] ∧ cs.length ≤ 1000 ∧ Q (standD (walkP st ld cs)) []
theorem sh_walked : ∀ ss QD, spWalked ss QD → ss.length = 3 ∧ mpos 0 ss = [] := by rintro ss QD ⟨_, _, _, rfl, _⟩; exact ⟨rfl, rfl⟩
theorem rd_walked : ∀ ss QD, spWalked ss QD → tb_walked spWin { nx := fun E' => finO [] E' (QD .none), rt := fun d E' => finO [] E' (QD d) } (ss ++ List.replicate 2 .un) := by
  rintro ss QD ⟨st, ld, cs, rfl, hl, q⟩
  unfold tb_walked handD
  refine seq_step fun R hR => ?_
  walk_at "dl"
  refine ⟨small_line (by decide), hR _ ?_⟩
  refine seq_step fun R hR => ?_
  refine for_inv (ds := rangeCD 0 4 (cs.length / 4)) (E1 := [.d (.int st), .d (.int ld), .d (.tuple (cs.map cE)), .ol [.int 0, .int 0], .un]) (fun Q h => ?_)
    (fun i E => ∃ a4, E = [.d (.int st), .d (.int (walkP st ld (cs.take (4 * i))).ld), .d (.tuple (cs.map cE)), .ol [.int (walkP st ld (cs.take (4 * i))).w0, .int (walkP st ld (cs.take (4 * i))).w1], a4]) ⟨_, rfl⟩ (fun i d E hd hE R2 hR2 => ?_) (fun E hE => ?_)
  · show ∃ n : Nat, RgC 0 (((cs.map cE).length : Int) - 3) 4 n ∧ Q (rangeCD 0 4 n) _
    rw [List.length_map]
    exact ⟨cs.length / 4, rgc4 (by omega), h⟩
  · obtain ⟨a4, rfl⟩ := hE
    have hi : i < cs.length / 4 := by have := (List.getElem?_eq_some_iff.mp hd).1; simpa [rangeCD] using this
    have ed : d = .int (4 * (i : Int)) := by
      have : (rangeCD 0 4 (cs.length / 4))[i]? = some (.int (0 + (i : Int) * 4)) := by simp [rangeCD, hi]
      rw [this] at hd
      cases hd
      congr 1; omega
    subst ed
    have h4 : 4 * i + 4 ≤ cs.length := by omega
    refine seq_step fun R3 hR3 => ?_
    walk_at "dl"
    rw [cut_mid (by omega) (by omega), show (4 * (i : Int) + 4).toNat = 4 * i + 4 by omega, show (4 * (i : Int)).toNat = 4 * i by omega, ← List.map_take, ← List.map_drop]
    refine ⟨st, _, _, rfl, (block4 h4).1, ?_⟩
    walk_at "dl"
    refine hR3 _ ?_
    have hb := walk_block st ld h4
    rw [show 4 * i + 4 = 4 * (i + 1) by omega] at hb ⊢
    generalize walkP st ld (cs.take (4 * i)) = s at hb ⊢
    generalize hl' : (s.ld + (winI st ((cs.take (4 * (i + 1))).drop (4 * i)) : Int)) % 4 = l at hb ⊢
    walk_at "dl"
    have hm : l % 2 = 0 ∨ l % 2 = 1 := by omega
    refine ⟨by decide, ?_⟩
    rcases hm with hm | hm
    · rw [hm]
      rw [atD_0]
      refine ⟨by decide, ?_⟩
      rw [putD_0]
      refine hR2 _ ⟨.d (.int (4 * (i : Int))), ?_⟩
      rw [hb]
      unfold upW
      rw [if_pos hm, if_pos hm]
    · rw [hm]
      rw [atD_1]
      refine ⟨by decide, putD_at (by decide) (by simp) ?_⟩
      refine hR2 _ ⟨.d (.int (4 * (i : Int))), ?_⟩
      rw [hb]
      unfold upW
      rw [if_neg (by omega), if_neg (by omega)]
      rfl
  · obtain ⟨a4, rfl⟩ := hE
    refine hR _ ?_
    have e := walk_all st ld cs
    rw [show (rangeCD 0 4 (cs.length / 4)).length = cs.length / 4 by simp [rangeCD], show 4 * (cs.length / 4) = cs.length / 4 * 4 by omega]
    rw [e] at q
    generalize walkP st ld (cs.take (cs.length / 4 * 4)) = s at q ⊢
    walk_at "dl"
    rw [List.length_map]
    refine ⟨cdiv_small (by decide) (by decide), cmul_small (by omega) (by decide), ?_⟩
    rw [cut_from (by omega), show ((cs.length : Int) / 4 * 4).toNat = cs.length / 4 * 4 by omega, ← List.map_drop]
    exact ⟨small_line (by decide), q⟩
def leftF (hs : List (List Card)) (cs : List Card) : List (List Card) := hs.map fun h => h.filter fun c => decide (c ∉ cs)
def dealT (hs : List (List Card)) : D := .tuple (hs.map handD)
theorem eqv_cE (a b : Card) : PyData.eqv (cE a) (cE b) = decide (a = b) := by
  unfold cE
  rw [eqv_tup]
  simp only [PyData.eqvAll, eqv_int, Bool.and_true]
  by_cases h : a = b
  · subst h; simp
  · rw [decide_eq_false h]
    by_cases h1 : a.1 = b.1
    · rw [decide_eq_true h1, Bool.true_and]
      exact decide_eq_false fun h2 => h (Prod.ext h1 h2)
    · rw [decide_eq_false h1, Bool.false_and]
theorem any_cE (xs : List Card) (c : Card) : ((xs.map cE).any fun z => PyData.eqv z (cE c)) = decide (c ∈ xs) := by
  rw [List.any_map, Bool.eq_iff_iff, List.any_eq_true, decide_eq_true_eq]
  constructor
  · rintro ⟨x, hx, h⟩
    have h : PyData.eqv (cE x) (cE c) = true := h
    rw [eqv_cE] at h
    rw [← of_decide_eq_true h]; exact hx
  · intro h
    refine ⟨c, h, ?_⟩
    show PyData.eqv (cE c) (cE c) = true
    rw [eqv_cE]; exact decide_eq_true rfl
theorem sh_hand (h : List Card) : shOk 2 (.tuple (h.map cE)) = true := by rw [shOk_tup]; exact all_enc (sh_cE 0) h
def spLeft : SpD := fun ss Q => ∃ (hs : List (List Card)) (cs : List Card), ss = [.d (dealT hs), .d (handD cs)] ∧ hs.length ≤ 1000 ∧ (∀ h ∈ hs, h.length ≤ 1000) ∧ Q (dealT (leftF hs cs)) []
theorem sh_left_of : ∀ ss QD, spLeft ss QD → ss.length = 2 ∧ mpos 0 ss = [] := by rintro ss QD ⟨_, _, rfl, _⟩; exact ⟨rfl, rfl⟩
theorem rd_left_of : ∀ ss QD, spLeft ss QD → tb_left_of { nx := fun E' => finO [] E' (QD .none), rt := fun d E' => finO [] E' (QD d) } (ss ++ List.replicate 2 .un) := by
  rintro ss QD ⟨hs, cs, rfl, hl, hh, q⟩
  unfold tb_left_of dealT handD
  refine comp_map (E1 := [.d (.tuple (hs.map handD)), .d (.tuple (cs.map cE)), .un, .un]) hs handD (fun h => handD (h.filter fun c => decide (c ∉ cs))) (fun Q h => h) (un1 rfl) (small_line (by omega)) (fun h hm R2 hq => ?_) ?_
  · refine comp_filter (E1 := [.d (.tuple (hs.map handD)), .d (.tuple (cs.map cE)), .d (.tuple (h.map cE)), .un]) h cE (fun c => decide (c ∉ cs)) cE (fun Q h => h) (un1 rfl) (small_line (by have := hh h hm; omega)) (fun c hc R3 hq3 => ?_) ?_
    · refine ⟨⟨shaped_of (n := 1) (sh_cE 0 c), shaped_of (n := 2) (sh_hand cs)⟩, ?_⟩
      show if (!(cs.map cE).any fun z => PyData.eqv z (cE c)) = true then R3 (some (cE c)) _ else R3 none _
      rw [any_cE]
      by_cases g : c ∈ cs
      · rw [decide_eq_true g]
        rw [decide_eq_false (fun h => h g)] at hq3
        exact ifF rfl (hq3 _ rfl)
      · rw [decide_eq_false g]
        rw [decide_eq_true g] at hq3
        exact ifT rfl (hq3 _ rfl)
    · exact hq _ rfl
  · have e : hs.map (fun h => handD (h.filter fun c => decide (c ∉ cs))) = (leftF hs cs).map handD := by unfold leftF; rw [List.map_map]; rfl
    rw [e]
    exact q
/-! ### turn_of, tricks_of, may_play -/
def handAt (hs : List (List Card)) (p : Nat) : List Card := hs.getD p []
structure DealOk (R : Nat) (hs : List (List Card)) : Prop where
  four : hs.length = 4
  each : ∀ h ∈ hs, h.length = R
  lo : 1 ≤ R
  hi : R ≤ 13
theorem at_hand {hs : List (List Card)} {i : Int} {Q : D → Prop} (h0 : 0 ≤ i) (h : i.toNat < hs.length) (q : Q (handD (handAt hs i.toNat))) : atD (hs.map handD) i Q :=
  atD_at h0 (by rw [List.getElem?_map, List.getElem?_eq_getElem h]; unfold handAt; rw [List.getD_eq_getElem?_getD, List.getElem?_eq_getElem h]; rfl) q
theorem DealOk.at {R : Nat} {hs : List (List Card)} (h : DealOk R hs) {p : Nat} (hp : p < 4) : (handAt hs p).length = R := by
  have hl : p < hs.length := by rw [h.four]; exact hp
  unfold handAt
  rw [List.getD_eq_getElem?_getD, List.getElem?_eq_getElem hl]
  exact h.each _ (List.getElem_mem hl)
/-- who is to play -/
def turnP (st ld : Int) (cs : List Card) : Int := ((walkP st ld cs).ld + ((walkP st ld cs).tr.length : Int)) % 4
def turnN (R : Nat) (st ld : Int) (cs : List Card) : D := if cs.length = 4 * R then .none else .int (turnP st ld cs)
def spTurn : SpD := fun ss Q => ∃ (R : Nat) (hs : List (List Card)) (st ld : Int) (cs : List Card), ss = [.d (dealT hs), .d (.int st), .d (.int ld), .d (handD cs)] ∧ DealOk R hs ∧ cs.length ≤ 1000 ∧ Q (turnN R st ld cs) []
theorem sh_turn_of : ∀ ss QD, spTurn ss QD → ss.length = 4 ∧ mpos 0 ss = [] := by rintro ss QD ⟨_, _, _, _, _, rfl, _⟩; exact ⟨rfl, rfl⟩
theorem rd_turn_of : ∀ ss QD, spTurn ss QD → tb_turn_of spWalked { nx := fun E' => finO [] E' (QD .none), rt := fun d E' => finO [] E' (QD d) } (ss ++ List.replicate 3 .un) := by
  rintro ss QD ⟨R0, hs, st, ld, cs, rfl, hd, hl, q⟩
  have h4 := hd.four
  have hlo := hd.hi
  have h0 := hd.at (p := 0) (by decide)
  unfold tb_turn_of dealT
  unfold turnN at q
  refine seq_step fun R hR => ?_
  walk_at "dl"
  refine at_hand (by decide) (by rw [h4]; decide) ?_
  unfold handD
  walk_at "dl"
  rw [List.length_map, List.length_map, show Int.toNat 0 = 0 from rfl, h0]
  refine ⟨cmul_small (by decide) (by omega), ?_⟩
  by_cases g : cs.length = 4 * R0
  · rw [if_pos g] at q
    rw [if_pos (by omega)]
    exact q
  · rw [if_neg g] at q
    rw [if_neg (by omega)]
    refine hR _ ?_
    refine seq_step fun R hR => ?_
    walk_at "dl"
    refine ⟨st, ld, cs, rfl, hl, ?_⟩
    unfold standD
    walk_at "dl"
    refine hR _ ?_
    walk_at "dl"
    rw [List.length_map]
    exact ⟨by decide, q⟩
def spTricks : SpD := fun ss Q => ∃ (st ld : Int) (cs : List Card), ss = [.d (.int st), .d (.int ld), .d (handD cs)] ∧ cs.length ≤ 1000 ∧ Q (.tuple [.int (walkP st ld cs).w0, .int (walkP st ld cs).w1]) []
theorem sh_tricks_of : ∀ ss QD, spTricks ss QD → ss.length = 3 ∧ mpos 0 ss = [] := by rintro ss QD ⟨_, _, _, rfl, _⟩; exact ⟨rfl, rfl⟩
theorem rd_tricks_of : ∀ ss QD, spTricks ss QD → tb_tricks_of spWalked { nx := fun E' => finO [] E' (QD .none), rt := fun d E' => finO [] E' (QD d) } (ss ++ List.replicate 0 .un) := by
  rintro ss QD ⟨st, ld, cs, rfl, hl, q⟩
  unfold tb_tricks_of handD
  walk_at "dl"
  refine ⟨st, ld, cs, rfl, hl, ?_⟩
  unfold standD
  walk_at "dl"
  exact q
/-- of these cards those that follow the trick, if there are some -/
def follows (h tr : List Card) : List Card := if (h.filter fun c => !tr.isEmpty && decide (c.1 = (cAt tr 0).1)) = [] then h else h.filter fun c => !tr.isEmpty && decide (c.1 = (cAt tr 0).1)
def mayF (hs : List (List Card)) (st ld : Int) (cs : List Card) : List Card := follows ((handAt hs (turnP st ld cs).toNat).filter fun c => decide (c ∉ cs)) (walkP st ld cs).tr
def spMayP : SpD := fun ss Q => ∃ (R : Nat) (hs : List (List Card)) (st ld : Int) (cs : List Card), ss = [.d (dealT hs), .d (.int st), .d (.int ld), .d (handD cs)] ∧ DealOk R hs ∧ cs.length ≤ 1000 ∧ Q (if cs.length = 4 * R then .tuple [] else handD (mayF hs st ld cs)) []
theorem sh_may_play : ∀ ss QD, spMayP ss QD → ss.length = 4 ∧ mpos 0 ss = [] := by rintro ss QD ⟨_, _, _, _, _, rfl, _⟩; exact ⟨rfl, rfl⟩
theorem turnP_bd (st ld : Int) (cs : List Card) : 0 ≤ turnP st ld cs ∧ turnP st ld cs < 4 := by unfold turnP; omega
theorem left_at {hs : List (List Card)} {cs : List Card} {p : Nat} (hp : p < hs.length) : handAt (leftF hs cs) p = (handAt hs p).filter fun c => decide (c ∉ cs) := by
  unfold handAt leftF
  rw [List.getD_eq_getElem?_getD, List.getElem?_map, List.getD_eq_getElem?_getD, List.getElem?_eq_getElem hp]
  rfl
theorem rd_may_play : ∀ ss QD, spMayP ss QD → tb_may_play spWalked spLeft spTurn { nx := fun E' => finO [] E' (QD .none), rt := fun d E' => finO [] E' (QD d) } (ss ++ List.replicate 5 .un) := by
  rintro ss QD ⟨R0, hs, st, ld, cs, rfl, hd, hl, q⟩
  have h4 := hd.four
  have hhi := hd.hi
  unfold tb_may_play dealT handD
  refine seq_step fun R hR => ?_
  walk_at "dl"
  refine ⟨R0, hs, st, ld, cs, rfl, hd, hl, ?_⟩
  unfold turnN
  by_cases g : cs.length = 4 * R0
  · rw [if_pos g] at q ⊢
    refine hR _ ?_
    refine seq_step fun R hR => ?_
    walk_at "dl"
    exact ⟨small_line (by decide), q⟩
  · rw [if_neg g] at q ⊢
    refine hR _ ?_
    refine seq_step fun R hR => ?_
    walk_at "dl"
    refine hR _ ?_
    have tb := turnP_bd st ld cs
    have tl : (turnP st ld cs).toNat < hs.length := by omega
    refine seq_step fun R hR => ?_
    walk_at "dl"
    refine ⟨hs, cs, rfl, by omega, fun h hh => by have := hd.each h hh; omega, ?_⟩
    unfold dealT
    walk_at "dl"
    refine at_hand tb.1 (by unfold leftF; rw [List.length_map]; exact tl) ?_
    rw [left_at tl]
    refine hR _ ?_
    generalize hH : (handAt hs (turnP st ld cs).toNat).filter (fun c => decide (c ∉ cs)) = H
    have hHl : H.length ≤ 13 := by
      have h1 := hd.at (p := (turnP st ld cs).toNat) (by omega)
      have h2 : H.length ≤ (handAt hs (turnP st ld cs).toNat).length := by rw [← hH]; exact List.length_filter_le _ _
      omega
    refine seq_step fun R hR => ?_
    walk_at "dl"
    refine ⟨st, ld, cs, rfl, hl, ?_⟩
    unfold standD
    walk_at "dl"
    refine hR _ ?_
    unfold mayF at q
    rw [hH] at q
    generalize (walkP st ld cs).tr = tr at q ⊢
    refine seq_step fun R hR => ?_
    unfold handD
    refine comp_filter (E1 := [.d (.tuple (hs.map handD)), .d (.int st), .d (.int ld), .d (.tuple (cs.map cE)), .d (.int (turnP st ld cs)), .d (.tuple (H.map cE)), .d (.tuple (tr.map cE)), .un, .un]) H cE (fun c => !tr.isEmpty && decide (c.1 = (cAt tr 0).1)) cE (fun Q h => h) (un1 rfl) (small_line (by omega)) (fun c hc R3 hq3 => ?_) ?_
    · cases tr with
      | nil => exact ⟨trivial, hq3 _ rfl⟩
      | cons a l =>
        have hq3 : ∀ E', wipeE E' [8] = wipeE [.d (.tuple (hs.map handD)), .d (.int st), .d (.int ld), .d (.tuple (cs.map cE)), .d (.int (turnP st ld cs)), .d (.tuple (H.map cE)), .d (.tuple ((a :: l).map cE)), .un, .un] [8] → R3 (if decide (c.1 = a.1) = true then some (cE c) else none) E' := hq3
        simp only [List.map_cons]
        have ea : ∀ x : Card, cE x = .tuple [.int x.1, .int x.2] := fun _ => rfl
        rw [ea a, ea c]
        walk_at "dl"
        by_cases g : c.1 = a.1
        · rw [decide_eq_true g] at hq3
          have := hq3 [.d (.tuple (hs.map handD)), .d (.int st), .d (.int ld), .d (.tuple (cs.map cE)), .d (.int (turnP st ld cs)), .d (.tuple (H.map cE)), .d (.tuple ((a :: l).map cE)), .un, .d (cE c)] rfl
          rw [if_pos g]
          exact this
        · rw [decide_eq_false g] at hq3
          have := hq3 [.d (.tuple (hs.map handD)), .d (.int st), .d (.int ld), .d (.tuple (cs.map cE)), .d (.int (turnP st ld cs)), .d (.tuple (H.map cE)), .d (.tuple ((a :: l).map cE)), .un, .d (cE c)] rfl
          rw [if_neg g]
          exact this
    refine hR _ ?_
    walk_at "dl"
    unfold follows at q
    generalize (H.filter fun c => !tr.isEmpty && decide (c.1 = (cAt tr 0).1)) = F at q ⊢
    cases F with
    | nil =>
      rw [if_pos rfl] at q
      exact q
    | cons a l =>
      rw [if_neg (List.cons_ne_nil _ _)] at q
      exact q
/-! ### _law_trick_won, _law_walk -/
end DL
set_option Elab.async false
set_option linter.all false
set_option maxRecDepth 100000
set_option maxHeartbeats 4000000
namespace DL
open PySem PySem.Spec PyProof.Rows L2
local macro_rules | `(tactic| walk_at "dl") => `(tactic| simp only [tV, tVr, tFzV, turnD, DL.wipeE, tK, tOpD, tUnD, tBo, tAndD, tOrD, tNotD, tIfE, DL.tAndV, DL.tOrV, DL.tNotV, tTru, truD, okLen, sSet, sSetL, sExpr, sRet, sIf, sNx, tTupD, dNil, dCons, tLstD, tFzD, tApp, tExtd, tPopAt, sSetIx, tIxO, tChainD, tChain3D, tRevT, caStr, opRepT, opAdd, opSub, opMul, opDiv, opMod, opPow, DL.opI, DL.opI0, opB0, opLt, opLe, opGt, opGtD, opLtD, opGe, opEq, opNe, opIs, opIsN, isNone, opIn, opNotIn, opIx, atD_0, atD_1, atD_2, atD_3, putD_0, unNeg, tCa1, tCa2, tCaL1, caLen, caAbs, caMax2, caMin2, caSum, caMax, caMin, caSumT, caMaxT, caMinT, caAll, caTuple, caList, caInt, tIsi, isInt, isBool, isStr, isTuple, isList, notDict, sAsg, gSet, gTupD, gsNil, gsCons, sPar, pNil, pD, pL, setAll, tCallD, aNil, aV, aO, argS, oixs, ndp, putO, tOpL, opCat, opRep, tSlD, slD, tSlL, oNo, oE, tRevD, iLstD, iTupD, iRange1, iRange2, iZipD, iZipM, finO, tTrue, Option.map, eqv_int, eqv_bool, eqv_none, shaped_int, shaped_bool, shaped_none, tLenRange, tSortSet, tLenSet, tLenSetP, tSortSetP, tCountL, tCountT, tIndexL, tIndexT, DL.tOrT, DL.tAndT, DL.tNotT, tSortRev, caSorted, iEnumL, iEnumT, decide_eq_true_eq, and_self, List.cons_append, List.nil_append, List.replicate, List.getElem?_cons_zero, List.getElem?_cons_succ, List.set_cons_zero, List.set_cons_succ, List.length_cons, List.length_nil, true_and, and_true, if_true, if_false, Bool.false_eq_true, List.contains_nil, Bool.not_false, Bool.not_true, Bool.and_self, Bool.and_true, Bool.true_and, decide_true, decide_false, beq_self_eq_true])
/-! ### _law_may_play -/
/-! ### plays that may be made -/
inductive PReach (R : Nat) (hs : List (List Card)) (st ld : Int) : List Card → Prop
  | nil : PReach R hs st ld []
  | snoc {cs : List Card} {c : Card} : PReach R hs st ld cs → cs.length < 4 * R → c ∈ mayF hs st ld cs → PReach R hs st ld (cs ++ [c])
theorem mayF_sub {hs : List (List Card)} {st ld : Int} {cs : List Card} {c : Card} (h : c ∈ mayF hs st ld cs) : c ∈ handAt hs (turnP st ld cs).toNat ∧ c ∉ cs := by
  have key : c ∈ (handAt hs (turnP st ld cs).toNat).filter fun c => decide (c ∉ cs) := by
    unfold mayF follows at h
    split at h
    · exact h
    · exact (List.mem_filter.mp h).1
  exact ⟨(List.mem_filter.mp key).1, of_decide_eq_true (List.mem_filter.mp key).2⟩
theorem PReach.nodup {R : Nat} {hs : List (List Card)} {st ld : Int} {cs : List Card} (h : PReach R hs st ld cs) : cs.Nodup := by
  induction h with
  | nil => exact List.nodup_nil
  | snoc _ _ hc ih => exact List.nodup_append.mpr ⟨ih, by simp, fun a ha b hb e => by rw [List.mem_singleton.mp hb] at e; subst e; exact (mayF_sub hc).2 ha⟩
theorem PReach.len {R : Nat} {hs : List (List Card)} {st ld : Int} {cs : List Card} (h : PReach R hs st ld cs) : cs.length ≤ 4 * R := by
  induction h with
  | nil => exact Nat.zero_le _
  | snoc _ hl _ _ => rw [List.length_append, List.length_cons, List.length_nil]; omega
/-- each card lies in one hand, once -/
structure Apart (hs : List (List Card)) : Prop where
  one : ∀ p q c, c ∈ handAt hs p → c ∈ handAt hs q → p = q
  nd : ∀ p, (handAt hs p).Nodup
theorem tr_len (st ld : Int) (cs : List Card) : (walkP st ld cs).tr.length = cs.length % 4 := by rw [walk_tr, List.length_drop]; omega
end DL
set_option Elab.async false
set_option linter.all false
set_option maxRecDepth 100000
set_option maxHeartbeats 1000000
/-! FnTabT: tables, plain Lean. -/
namespace DL
open PySem PySem.Spec PyProof.Rows L2
open Call
structure Cont where
  l : Int
  s : Int
  t : Int
  p : Int
def Cont.enc (c : Cont) : D := .tuple [.int c.l, .int c.s, .int c.t, .int c.p]
def Cont.ld (c : Cont) : Int := (c.p + 1) % 4
def contr (dealer : Int) (cs : List Call) : Option Cont := if isOver cs = true then match lastIx isBid cs, lastC isBid cs with
  | some b, some c => some ⟨(bidOf c).1, (bidOf c).2, timesP cs b, (dealer + firstIx cs (bidOf c).2 b) % 4⟩
  | _, _ => none
  else none
def oEnc : Option Cont → D
  | some c => c.enc
  | none => .none
theorem contr_enc (dealer : Int) (cs : List Call) : (if isOver cs = true then contrD dealer cs else .none) = oEnc (contr dealer cs) := by
  unfold contr contrD
  by_cases h : isOver cs = true
  · rw [if_pos h, if_pos h]
    cases lastIx isBid cs <;> cases lastC isBid cs <;> rfl
  · rw [if_neg h, if_neg h]; rfl
structure Tst where
  cs : List Call
  ps : List Card
  cl : Option Int
def optI : Option Int → D
  | some n => .int n
  | none => .none
def Tst.enc (s : Tst) : D := .tuple [rowD s.cs, handD s.ps, optI s.cl]
inductive Deed where
  | call (c : Call)
  | play (c : Card)
  | claim (n : Int)
def Deed.enc : Deed → D
  | .call c => .tuple [.str "call", c.enc]
  | .play c => .tuple [.str "play", cE c]
  | .claim n => .tuple [.str "claim", .int n]
def pairE (p : Tst × Deed) : D := .tuple [p.1.enc, p.2.enc]
structure Tab where
  R : Nat
  hs : List (List Card)
  dealer : Int
  r0 : Bool
  r1 : Bool
  st : Tst
  done : List (Tst × Deed)
  undone : List (Tst × Deed)
def Tab.fs (t : Tab) : List (Str × FS) := [("ranks", .d (.int t.R)), ("deal", .d (dealT t.hs)), ("dealer", .d (.int t.dealer)), ("risk", .d (.tuple [.bool t.r0, .bool t.r1])), ("state", .d t.st.enc), ("done", .l (t.done.map pairE)), ("undone", .l (t.undone.map pairE))]
def Tab.L (t : Tab) : Nat := t.R - (t.R - 1) / 2
theorem Tab.levels (t : Tab) (h : 1 ≤ t.R) : (t.R : Int) - bookF t.R = (t.L : Int) := by unfold bookF Tab.L; omega
def Tab.con (t : Tab) : Option Cont := contr t.dealer t.st.cs
inductive Stg where
  | calls
  | play
  | fin
deriving DecidableEq
def Stg.enc : Stg → D
  | .calls => .str "calls"
  | .play => .str "play"
  | .fin => .str "end"
def Tab.stage (t : Tab) : Stg := if isOver t.st.cs = true then (if t.con.isNone = true ∨ t.st.cl.isSome = true ∨ t.st.ps.length = 4 * t.R then .fin else .play) else .calls
def Tab.turn (t : Tab) : D := match t.stage, t.con with
  | .calls, _ => .int ((t.dealer + (t.st.cs.length : Int)) % 4)
  | .play, some c => .int (turnP c.s c.ld t.st.ps)
  | _, _ => .none
def Tab.may (t : Tab) : D := match t.stage, t.con with
  | .calls, _ => rowD (mayP t.L t.st.cs)
  | .play, some c => handD (mayF t.hs c.s c.ld t.st.ps)
  | _, _ => .tuple []
/-- the tricks of both sides -/
def Tab.won (t : Tab) : Int × Int := match t.con with
  | none => (0, 0)
  | some c => match t.st.cl with
    | none => ((walkP c.s c.ld t.st.ps).w0, (walkP c.s c.ld t.st.ps).w1)
    | some n => if c.p % 2 = 0 then (n, t.R - n) else (t.R - n, n)
def Tab.tricks (t : Tab) : D := .tuple [.int t.won.1, .int t.won.2]
def sideOf (p : Int × Int) (i : Int) : Int := if i = 0 then p.1 else p.2
def Tab.paid (t : Tab) (c : Cont) : Int := if c.p % 2 = 0 then paidF t.R c.l c.s c.t t.r0 t.won.1 else -paidF t.R c.l c.s c.t t.r1 t.won.2
def Tab.score (t : Tab) : D := if t.stage = .fin then (match t.con with
  | none => .int 0
  | some c => .int (t.paid c)) else .none
inductive Err where
  | over
  | notNow
  | badCall
  | badCard
  | badClaim
  | nothing
deriving DecidableEq
def Tab.become (t : Tab) (s : Tst) (d : Deed) : Tab := { t with st := s, done := t.done ++ [(t.st, d)], undone := [] }
def Tab.must (t : Tab) : Option Err := if t.con.isNone = true then some .notNow else if t.stage = .fin then some .over else none
/-- the tricks that may be claimed -/
def Tab.okClaim (t : Tab) (c : Cont) (n : Int) : Bool := decide (sideOf t.won (c.p % 2) ≤ n ∧ n ≤ t.R - sideOf t.won (1 - c.p % 2))
def Tab.act (t : Tab) : Deed → Except Err Tab
  | .call c => if isOver t.st.cs = true then .error .over else if isCallD t.L c.enc = true ∧ c ∈ mayP t.L t.st.cs then .ok (t.become ⟨t.st.cs ++ [c], t.st.ps, t.st.cl⟩ (.call c)) else .error .badCall
  | .play c => match t.must with
    | some e => .error e
    | none => match t.con with
      | some k => if c ∈ mayF t.hs k.s k.ld t.st.ps then .ok (t.become ⟨t.st.cs, t.st.ps ++ [c], t.st.cl⟩ (.play c)) else .error .badCard
      | none => .error .notNow
  | .claim n => match t.must with
    | some e => .error e
    | none => match t.con with
      | some k => if t.okClaim k n = true then .ok (t.become ⟨t.st.cs, t.st.ps, some n⟩ (.claim n)) else .error .badClaim
      | none => .error .notNow
def Tab.back (t : Tab) : Except Err Tab := match t.done.getLast? with
  | some (s, d) => .ok { t with st := s, done := t.done.dropLast, undone := t.undone ++ [(t.st, d)] }
  | none => .error .nothing
def Tab.again (t : Tab) : Except Err Tab := match t.undone.getLast? with
  | some (s, d) => .ok { t with st := s, undone := t.undone.dropLast, done := t.done ++ [(t.st, d)] }
  | none => .error .nothing
/-! ### tables that came about -/
structure SOk (n : Nat) (t : Tab) (s : Tst) : Prop where
  rc : Reach t.L s.cs
  ln : s.cs.length ≤ n
  no : contr t.dealer s.cs = none → s.ps = [] ∧ s.cl = none
  pl : ∀ c, contr t.dealer s.cs = some c → PReach t.R t.hs c.s c.ld s.ps ∧ ∀ k, s.cl = some k → 0 ≤ k ∧ k ≤ t.R
structure TOk (n : Nat) (t : Tab) : Prop where
  dok : DealOk t.R t.hs
  ap : Apart t.hs
  d0 : 0 ≤ t.dealer
  d1 : t.dealer < 4
  st : SOk n t t.st
  done : ∀ p ∈ t.done, SOk n t p.1
  undone : ∀ p ∈ t.undone, SOk n t p.1
  len : t.done.length + t.undone.length ≤ n
theorem SOk.ps {n : Nat} {t : Tab} {s : Tst} (h : SOk n t s) : s.ps.length ≤ 4 * t.R := by
  cases e : contr t.dealer s.cs with
  | none => rw [(h.no e).1]; simp
  | some c => exact (h.pl c e).1.len
/-! ### contracts, tricks: bounds -/
theorem Reach.bidsIn {L : Nat} {cs : List Call} (h : Reach L cs) {l s : Int} (hb : Call.bid l s ∈ cs) : (l, s) ∈ allB L := by
  induction h with
  | nil => cases hb
  | snoc _ hc ih =>
    rcases List.mem_append.mp hb with z | z
    · exact ih z
    · rw [List.mem_singleton] at z
      subst z
      exact (bid_mayL hc).1
theorem contr_bd {L : Nat} {dealer : Int} {cs : List Call} {c : Cont} (h : Reach L cs) (e : contr dealer cs = some c) : (1 ≤ c.l ∧ c.l ≤ L ∧ 0 ≤ c.s ∧ c.s ≤ 4) ∧ (c.t = 1 ∨ c.t = 2 ∨ c.t = 4) ∧ 0 ≤ c.p ∧ c.p < 4 := by
  unfold contr at e
  split at e
  · split at e
    · rename_i b k h1 h2
      cases e
      rcases last_spec isBid cs with ⟨e1, e2, _⟩ | ⟨j, k', e1, e2, e3, e4⟩
      · rw [e1] at h1; cases h1
      · rw [e1] at h1; cases h1
        rw [e2] at h2; cases h2
        refine ⟨?_, ?_, by dsimp only; omega, by dsimp only; omega⟩
        · cases k with
          | bid l s => exact allB_pos (h.bidsIn (List.mem_of_getElem? e3))
          | _ => cases e4
        · dsimp only
          unfold timesP
          split
          · exact .inr (.inr rfl)
          · split
            · exact .inr (.inl rfl)
            · exact .inl rfl
    · cases e
  · cases e
theorem walk_sumT (st ld : Int) (cs : List Card) : (walkP st ld cs).w0 + (walkP st ld cs).w1 = ((cs.length / 4 : Nat) : Int) ∧ 0 ≤ (walkP st ld cs).w0 ∧ 0 ≤ (walkP st ld cs).w1 := by
  refine snoc_indP (P := fun cs => (walkP st ld cs).w0 + (walkP st ld cs).w1 = ((cs.length / 4 : Nat) : Int) ∧ 0 ≤ (walkP st ld cs).w0 ∧ 0 ≤ (walkP st ld cs).w1) ⟨rfl, Int.le_refl 0, Int.le_refl 0⟩ (fun cs c ih => ?_) cs
  have tl := tr_len st ld cs
  obtain ⟨i1, i2, i3⟩ := ih
  rw [walk_snoc, List.length_append, List.length_singleton]
  unfold stepP
  rw [List.length_append, List.length_singleton]
  split
  · unfold upW; dsimp only; split <;> exact ⟨by omega, by omega, by omega⟩
  · show (walkP st ld cs).w0 + (walkP st ld cs).w1 = _ ∧ 0 ≤ (walkP st ld cs).w0 ∧ 0 ≤ (walkP st ld cs).w1
    exact ⟨by omega, i2, i3⟩
theorem TOk.won {n : Nat} {t : Tab} (ok : TOk n t) : 0 ≤ t.won.1 ∧ 0 ≤ t.won.2 ∧ t.won.1 + t.won.2 ≤ t.R := by
  unfold Tab.won
  cases hc : t.con with
  | none => exact ⟨Int.le_refl 0, Int.le_refl 0, by show (0 : Int) + 0 ≤ _; omega⟩
  | some c =>
    cases hl : t.st.cl with
    | none =>
      have := walk_sumT c.s c.ld t.st.ps
      have h2 := ok.st.ps
      refine ⟨this.2.1, this.2.2, ?_⟩
      dsimp only
      rw [this.1]; omega
    | some k =>
      have := (ok.st.pl c hc).2 k hl
      dsimp only
      split <;> (dsimp only; omega)
theorem TOk.con {n : Nat} {t : Tab} {c : Cont} (ok : TOk n t) (hc : t.con = some c) {tr : Int} (h0 : 0 ≤ tr) (h1 : tr ≤ t.R) : Con t.R c.l c.s c.t tr := by
  obtain ⟨⟨a1, a2, a3, a4⟩, a5, _⟩ := contr_bd ok.st.rc hc
  have lo := ok.dok.lo
  have hi := ok.dok.hi
  have hL : t.L ≤ 13 := by unfold Tab.L; omega
  exact ⟨by omega, by omega, by omega, by omega, a3, a4, a5, h0, by omega⟩
theorem SOk.mono {n m : Nat} {t : Tab} {s : Tst} (h : SOk n t s) (hm : n ≤ m) : SOk m t s := ⟨h.rc, by have := h.ln; omega, h.no, h.pl⟩
/-- what a state asks of a table stays as long as the deal does -/
theorem SOk.of {n : Nat} {t u : Tab} {s : Tst} (h : SOk n t s) (h1 : u.R = t.R) (h2 : u.hs = t.hs) (h3 : u.dealer = t.dealer) : SOk n u s := by
  have hL : u.L = t.L := by unfold Tab.L; rw [h1]
  exact ⟨by rw [hL]; exact h.rc, h.ln, by rw [h3]; exact h.no, by rw [h1, h2, h3]; exact h.pl⟩
theorem TOk.mono {n m : Nat} {t : Tab} (h : TOk n t) (hm : n ≤ m) : TOk m t := ⟨h.dok, h.ap, h.d0, h.d1, h.st.mono hm, fun p hp => (h.done p hp).mono hm, fun p hp => (h.undone p hp).mono hm, by have := h.len; omega⟩
theorem TOk.become {n : Nat} {t : Tab} {s : Tst} {d : Deed} (h : TOk n t) (hs : SOk (n + 1) t s) : TOk (n + 1) (t.become s d) := by
  refine ⟨h.dok, h.ap, h.d0, h.d1, hs.of rfl rfl rfl, fun p hp => ?_, (fun p hp => by cases hp), ?_⟩
  · rcases List.mem_append.mp hp with z | z
    · exact ((h.done p z).mono (Nat.le_succ n)).of rfl rfl rfl
    · rw [List.mem_singleton] at z
      subst z
      exact (h.st.mono (Nat.le_succ n)).of rfl rfl rfl
  · have := h.len
    show (t.done ++ [(t.st, d)]).length + ([] : List (Tst × Deed)).length ≤ _
    rw [List.length_append, List.length_singleton, List.length_nil]; omega
theorem contr_open {dealer : Int} {cs : List Call} (h : isOver cs = false) : contr dealer cs = none := by unfold contr; rw [if_neg (by rw [h]; decide)]
/-- a deed that is done leaves a table that came about -/
theorem TOk.act {n : Nat} {t u : Tab} {d : Deed} (h : TOk n t) (e : t.act d = .ok u) : TOk (n + 1) u := by
  cases d with
  | call c =>
    simp only [Tab.act] at e
    split at e
    · cases e
    · rename_i ho
      split at e
      · rename_i hc
        cases e
        have ho : isOver t.st.cs = false := by simpa using ho
        have hn := h.st.no (contr_open ho)
        refine h.become ⟨.snoc h.st.rc (by rw [← may_eq h.st.rc.good]; exact hc.2), ?_, fun _ => hn, fun k hk => ?_⟩
        · have := h.st.ln; rw [List.length_append, List.length_singleton]; omega
        · dsimp only
          rw [hn.1, hn.2]
          exact ⟨.nil, fun k z => by cases z⟩
      · cases e
  | play c =>
    simp only [Tab.act] at e
    split at e
    · cases e
    · rename_i hm
      split at e
      · rename_i k hk
        split at e
        · rename_i hc
          cases e
          have hst : t.stage = .play := by
            unfold Tab.must at hm
            rw [hk] at hm
            rcases hcs : t.stage with _ | _ | _
            · exfalso
              have : t.con = none := by
                unfold Tab.stage at hcs
                split at hcs
                · split at hcs <;> cases hcs
                · rename_i ho; exact contr_open (by simpa using ho)
              rw [hk] at this; cases this
            · rfl
            · rw [hcs] at hm; simp at hm
          unfold Tab.stage at hst
          split at hst
          · split at hst
            · cases hst
            · rename_i hno
              rw [hk] at hno
              have hcl : t.st.cl = none := by
                cases q : t.st.cl with
                | none => rfl
                | some _ => exact absurd (.inr (.inl (by rw [q]; rfl))) hno
              have hl : t.st.ps.length ≠ 4 * t.R := fun z => hno (.inr (.inr z))
              have hps := h.st.ps
              refine h.become ⟨h.st.rc, by have := h.st.ln; dsimp only; omega, (fun z => by rw [show contr t.dealer t.st.cs = some k from hk] at z; cases z), fun k' hk' => ?_⟩
              rw [show contr t.dealer t.st.cs = some k from hk] at hk'
              cases hk'
              exact ⟨.snoc (h.st.pl k hk).1 (by omega) hc, (fun m z => by dsimp only at z; rw [hcl] at z; cases z)⟩
          · cases hst
        · cases e
      · cases e
  | claim m =>
    simp only [Tab.act] at e
    split at e
    · cases e
    · split at e
      · rename_i k hk
        split at e
        · rename_i hc
          cases e
          refine h.become ⟨h.st.rc, by have := h.st.ln; dsimp only; omega, (fun z => by rw [show contr t.dealer t.st.cs = some k from hk] at z; cases z), fun k' hk' => ⟨(h.st.pl k' hk').1, fun q z => ?_⟩⟩
          dsimp only at z
          cases z
          unfold Tab.okClaim at hc
          have hc := of_decide_eq_true hc
          have hw := h.won
          have : ∀ i, 0 ≤ sideOf t.won i := fun i => by unfold sideOf; split; exact hw.1; exact hw.2.1
          have h1 := this (k.p % 2)
          have h2 := this (1 - k.p % 2)
          omega
        · cases e
      · cases e
theorem TOk.back {n : Nat} {t u : Tab} (h : TOk n t) (e : t.back = .ok u) : TOk n u := by
  unfold Tab.back at e
  split at e
  · rename_i s d hl
    cases e
    have hm : (s, d) ∈ t.done := List.mem_of_getLast? hl
    refine ⟨h.dok, h.ap, h.d0, h.d1, (h.done _ hm).of rfl rfl rfl, fun p hp => (h.done p ((List.dropLast_sublist _).subset hp)).of rfl rfl rfl, fun p hp => ?_, ?_⟩
    · rcases List.mem_append.mp hp with z | z
      · exact (h.undone p z).of rfl rfl rfl
      · rw [List.mem_singleton] at z; subst z; exact h.st.of rfl rfl rfl
    · have := h.len
      have h0 : 0 < t.done.length := List.length_pos_of_mem hm
      show t.done.dropLast.length + (t.undone ++ [(t.st, d)]).length ≤ n
      rw [List.length_dropLast, List.length_append, List.length_singleton]; omega
  · cases e
theorem TOk.again {n : Nat} {t u : Tab} (h : TOk n t) (e : t.again = .ok u) : TOk n u := by
  unfold Tab.again at e
  split at e
  · rename_i s d hl
    cases e
    have hm : (s, d) ∈ t.undone := List.mem_of_getLast? hl
    refine ⟨h.dok, h.ap, h.d0, h.d1, (h.undone _ hm).of rfl rfl rfl, fun p hp => ?_, fun p hp => (h.undone p ((List.dropLast_sublist _).subset hp)).of rfl rfl rfl, ?_⟩
    · rcases List.mem_append.mp hp with z | z
      · exact (h.done p z).of rfl rfl rfl
      · rw [List.mem_singleton] at z; subst z; exact h.st.of rfl rfl rfl
    · have := h.len
      have h0 : 0 < t.undone.length := List.length_pos_of_mem hm
      show (t.done ++ [(t.st, d)]).length + t.undone.dropLast.length ≤ n
      rw [List.length_dropLast, List.length_append, List.length_singleton]; omega
  · cases e
end DL
set_option Elab.async false
set_option linter.all false
set_option maxRecDepth 100000
set_option maxHeartbeats 4000000
namespace DL
open PySem PySem.Spec PyProof.Rows L2
local macro_rules | `(tactic| walk_at "dl") => `(tactic| simp only [tV, tVr, tFzV, turnD, DL.wipeE, tK, tOpD, tUnD, tBo, tAndD, tOrD, tNotD, tIfE, DL.tAndV, DL.tOrV, DL.tNotV, tTru, truD, okLen, sSet, sSetL, sExpr, sRet, sIf, sNx, tTupD, dNil, dCons, tLstD, tFzD, tApp, tExtd, tPopAt, sSetIx, tIxO, tChainD, tChain3D, tRevT, caStr, opRepT, opAdd, opSub, opMul, opDiv, opMod, opPow, DL.opI, DL.opI0, opB0, opLt, opLe, opGt, opGtD, opLtD, opGe, opEq, opNe, opIs, opIsN, isNone, opIn, opNotIn, opIx, atD_0, atD_1, atD_2, atD_3, putD_0, unNeg, tCa1, tCa2, tCaL1, caLen, caAbs, caMax2, caMin2, caSum, caMax, caMin, caSumT, caMaxT, caMinT, caAll, caTuple, caList, caInt, tIsi, isInt, isBool, isStr, isTuple, isList, notDict, sAsg, gSet, gTupD, gLstD, gsNil, gsCons, sPar, pNil, pD, pL, setAll, tCallD, aNil, aV, aO, argS, oixs, ndp, putO, tOpL, opCat, opRep, tSlD, slD, tSlL, oNo, oE, tRevD, iLstD, iTupD, iRange1, iRange2, iZipD, iZipM, finO, tTrue, Option.map, eqv_int, eqv_bool, eqv_none, shaped_int, shaped_bool, shaped_none, tLenRange, tSortSet, tLenSet, tLenSetP, tSortSetP, tCountL, tCountT, tIndexL, tIndexT, DL.tOrT, DL.tAndT, DL.tNotT, tSortRev, caSorted, iEnumL, iEnumT, tDGetV, tDGetD, tDGet2V, dictAt, sDPutV, sSetM, mDt, mDk, pM, tInN, tNotInN, tCallM, amM, amV, tListRg, iDk, iDv, iDi, tLDk, tLDv, tTruDk, mDt1, tFzM, tCall0D, tFldD, tFldR, fldD, fldL, obD, unH_hdl, obGet, setOb, putOD, sFldD, sFldL, tMethO, tAppF, tPopF, sRaise, keyB_2, keyB_3, keyB_4, decide_eq_true_eq, and_self, List.cons_append, List.nil_append, List.replicate, List.getElem?_cons_zero, List.getElem?_cons_succ, List.set_cons_zero, List.set_cons_succ, List.length_cons, List.length_nil, true_and, and_true, if_true, if_false, Bool.false_eq_true, List.contains_nil, Bool.not_false, Bool.not_true, Bool.and_self, Bool.and_true, Bool.true_and, decide_true, decide_false, beq_self_eq_true])
def tb_Table_contract (C : Addr) (sp_contract_of : SpD) : TSd :=
  sRet (tCallD sp_contract_of (aV (tFldD C "dealer" 0) (aV (tOpD opIx (tFldD C "state" 0) (tK (.int 0))) (aNil))))
def tb_Table_leader (C : Addr) (sp_Table_contract : SpO) : TSd :=
  sRet (tOpD opMod (tOpD opAdd (tOpD opIx (tMethO C "contract" sp_Table_contract (tV 0) (dNil) (fun _ _ => False)) (tK (.int 3))) (tK (.int 1))) (tK (.int 4)))
def tb_Table_stage (C : Addr) (sp_Table_contract : SpO) (sp_is_over : SpD) : TSd :=
  sSeq (sAsg (tFldD C "state" 0) (gTupD 3 (gsCons (gSet 1) (gsCons (gSet 2) (gsCons (gSet 3) (gsNil))))))
      (sSeq (sIf (tNotD (tTru (tCallD sp_is_over (aV (tV 1) (aNil))))) (sRet (tK (.str "calls"))) (sNx))
      (sSeq (sIf (tOrD (tBo (tOpD opIs (tMethO C "contract" sp_Table_contract (tV 0) (dNil) (fun _ _ => False)) (tK .none))) (tOrD (tBo (tOpD opIsN (tV 3) (tK .none))) (tBo (tOpD opEq (tCa1 caLen (tV 2)) (tOpD opMul (tK (.int 4)) (tFldD C "ranks" 0)))))) (sRet (tK (.str "end"))) (sNx))
      (sRet (tK (.str "play")))))
def tb_Table_turn (C : Addr) (sp_Table_leader : SpO) (sp_Table_contract : SpO) (sp_turn_of : SpD) (sp_Table_stage : SpO) : TSd :=
  sSeq (sAsg (tFldD C "state" 0) (gTupD 3 (gsCons (gSet 1) (gsCons (gSet 2) (gsCons (gSet 3) (gsNil))))))
      (sSeq (sSet 4 (tMethO C "stage" sp_Table_stage (tV 0) (dNil) (fun _ _ => False)))
      (sSeq (sIf (tBo (tOpD opEq (tV 4) (tK (.str "calls")))) (sRet (tOpD opMod (tOpD opAdd (tFldD C "dealer" 0) (tCa1 caLen (tV 1))) (tK (.int 4)))) (sNx))
      (sSeq (sIf (tBo (tOpD opEq (tV 4) (tK (.str "play")))) (sRet (tCallD sp_turn_of (aV (tFldD C "deal" 0) (aV (tOpD opIx (tMethO C "contract" sp_Table_contract (tV 0) (dNil) (fun _ _ => False)) (tK (.int 1))) (aV (tMethO C "leader" sp_Table_leader (tV 0) (dNil) (fun _ _ => False)) (aV (tV 2) (aNil))))))) (sNx))
      (sRet (tK .none)))))
def tb_Table_may (C : Addr) (sp_Table_leader : SpO) (sp_Table_contract : SpO) (sp_may_play : SpD) (sp_levels_of : SpD) (sp_may_call : SpD) (sp_Table_stage : SpO) : TSd :=
  sSeq (sAsg (tFldD C "state" 0) (gTupD 3 (gsCons (gSet 1) (gsCons (gSet 2) (gsCons (gSet 3) (gsNil))))))
      (sSeq (sSet 4 (tMethO C "stage" sp_Table_stage (tV 0) (dNil) (fun _ _ => False)))
      (sSeq (sIf (tBo (tOpD opEq (tV 4) (tK (.str "calls")))) (sRet (tCallD sp_may_call (aV (tCallD sp_levels_of (aV (tFldD C "ranks" 0) (aNil))) (aV (tV 1) (aNil))))) (sNx))
      (sSeq (sIf (tBo (tOpD opEq (tV 4) (tK (.str "play")))) (sRet (tCallD sp_may_play (aV (tFldD C "deal" 0) (aV (tOpD opIx (tMethO C "contract" sp_Table_contract (tV 0) (dNil) (fun _ _ => False)) (tK (.int 1))) (aV (tMethO C "leader" sp_Table_leader (tV 0) (dNil) (fun _ _ => False)) (aV (tV 2) (aNil))))))) (sNx))
      (sRet (tTupD (dNil))))))
def tb_Table_tricks (C : Addr) (sp_Table_leader : SpO) (sp_tricks_of : SpD) (sp_Table_contract : SpO) : TSd :=
  sSeq (sAsg (tFldD C "state" 0) (gTupD 3 (gsCons (gSet 1) (gsCons (gSet 2) (gsCons (gSet 3) (gsNil))))))
      (sSeq (sSet 4 (tMethO C "contract" sp_Table_contract (tV 0) (dNil) (fun _ _ => False)))
      (sSeq (sIf (tBo (tOpD opIs (tV 4) (tK .none))) (sRet (tTupD (dCons (tK (.int 0)) (dCons (tK (.int 0)) (dNil))))) (sNx))
      (sSeq (sIf (tBo (tOpD opIs (tV 3) (tK .none))) (sRet (tCallD sp_tricks_of (aV (tOpD opIx (tV 4) (tK (.int 1))) (aV (tMethO C "leader" sp_Table_leader (tV 0) (dNil) (fun _ _ => False)) (aV (tV 2) (aNil)))))) (sNx))
      (sSeq (sIf (tBo (tOpD opEq (tOpD opMod (tOpD opIx (tV 4) (tK (.int 3))) (tK (.int 2))) (tK (.int 0)))) (sRet (tTupD (dCons (tV 3) (dCons (tOpD opSub (tFldD C "ranks" 0) (tV 3)) (dNil))))) (sNx))
      (sRet (tTupD (dCons (tOpD opSub (tFldD C "ranks" 0) (tV 3)) (dCons (tV 3) (dNil)))))))))
def tb_Table_score (C : Addr) (sp_Table_tricks : SpO) (sp_paid : SpD) (sp_Table_contract : SpO) (sp_Table_stage : SpO) : TSd :=
  sSeq (sIf (tBo (tOpD opNe (tMethO C "stage" sp_Table_stage (tV 0) (dNil) (fun _ _ => False)) (tK (.str "end")))) (sRet (tK .none)) (sNx))
      (sSeq (sSet 1 (tMethO C "contract" sp_Table_contract (tV 0) (dNil) (fun _ _ => False)))
      (sSeq (sIf (tBo (tOpD opIs (tV 1) (tK .none))) (sRet (tK (.int 0))) (sNx))
      (sSeq (sSet 2 (tOpD opMod (tOpD opIx (tV 1) (tK (.int 3))) (tK (.int 2))))
      (sSeq (sSet 3 (tCallD sp_paid (aV (tFldD C "ranks" 0) (aV (tV 1) (aV (tOpD opIx (tFldD C "risk" 0) (tV 2)) (aV (tOpD opIx (tMethO C "tricks" sp_Table_tricks (tV 0) (dNil) (fun _ _ => False)) (tV 2)) (aNil)))))))
      (sRet (tIfE (tBo (tOpD opEq (tV 2) (tK (.int 0)))) (tV 3) (tUnD unNeg (tV 3))))))))
def tb_Table_calls (C : Addr) : TSd :=
  sRet (tOpD opIx (tFldD C "state" 0) (tK (.int 0)))
def tb_Table_cards (C : Addr) : TSd :=
  sRet (tOpD opIx (tFldD C "state" 0) (tK (.int 1)))
def tb_Table_become (C : Addr) : TSd :=
  sSeq (sExpr (tAppF C "done" "state" 0 2))
      (sSeq (sFldD C "state" 0 (tV 1))
      (sFldL C "undone" 0 (tLstD (dNil))))
def tb_Table_must_play (C : Addr) (sp_Table_stage : SpO) (sp_Table_contract : SpO) (c_Over : Value) (c_NotNow : Value) (WD : WDt) : TSd :=
  sSeq (sIf (tBo (tOpD opIs (tMethO C "contract" sp_Table_contract (tV 0) (dNil) (fun _ _ => False)) (tK .none))) (sRaise WD c_NotNow) (sNx))
      (sIf (tBo (tOpD opEq (tMethO C "stage" sp_Table_stage (tV 0) (dNil) (fun _ _ => False)) (tK (.str "end")))) (sRaise WD c_Over) (sNx))
def tb_Table_call (C : Addr) (sp_Table_become : SpO) (sp_levels_of : SpD) (sp_is_call : SpD) (sp_Table_may : SpO) (sp_is_over : SpD) (c_BadCall : Value) (c_Over : Value) (WD : WDt) : TSd :=
  sSeq (sAsg (tFldD C "state" 0) (gTupD 3 (gsCons (gSet 2) (gsCons (gSet 3) (gsCons (gSet 4) (gsNil))))))
      (sSeq (sIf (tTru (tCallD sp_is_over (aV (tV 2) (aNil)))) (sRaise WD c_Over) (sNx))
      (sSeq (sIf (tOrD (tNotD (tTru (tCallD sp_is_call (aV (tCallD sp_levels_of (aV (tFldD C "ranks" 0) (aNil))) (aV (tV 1) (aNil)))))) (tBo (tOpD opNotIn (tV 1) (tMethO C "may" sp_Table_may (tV 0) (dNil) (fun _ _ => False))))) (sRaise WD c_BadCall) (sNx))
      (sExpr (tMethO C "become" sp_Table_become (tV 0) (dCons (tTupD (dCons (tOpD opAdd (tV 2) (tTupD (dCons (tV 1) (dNil)))) (dCons (tV 3) (dCons (tV 4) (dNil))))) (dCons (tTupD (dCons (tK (.str "call")) (dCons (tV 1) (dNil)))) (dNil))) (fun _ _ => False)))))
def tb_Table_play (C : Addr) (sp_Table_become : SpO) (sp_Table_may : SpO) (sp_Table_must_play : SpO) (c_BadCard : Value) (WD : WDt) : TSd :=
  sSeq (sAsg (tFldD C "state" 0) (gTupD 3 (gsCons (gSet 2) (gsCons (gSet 3) (gsCons (gSet 4) (gsNil))))))
      (sSeq (sExpr (tMethO C "must_play" sp_Table_must_play (tV 0) (dNil) WD))
      (sSeq (sIf (tBo (tOpD opNotIn (tV 1) (tMethO C "may" sp_Table_may (tV 0) (dNil) (fun _ _ => False)))) (sRaise WD c_BadCard) (sNx))
      (sExpr (tMethO C "become" sp_Table_become (tV 0) (dCons (tTupD (dCons (tV 2) (dCons (tOpD opAdd (tV 3) (tTupD (dCons (tV 1) (dNil)))) (dCons (tV 4) (dNil))))) (dCons (tTupD (dCons (tK (.str "play")) (dCons (tV 1) (dNil)))) (dNil))) (fun _ _ => False)))))
def tb_Table_claim (C : Addr) (sp_Table_become : SpO) (sp_Table_tricks : SpO) (sp_Table_contract : SpO) (sp_Table_must_play : SpO) (c_BadClaim : Value) (WD : WDt) : TSd :=
  sSeq (sAsg (tFldD C "state" 0) (gTupD 3 (gsCons (gSet 2) (gsCons (gSet 3) (gsCons (gSet 4) (gsNil))))))
      (sSeq (sExpr (tMethO C "must_play" sp_Table_must_play (tV 0) (dNil) WD))
      (sSeq (sSet 5 (tOpD opMod (tOpD opIx (tMethO C "contract" sp_Table_contract (tV 0) (dNil) (fun _ _ => False)) (tK (.int 3))) (tK (.int 2))))
      (sSeq (sSet 6 (tMethO C "tricks" sp_Table_tricks (tV 0) (dNil) (fun _ _ => False)))
      (sSeq (sIf (tNotD (tBo (tChainD opLe opLe (tOpD opIx (tV 6) (tV 5)) (tV 1) (tOpD opSub (tFldD C "ranks" 0) (tOpD opIx (tV 6) (tOpD opSub (tK (.int 1)) (tV 5))))))) (sRaise WD c_BadClaim) (sNx))
      (sExpr (tMethO C "become" sp_Table_become (tV 0) (dCons (tTupD (dCons (tV 2) (dCons (tV 3) (dCons (tV 1) (dNil))))) (dCons (tTupD (dCons (tK (.str "claim")) (dCons (tV 1) (dNil)))) (dNil))) (fun _ _ => False)))))))
def tb_Table_back (C : Addr) (c_NothingBack : Value) (WD : WDt) : TSd :=
  sSeq (sIf (tNotD (tTru (tFldR C "done" 0))) (sRaise WD c_NothingBack) (sNx))
      (sSeq (sAsg (tPopF C "done" 0) (gTupD 2 (gsCons (gSet 1) (gsCons (gSet 2) (gsNil)))))
      (sSeq (sExpr (tAppF C "undone" "state" 0 2))
      (sFldD C "state" 0 (tV 1))))
def tb_Table_again (C : Addr) (c_NothingBack : Value) (WD : WDt) : TSd :=
  sSeq (sIf (tNotD (tTru (tFldR C "undone" 0))) (sRaise WD c_NothingBack) (sNx))
      (sSeq (sAsg (tPopF C "undone" 0) (gTupD 2 (gsCons (gSet 1) (gsCons (gSet 2) (gsNil)))))
      (sSeq (sExpr (tAppF C "done" "state" 0 2))
      (sFldD C "state" 0 (tV 1))))
def tb_Table___init__ (C : Addr) : TSd :=
  sSeq (sFldD C "ranks" 0 (tV 1))
      (sSeq (sFldD C "deal" 0 (tV 2))
      (sSeq (sFldD C "dealer" 0 (tV 3))
      (sSeq (sFldD C "risk" 0 (tIfE (tBo (tOpD opIs (tV 4) (tK .none))) (tTupD (dCons (tK (.bool false)) (dCons (tK (.bool false)) (dNil)))) (tV 4)))
      (sSeq (sFldD C "state" 0 (tTupD (dCons (tTupD (dNil)) (dCons (tTupD (dNil)) (dCons (tK .none) (dNil))))))
      (sSeq (sFldL C "done" 0 (tLstD (dNil)))
      (sFldL C "undone" 0 (tLstD (dNil))))))))
theorem fs_ranks (t : Tab) : t.fs.lookup ("ranks" : Str) = some (.d (.int t.R)) := rfl
theorem fs_deal (t : Tab) : t.fs.lookup ("deal" : Str) = some (.d (dealT t.hs)) := rfl
theorem fs_dealer (t : Tab) : t.fs.lookup ("dealer" : Str) = some (.d (.int t.dealer)) := rfl
theorem fs_risk (t : Tab) : t.fs.lookup ("risk" : Str) = some (.d (.tuple [.bool t.r0, .bool t.r1])) := rfl
theorem fs_state (t : Tab) : t.fs.lookup ("state" : Str) = some (.d t.st.enc) := rfl
theorem fs_done (t : Tab) : t.fs.lookup ("done" : Str) = some (.l (t.done.map pairE)) := rfl
theorem fs_undone (t : Tab) : t.fs.lookup ("undone" : Str) = some (.l (t.undone.map pairE)) := rfl
theorem fs_contract (t : Tab) : t.fs.lookup ("contract" : Str) = none := rfl
theorem fs_leader (t : Tab) : t.fs.lookup ("leader" : Str) = none := rfl
theorem fs_stage (t : Tab) : t.fs.lookup ("stage" : Str) = none := rfl
theorem fs_turn (t : Tab) : t.fs.lookup ("turn" : Str) = none := rfl
theorem fs_may (t : Tab) : t.fs.lookup ("may" : Str) = none := rfl
theorem fs_call (t : Tab) : t.fs.lookup ("call" : Str) = none := rfl
theorem fs_must (t : Tab) : t.fs.lookup ("must_play" : Str) = none := rfl
theorem fs_play (t : Tab) : t.fs.lookup ("play" : Str) = none := rfl
theorem fs_claim (t : Tab) : t.fs.lookup ("claim" : Str) = none := rfl
theorem fs_tricks (t : Tab) : t.fs.lookup ("tricks" : Str) = none := rfl
theorem fs_score (t : Tab) : t.fs.lookup ("score" : Str) = none := rfl
theorem fs_calls (t : Tab) : t.fs.lookup ("calls" : Str) = none := rfl
theorem fs_cards (t : Tab) : t.fs.lookup ("cards" : Str) = none := rfl
theorem fs_back (t : Tab) : t.fs.lookup ("back" : Str) = none := rfl
theorem fs_again (t : Tab) : t.fs.lookup ("again" : Str) = none := rfl
theorem fs_deeds (t : Tab) : t.fs.lookup ("deeds" : Str) = none := rfl
theorem fs_taken (t : Tab) : t.fs.lookup ("taken_back" : Str) = none := rfl
theorem fs_become (t : Tab) : t.fs.lookup ("become" : Str) = none := rfl
theorem fs_putState (t : Tab) (s : Tst) : putFS "state" (.d s.enc) t.fs = { t with st := s }.fs := rfl
theorem fs_putDone (t : Tab) (l : List (Tst × Deed)) : putFS "done" (.l (l.map pairE)) t.fs = { t with done := l }.fs := rfl
theorem fs_putUndone (t : Tab) (l : List (Tst × Deed)) : putFS "undone" (.l (l.map pairE)) t.fs = { t with undone := l }.fs := rfl
theorem fs_len (t : Tab) : t.fs.length = 7 := rfl
theorem stg_sh (s : Stg) : SeqAt.shaped s.enc = true := by cases s <;> exact shaped_of (n := 1) (by decide +kernel)
theorem sh_sC : SeqAt.shaped (.str "calls") = true := stg_sh .calls
theorem sh_sP : SeqAt.shaped (.str "play") = true := stg_sh .play
theorem sh_sE : SeqAt.shaped (.str "end") = true := stg_sh .fin
theorem stg_eqC (s : Stg) : PyData.eqv s.enc (.str "calls") = decide (s = .calls) := by cases s <;> (unfold Stg.enc; rw [eqv_str]; decide)
theorem stg_eqP (s : Stg) : PyData.eqv s.enc (.str "play") = decide (s = .play) := by cases s <;> (unfold Stg.enc; rw [eqv_str]; decide)
theorem stg_eqE (s : Stg) : PyData.eqv s.enc (.str "end") = decide (s = .fin) := by cases s <;> (unfold Stg.enc; rw [eqv_str]; decide)
theorem oEnc_some (c : Cont) : oEnc (some c) = c.enc := rfl
theorem isNone_con (c : Cont) : isNone c.enc = false := rfl
local macro_rules | `(tactic| walk_at "tb") => `(tactic| simp only [tV, tVr, tFzV, turnD, DL.wipeE, tK, tOpD, tUnD, tBo, tAndD, tOrD, tNotD, tIfE, DL.tAndV, DL.tOrV, DL.tNotV, tTru, truD, okLen, sSet, sSetL, sExpr, sRet, sIf, sNx, tTupD, dNil, dCons, tLstD, tFzD, tApp, tExtd, tPopAt, sSetIx, tIxO, tChainD, tChain3D, tRevT, caStr, opRepT, opAdd, opSub, opMul, opDiv, opMod, opPow, DL.opI, DL.opI0, opB0, opLt, opLe, opGt, opGtD, opLtD, opGe, opEq, opNe, opIs, opIsN, isNone, opIn, opNotIn, opIx, atD_0, atD_1, atD_2, atD_3, putD_0, unNeg, tCa1, tCa2, tCaL1, caLen, caAbs, caMax2, caMin2, caSum, caMax, caMin, caSumT, caMaxT, caMinT, caAll, caTuple, caList, caInt, tIsi, isInt, isBool, isStr, isTuple, isList, notDict, sAsg, gSet, gTupD, gLstD, gsNil, gsCons, sPar, pNil, pD, pL, setAll, tCallD, aNil, aV, aO, argS, oixs, ndp, putO, tOpL, opCat, opRep, tSlD, slD, tSlL, oNo, oE, tRevD, iLstD, iTupD, iRange1, iRange2, iZipD, iZipM, finO, tTrue, Option.map, eqv_int, eqv_bool, eqv_none, shaped_int, shaped_bool, shaped_none, tLenRange, tSortSet, tLenSet, tLenSetP, tSortSetP, tCountL, tCountT, tIndexL, tIndexT, DL.tOrT, DL.tAndT, DL.tNotT, tSortRev, caSorted, iEnumL, iEnumT, tDGetV, tDGetD, tDGet2V, dictAt, sDPutV, sSetM, mDt, mDk, pM, tInN, tNotInN, tCallM, amM, amV, tListRg, iDk, iDv, iDi, tLDk, tLDv, tTruDk, mDt1, tFzM, tCall0D, tFldD, tFldR, fldD, fldL, obD, unH_hdl, obGet, setOb, putOD, sFldD, sFldL, tMethO, tAppF, tPopF, sRaise, keyB_2, keyB_3, keyB_4, decide_eq_true_eq, and_self, List.cons_append, List.nil_append, List.replicate, List.getElem?_cons_zero, List.getElem?_cons_succ, List.set_cons_zero, List.set_cons_succ, List.length_cons, List.length_nil, true_and, and_true, if_true, if_false, Bool.false_eq_true, List.contains_nil, Bool.not_false, Bool.not_true, Bool.and_self, Bool.and_true, Bool.true_and, decide_true, decide_false, beq_self_eq_true, fs_ranks, fs_deal, fs_dealer, fs_risk, fs_state, fs_done, fs_undone, fs_contract, fs_leader, fs_stage, fs_turn, fs_may, fs_call, fs_must, fs_play, fs_claim, fs_tricks, fs_score, fs_calls, fs_cards, fs_back, fs_again, fs_deeds, fs_taken, fs_become, stg_sh, sh_sC, sh_sP, sh_sE, stg_eqC, stg_eqP, stg_eqE, reduceCtorEq, List.length_map, isNone_con])
/-- a look: nothing changes -/
def spGet (C : Addr) (F : Tab → D) : SpO := fun ds os QD _ => ∃ (a : Addr) (t : Tab) (n : Nat), ds = [hdl a] ∧ os = [.ob a C t.fs] ∧ TOk n t ∧ n ≤ 900 ∧ QD (F t) [.ob a C t.fs]
theorem sh_get {C : Addr} {F : Tab → D} : ∀ ds os QD QX, spGet C F ds os QD QX → ds.length = 1 ∧ os.length = 1 := by rintro ds os QD QX ⟨_, _, _, rfl, rfl, _⟩; exact ⟨rfl, rfl⟩
theorem meth_get {C a : Addr} {t : Tab} {E : Env} {j n : Nat} {F : Tab → D} {Q : D → Env → Prop} {WD : WDt} (hj : E[j]? = some (.ob a C t.fs)) (ok : TOk n t) (hn : n ≤ 900) (q : Q (F t) E) : tObs (spGet C F) [hdl a] E Q WD := by
  refine ⟨[j], [.ob a C t.fs], by simp, by unfold obsAt; rw [hj]; rfl, a, t, n, rfl, rfl, ok, hn, rfl, ?_⟩
  show Q (F t) (E.set j (.ob a C t.fs))
  have : E.set j (.ob a C t.fs) = E := by
    refine List.ext_getElem? fun i => ?_
    by_cases h : j = i
    · subst h
      rw [List.getElem?_set_self (List.getElem?_eq_some_iff.mp hj).1, hj]
    · rw [List.getElem?_set_ne h]
  rw [this]; exact q
abbrev fin1 (m : Nat) (QD : D → List S → Prop) : EndsD := { nx := fun E' => finG (ghJs m 1) E' (QD .none), rt := fun d E' => finG (ghJs m 1) E' (QD d) }
theorem finG1 {m : Nat} {E : Env} {Q : List S → Prop} {a C : Addr} {fs : List (Str × FS)} (h : E[m - 1]? = some (.ob a C fs)) (q : Q [.ob a C fs]) : finG (ghJs m 1) E Q := by
  have e : ghJs m 1 = [m - 1] := by simp [ghJs, List.range_succ]
  unfold finG
  rw [e]
  unfold obsAt
  rw [h]
  exact q
theorem rd_Table_contract {C : Addr} : ∀ ds os QD QX, spGet C (fun t => oEnc t.con) ds os QD QX → tb_Table_contract C spContr (fin1 2 QD) (ds.map S.d ++ List.replicate 0 .un ++ os) := by
  rintro ds os QD QX ⟨a, t, n, rfl, rfl, ok, hn, q⟩
  unfold tb_Table_contract
  simp only [List.map_cons, List.map_nil]
  walk_at "tb"
  unfold Tst.enc
  walk_at "tb"
  refine ⟨t.dealer, t.st.cs, rfl, by have := ok.st.ln; omega, ?_⟩
  rw [contr_enc]
  exact finG1 rfl q
def spLead (C : Addr) : SpO := fun ds os QD _ => ∃ (a : Addr) (t : Tab) (n : Nat) (c : Cont), ds = [hdl a] ∧ os = [.ob a C t.fs] ∧ TOk n t ∧ n ≤ 900 ∧ t.con = some c ∧ QD (.int c.ld) [.ob a C t.fs]
theorem sh_Table_leader {C : Addr} : ∀ ds os QD QX, spLead C ds os QD QX → ds.length = 1 ∧ os.length = 1 := by rintro ds os QD QX ⟨_, _, _, _, rfl, rfl, _⟩; exact ⟨rfl, rfl⟩
theorem set_same {E : Env} {j : Nat} {s : S} (hj : E[j]? = some s) : E.set j s = E := by
  refine List.ext_getElem? fun i => ?_
  by_cases h : j = i
  · subst h
    rw [List.getElem?_set_self (List.getElem?_eq_some_iff.mp hj).1, hj]
  · rw [List.getElem?_set_ne h]
theorem meth_lead {C a : Addr} {t : Tab} {E : Env} {j n : Nat} {c : Cont} {Q : D → Env → Prop} {WD : WDt} (hj : E[j]? = some (.ob a C t.fs)) (ok : TOk n t) (hn : n ≤ 900) (hc : t.con = some c) (q : Q (.int c.ld) E) : tObs (spLead C) [hdl a] E Q WD := by
  refine ⟨[j], [.ob a C t.fs], by simp, by unfold obsAt; rw [hj]; rfl, a, t, n, c, rfl, rfl, ok, hn, hc, rfl, ?_⟩
  show Q _ (E.set j (.ob a C t.fs))
  rw [set_same hj]; exact q
abbrev spCon (C : Addr) : SpO := spGet C fun t => oEnc t.con
abbrev spStage (C : Addr) : SpO := spGet C fun t => t.stage.enc
theorem rd_Table_leader {C : Addr} : ∀ ds os QD QX, spLead C ds os QD QX → tb_Table_leader C (spCon C) (fin1 2 QD) (ds.map S.d ++ List.replicate 0 .un ++ os) := by
  rintro ds os QD QX ⟨a, t, n, c, rfl, rfl, ok, hn, hc, q⟩
  unfold tb_Table_leader
  simp only [List.map_cons, List.map_nil]
  walk_at "tb"
  refine meth_get (j := 1) rfl ok hn ?_
  rw [hc]
  unfold oEnc Cont.enc
  walk_at "tb"
  refine ⟨by decide, finG1 rfl ?_⟩
  exact q
theorem Tab.stages (t : Tab) : (isOver t.st.cs = false ∧ t.con = none ∧ t.stage = .calls) ∨ (isOver t.st.cs = true ∧ t.con = none ∧ t.stage = .fin) ∨ (∃ c, isOver t.st.cs = true ∧ t.con = some c ∧ (t.st.cl.isSome = true ∨ t.st.ps.length = 4 * t.R) ∧ t.stage = .fin) ∨ ∃ c, isOver t.st.cs = true ∧ t.con = some c ∧ t.st.cl = none ∧ t.st.ps.length ≠ 4 * t.R ∧ t.stage = .play := by
  unfold Tab.stage
  cases ho : isOver t.st.cs with
  | false => exact .inl ⟨rfl, by unfold Tab.con contr; rw [ho]; rfl, rfl⟩
  | true =>
    right
    rw [if_pos rfl]
    cases hc : t.con with
    | none => exact .inl ⟨rfl, rfl, by simp⟩
    | some c =>
      right
      cases hl : t.st.cl with
      | some k => exact .inl ⟨c, rfl, rfl, .inl rfl, by simp⟩
      | none =>
        by_cases h4 : t.st.ps.length = 4 * t.R
        · exact .inl ⟨c, rfl, rfl, .inr h4, by simp [h4]⟩
        · exact .inr ⟨c, rfl, rfl, rfl, h4, by simp [h4]⟩
theorem rd_Table_stage {C : Addr} : ∀ ds os QD QX, spStage C ds os QD QX → tb_Table_stage C (spCon C) spOver (fin1 5 QD) (ds.map S.d ++ List.replicate 3 .un ++ os) := by
  rintro ds os QD QX ⟨a, t, n, rfl, rfl, ok, hn, q⟩
  have hp := ok.st.ps
  have hR := ok.dok.hi
  have q : QD t.stage.enc [.ob a C t.fs] := q
  unfold tb_Table_stage
  simp only [List.map_cons, List.map_nil]
  refine seq_step fun R hR => ?_
  walk_at "tb"
  unfold Tst.enc
  walk_at "tb"
  refine hR _ ?_
  refine seq_step fun R hR => ?_
  walk_at "tb"
  refine ⟨t.st.cs, rfl, ?_⟩
  walk_at "tb"
  rcases t.stages with ⟨h1, h2, h3⟩ | ⟨h1, h2, h3⟩ | ⟨c, h1, h2, h4, h3⟩ | ⟨c, h1, h2, h4, h5, h3⟩
  · rw [h3] at q
    rw [h1]
    walk_at "tb"
    exact finG1 rfl q
  all_goals
    rw [h3] at q
    rw [h1]
    refine hR _ ?_
    refine seq_step fun R hR => ?_
    walk_at "tb"
    refine meth_get (j := 4) rfl ok hn ?_
    rw [h2]
  · unfold oEnc
    walk_at "tb"
    exact finG1 rfl q
  · show (if isNone c.enc = true then _ else _)
    rw [isNone_con]
    walk_at "tb"
    cases hl : t.st.cl with
    | some k =>
      unfold optI
      walk_at "tb"
      exact finG1 rfl q
    | none =>
      unfold optI
      rw [hl] at h4
      have h4 : t.st.ps.length = 4 * t.R := h4.elim (fun z => by cases z) id
      unfold handD
      walk_at "tb"
      refine ⟨cmul_small (by decide) (by omega), ?_⟩
      rw [if_pos (by omega)]
      exact finG1 rfl q
  · show (if isNone c.enc = true then _ else _)
    rw [isNone_con, h4]
    unfold handD optI
    walk_at "tb"
    refine ⟨cmul_small (by decide) (by omega), ?_⟩
    rw [if_neg (by omega)]
    exact hR _ (by walk_at "tb"; exact finG1 rfl q)
theorem rd_Table_calls {C : Addr} : ∀ ds os QD QX, spGet C (fun t => rowD t.st.cs) ds os QD QX → tb_Table_calls C (fin1 2 QD) (ds.map S.d ++ List.replicate 0 .un ++ os) := by
  rintro ds os QD QX ⟨a, t, n, rfl, rfl, ok, hn, q⟩
  unfold tb_Table_calls
  simp only [List.map_cons, List.map_nil]
  walk_at "tb"
  unfold Tst.enc
  walk_at "tb"
  exact finG1 rfl q
theorem rd_Table_cards {C : Addr} : ∀ ds os QD QX, spGet C (fun t => handD t.st.ps) ds os QD QX → tb_Table_cards C (fin1 2 QD) (ds.map S.d ++ List.replicate 0 .un ++ os) := by
  rintro ds os QD QX ⟨a, t, n, rfl, rfl, ok, hn, q⟩
  unfold tb_Table_cards
  simp only [List.map_cons, List.map_nil]
  walk_at "tb"
  unfold Tst.enc
  walk_at "tb"
  exact finG1 rfl q
theorem rd_Table_turn {C : Addr} : ∀ ds os QD QX, spGet C Tab.turn ds os QD QX → tb_Table_turn C (spLead C) (spCon C) spTurn (spStage C) (fin1 6 QD) (ds.map S.d ++ List.replicate 4 .un ++ os) := by
  rintro ds os QD QX ⟨a, t, n, rfl, rfl, ok, hn, q⟩
  have hp := ok.st.ps
  have hR := ok.dok.hi
  have q : QD t.turn [.ob a C t.fs] := q
  unfold Tab.turn at q
  unfold tb_Table_turn
  simp only [List.map_cons, List.map_nil]
  refine seq_step fun R hR => ?_
  walk_at "tb"
  unfold Tst.enc
  walk_at "tb"
  refine hR _ ?_
  clear hR
  refine seq_step fun R hR => ?_
  walk_at "tb"
  refine meth_get (j := 5) rfl ok hn ?_
  refine hR _ ?_
  clear hR
  refine seq_step fun R hR => ?_
  walk_at "tb"
  rcases t.stages with ⟨h1, h2, h3⟩ | ⟨h1, h2, h3⟩ | ⟨c, h1, h2, h4, h3⟩ | ⟨c, h1, h2, h4, h5, h3⟩
  · rw [h3] at q ⊢
    unfold rowD
    walk_at "tb"
    exact ⟨by decide, finG1 rfl q⟩
  all_goals
    rw [h3] at q ⊢
    rw [h2] at q
    walk_at "tb"
    refine hR _ ?_
    clear hR
    refine seq_step fun R hR => ?_
    walk_at "tb"
  · exact hR _ (by walk_at "tb"; exact finG1 rfl q)
  · exact hR _ (by walk_at "tb"; exact finG1 rfl q)
  · refine meth_get (j := 5) rfl ok hn ?_
    rw [h2]
    unfold oEnc Cont.enc
    walk_at "tb"
    refine meth_lead (j := 5) rfl ok hn h2 ?_
    refine ⟨t.R, t.hs, c.s, c.ld, t.st.ps, rfl, ok.dok, by omega, ?_⟩
    unfold turnN
    rw [if_neg h5]
    exact finG1 rfl q
theorem rd_Table_may {C : Addr} : ∀ ds os QD QX, spGet C Tab.may ds os QD QX → tb_Table_may C (spLead C) (spCon C) spMayP spLevels spMay (spStage C) (fin1 6 QD) (ds.map S.d ++ List.replicate 4 .un ++ os) := by
  rintro ds os QD QX ⟨a, t, n, rfl, rfl, ok, hn, q⟩
  have hp := ok.st.ps
  have hR := ok.dok.hi
  have hR1 := ok.dok.lo
  have q : QD t.may [.ob a C t.fs] := q
  unfold Tab.may at q
  unfold tb_Table_may
  simp only [List.map_cons, List.map_nil]
  refine seq_step fun R hR => ?_
  walk_at "tb"
  unfold Tst.enc
  walk_at "tb"
  refine hR _ ?_
  clear hR
  refine seq_step fun R hR => ?_
  walk_at "tb"
  refine meth_get (j := 5) rfl ok hn ?_
  refine hR _ ?_
  clear hR
  refine seq_step fun R hR => ?_
  walk_at "tb"
  rcases t.stages with ⟨h1, h2, h3⟩ | ⟨h1, h2, h3⟩ | ⟨c, h1, h2, h4, h3⟩ | ⟨c, h1, h2, h4, h5, h3⟩
  · rw [h3] at q ⊢
    walk_at "tb"
    refine ⟨_, rfl, ?_⟩
    rw [t.levels hR1]
    exact ⟨t.L, t.st.cs, rfl, by unfold Tab.L; omega, by have := ok.st.ln; omega, finG1 rfl q⟩
  all_goals
    rw [h3] at q ⊢
    rw [h2] at q
    walk_at "tb"
    refine hR _ ?_
    clear hR
    refine seq_step fun R hR => ?_
    walk_at "tb"
  · exact hR _ (by walk_at "tb"; exact ⟨small_line (by decide), finG1 rfl q⟩)
  · exact hR _ (by walk_at "tb"; exact ⟨small_line (by decide), finG1 rfl q⟩)
  · refine meth_get (j := 5) rfl ok hn ?_
    rw [h2]
    unfold oEnc Cont.enc
    walk_at "tb"
    refine meth_lead (j := 5) rfl ok hn h2 ?_
    refine ⟨t.R, t.hs, c.s, c.ld, t.st.ps, rfl, ok.dok, by omega, ?_⟩
    rw [if_neg h5]
    exact finG1 rfl q
theorem rd_Table_tricks {C : Addr} : ∀ ds os QD QX, spGet C Tab.tricks ds os QD QX → tb_Table_tricks C (spLead C) spTricks (spCon C) (fin1 6 QD) (ds.map S.d ++ List.replicate 4 .un ++ os) := by
  rintro ds os QD QX ⟨a, t, n, rfl, rfl, ok, hn, q⟩
  have hp := ok.st.ps
  have hR := ok.dok.hi
  have q : QD t.tricks [.ob a C t.fs] := q
  unfold Tab.tricks Tab.won at q
  unfold tb_Table_tricks
  simp only [List.map_cons, List.map_nil]
  refine seq_step fun R hR => ?_
  walk_at "tb"
  unfold Tst.enc
  walk_at "tb"
  refine hR _ ?_
  clear hR
  refine seq_step fun R hR => ?_
  walk_at "tb"
  refine meth_get (j := 5) rfl ok hn ?_
  refine hR _ ?_
  clear hR
  refine seq_step fun R hR => ?_
  walk_at "tb"
  cases hc : t.con with
  | none =>
    rw [hc] at q
    unfold oEnc
    walk_at "tb"
    exact ⟨small_line (by decide), finG1 rfl q⟩
  | some c =>
    rw [hc] at q
    rw [oEnc_some]
    show (if isNone c.enc = true then _ else _)
    rw [isNone_con]
    refine hR _ ?_
    clear hR
    refine seq_step fun R hR => ?_
    walk_at "tb"
    cases hl : t.st.cl with
    | none =>
      rw [hl] at q
      unfold optI Cont.enc
      walk_at "tb"
      refine meth_lead (j := 5) rfl ok hn hc ?_
      exact ⟨c.s, c.ld, t.st.ps, rfl, by omega, finG1 rfl q⟩
    | some k =>
      rw [hl] at q
      unfold optI
      walk_at "tb"
      refine hR _ ?_
      clear hR
      refine seq_step fun R hR => ?_
      unfold Cont.enc
      walk_at "tb"
      refine ⟨by decide, ?_⟩
      dsimp only at q
      by_cases h0 : c.p % 2 = 0
      · rw [if_pos h0] at q ⊢
        exact ⟨small_line (by decide), finG1 rfl q⟩
      · rw [if_neg h0] at q ⊢
        refine hR _ ?_
        walk_at "tb"
        exact ⟨small_line (by decide), finG1 rfl q⟩
theorem rd_Table_score {C : Addr} : ∀ ds os QD QX, spGet C Tab.score ds os QD QX → tb_Table_score C (spGet C Tab.tricks) spPaid (spCon C) (spStage C) (fin1 5 QD) (ds.map S.d ++ List.replicate 3 .un ++ os) := by
  rintro ds os QD QX ⟨a, t, n, rfl, rfl, ok, hn, q⟩
  have hw := ok.won
  have q : QD t.score [.ob a C t.fs] := q
  unfold Tab.score at q
  unfold tb_Table_score
  simp only [List.map_cons, List.map_nil]
  refine seq_step fun R hR => ?_
  walk_at "tb"
  refine meth_get (j := 4) rfl ok hn ?_
  walk_at "tb"
  by_cases hs : t.stage = .fin
  · rw [if_pos hs] at q
    rw [hs]
    walk_at "tb"
    refine hR _ ?_
    clear hR
    refine seq_step fun R hR => ?_
    walk_at "tb"
    refine meth_get (j := 4) rfl ok hn ?_
    refine hR _ ?_
    clear hR
    refine seq_step fun R hR => ?_
    walk_at "tb"
    cases hc : t.con with
    | none =>
      rw [hc] at q
      unfold oEnc
      walk_at "tb"
      exact finG1 rfl q
    | some c =>
      rw [hc] at q
      have q : QD (.int (t.paid c)) [.ob a C t.fs] := q
      unfold Tab.paid at q
      rw [oEnc_some]
      show (if isNone c.enc = true then _ else _)
      rw [isNone_con]
      refine hR _ ?_
      clear hR
      refine seq_step fun R hR => ?_
      unfold Cont.enc
      walk_at "tb"
      refine ⟨by decide, hR _ ?_⟩
      clear hR
      refine seq_step fun R hR => ?_
      walk_at "tb"
      rcases Int.emod_two_eq c.p with h0 | h0
      · rw [h0] at q ⊢
        rw [if_pos rfl] at q
        walk_at "tb"
        refine meth_get (j := 4) rfl ok hn ?_
        unfold Tab.tricks
        walk_at "tb"
        refine ⟨t.R, c.l, c.s, c.t, c.p, t.r0, t.won.1, rfl, ok.con hc hw.1 (by omega), hR _ ?_⟩
        walk_at "tb"
        exact finG1 rfl q
      · rw [h0] at q ⊢
        rw [if_neg (by decide)] at q
        walk_at "tb"
        refine meth_get (j := 4) rfl ok hn ?_
        unfold Tab.tricks
        walk_at "tb"
        refine ⟨t.R, c.l, c.s, c.t, c.p, t.r1, t.won.2, rfl, ok.con hc hw.2.1 (by omega), hR _ ?_⟩
        walk_at "tb"
        rw [if_neg (by decide)]
        exact finG1 rfl q
  · rw [if_neg hs] at q
    have : decide (t.stage = .fin) = false := decide_eq_false hs
    rw [this]
    walk_at "tb"
    exact finG1 rfl q
/-! ### deeds -/
def spBecome (C : Addr) : SpO := fun ds os QD _ => ∃ (a : Addr) (t : Tab) (s : Tst) (d : Deed), ds = [hdl a, s.enc, d.enc] ∧ os = [.ob a C t.fs] ∧ t.done.length ≤ 1000 ∧ QD .none [.ob a C (t.become s d).fs]
theorem sh_Table_become {C : Addr} : ∀ ds os QD QX, spBecome C ds os QD QX → ds.length = 3 ∧ os.length = 1 := by rintro ds os QD QX ⟨_, _, _, _, rfl, rfl, _⟩; exact ⟨rfl, rfl⟩
theorem fs_putDone' (t : Tab) (s : Tst) (d : Deed) : putFS "done" (.l (t.done.map pairE ++ [.tuple [s.enc, d.enc]])) t.fs = { t with done := t.done ++ [(s, d)] }.fs := by
  rw [show t.done.map pairE ++ [.tuple [s.enc, d.enc]] = (t.done ++ [(s, d)]).map pairE by rw [List.map_append]; rfl, fs_putDone]
theorem fs_putUndone' (t : Tab) (s : Tst) (d : Deed) : putFS "undone" (.l (t.undone.map pairE ++ [.tuple [s.enc, d.enc]])) t.fs = { t with undone := t.undone ++ [(s, d)] }.fs := by
  rw [show t.undone.map pairE ++ [.tuple [s.enc, d.enc]] = (t.undone ++ [(s, d)]).map pairE by rw [List.map_append]; rfl, fs_putUndone]
theorem rd_Table_become {C : Addr} : ∀ ds os QD QX, spBecome C ds os QD QX → tb_Table_become C (fin1 4 QD) (ds.map S.d ++ List.replicate 0 .un ++ os) := by
  rintro ds os QD QX ⟨a, t, s, d, rfl, rfl, hl, q⟩
  unfold tb_Table_become
  simp only [List.map_cons, List.map_nil]
  refine seq_step fun R hR => ?_
  walk_at "tb"
  refine ⟨small_line (by omega), ?_⟩
  rw [fs_putDone']
  refine hR _ ?_
  clear hR
  refine seq_step fun R hR => ?_
  walk_at "tb"
  rw [fs_len, fs_putState]
  refine ⟨by decide, hR _ ?_⟩
  walk_at "tb"
  refine ⟨small_line (by decide), ?_⟩
  rw [fs_len]
  refine ⟨by decide, finG1 rfl ?_⟩
  exact q
def argCall : Deed → Option D
  | .call c => some c.enc
  | _ => none
def argPlay : Deed → Option D
  | .play c => some (cE c)
  | _ => none
def argClaim : Deed → Option D
  | .claim n => some (.int n)
  | _ => none
/-- one of the three deeds -/
def spDeed (C : Addr) (ec : Err → Value) (arg : Deed → Option D) : SpO := fun ds os QD QX => ∃ (a : Addr) (t : Tab) (n : Nat) (d : Deed) (x : D), ds = [hdl a, x] ∧ os = [.ob a C t.fs] ∧ arg d = some x ∧ TOk n t ∧ n ≤ 900 ∧
  (∀ u, t.act d = .ok u → QD .none [.ob a C u.fs]) ∧ ∀ e, t.act d = .error e → QX (ec e) [.ob a C t.fs]
theorem sh_deed {C : Addr} {ec : Err → Value} {arg : Deed → Option D} : ∀ ds os QD QX, spDeed C ec arg ds os QD QX → ds.length = 2 ∧ os.length = 1 := by rintro ds os QD QX ⟨_, _, _, _, _, rfl, rfl, _⟩; exact ⟨rfl, rfl⟩
abbrev finX (m : Nat) (QX : Value → List S → Prop) : WDt := fun cls E' => finG (ghJs m 1) E' (QX cls)
def spMust (C : Addr) (ec : Err → Value) : SpO := fun ds os QD QX => ∃ (a : Addr) (t : Tab) (n : Nat), ds = [hdl a] ∧ os = [.ob a C t.fs] ∧ TOk n t ∧ n ≤ 900 ∧
  (t.must = none → QD .none [.ob a C t.fs]) ∧ ∀ e, t.must = some e → QX (ec e) [.ob a C t.fs]
theorem sh_Table_must_play {C : Addr} {ec : Err → Value} : ∀ ds os QD QX, spMust C ec ds os QD QX → ds.length = 1 ∧ os.length = 1 := by rintro ds os QD QX ⟨_, _, _, rfl, rfl, _⟩; exact ⟨rfl, rfl⟩
theorem meth_must {C a : Addr} {ec : Err → Value} {t : Tab} {E : Env} {j n : Nat} {Q : D → Env → Prop} {WD : WDt} (hj : E[j]? = some (.ob a C t.fs)) (ok : TOk n t) (hn : n ≤ 900) (q : t.must = none → Q .none E) (qx : ∀ e, t.must = some e → WD (ec e) E) : tObs (spMust C ec) [hdl a] E Q WD := by
  refine ⟨[j], [.ob a C t.fs], by simp, by unfold obsAt; rw [hj]; rfl, a, t, n, rfl, rfl, ok, hn, fun h => ⟨rfl, ?_⟩, fun e h => ⟨rfl, ?_⟩⟩
  · show Q .none (E.set j _)
    rw [set_same hj]; exact q h
  · show WD _ (E.set j _)
    rw [set_same hj]; exact qx e h
theorem meth_become {C a : Addr} {t : Tab} {s : Tst} {d : Deed} {E : Env} {j : Nat} {x y : D} {Q : D → Env → Prop} {WD : WDt} (hj : E[j]? = some (.ob a C t.fs)) (hx : x = s.enc) (hy : y = d.enc) (hl : t.done.length ≤ 1000) (q : Q .none (E.set j (.ob a C (t.become s d).fs))) : tObs (spBecome C) [hdl a, x, y] E Q WD := by
  subst hx hy
  exact ⟨[j], [.ob a C t.fs], by simp, by unfold obsAt; rw [hj]; rfl, a, t, s, d, rfl, rfl, hl, rfl, q⟩
theorem rd_Table_must_play {C : Addr} {ec : Err → Value} : ∀ ds os QD QX, spMust C ec ds os QD QX → tb_Table_must_play C (spStage C) (spCon C) (ec .over) (ec .notNow) (finX 2 QX) (fin1 2 QD) (ds.map S.d ++ List.replicate 0 .un ++ os) := by
  rintro ds os QD QX ⟨a, t, n, rfl, rfl, ok, hn, q, qx⟩
  unfold Tab.must at q qx
  unfold tb_Table_must_play
  simp only [List.map_cons, List.map_nil]
  refine seq_step fun R hR => ?_
  walk_at "tb"
  refine meth_get (j := 1) rfl ok hn ?_
  cases hc : t.con with
  | none =>
    rw [hc] at q qx
    unfold oEnc
    walk_at "tb"
    exact finG1 rfl (qx _ rfl)
  | some c =>
    rw [hc] at q qx
    rw [oEnc_some]
    show (if isNone c.enc = true then _ else _)
    rw [isNone_con]
    refine hR _ ?_
    clear hR
    walk_at "tb"
    refine meth_get (j := 1) rfl ok hn ?_
    walk_at "tb"
    by_cases hs : t.stage = .fin
    · rw [if_pos hs] at qx
      rw [hs]
      walk_at "tb"
      exact finG1 rfl (qx _ rfl)
    · rw [if_neg hs] at q ⊢
      exact finG1 rfl (q rfl)
theorem rd_Table_call {C : Addr} {ec : Err → Value} : ∀ ds os QD QX, spDeed C ec argCall ds os QD QX → tb_Table_call C (spBecome C) spLevels spIsCall (spGet C Tab.may) spOver (ec .badCall) (ec .over) (finX 6 QX) (fin1 6 QD) (ds.map S.d ++ List.replicate 3 .un ++ os) := by
  rintro ds os QD QX ⟨a, t, n, d, x, rfl, rfl, hd, ok, hn, q, qx⟩
  cases d with
  | call c =>
    cases hd
    have hlen := ok.len
    have hcs := ok.st.ln
    simp only [Tab.act] at q qx
    unfold tb_Table_call
    simp only [List.map_cons, List.map_nil]
    refine seq_step fun R hR => ?_
    walk_at "tb"
    rw [Tst.enc]
    walk_at "tb"
    refine hR _ ?_
    clear hR
    refine seq_step fun R hR => ?_
    walk_at "tb"
    refine ⟨t.st.cs, rfl, ?_⟩
    walk_at "tb"
    by_cases ho : isOver t.st.cs = true
    · rw [if_pos ho] at qx ⊢
      exact finG1 rfl (qx _ rfl)
    · rw [if_neg ho] at q qx ⊢
      refine hR _ ?_
      clear hR
      refine seq_step fun R hR => ?_
      walk_at "tb"
      refine ⟨_, rfl, ?_⟩
      rw [t.levels ok.dok.lo]
      refine ⟨t.L, c.enc, 1, rfl, sh_enc 0 c, by decide, ?_⟩
      walk_at "tb"
      by_cases h1 : isCallD t.L c.enc = true
      · rw [h1]
        walk_at "tb"
        refine meth_get (j := 5) rfl ok hn ?_
        have hs : t.stage = .calls := by unfold Tab.stage; rw [if_neg ho]
        have hm : t.may = rowD (mayP t.L t.st.cs) := by unfold Tab.may; rw [hs]
        rw [hm]
        unfold rowD
        walk_at "tb"
        refine ⟨⟨shaped_of (n := 1) (sh_enc 0 c), shaped_of (n := 2) (sh_row _)⟩, ?_⟩
        rw [notin_enc]
        by_cases h2 : c ∈ mayP t.L t.st.cs
        · rw [if_pos ⟨h1, h2⟩] at q
          rw [decide_eq_true h2]
          refine hR _ ?_
          clear hR
          walk_at "tb"
          refine ⟨small_line (by decide), small_line (by omega), small_line (by decide), small_line (by decide), ?_⟩
          refine meth_become (j := 5) (s := ⟨t.st.cs ++ [c], t.st.ps, t.st.cl⟩) (d := .call c) rfl ?_ rfl (by omega) ?_
          · unfold Tst.enc rowD
            rw [List.map_append]; rfl
          · exact finG1 rfl (q _ rfl)
        · rw [if_neg (fun z => h2 z.2)] at qx
          rw [decide_eq_false h2]
          walk_at "tb"
          exact finG1 rfl (qx _ rfl)
      · rw [if_neg (fun z => h1 z.1)] at qx
        rw [show isCallD t.L c.enc = false by simpa using h1]
        walk_at "tb"
        exact finG1 rfl (qx _ rfl)
  | _ => cases hd
theorem notin_cE (xs : List Card) (c : Card) : (!(xs.map cE).any fun z => PyData.eqv z (cE c)) = !decide (c ∈ xs) := by rw [any_cE]
/-- when it is played -/
theorem Tab.must_none {t : Tab} (h : t.must = none) : ∃ c, t.con = some c ∧ t.stage = .play := by
  unfold Tab.must at h
  rcases t.stages with ⟨h1, h2, h3⟩ | ⟨h1, h2, h3⟩ | ⟨c, h1, h2, h4, h3⟩ | ⟨c, h1, h2, h4, h5, h3⟩
  · rw [h2] at h; simp at h
  · rw [h2] at h; simp at h
  · rw [h2, h3] at h; simp at h
  · exact ⟨c, h2, h3⟩
theorem rd_Table_play {C : Addr} {ec : Err → Value} : ∀ ds os QD QX, spDeed C ec argPlay ds os QD QX → tb_Table_play C (spBecome C) (spGet C Tab.may) (spMust C ec) (ec .badCard) (finX 6 QX) (fin1 6 QD) (ds.map S.d ++ List.replicate 3 .un ++ os) := by
  rintro ds os QD QX ⟨a, t, n, d, x, rfl, rfl, hd, ok, hn, q, qx⟩
  cases d with
  | play c =>
    cases hd
    have hlen := ok.len
    have hps := ok.st.ps
    have hhi := ok.dok.hi
    simp only [Tab.act] at q qx
    unfold tb_Table_play
    simp only [List.map_cons, List.map_nil]
    refine seq_step fun R hR => ?_
    walk_at "tb"
    rw [Tst.enc]
    walk_at "tb"
    refine hR _ ?_
    clear hR
    refine seq_step fun R hR => ?_
    walk_at "tb"
    refine meth_must (j := 5) rfl ok hn (fun hm => ?_) (fun e hm => ?_)
    · rw [hm] at q qx
      obtain ⟨k, hk, hst⟩ := Tab.must_none hm
      rw [hk] at q qx
      dsimp only at q qx
      refine hR _ ?_
      clear hR
      refine seq_step fun R hR => ?_
      walk_at "tb"
      refine meth_get (j := 5) rfl ok hn ?_
      have hmay : t.may = handD (mayF t.hs k.s k.ld t.st.ps) := by unfold Tab.may; rw [hst, hk]
      rw [hmay]
      unfold handD
      walk_at "tb"
      refine ⟨⟨shaped_of (n := 1) (sh_cE 0 c), shaped_of (n := 2) (sh_hand _)⟩, ?_⟩
      rw [notin_cE]
      by_cases h2 : c ∈ mayF t.hs k.s k.ld t.st.ps
      · rw [if_pos h2] at q
        rw [decide_eq_true h2]
        refine hR _ ?_
        clear hR
        walk_at "tb"
        refine ⟨small_line (by decide), small_line (by omega), small_line (by decide), small_line (by decide), ?_⟩
        refine meth_become (j := 5) (s := ⟨t.st.cs, t.st.ps ++ [c], t.st.cl⟩) (d := .play c) rfl ?_ rfl (by omega) ?_
        · unfold Tst.enc handD
          rw [List.map_append]; rfl
        · exact finG1 rfl (q _ rfl)
      · rw [if_neg h2] at qx
        rw [decide_eq_false h2]
        walk_at "tb"
        exact finG1 rfl (qx _ rfl)
    · rw [hm] at qx
      exact finG1 rfl (qx _ rfl)
  | _ => cases hd
theorem rd_Table_claim {C : Addr} {ec : Err → Value} : ∀ ds os QD QX, spDeed C ec argClaim ds os QD QX → tb_Table_claim C (spBecome C) (spGet C Tab.tricks) (spCon C) (spMust C ec) (ec .badClaim) (finX 8 QX) (fin1 8 QD) (ds.map S.d ++ List.replicate 5 .un ++ os) := by
  rintro ds os QD QX ⟨a, t, n, d, x, rfl, rfl, hd, ok, hn, q, qx⟩
  cases d with
  | claim m =>
    cases hd
    have hlen := ok.len
    simp only [Tab.act] at q qx
    unfold tb_Table_claim
    simp only [List.map_cons, List.map_nil]
    refine seq_step fun R hR => ?_
    walk_at "tb"
    rw [Tst.enc]
    walk_at "tb"
    refine hR _ ?_
    clear hR
    refine seq_step fun R hR => ?_
    walk_at "tb"
    refine meth_must (j := 7) rfl ok hn (fun hm => ?_) (fun e hm => ?_)
    · rw [hm] at q qx
      obtain ⟨k, hk, hst⟩ := Tab.must_none hm
      rw [hk] at q qx
      dsimp only at q qx
      unfold Tab.okClaim at q qx
      refine hR _ ?_
      clear hR
      refine seq_step fun R hR => ?_
      walk_at "tb"
      refine meth_get (j := 7) rfl ok hn ?_
      rw [hk, oEnc_some]
      unfold Cont.enc
      walk_at "tb"
      refine ⟨by decide, hR _ ?_⟩
      clear hR
      refine seq_step fun R hR => ?_
      walk_at "tb"
      refine meth_get (j := 7) rfl ok hn ?_
      refine hR _ ?_
      clear hR
      refine seq_step fun R hR => ?_
      have fin : ∀ E', E' = [S.d (hdl a), .d (.int m), .d (rowD t.st.cs), .d (handD t.st.ps), .d (optI t.st.cl), .d (.int (k.p % 2)), .d t.tricks, .ob a C t.fs] → (sideOf t.won (k.p % 2) ≤ m ∧ m ≤ t.R - sideOf t.won (1 - k.p % 2)) → R E' := fun E' e h => by
        subst e
        rw [if_pos (decide_eq_true h)] at q
        refine hR _ ?_
        clear hR
        walk_at "tb"
        refine ⟨small_line (by decide), small_line (by decide), ?_⟩
        refine meth_become (j := 7) (s := ⟨t.st.cs, t.st.ps, some m⟩) (d := .claim m) rfl rfl rfl (by omega) ?_
        exact finG1 rfl (q _ rfl)
      unfold Tab.tricks at fin ⊢
      walk_at "tb"
      rcases Int.emod_two_eq k.p with h0 | h0
      · rw [h0] at fin qx ⊢
        unfold sideOf at fin qx
        walk_at "tb"
        by_cases g1 : t.won.1 ≤ m
        · rw [decide_eq_true g1]
          show atD [.int t.won.1, .int t.won.2] 1 _
          walk_at "tb"
          by_cases g2 : m ≤ t.R - t.won.2
          · exact ifF (by rw [decide_eq_true g2]; rfl) (fin _ rfl ⟨g1, g2⟩)
          · refine ifT (by rw [decide_eq_false g2]; rfl) ?_
            rw [if_neg (fun z => g2 (of_decide_eq_true z).2)] at qx
            exact finG1 rfl (qx _ rfl)
        · rw [decide_eq_false g1]
          rw [if_neg (fun z => g1 (of_decide_eq_true z).1)] at qx
          exact finG1 rfl (qx _ rfl)
      · rw [h0] at fin qx ⊢
        unfold sideOf at fin qx
        walk_at "tb"
        by_cases g1 : t.won.2 ≤ m
        · rw [decide_eq_true g1]
          show atD [.int t.won.1, .int t.won.2] 0 _
          walk_at "tb"
          by_cases g2 : m ≤ t.R - t.won.1
          · exact ifF (by rw [decide_eq_true g2]; rfl) (fin _ rfl ⟨g1, g2⟩)
          · refine ifT (by rw [decide_eq_false g2]; rfl) ?_
            rw [if_neg (fun z => g2 (of_decide_eq_true z).2)] at qx
            exact finG1 rfl (qx _ rfl)
        · rw [decide_eq_false g1]
          rw [if_neg (fun z => g1 (of_decide_eq_true z).1)] at qx
          exact finG1 rfl (qx _ rfl)
    · rw [hm] at qx
      exact finG1 rfl (qx _ rfl)
  | _ => cases hd
def spBack (C : Addr) (ec : Err → Value) (F : Tab → Except Err Tab) : SpO := fun ds os QD QX => ∃ (a : Addr) (t : Tab) (n : Nat), ds = [hdl a] ∧ os = [.ob a C t.fs] ∧ TOk n t ∧ n ≤ 900 ∧
  (∀ u, F t = .ok u → QD .none [.ob a C u.fs]) ∧ ∀ e, F t = .error e → QX (ec e) [.ob a C t.fs]
theorem sh_back {C : Addr} {ec : Err → Value} {F : Tab → Except Err Tab} : ∀ ds os QD QX, spBack C ec F ds os QD QX → ds.length = 1 ∧ os.length = 1 := by rintro ds os QD QX ⟨_, _, _, rfl, rfl, _⟩; exact ⟨rfl, rfl⟩
theorem snoc_of {α : Type} (l : List α) : l = [] ∨ ∃ m x, l = m ++ [x] := by
  rcases List.eq_nil_or_concat l with h | ⟨m, x, h⟩
  · exact .inl h
  · exact .inr ⟨m, x, by simpa using h⟩
theorem last_pair {l m : List (Tst × Deed)} {s : Tst} {d : Deed} (h : l = m ++ [(s, d)]) : (l.map pairE).getLast? = some (.tuple [s.enc, d.enc]) ∧ (l.map pairE).dropLast = m.map pairE ∧ (l.map pairE).isEmpty = false := by
  subst h
  rw [List.map_append]
  exact ⟨by rw [List.map_cons, List.map_nil, List.getLast?_concat]; rfl, by rw [List.map_cons, List.map_nil, List.dropLast_concat], by simp⟩
theorem rd_Table_back {C : Addr} {ec : Err → Value} : ∀ ds os QD QX, spBack C ec Tab.back ds os QD QX → tb_Table_back C (ec .nothing) (finX 4 QX) (fin1 4 QD) (ds.map S.d ++ List.replicate 2 .un ++ os) := by
  rintro ds os QD QX ⟨a, t, n, rfl, rfl, ok, hn, q, qx⟩
  have hlen := ok.len
  unfold Tab.back at q qx
  unfold tb_Table_back
  simp only [List.map_cons, List.map_nil]
  refine seq_step fun R hR => ?_
  walk_at "tb"
  rcases snoc_of t.done with hd | ⟨m, ⟨s, d⟩, hd⟩
  · rw [hd] at qx ⊢
    exact ifT rfl (finG1 rfl (qx _ rfl))
  · obtain ⟨l1, l2, l3⟩ := last_pair hd
    rw [hd, List.getLast?_concat, List.dropLast_concat] at q
    dsimp only at q
    refine ifF (by rw [l3]; rfl) (hR _ ?_)
    clear hR
    refine seq_step fun R hR => ?_
    walk_at "tb"
    rw [l1]
    walk_at "tb"
    rw [l2, fs_putDone]
    refine hR _ ?_
    clear hR
    refine seq_step fun R hR => ?_
    walk_at "tb"
    refine ⟨small_line (by omega), ?_⟩
    rw [fs_putUndone' { t with done := m } t.st d]
    refine hR _ ?_
    walk_at "tb"
    rw [fs_len, fs_putState]
    exact ⟨by decide, finG1 rfl (q _ rfl)⟩
theorem rd_Table_again {C : Addr} {ec : Err → Value} : ∀ ds os QD QX, spBack C ec Tab.again ds os QD QX → tb_Table_again C (ec .nothing) (finX 4 QX) (fin1 4 QD) (ds.map S.d ++ List.replicate 2 .un ++ os) := by
  rintro ds os QD QX ⟨a, t, n, rfl, rfl, ok, hn, q, qx⟩
  have hlen := ok.len
  unfold Tab.again at q qx
  unfold tb_Table_again
  simp only [List.map_cons, List.map_nil]
  refine seq_step fun R hR => ?_
  walk_at "tb"
  rcases snoc_of t.undone with hd | ⟨m, ⟨s, d⟩, hd⟩
  · rw [hd] at qx ⊢
    exact ifT rfl (finG1 rfl (qx _ rfl))
  · obtain ⟨l1, l2, l3⟩ := last_pair hd
    rw [hd, List.getLast?_concat, List.dropLast_concat] at q
    dsimp only at q
    refine ifF (by rw [l3]; rfl) (hR _ ?_)
    clear hR
    refine seq_step fun R hR => ?_
    walk_at "tb"
    rw [l1]
    walk_at "tb"
    rw [l2, fs_putUndone]
    refine hR _ ?_
    clear hR
    refine seq_step fun R hR => ?_
    walk_at "tb"
    refine ⟨small_line (by omega), ?_⟩
    rw [fs_putDone' { t with undone := m } t.st d]
    refine hR _ ?_
    walk_at "tb"
    rw [fs_len, fs_putState]
    exact ⟨by decide, finG1 rfl (q _ rfl)⟩
theorem pf0 : ([] : List (Str × FS)).length ≤ 0 := Nat.le_refl 0
theorem pf {f : Str} {x : FS} : ∀ {l : List (Str × FS)} {n : Nat}, l.length ≤ n → (putFS f x l).length ≤ n + 1
  | [], n, _ => by show 1 ≤ n + 1; omega
  | (g, y) :: r, 0, h => by simp at h
  | (g, y) :: r, n + 1, h => by
    unfold putFS
    split
    · show r.length + 1 ≤ _
      have : r.length + 1 ≤ n + 1 := h
      omega
    · show (putFS f x r).length + 1 ≤ _
      have := pf (f := f) (x := x) (l := r) (n := n) (by have : r.length + 1 ≤ n + 1 := h; omega)
      omega
def newTab (R : Nat) (hs : List (List Card)) (dealer : Int) (r0 r1 : Bool) : Tab := ⟨R, hs, dealer, r0, r1, ⟨[], [], none⟩, [], []⟩
def riskD (r : Option (Bool × Bool)) : D := match r with
  | some p => .tuple [.bool p.1, .bool p.2]
  | none => .none
def spInit (C : Addr) : SpO := fun ds os QD _ => ∃ (a : Addr) (R : Nat) (hs : List (List Card)) (dealer : Int) (r : Option (Bool × Bool)), ds = [hdl a, .int R, dealT hs, .int dealer, riskD r] ∧ os = [.ob a C []] ∧ QD .none [.ob a C (newTab R hs dealer (r.getD (false, false)).1 (r.getD (false, false)).2).fs]
theorem sh_Table___init__ {C : Addr} : ∀ ds os QD QX, spInit C ds os QD QX → ds.length = 5 ∧ os.length = 1 := by rintro ds os QD QX ⟨_, _, _, _, _, rfl, rfl, _⟩; exact ⟨rfl, rfl⟩
theorem rd_Table___init__ {C : Addr} : ∀ ds os QD QX, spInit C ds os QD QX → tb_Table___init__ C (fin1 6 QD) (ds.map S.d ++ List.replicate 0 .un ++ os) := by
  rintro ds os QD QX ⟨a, R0, hs, dealer, r, rfl, rfl, q⟩
  unfold tb_Table___init__
  simp only [List.map_cons, List.map_nil]
  refine seq_step fun R hR => ?_
  walk_at "tb"
  refine ⟨Nat.lt_of_le_of_lt pf0 (by decide), hR _ ?_⟩
  clear hR
  refine seq_step fun R hR => ?_
  walk_at "tb"
  refine ⟨Nat.lt_of_le_of_lt (pf pf0) (by decide), hR _ ?_⟩
  clear hR
  refine seq_step fun R hR => ?_
  walk_at "tb"
  refine ⟨Nat.lt_of_le_of_lt (pf (pf pf0)) (by decide), hR _ ?_⟩
  clear hR
  refine seq_step fun R hR => ?_
  cases r with
  | none =>
    unfold riskD
    walk_at "tb"
    refine ⟨small_line (by decide), Nat.lt_of_le_of_lt (pf (pf (pf pf0))) (by decide), hR _ ?_⟩
    clear hR
    refine seq_step fun R hR => ?_
    walk_at "tb"
    refine ⟨small_line (by decide), small_line (by decide), small_line (by decide), Nat.lt_of_le_of_lt (pf (pf (pf (pf pf0)))) (by decide), hR _ ?_⟩
    clear hR
    refine seq_step fun R hR => ?_
    walk_at "tb"
    refine ⟨small_line (by decide), Nat.lt_of_le_of_lt (pf (pf (pf (pf (pf pf0))))) (by decide), hR _ ?_⟩
    walk_at "tb"
    exact ⟨small_line (by decide), Nat.lt_of_le_of_lt (pf (pf (pf (pf (pf (pf pf0)))))) (by decide), finG1 rfl q⟩
  | some p =>
    unfold riskD
    walk_at "tb"
    refine ⟨Nat.lt_of_le_of_lt (pf (pf (pf pf0))) (by decide), hR _ ?_⟩
    clear hR
    refine seq_step fun R hR => ?_
    walk_at "tb"
    refine ⟨small_line (by decide), small_line (by decide), small_line (by decide), Nat.lt_of_le_of_lt (pf (pf (pf (pf pf0)))) (by decide), hR _ ?_⟩
    clear hR
    refine seq_step fun R hR => ?_
    walk_at "tb"
    refine ⟨small_line (by decide), Nat.lt_of_le_of_lt (pf (pf (pf (pf (pf pf0))))) (by decide), hR _ ?_⟩
    walk_at "tb"
    exact ⟨small_line (by decide), Nat.lt_of_le_of_lt (pf (pf (pf (pf (pf (pf pf0)))))) (by decide), finG1 rfl q⟩
end DL
set_option Elab.async false
set_option linter.all false
set_option maxRecDepth 100000
set_option maxHeartbeats 4000000
namespace DL
open PySem PySem.Spec PyProof.Rows L2
local macro_rules | `(tactic| walk_at "dl") => `(tactic| simp only [tV, tVr, tFzV, turnD, DL.wipeE, tK, tOpD, tUnD, tBo, tAndD, tOrD, tNotD, tIfE, DL.tAndV, DL.tOrV, DL.tNotV, tTru, truD, okLen, sSet, sSetL, sExpr, sRet, sIf, sNx, tTupD, dNil, dCons, tLstD, tFzD, tApp, tExtd, tPopAt, sSetIx, tIxO, tChainD, tChain3D, tRevT, caStr, opRepT, opAdd, opSub, opMul, opDiv, opMod, opPow, DL.opI, DL.opI0, opB0, opLt, opLe, opGt, opGtD, opLtD, opGe, opEq, opNe, opIs, opIsN, isNone, opIn, opNotIn, opIx, atD_0, atD_1, atD_2, atD_3, putD_0, unNeg, tCa1, tCa2, tCaL1, caLen, caAbs, caMax2, caMin2, caSum, caMax, caMin, caSumT, caMaxT, caMinT, caAll, caTuple, caList, caInt, tIsi, isInt, isBool, isStr, isTuple, isList, notDict, sAsg, gSet, gTupD, gLstD, gsNil, gsCons, sPar, pNil, pD, pL, setAll, tCallD, aNil, aV, aO, argS, oixs, ndp, putO, tOpL, opCat, opRep, tSlD, slD, tSlL, oNo, oE, tRevD, iLstD, iTupD, iRange1, iRange2, iZipD, iZipM, finO, tTrue, Option.map, eqv_int, eqv_bool, eqv_none, shaped_int, shaped_bool, shaped_none, tLenRange, tSortSet, tLenSet, tLenSetP, tSortSetP, tCountL, tCountT, tIndexL, tIndexT, DL.tOrT, DL.tAndT, DL.tNotT, tSortRev, caSorted, iEnumL, iEnumT, tDGetV, tDGetD, tDGet2V, dictAt, sDPutV, sSetM, mDt, mDk, pM, tInN, tNotInN, tCallM, amM, amV, tListRg, iDk, iDv, iDi, tLDk, tLDv, tTruDk, mDt1, tFzM, tCall0D, tFldD, tFldR, fldD, fldL, obD, unH_hdl, obGet, setOb, putOD, sFldD, sFldL, tMethO, tAppF, tPopF, sRaise, keyB_2, keyB_3, keyB_4, decide_eq_true_eq, and_self, List.cons_append, List.nil_append, List.replicate, List.getElem?_cons_zero, List.getElem?_cons_succ, List.set_cons_zero, List.set_cons_succ, List.length_cons, List.length_nil, true_and, and_true, if_true, if_false, Bool.false_eq_true, List.contains_nil, Bool.not_false, Bool.not_true, Bool.and_self, Bool.and_true, Bool.true_and, decide_true, decide_false, beq_self_eq_true])
def tb_law_word (a : Addr) (b_NothingBack : Bool) (b_BadClaim : Bool) (b_BadCard : Bool) (b_BadCall : Bool) (b_NotNow : Bool) (b_Over : Bool) (b_ValueError : Bool) : TSd :=
  sSeq (sSet 1 (tFzD (tLstD (dCons (tIsE 0 a b_Over) (dCons (tIsE 0 a b_NotNow) (dCons (tIsE 0 a b_BadCall) (dCons (tIsE 0 a b_BadCard) (dNil))))))))
      (sSeq (sSet 1 (tFzD (tOpL opCat (tV 1) (tFzD (tLstD (dCons (tIsE 0 a b_BadClaim) (dCons (tIsE 0 a b_NothingBack) (dNil))))))))
      (sSeq (sSet 2 (tFzD (tLstD (dCons (tK (.str "Over")) (dCons (tK (.str "NotNow")) (dCons (tK (.str "BadCall")) (dCons (tK (.str "BadCard")) (dCons (tK (.str "BadClaim")) (dCons (tK (.str "NothingBack")) (dNil))))))))))
      (sSeq (sIf (tOrD (tBo (tOpD opNe (tCountL (tV 1) (tK (.bool true))) (tK (.int 1)))) (tNotD (tTru (tIsE 0 a b_ValueError)))) (sRet (tK (.str "none of these"))) (sNx))
      (sRet (tOpD opIx (tV 2) (tIndexL (tV 1) (tK (.bool true))))))))
def tb_law_acted (C : Addr) (sp_Table_call : SpO) (sp_Table_play : SpO) (sp_Table_claim : SpO) (sp_Table_back : SpO) (sp_Table_again : SpO) (m_BoardError : Value → Option Bool) (wd : Value → Option Str) : TSd :=
  sSeq (sSet 2 (tK .none))
      (sSeq (sTryW m_BoardError wd 3 2 (fun _ _ => False) (fun WD => sIf (tBo (tOpD opEq (tOpD opIx (tV 1) (tK (.int 0))) (tK (.str "call")))) (sSet 2 (tMethO C "call" sp_Table_call (tV 0) (dCons (tOpD opIx (tV 1) (tK (.int 1))) (dNil)) WD)) (sIf (tBo (tOpD opEq (tOpD opIx (tV 1) (tK (.int 0))) (tK (.str "play")))) (sSet 2 (tMethO C "play" sp_Table_play (tV 0) (dCons (tOpD opIx (tV 1) (tK (.int 1))) (dNil)) WD)) (sIf (tBo (tOpD opEq (tOpD opIx (tV 1) (tK (.int 0))) (tK (.str "claim")))) (sSet 2 (tMethO C "claim" sp_Table_claim (tV 0) (dCons (tOpD opIx (tV 1) (tK (.int 1))) (dNil)) WD)) (sIf (tBo (tOpD opEq (tOpD opIx (tV 1) (tK (.int 0))) (tK (.str "back")))) (sSet 2 (tMethO C "back" sp_Table_back (tV 0) (dNil) WD)) (sSet 2 (tMethO C "again" sp_Table_again (tV 0) (dNil) WD)))))))
      (sRet (tV 2)))
def tb_Table_deeds (C : Addr) : TSd :=
  sRet (tCa1 caTuple (tFzD (tCompF C "done" 0 (gTupD 2 (gsCons (gSet 1) (gsCons (gSet 2) (gsNil)))) tTrue (tV 2) [1, 2])))
def tb_Table_taken_back (C : Addr) : TSd :=
  sRet (tRevT (tCa1 caTuple (tFzD (tCompF C "undone" 0 (gTupD 2 (gsCons (gSet 1) (gsCons (gSet 2) (gsNil)))) tTrue (tV 2) [1, 2]))))
local macro_rules | `(tactic| walk_at "tb") => `(tactic| simp only [tV, tVr, tFzV, turnD, DL.wipeE, tK, tOpD, tUnD, tBo, tAndD, tOrD, tNotD, tIfE, DL.tAndV, DL.tOrV, DL.tNotV, tTru, truD, okLen, sSet, sSetL, sExpr, sRet, sIf, sNx, tTupD, dNil, dCons, tLstD, tFzD, tApp, tExtd, tPopAt, sSetIx, tIxO, tChainD, tChain3D, tRevT, caStr, opRepT, opAdd, opSub, opMul, opDiv, opMod, opPow, DL.opI, DL.opI0, opB0, opLt, opLe, opGt, opGtD, opLtD, opGe, opEq, opNe, opIs, opIsN, isNone, opIn, opNotIn, opIx, atD_0, atD_1, atD_2, atD_3, putD_0, unNeg, tCa1, tCa2, tCaL1, caLen, caAbs, caMax2, caMin2, caSum, caMax, caMin, caSumT, caMaxT, caMinT, caAll, caTuple, caList, caInt, tIsi, isInt, isBool, isStr, isTuple, isList, notDict, sAsg, gSet, gTupD, gLstD, gsNil, gsCons, sPar, pNil, pD, pL, setAll, tCallD, aNil, aV, aO, argS, oixs, ndp, putO, tOpL, opCat, opRep, tSlD, slD, tSlL, oNo, oE, tRevD, iLstD, iTupD, iRange1, iRange2, iZipD, iZipM, finO, tTrue, Option.map, eqv_int, eqv_bool, eqv_none, shaped_int, shaped_bool, shaped_none, tLenRange, tSortSet, tLenSet, tLenSetP, tSortSetP, tCountL, tCountT, tIndexL, tIndexT, DL.tOrT, DL.tAndT, DL.tNotT, tSortRev, caSorted, iEnumL, iEnumT, tDGetV, tDGetD, tDGet2V, dictAt, sDPutV, sSetM, mDt, mDk, pM, tInN, tNotInN, tCallM, amM, amV, tListRg, iDk, iDv, iDi, tLDk, tLDv, tTruDk, mDt1, tFzM, tCall0D, tFldD, tFldR, fldD, fldL, obD, unH_hdl, obGet, setOb, putOD, sFldD, sFldL, tMethO, tAppF, tPopF, sRaise, keyB_2, keyB_3, keyB_4, decide_eq_true_eq, and_self, List.cons_append, List.nil_append, List.replicate, List.getElem?_cons_zero, List.getElem?_cons_succ, List.set_cons_zero, List.set_cons_succ, List.length_cons, List.length_nil, true_and, and_true, if_true, if_false, Bool.false_eq_true, List.contains_nil, Bool.not_false, Bool.not_true, Bool.and_self, Bool.and_true, Bool.true_and, decide_true, decide_false, beq_self_eq_true, fs_ranks, fs_deal, fs_dealer, fs_risk, fs_state, fs_done, fs_undone, fs_contract, fs_leader, fs_stage, fs_turn, fs_may, fs_call, fs_must, fs_play, fs_claim, fs_tricks, fs_score, fs_calls, fs_cards, fs_back, fs_again, fs_deeds, fs_taken, fs_become, stg_sh, sh_sC, sh_sP, sh_sE, stg_eqC, stg_eqP, stg_eqE, reduceCtorEq, List.length_map, isNone_con])
theorem sw_call : SeqAt.shaped (.str "call") = true := shaped_of (n := 1) (by decide +kernel)
theorem we_call_call : PyData.eqv (.str "call") (.str "call") = true := by rw [eqv_str]; decide
theorem we_call_play : PyData.eqv (.str "call") (.str "play") = false := by rw [eqv_str]; decide
theorem we_call_claim : PyData.eqv (.str "call") (.str "claim") = false := by rw [eqv_str]; decide
theorem we_call_back : PyData.eqv (.str "call") (.str "back") = false := by rw [eqv_str]; decide
theorem sw_play : SeqAt.shaped (.str "play") = true := shaped_of (n := 1) (by decide +kernel)
theorem we_play_call : PyData.eqv (.str "play") (.str "call") = false := by rw [eqv_str]; decide
theorem we_play_play : PyData.eqv (.str "play") (.str "play") = true := by rw [eqv_str]; decide
theorem we_play_claim : PyData.eqv (.str "play") (.str "claim") = false := by rw [eqv_str]; decide
theorem we_play_back : PyData.eqv (.str "play") (.str "back") = false := by rw [eqv_str]; decide
theorem sw_claim : SeqAt.shaped (.str "claim") = true := shaped_of (n := 1) (by decide +kernel)
theorem we_claim_call : PyData.eqv (.str "claim") (.str "call") = false := by rw [eqv_str]; decide
theorem we_claim_play : PyData.eqv (.str "claim") (.str "play") = false := by rw [eqv_str]; decide
theorem we_claim_claim : PyData.eqv (.str "claim") (.str "claim") = true := by rw [eqv_str]; decide
theorem we_claim_back : PyData.eqv (.str "claim") (.str "back") = false := by rw [eqv_str]; decide
theorem sw_back : SeqAt.shaped (.str "back") = true := shaped_of (n := 1) (by decide +kernel)
theorem we_back_call : PyData.eqv (.str "back") (.str "call") = false := by rw [eqv_str]; decide
theorem we_back_play : PyData.eqv (.str "back") (.str "play") = false := by rw [eqv_str]; decide
theorem we_back_claim : PyData.eqv (.str "back") (.str "claim") = false := by rw [eqv_str]; decide
theorem we_back_back : PyData.eqv (.str "back") (.str "back") = true := by rw [eqv_str]; decide
theorem sw_again : SeqAt.shaped (.str "again") = true := shaped_of (n := 1) (by decide +kernel)
theorem we_again_call : PyData.eqv (.str "again") (.str "call") = false := by rw [eqv_str]; decide
theorem we_again_play : PyData.eqv (.str "again") (.str "play") = false := by rw [eqv_str]; decide
theorem we_again_claim : PyData.eqv (.str "again") (.str "claim") = false := by rw [eqv_str]; decide
theorem we_again_back : PyData.eqv (.str "again") (.str "back") = false := by rw [eqv_str]; decide
local macro_rules | `(tactic| walk_at "mv") => `(tactic| simp only [tV, tVr, tFzV, turnD, DL.wipeE, tK, tOpD, tUnD, tBo, tAndD, tOrD, tNotD, tIfE, DL.tAndV, DL.tOrV, DL.tNotV, tTru, truD, okLen, sSet, sSetL, sExpr, sRet, sIf, sNx, tTupD, dNil, dCons, tLstD, tFzD, tApp, tExtd, tPopAt, sSetIx, tIxO, tChainD, tChain3D, tRevT, caStr, opRepT, opAdd, opSub, opMul, opDiv, opMod, opPow, DL.opI, DL.opI0, opB0, opLt, opLe, opGt, opGtD, opLtD, opGe, opEq, opNe, opIs, opIsN, isNone, opIn, opNotIn, opIx, atD_0, atD_1, atD_2, atD_3, putD_0, unNeg, tCa1, tCa2, tCaL1, caLen, caAbs, caMax2, caMin2, caSum, caMax, caMin, caSumT, caMaxT, caMinT, caAll, caTuple, caList, caInt, tIsi, isInt, isBool, isStr, isTuple, isList, notDict, sAsg, gSet, gTupD, gLstD, gsNil, gsCons, sPar, pNil, pD, pL, setAll, tCallD, aNil, aV, aO, argS, oixs, ndp, putO, tOpL, opCat, opRep, tSlD, slD, tSlL, oNo, oE, tRevD, iLstD, iTupD, iRange1, iRange2, iZipD, iZipM, finO, tTrue, Option.map, eqv_int, eqv_bool, eqv_none, shaped_int, shaped_bool, shaped_none, tLenRange, tSortSet, tLenSet, tLenSetP, tSortSetP, tCountL, tCountT, tIndexL, tIndexT, DL.tOrT, DL.tAndT, DL.tNotT, tSortRev, caSorted, iEnumL, iEnumT, tDGetV, tDGetD, tDGet2V, dictAt, sDPutV, sSetM, mDt, mDk, pM, tInN, tNotInN, tCallM, amM, amV, tListRg, iDk, iDv, iDi, tLDk, tLDv, tTruDk, mDt1, tFzM, tCall0D, tFldD, tFldR, fldD, fldL, obD, unH_hdl, obGet, setOb, putOD, sFldD, sFldL, tMethO, tAppF, tPopF, sRaise, keyB_2, keyB_3, keyB_4, decide_eq_true_eq, and_self, List.cons_append, List.nil_append, List.replicate, List.getElem?_cons_zero, List.getElem?_cons_succ, List.set_cons_zero, List.set_cons_succ, List.length_cons, List.length_nil, true_and, and_true, if_true, if_false, Bool.false_eq_true, List.contains_nil, Bool.not_false, Bool.not_true, Bool.and_self, Bool.and_true, Bool.true_and, decide_true, decide_false, beq_self_eq_true, fs_ranks, fs_deal, fs_dealer, fs_risk, fs_state, fs_done, fs_undone, fs_contract, fs_leader, fs_stage, fs_turn, fs_may, fs_call, fs_must, fs_play, fs_claim, fs_tricks, fs_score, fs_calls, fs_cards, fs_back, fs_again, fs_deeds, fs_taken, fs_become, stg_sh, sh_sC, sh_sP, sh_sE, stg_eqC, stg_eqP, stg_eqE, reduceCtorEq, List.length_map, isNone_con, sw_call, we_call_call, we_call_play, we_call_claim, we_call_back, sw_play, we_play_call, we_play_play, we_play_claim, we_play_back, sw_claim, we_claim_call, we_claim_play, we_claim_claim, we_claim_back, sw_back, we_back_call, we_back_play, we_back_claim, we_back_back, sw_again, we_again_call, we_again_play, we_again_claim, we_again_back])
def errW : Err → Str
  | .over => "Over"
  | .notNow => "NotNow"
  | .badCall => "BadCall"
  | .badCard => "BadCard"
  | .badClaim => "BadClaim"
  | .nothing => "NothingBack"
abbrev bitsD (e : Err) : List D := [.bool (decide (e = .over)), .bool (decide (e = .notNow)), .bool (decide (e = .badCall)), .bool (decide (e = .badCard)), .bool (decide (e = .badClaim)), .bool (decide (e = .nothing))]
def atE : Err → Nat
  | .over => 0
  | .notNow => 1
  | .badCall => 2
  | .badCard => 3
  | .badClaim => 4
  | .nothing => 5
theorem bits_ok (e : Err) : okAll (bitsD e) (.bool true) := by cases e <;> exact ⟨rfl, rfl⟩
theorem bits_cnt (e : Err) : cntD (bitsD e) (.bool true) = 1 := by cases e <;> (unfold cntD bitsD; simp [List.countP_cons, eqv_bool])
theorem bits_ix (e : Err) : idxOk (bitsD e) (.bool true) (atE e) := by
  refine ⟨⟨.bool true, by cases e <;> rfl, by rw [eqv_bool]; rfl⟩, fun m z hm hz => ?_⟩
  have : z = .bool false := by
    cases e <;> (simp only [atE] at hm; rcases m with _ | _ | _ | _ | _ | m <;> first | omega | (cases hz; rfl))
  rw [this, eqv_bool]; rfl
theorem word_at (e : Err) {Q : D → Prop} (q : Q (.str (errW e))) : atD [.str "Over", .str "NotNow", .str "BadCall", .str "BadCard", .str "BadClaim", .str "NothingBack"] ((atE e : Nat) : Int) Q := by
  refine atD_at (d := .str (errW e)) (Int.natCast_nonneg _) ?_ q
  cases e <;> rfl
theorem rd_law_word (e : Err) : ∀ a, tb_law_word a (decide (e = .nothing)) (decide (e = .badClaim)) (decide (e = .badCard)) (decide (e = .badCall)) (decide (e = .notNow)) (decide (e = .over)) true { nx := fun _ => False, rt := fun d _ => d = .str (errW e) } (.d (hdl a) :: List.replicate 2 .un) := by
  intro a
  unfold tb_law_word
  refine seq_step fun R hR => ?_
  walk_at "mv"
  refine ⟨rfl, rfl, rfl, rfl, small_line (by decide), hR _ ?_⟩
  clear hR
  refine seq_step fun R hR => ?_
  walk_at "mv"
  refine ⟨rfl, rfl, small_line (by decide), small_line (by decide), hR _ ?_⟩
  clear hR
  refine seq_step fun R hR => ?_
  walk_at "mv"
  refine ⟨small_line (by decide), hR _ ?_⟩
  clear hR
  refine seq_step fun R hR => ?_
  walk_at "mv"
  refine ⟨bits_ok e, ?_⟩
  rw [bits_cnt]
  refine ⟨rfl, ?_⟩
  refine ⟨trivial, hR _ ?_⟩
  walk_at "mv"
  refine ⟨_, bits_ok e, bits_ix e, ?_⟩
  exact word_at e rfl
inductive Mv where
  | deed (d : Deed)
  | back
  | again
def Mv.enc : Mv → D
  | .deed d => d.enc
  | .back => .tuple [.str "back"]
  | .again => .tuple [.str "again"]
def Tab.mv (t : Tab) : Mv → Except Err Tab
  | .deed d => t.act d
  | .back => t.back
  | .again => t.again
def spActed (C : Addr) : SpO := fun ds os QD _ => ∃ (a : Addr) (t : Tab) (n : Nat) (m : Mv), ds = [hdl a, m.enc] ∧ os = [.ob a C t.fs] ∧ TOk n t ∧ n ≤ 900 ∧
  (∀ u, t.mv m = .ok u → QD .none [.ob a C u.fs]) ∧ ∀ e, t.mv m = .error e → QD (.str (errW e)) [.ob a C t.fs]
theorem sh_law_acted {C : Addr} : ∀ ds os QD QX, spActed C ds os QD QX → ds.length = 2 ∧ os.length = 1 := by rintro ds os QD QX ⟨_, _, _, _, rfl, rfl, _⟩; exact ⟨rfl, rfl⟩
theorem meth_deed {C a : Addr} {ec : Err → Value} {arg : Deed → Option D} {t : Tab} {E : Env} {j n : Nat} {d : Deed} {x : D} {Q : D → Env → Prop} {WD : WDt} (hj : E[j]? = some (.ob a C t.fs)) (hx : arg d = some x) (ok : TOk n t) (hn : n ≤ 900) (q : ∀ u, t.act d = .ok u → Q .none (E.set j (.ob a C u.fs))) (qx : ∀ e, t.act d = .error e → WD (ec e) E) : tObs (spDeed C ec arg) [hdl a, x] E Q WD := by
  refine ⟨[j], [.ob a C t.fs], by simp, by unfold obsAt; rw [hj]; rfl, a, t, n, d, x, rfl, rfl, hx, ok, hn, fun u h => ⟨rfl, q u h⟩, fun e h => ⟨rfl, ?_⟩⟩
  show WD _ (E.set j _)
  rw [set_same hj]; exact qx e h
theorem meth_back {C a : Addr} {ec : Err → Value} {F : Tab → Except Err Tab} {t : Tab} {E : Env} {j n : Nat} {Q : D → Env → Prop} {WD : WDt} (hj : E[j]? = some (.ob a C t.fs)) (ok : TOk n t) (hn : n ≤ 900) (q : ∀ u, F t = .ok u → Q .none (E.set j (.ob a C u.fs))) (qx : ∀ e, F t = .error e → WD (ec e) E) : tObs (spBack C ec F) [hdl a] E Q WD := by
  refine ⟨[j], [.ob a C t.fs], by simp, by unfold obsAt; rw [hj]; rfl, a, t, n, rfl, rfl, ok, hn, fun u h => ⟨rfl, q u h⟩, fun e h => ⟨rfl, ?_⟩⟩
  show WD _ (E.set j _)
  rw [set_same hj]; exact qx e h
theorem rd_law_acted {C : Addr} {ec : Err → Value} {m_BoardError : Value → Option Bool} {wd : Value → Option Str} (hm : ∀ e, m_BoardError (ec e) = some true) (hw : ∀ e, wd (ec e) = some (errW e)) :
    ∀ ds os QD QX, spActed C ds os QD QX → tb_law_acted C (spDeed C ec argCall) (spDeed C ec argPlay) (spDeed C ec argClaim) (spBack C ec Tab.back) (spBack C ec Tab.again) m_BoardError wd (fin1 5 QD) (ds.map S.d ++ List.replicate 2 .un ++ os) := by
  rintro ds os QD QX ⟨a, t, n, m, rfl, rfl, ok, hn, q, qx⟩
  unfold tb_law_acted
  simp only [List.map_cons, List.map_nil]
  refine seq_step fun R hR => ?_
  walk_at "tb"
  refine hR _ ?_
  clear hR
  refine seq_step fun R hR => ?_
  unfold sTryW
  have end1 : ∀ u, t.mv m = .ok u → R [.d (hdl a), .d m.enc, .d .none, .un, .ob a C u.fs] := fun u h => hR _ (by walk_at "tb"; exact finG1 rfl (q u h))
  have end2 : ∀ e, t.mv m = .error e → R [.d (hdl a), .d m.enc, .d (.str (errW e)), .un, .ob a C t.fs] := fun e h => hR _ (by walk_at "tb"; exact finG1 rfl (qx e h))
  clear hR q qx
  cases m with
  | deed d =>
    cases d with
    | call c =>
      unfold Mv.enc Deed.enc at *
      walk_at "mv"
      refine meth_deed (j := 4) (d := .call c) rfl rfl ok hn (fun u h => ?_) (fun e h => ?_)
      · exact end1 u h
      · rw [hm e]
        dsimp only
        rw [hw e]
        exact ⟨by show 3 < 5; decide, end2 e h⟩
    | play c =>
      unfold Mv.enc Deed.enc at *
      walk_at "mv"
      refine meth_deed (j := 4) (d := .play c) rfl rfl ok hn (fun u h => ?_) (fun e h => ?_)
      · exact end1 u h
      · rw [hm e]
        dsimp only
        rw [hw e]
        exact ⟨by show 3 < 5; decide, end2 e h⟩
    | claim k =>
      unfold Mv.enc Deed.enc at *
      walk_at "mv"
      refine meth_deed (j := 4) (d := .claim k) rfl rfl ok hn (fun u h => ?_) (fun e h => ?_)
      · exact end1 u h
      · rw [hm e]
        dsimp only
        rw [hw e]
        exact ⟨by show 3 < 5; decide, end2 e h⟩
  | back =>
    unfold Mv.enc at *
    walk_at "mv"
    refine meth_back (j := 4) rfl ok hn (fun u h => ?_) (fun e h => ?_)
    · exact end1 u h
    · rw [hm e]
      dsimp only
      rw [hw e]
      exact ⟨by show 3 < 5; decide, end2 e h⟩
  | again =>
    unfold Mv.enc at *
    walk_at "mv"
    refine meth_back (j := 4) rfl ok hn (fun u h => ?_) (fun e h => ?_)
    · exact end1 u h
    · rw [hm e]
      dsimp only
      rw [hw e]
      exact ⟨by show 3 < 5; decide, end2 e h⟩
theorem comp_deeds {a C : Addr} {t : Tab} {g : TGd} {te : TD} (hg : g = gTupD 2 (gsCons (gSet 1) (gsCons (gSet 2) gsNil))) (he : te = tV 2) : ∀ (l : List (Tst × Deed)) (acc : List D) (E : Env) (Q : List D → Env → Prop), acc.length + l.length ≤ 1000 → (∃ x y, E = [.d (hdl a), x, y, .un]) → (∀ E', Q (acc ++ l.map fun p => p.2.enc) E') → compD g tTrue te [1, 2] (l.map pairE) acc E Q
  | [], acc, E, Q, _, _, q => by simpa [compD] using q E
  | p :: l, acc, E, Q, hl, hE, q => by
    subst hg he
    obtain ⟨x, y, rfl⟩ := hE
    simp only [List.map_cons, compD]
    unfold pairE
    walk_at "tb"
    refine ⟨small_line (by simp at hl; omega), ?_⟩
    refine comp_deeds (a := a) (C := C) (t := t) rfl rfl l _ _ _ (by simp at hl ⊢; omega) ⟨_, _, rfl⟩ fun E' => ?_
    have := q E'
    simpa using this
theorem rd_Table_deeds {C : Addr} : ∀ ds os QD QX, spGet C (fun t => .tuple (t.done.map fun p => p.2.enc)) ds os QD QX → tb_Table_deeds C (fin1 4 QD) (ds.map S.d ++ List.replicate 2 .un ++ os) := by
  rintro ds os QD QX ⟨a, t, n, rfl, rfl, ok, hn, q⟩
  have hlen := ok.len
  unfold tb_Table_deeds
  simp only [List.map_cons, List.map_nil]
  walk_at "tb"
  simp only [tCompF]
  walk_at "tb"
  refine comp_deeds (a := a) (C := C) (t := t) rfl rfl t.done [] _ _ (by simp; omega) ⟨_, _, rfl⟩ fun E' => ?_
  exact q
theorem rd_Table_taken_back {C : Addr} : ∀ ds os QD QX, spGet C (fun t => .tuple (t.undone.map fun p => p.2.enc).reverse) ds os QD QX → tb_Table_taken_back C (fin1 4 QD) (ds.map S.d ++ List.replicate 2 .un ++ os) := by
  rintro ds os QD QX ⟨a, t, n, rfl, rfl, ok, hn, q⟩
  have hlen := ok.len
  unfold tb_Table_taken_back
  simp only [List.map_cons, List.map_nil]
  walk_at "tb"
  simp only [tCompF]
  walk_at "tb"
  refine comp_deeds (a := a) (C := C) (t := t) rfl rfl t.undone [] _ _ (by simp; omega) ⟨_, _, rfl⟩ fun E' => ?_
  exact q
/-! ### the classes of refusals -/
def ecOf (a1 a2 a3 a4 a5 a6 : Addr) : Err → Value
  | .over => .ref a1
  | .notNow => .ref a2
  | .badCall => .ref a3
  | .badCard => .ref a4
  | .badClaim => .ref a5
  | .nothing => .ref a6
def wdOf (a1 a2 a3 a4 a5 a6 : Addr) : Value → Option Str
  | .ref a => if a = a1 then some "Over" else if a = a2 then some "NotNow" else if a = a3 then some "BadCall" else if a = a4 then some "BadCard" else if a = a5 then some "BadClaim" else if a = a6 then some "NothingBack" else none
  | _ => none
theorem wd_ec {a1 a2 a3 a4 a5 a6 : Addr} (nd : [a1, a2, a3, a4, a5, a6].Nodup) (e : Err) : wdOf a1 a2 a3 a4 a5 a6 (ecOf a1 a2 a3 a4 a5 a6 e) = some (errW e) := by
  simp only [List.nodup_cons, List.mem_cons, List.not_mem_nil, or_false, not_or, not_false_eq_true, List.nodup_nil, and_true] at nd
  obtain ⟨⟨b1, b2, b3, b4, b5⟩, ⟨c1, c2, c3, c4⟩, ⟨d1, d2, d3⟩, ⟨f1, f2⟩, g1⟩ := nd
  cases e <;> simp only [ecOf, wdOf, errW]
  · rw [if_pos trivial]
  · rw [if_neg (Ne.symm b1), if_pos trivial]
  · rw [if_neg (Ne.symm b2), if_neg (Ne.symm c1), if_pos trivial]
  · rw [if_neg (Ne.symm b3), if_neg (Ne.symm c2), if_neg (Ne.symm d1), if_pos trivial]
  · rw [if_neg (Ne.symm b4), if_neg (Ne.symm c3), if_neg (Ne.symm d2), if_neg (Ne.symm f1), if_pos trivial]
  · rw [if_neg (Ne.symm b5), if_neg (Ne.symm c4), if_neg (Ne.symm d3), if_neg (Ne.symm f2), if_neg (Ne.symm g1), if_pos trivial]
theorem wd_inv {a1 a2 a3 a4 a5 a6 : Addr} {cls : Value} {y : Str} (h : wdOf a1 a2 a3 a4 a5 a6 cls = some y) : ∃ e, cls = ecOf a1 a2 a3 a4 a5 a6 e ∧ y = errW e := by
  unfold wdOf at h
  split at h
  · split at h
    · rename_i z; cases h; exact ⟨.over, by rw [z]; rfl, rfl⟩
    · split at h
      · rename_i z; cases h; exact ⟨.notNow, by rw [z]; rfl, rfl⟩
      · split at h
        · rename_i z; cases h; exact ⟨.badCall, by rw [z]; rfl, rfl⟩
        · split at h
          · rename_i z; cases h; exact ⟨.badCard, by rw [z]; rfl, rfl⟩
          · split at h
            · rename_i z; cases h; exact ⟨.badClaim, by rw [z]; rfl, rfl⟩
            · split at h
              · rename_i z; cases h; exact ⟨.nothing, by rw [z]; rfl, rfl⟩
              · cases h
  · cases h
end DL
set_option Elab.async false
set_option linter.all false
set_option maxRecDepth 100000
set_option maxHeartbeats 4000000
namespace DL
open PySem PySem.Spec PyProof.Rows L2
local macro_rules | `(tactic| walk_at "dl") => `(tactic| simp only [tV, tVr, tFzV, turnD, DL.wipeE, tK, tOpD, tUnD, tBo, tAndD, tOrD, tNotD, tIfE, DL.tAndV, DL.tOrV, DL.tNotV, tTru, truD, okLen, sSet, sSetL, sExpr, sRet, sIf, sNx, tTupD, dNil, dCons, tLstD, tFzD, tApp, tExtd, tPopAt, sSetIx, tIxO, tChainD, tChain3D, tRevT, caStr, opRepT, opAdd, opSub, opMul, opDiv, opMod, opPow, DL.opI, DL.opI0, opB0, opLt, opLe, opGt, opGtD, opLtD, opGe, opEq, opNe, opIs, opIsN, isNone, opIn, opNotIn, opIx, atD_0, atD_1, atD_2, atD_3, putD_0, unNeg, tCa1, tCa2, tCaL1, caLen, caAbs, caMax2, caMin2, caSum, caMax, caMin, caSumT, caMaxT, caMinT, caAll, caTuple, caList, caInt, tIsi, isInt, isBool, isStr, isTuple, isList, notDict, sAsg, gSet, gTupD, gLstD, gsNil, gsCons, sPar, pNil, pD, pL, setAll, tCallD, aNil, aV, aO, argS, oixs, ndp, putO, tOpL, opCat, opRep, tSlD, slD, tSlL, oNo, oE, tRevD, iLstD, iTupD, iRange1, iRange2, iZipD, iZipM, finO, tTrue, Option.map, eqv_int, eqv_bool, eqv_none, shaped_int, shaped_bool, shaped_none, tLenRange, tSortSet, tLenSet, tLenSetP, tSortSetP, tCountL, tCountT, tIndexL, tIndexT, DL.tOrT, DL.tAndT, DL.tNotT, tSortRev, caSorted, iEnumL, iEnumT, tDGetV, tDGetD, tDGet2V, dictAt, sDPutV, sSetM, mDt, mDk, pM, tInN, tNotInN, tCallM, amM, amV, tListRg, iDk, iDv, iDi, tLDk, tLDv, tTruDk, mDt1, tFzM, tCall0D, tFldD, tFldR, fldD, fldL, obD, unH_hdl, obGet, setOb, putOD, sFldD, sFldL, tMethO, tAppF, tPopF, sRaise, keyB_2, keyB_3, keyB_4, decide_eq_true_eq, and_self, List.cons_append, List.nil_append, List.replicate, List.getElem?_cons_zero, List.getElem?_cons_succ, List.set_cons_zero, List.set_cons_succ, List.length_cons, List.length_nil, true_and, and_true, if_true, if_false, Bool.false_eq_true, List.contains_nil, Bool.not_false, Bool.not_true, Bool.and_self, Bool.and_true, Bool.true_and, decide_true, decide_false, beq_self_eq_true])
def tb_law_drawn_deed (sp_law_pick : SpD) (sp_law_draw : SpD) : TSd :=
  sSeq (sSet 6 (tCallD sp_law_pick (aV (tV 0) (aO 1 (aV (tV 5) (aNil))))))
      (sSeq (sIf (tBo (tOpD opIn (tV 6) (tTupD (dCons (tK (.str "back")) (dCons (tK (.str "again")) (dNil)))))) (sRet (tTupD (dCons (tV 6) (dNil)))) (sNx))
      (sSeq (sIf (tOrD (tBo (tOpD opEq (tV 6) (tK (.str "claim")))) (tAndD (tBo (tOpD opEq (tV 6) (tK (.str "go")))) (tBo (tOpD opEq (tCallD sp_law_draw (aV (tV 0) (aO 1 (aV (tK (.int 40)) (aNil))))) (tK (.int 0)))))) (sRet (tTupD (dCons (tK (.str "claim")) (dCons (tOpD opSub (tCallD sp_law_draw (aV (tV 0) (aO 1 (aV (tOpD opAdd (tV 2) (tK (.int 3))) (aNil))))) (tK (.int 1))) (dNil))))) (sNx))
      (sSeq (sIf (tOrD (tBo (tOpD opEq (tV 6) (tK (.str "call")))) (tAndD (tBo (tOpD opEq (tV 6) (tK (.str "go")))) (tBo (tOpD opEq (tV 3) (tK (.str "calls")))))) (sSeq (sSet 7 (tCallD sp_law_draw (aV (tV 0) (aO 1 (aV (tK (.int 9)) (aNil))))))
      (sSeq (sIf (tOrD (tBo (tOpD opEq (tV 7) (tK (.int 0)))) (tOrD (tNotD (tTru (tV 4))) (tBo (tOpD opNe (tV 3) (tK (.str "calls")))))) (sSeq (sSet 8 (tFzD (tLstD (dCons (tK (.str "pass")) (dCons (tK (.str "double")) (dCons (tK (.str "redouble")) (dCons (tTupD (dCons (tK (.int 1)) (dCons (tK (.int 0)) (dNil)))) (dCons (tTupD (dCons (tK (.int 1)) (dCons (tK (.int 4)) (dNil)))) (dCons (tTupD (dCons (tK (.int 2)) (dCons (tK (.int 3)) (dNil)))) (dCons (tTupD (dCons (tK (.int 8)) (dCons (tK (.int 0)) (dNil)))) (dCons (tTupD (dCons (tK (.int 0)) (dCons (tK (.int 1)) (dNil)))) (dNil))))))))))))
      (sRet (tTupD (dCons (tK (.str "call")) (dCons (tCallD sp_law_pick (aV (tV 0) (aO 1 (aV (tV 8) (aNil))))) (dNil)))))) (sNx))
      (sRet (tTupD (dCons (tK (.str "call")) (dCons (tIfE (tBo (tOpD opLt (tV 7) (tK (.int 5)))) (tK (.str "pass")) (tCallD sp_law_pick (aV (tV 0) (aO 1 (aV (tSlD (tV 4) (oNo) (oE (tOpD opMul (tK (.int 2)) (tV 7)))) (aNil)))))) (dNil))))))) (sNx))
      (sSeq (sIf (tOrD (tBo (tOpD opEq (tCallD sp_law_draw (aV (tV 0) (aO 1 (aV (tK (.int 9)) (aNil))))) (tK (.int 0)))) (tOrD (tNotD (tTru (tV 4))) (tBo (tOpD opNe (tV 3) (tK (.str "play")))))) (sRet (tTupD (dCons (tK (.str "play")) (dCons (tTupD (dCons (tCallD sp_law_draw (aV (tV 0) (aO 1 (aV (tK (.int 4)) (aNil))))) (dCons (tOpD opAdd (tK (.int 1)) (tCallD sp_law_draw (aV (tV 0) (aO 1 (aV (tV 2) (aNil)))))) (dNil)))) (dNil))))) (sNx))
      (sRet (tTupD (dCons (tK (.str "play")) (dCons (tCallD sp_law_pick (aV (tV 0) (aO 1 (aV (tV 4) (aNil))))) (dNil)))))))))
def tb_law_drawn_risk (sp_law_draw : SpD) : TSd :=
  sRet (tTupD (dCons (tOpD opEq (tCallD sp_law_draw (aV (tV 0) (aO 1 (aV (tK (.int 2)) (aNil))))) (tK (.int 0))) (dCons (tOpD opEq (tCallD sp_law_draw (aV (tV 0) (aO 1 (aV (tK (.int 2)) (aNil))))) (tK (.int 0))) (dNil))))
local macro_rules | `(tactic| walk_at "tb") => `(tactic| simp only [tV, tVr, tFzV, turnD, DL.wipeE, tK, tOpD, tUnD, tBo, tAndD, tOrD, tNotD, tIfE, DL.tAndV, DL.tOrV, DL.tNotV, tTru, truD, okLen, sSet, sSetL, sExpr, sRet, sIf, sNx, tTupD, dNil, dCons, tLstD, tFzD, tApp, tExtd, tPopAt, sSetIx, tIxO, tChainD, tChain3D, tRevT, caStr, opRepT, opAdd, opSub, opMul, opDiv, opMod, opPow, DL.opI, DL.opI0, opB0, opLt, opLe, opGt, opGtD, opLtD, opGe, opEq, opNe, opIs, opIsN, isNone, opIn, opNotIn, opIx, atD_0, atD_1, atD_2, atD_3, putD_0, unNeg, tCa1, tCa2, tCaL1, caLen, caAbs, caMax2, caMin2, caSum, caMax, caMin, caSumT, caMaxT, caMinT, caAll, caTuple, caList, caInt, tIsi, isInt, isBool, isStr, isTuple, isList, notDict, sAsg, gSet, gTupD, gLstD, gsNil, gsCons, sPar, pNil, pD, pL, setAll, tCallD, aNil, aV, aO, argS, oixs, ndp, putO, tOpL, opCat, opRep, tSlD, slD, tSlL, oNo, oE, tRevD, iLstD, iTupD, iRange1, iRange2, iZipD, iZipM, finO, tTrue, Option.map, eqv_int, eqv_bool, eqv_none, shaped_int, shaped_bool, shaped_none, tLenRange, tSortSet, tLenSet, tLenSetP, tSortSetP, tCountL, tCountT, tIndexL, tIndexT, DL.tOrT, DL.tAndT, DL.tNotT, tSortRev, caSorted, iEnumL, iEnumT, tDGetV, tDGetD, tDGet2V, dictAt, sDPutV, sSetM, mDt, mDk, pM, tInN, tNotInN, tCallM, amM, amV, tListRg, iDk, iDv, iDi, tLDk, tLDv, tTruDk, mDt1, tFzM, tCall0D, tFldD, tFldR, fldD, fldL, obD, unH_hdl, obGet, setOb, putOD, sFldD, sFldL, tMethO, tAppF, tPopF, sRaise, keyB_2, keyB_3, keyB_4, decide_eq_true_eq, and_self, List.cons_append, List.nil_append, List.replicate, List.getElem?_cons_zero, List.getElem?_cons_succ, List.set_cons_zero, List.set_cons_succ, List.length_cons, List.length_nil, true_and, and_true, if_true, if_false, Bool.false_eq_true, List.contains_nil, Bool.not_false, Bool.not_true, Bool.and_self, Bool.and_true, Bool.true_and, decide_true, decide_false, beq_self_eq_true, fs_ranks, fs_deal, fs_dealer, fs_risk, fs_state, fs_done, fs_undone, fs_contract, fs_leader, fs_stage, fs_turn, fs_may, fs_call, fs_must, fs_play, fs_claim, fs_tricks, fs_score, fs_calls, fs_cards, fs_back, fs_again, fs_deeds, fs_taken, fs_become, stg_sh, sh_sC, sh_sP, sh_sE, stg_eqC, stg_eqP, stg_eqE, reduceCtorEq, List.length_map, isNone_con])
local macro_rules | `(tactic| walk_at "mv") => `(tactic| simp only [tV, tVr, tFzV, turnD, DL.wipeE, tK, tOpD, tUnD, tBo, tAndD, tOrD, tNotD, tIfE, DL.tAndV, DL.tOrV, DL.tNotV, tTru, truD, okLen, sSet, sSetL, sExpr, sRet, sIf, sNx, tTupD, dNil, dCons, tLstD, tFzD, tApp, tExtd, tPopAt, sSetIx, tIxO, tChainD, tChain3D, tRevT, caStr, opRepT, opAdd, opSub, opMul, opDiv, opMod, opPow, DL.opI, DL.opI0, opB0, opLt, opLe, opGt, opGtD, opLtD, opGe, opEq, opNe, opIs, opIsN, isNone, opIn, opNotIn, opIx, atD_0, atD_1, atD_2, atD_3, putD_0, unNeg, tCa1, tCa2, tCaL1, caLen, caAbs, caMax2, caMin2, caSum, caMax, caMin, caSumT, caMaxT, caMinT, caAll, caTuple, caList, caInt, tIsi, isInt, isBool, isStr, isTuple, isList, notDict, sAsg, gSet, gTupD, gLstD, gsNil, gsCons, sPar, pNil, pD, pL, setAll, tCallD, aNil, aV, aO, argS, oixs, ndp, putO, tOpL, opCat, opRep, tSlD, slD, tSlL, oNo, oE, tRevD, iLstD, iTupD, iRange1, iRange2, iZipD, iZipM, finO, tTrue, Option.map, eqv_int, eqv_bool, eqv_none, shaped_int, shaped_bool, shaped_none, tLenRange, tSortSet, tLenSet, tLenSetP, tSortSetP, tCountL, tCountT, tIndexL, tIndexT, DL.tOrT, DL.tAndT, DL.tNotT, tSortRev, caSorted, iEnumL, iEnumT, tDGetV, tDGetD, tDGet2V, dictAt, sDPutV, sSetM, mDt, mDk, pM, tInN, tNotInN, tCallM, amM, amV, tListRg, iDk, iDv, iDi, tLDk, tLDv, tTruDk, mDt1, tFzM, tCall0D, tFldD, tFldR, fldD, fldL, obD, unH_hdl, obGet, setOb, putOD, sFldD, sFldL, tMethO, tAppF, tPopF, sRaise, keyB_2, keyB_3, keyB_4, decide_eq_true_eq, and_self, List.cons_append, List.nil_append, List.replicate, List.getElem?_cons_zero, List.getElem?_cons_succ, List.set_cons_zero, List.set_cons_succ, List.length_cons, List.length_nil, true_and, and_true, if_true, if_false, Bool.false_eq_true, List.contains_nil, Bool.not_false, Bool.not_true, Bool.and_self, Bool.and_true, Bool.true_and, decide_true, decide_false, beq_self_eq_true, fs_ranks, fs_deal, fs_dealer, fs_risk, fs_state, fs_done, fs_undone, fs_contract, fs_leader, fs_stage, fs_turn, fs_may, fs_call, fs_must, fs_play, fs_claim, fs_tricks, fs_score, fs_calls, fs_cards, fs_back, fs_again, fs_deeds, fs_taken, fs_become, stg_sh, sh_sC, sh_sP, sh_sE, stg_eqC, stg_eqP, stg_eqE, reduceCtorEq, List.length_map, isNone_con, sw_call, we_call_call, we_call_play, we_call_claim, we_call_back, sw_play, we_play_call, we_play_play, we_play_claim, we_play_back, sw_claim, we_claim_call, we_claim_play, we_claim_claim, we_claim_back, sw_back, we_back_call, we_back_play, we_back_claim, we_back_back, sw_again, we_again_call, we_again_play, we_again_claim, we_again_back])
theorem sameC (n : Nat) (c : Card) : sameOk (n + 1) (cE c) = true := by cases n <;> rfl
theorem sameH {h : List Card} (hl : h.length ≤ 1000) : sameOk 2 (handD h) = true := by
  show ((h.map cE).all (sameOk 1) && decide ((h.map cE).length ≤ 10000000)) = true
  have e : (h.map cE).all (sameOk 1) = true := List.all_eq_true.mpr fun x hx => by obtain ⟨c, _, rfl⟩ := List.mem_map.mp hx; exact sameC 0 c
  rw [e, Bool.true_and]
  simp; omega
theorem mayP_short {L : Nat} {cs : List Call} : (mayP L cs).length ≤ 2 + 5 * L := by
  unfold mayP
  split
  · simp
  · have := dblP_len cs.length (lastIx Call.said cs) (lastC Call.said cs)
    have h2 : ((allB L).filter fun b => gtB b (lastB cs)).length ≤ 5 * L := by have := List.length_filter_le (fun b => gtB b (lastB cs)) (allB L); rw [allB_len] at this; exact this
    rw [List.length_append, List.length_append, List.length_map]
    simp
    omega
theorem mayF_short {R : Nat} {hs : List (List Card)} (hd : DealOk R hs) (st ld : Int) (ps : List Card) : (mayF hs st ld ps).length ≤ 13 := by
  have tb := turnP_bd st ld ps
  have h1 := hd.at (p := (turnP st ld ps).toNat) (by omega)
  have h2 := List.length_filter_le (fun c => decide (c ∉ ps)) (handAt hs (turnP st ld ps).toNat)
  have hi := hd.hi
  unfold mayF follows
  split
  · omega
  · exact Nat.le_trans (List.length_filter_le _ _) (by omega)
theorem sameS (n : Nat) (s : Stg) : sameOk (n + 1) s.enc = true := by cases s <;> (show PyData.strOk _ = true; decide +kernel)
theorem sameT (t : Tab) : sameOk 2 t.turn = true := by
  unfold Tab.turn
  split <;> rfl
theorem sameM {n : Nat} {t : Tab} (ok : TOk n t) : sameOk 2 t.may = true := by
  unfold Tab.may
  split
  · refine same_row ?_
    have := mayP_short (L := t.L) (cs := t.st.cs)
    have hi := ok.dok.hi
    have : t.L ≤ 13 := by unfold Tab.L; omega
    omega
  · exact sameH (by have := mayF_short ok.dok ‹Cont›.s ‹Cont›.ld t.st.ps; omega)
  · rfl
theorem sameK (o : Option Cont) : sameOk 2 (oEnc o) = true := by cases o <;> rfl
theorem sameSc (t : Tab) : sameOk 2 t.score = true := by
  unfold Tab.score
  split
  · split <;> rfl
  · rfl
end DL
set_option Elab.async false
set_option linter.all false
set_option maxRecDepth 100000
set_option maxHeartbeats 4000000
namespace DL
open PySem PySem.Spec PyProof.Rows L2
local macro_rules | `(tactic| walk_at "dl") => `(tactic| simp only [tV, tVr, tFzV, turnD, DL.wipeE, tK, tOpD, tUnD, tBo, tAndD, tOrD, tNotD, tIfE, DL.tAndV, DL.tOrV, DL.tNotV, tTru, truD, okLen, sSet, sSetL, sExpr, sRet, sIf, sNx, tTupD, dNil, dCons, tLstD, tFzD, tApp, tExtd, tPopAt, sSetIx, tIxO, tChainD, tChain3D, tRevT, caStr, opRepT, opAdd, opSub, opMul, opDiv, opMod, opPow, DL.opI, DL.opI0, opB0, opLt, opLe, opGt, opGtD, opLtD, opGe, opEq, opNe, opIs, opIsN, isNone, opIn, opNotIn, opIx, atD_0, atD_1, atD_2, atD_3, putD_0, unNeg, tCa1, tCa2, tCaL1, caLen, caAbs, caMax2, caMin2, caSum, caMax, caMin, caSumT, caMaxT, caMinT, caAll, caTuple, caList, caInt, tIsi, isInt, isBool, isStr, isTuple, isList, notDict, sAsg, gSet, gTupD, gLstD, gsNil, gsCons, sPar, pNil, pD, pL, setAll, tCallD, aNil, aV, aO, argS, oixs, ndp, putO, tOpL, opCat, opRep, tSlD, slD, tSlL, oNo, oE, tRevD, iLstD, iTupD, iRange1, iRange2, iZipD, iZipM, finO, tTrue, Option.map, eqv_int, eqv_bool, eqv_none, shaped_int, shaped_bool, shaped_none, tLenRange, tSortSet, tLenSet, tLenSetP, tSortSetP, tCountL, tCountT, tIndexL, tIndexT, DL.tOrT, DL.tAndT, DL.tNotT, tSortRev, caSorted, iEnumL, iEnumT, tDGetV, tDGetD, tDGet2V, dictAt, sDPutV, sSetM, mDt, mDk, pM, tInN, tNotInN, tCallM, amM, amV, tListRg, iDk, iDv, iDi, tLDk, tLDv, tTruDk, mDt1, tFzM, tCall0D, tFldD, tFldR, fldD, fldL, obD, unH_hdl, obGet, setOb, putOD, sFldD, sFldL, tMethO, tAppF, tPopF, sRaise, keyB_2, keyB_3, keyB_4, decide_eq_true_eq, and_self, List.cons_append, List.nil_append, List.replicate, List.getElem?_cons_zero, List.getElem?_cons_succ, List.set_cons_zero, List.set_cons_succ, List.length_cons, List.length_nil, true_and, and_true, if_true, if_false, Bool.false_eq_true, List.contains_nil, Bool.not_false, Bool.not_true, Bool.and_self, Bool.and_true, Bool.true_and, decide_true, decide_false, beq_self_eq_true])
local macro_rules | `(tactic| walk_at "tb") => `(tactic| simp only [tV, tVr, tFzV, turnD, DL.wipeE, tK, tOpD, tUnD, tBo, tAndD, tOrD, tNotD, tIfE, DL.tAndV, DL.tOrV, DL.tNotV, tTru, truD, okLen, sSet, sSetL, sExpr, sRet, sIf, sNx, tTupD, dNil, dCons, tLstD, tFzD, tApp, tExtd, tPopAt, sSetIx, tIxO, tChainD, tChain3D, tRevT, caStr, opRepT, opAdd, opSub, opMul, opDiv, opMod, opPow, DL.opI, DL.opI0, opB0, opLt, opLe, opGt, opGtD, opLtD, opGe, opEq, opNe, opIs, opIsN, isNone, opIn, opNotIn, opIx, atD_0, atD_1, atD_2, atD_3, putD_0, unNeg, tCa1, tCa2, tCaL1, caLen, caAbs, caMax2, caMin2, caSum, caMax, caMin, caSumT, caMaxT, caMinT, caAll, caTuple, caList, caInt, tIsi, isInt, isBool, isStr, isTuple, isList, notDict, sAsg, gSet, gTupD, gLstD, gsNil, gsCons, sPar, pNil, pD, pL, setAll, tCallD, aNil, aV, aO, argS, oixs, ndp, putO, tOpL, opCat, opRep, tSlD, slD, tSlL, oNo, oE, tRevD, iLstD, iTupD, iRange1, iRange2, iZipD, iZipM, finO, tTrue, Option.map, eqv_int, eqv_bool, eqv_none, shaped_int, shaped_bool, shaped_none, tLenRange, tSortSet, tLenSet, tLenSetP, tSortSetP, tCountL, tCountT, tIndexL, tIndexT, DL.tOrT, DL.tAndT, DL.tNotT, tSortRev, caSorted, iEnumL, iEnumT, tDGetV, tDGetD, tDGet2V, dictAt, sDPutV, sSetM, mDt, mDk, pM, tInN, tNotInN, tCallM, amM, amV, tListRg, iDk, iDv, iDi, tLDk, tLDv, tTruDk, mDt1, tFzM, tCall0D, tFldD, tFldR, fldD, fldL, obD, unH_hdl, obGet, setOb, putOD, sFldD, sFldL, tMethO, tAppF, tPopF, sRaise, keyB_2, keyB_3, keyB_4, decide_eq_true_eq, and_self, List.cons_append, List.nil_append, List.replicate, List.getElem?_cons_zero, List.getElem?_cons_succ, List.set_cons_zero, List.set_cons_succ, List.length_cons, List.length_nil, true_and, and_true, if_true, if_false, Bool.false_eq_true, List.contains_nil, Bool.not_false, Bool.not_true, Bool.and_self, Bool.and_true, Bool.true_and, decide_true, decide_false, beq_self_eq_true, fs_ranks, fs_deal, fs_dealer, fs_risk, fs_state, fs_done, fs_undone, fs_contract, fs_leader, fs_stage, fs_turn, fs_may, fs_call, fs_must, fs_play, fs_claim, fs_tricks, fs_score, fs_calls, fs_cards, fs_back, fs_again, fs_deeds, fs_taken, fs_become, stg_sh, sh_sC, sh_sP, sh_sE, stg_eqC, stg_eqP, stg_eqE, reduceCtorEq, List.length_map, isNone_con])
local macro_rules | `(tactic| walk_at "mv") => `(tactic| simp only [tV, tVr, tFzV, turnD, DL.wipeE, tK, tOpD, tUnD, tBo, tAndD, tOrD, tNotD, tIfE, DL.tAndV, DL.tOrV, DL.tNotV, tTru, truD, okLen, sSet, sSetL, sExpr, sRet, sIf, sNx, tTupD, dNil, dCons, tLstD, tFzD, tApp, tExtd, tPopAt, sSetIx, tIxO, tChainD, tChain3D, tRevT, caStr, opRepT, opAdd, opSub, opMul, opDiv, opMod, opPow, DL.opI, DL.opI0, opB0, opLt, opLe, opGt, opGtD, opLtD, opGe, opEq, opNe, opIs, opIsN, isNone, opIn, opNotIn, opIx, atD_0, atD_1, atD_2, atD_3, putD_0, unNeg, tCa1, tCa2, tCaL1, caLen, caAbs, caMax2, caMin2, caSum, caMax, caMin, caSumT, caMaxT, caMinT, caAll, caTuple, caList, caInt, tIsi, isInt, isBool, isStr, isTuple, isList, notDict, sAsg, gSet, gTupD, gLstD, gsNil, gsCons, sPar, pNil, pD, pL, setAll, tCallD, aNil, aV, aO, argS, oixs, ndp, putO, tOpL, opCat, opRep, tSlD, slD, tSlL, oNo, oE, tRevD, iLstD, iTupD, iRange1, iRange2, iZipD, iZipM, finO, tTrue, Option.map, eqv_int, eqv_bool, eqv_none, shaped_int, shaped_bool, shaped_none, tLenRange, tSortSet, tLenSet, tLenSetP, tSortSetP, tCountL, tCountT, tIndexL, tIndexT, DL.tOrT, DL.tAndT, DL.tNotT, tSortRev, caSorted, iEnumL, iEnumT, tDGetV, tDGetD, tDGet2V, dictAt, sDPutV, sSetM, mDt, mDk, pM, tInN, tNotInN, tCallM, amM, amV, tListRg, iDk, iDv, iDi, tLDk, tLDv, tTruDk, mDt1, tFzM, tCall0D, tFldD, tFldR, fldD, fldL, obD, unH_hdl, obGet, setOb, putOD, sFldD, sFldL, tMethO, tAppF, tPopF, sRaise, keyB_2, keyB_3, keyB_4, decide_eq_true_eq, and_self, List.cons_append, List.nil_append, List.replicate, List.getElem?_cons_zero, List.getElem?_cons_succ, List.set_cons_zero, List.set_cons_succ, List.length_cons, List.length_nil, true_and, and_true, if_true, if_false, Bool.false_eq_true, List.contains_nil, Bool.not_false, Bool.not_true, Bool.and_self, Bool.and_true, Bool.true_and, decide_true, decide_false, beq_self_eq_true, fs_ranks, fs_deal, fs_dealer, fs_risk, fs_state, fs_done, fs_undone, fs_contract, fs_leader, fs_stage, fs_turn, fs_may, fs_call, fs_must, fs_play, fs_claim, fs_tricks, fs_score, fs_calls, fs_cards, fs_back, fs_again, fs_deeds, fs_taken, fs_become, stg_sh, sh_sC, sh_sP, sh_sE, stg_eqC, stg_eqP, stg_eqE, reduceCtorEq, List.length_map, isNone_con, sw_call, we_call_call, we_call_play, we_call_claim, we_call_back, sw_play, we_play_call, we_play_play, we_play_claim, we_play_back, sw_claim, we_claim_call, we_claim_play, we_claim_claim, we_claim_back, sw_back, we_back_call, we_back_play, we_back_claim, we_back_back, sw_again, we_again_call, we_again_play, we_again_claim, we_again_back])
theorem sw_go : SeqAt.shaped (.str "go") = true := shaped_of (n := 1) (by decide +kernel)
theorem we_go_go : PyData.eqv (.str "go") (.str "go") = true := by rw [eqv_str]; decide
theorem we_go_claim : PyData.eqv (.str "go") (.str "claim") = false := by rw [eqv_str]; decide
theorem we_go_call : PyData.eqv (.str "go") (.str "call") = false := by rw [eqv_str]; decide
theorem we_go_back : PyData.eqv (.str "go") (.str "back") = false := by rw [eqv_str]; decide
theorem we_go_again : PyData.eqv (.str "go") (.str "again") = false := by rw [eqv_str]; decide
theorem we_call_go : PyData.eqv (.str "call") (.str "go") = false := by rw [eqv_str]; decide
theorem we_call_again : PyData.eqv (.str "call") (.str "again") = false := by rw [eqv_str]; decide
theorem we_play_go : PyData.eqv (.str "play") (.str "go") = false := by rw [eqv_str]; decide
theorem we_play_again : PyData.eqv (.str "play") (.str "again") = false := by rw [eqv_str]; decide
theorem we_claim_go : PyData.eqv (.str "claim") (.str "go") = false := by rw [eqv_str]; decide
theorem we_claim_again : PyData.eqv (.str "claim") (.str "again") = false := by rw [eqv_str]; decide
theorem we_back_go : PyData.eqv (.str "back") (.str "go") = false := by rw [eqv_str]; decide
theorem we_back_again : PyData.eqv (.str "back") (.str "again") = false := by rw [eqv_str]; decide
theorem we_again_go : PyData.eqv (.str "again") (.str "go") = false := by rw [eqv_str]; decide
theorem we_again_again : PyData.eqv (.str "again") (.str "again") = true := by rw [eqv_str]; decide
theorem sh_ba : SeqAt.shaped (.tuple [.str "back", .str "again"]) = true := shaped_of (n := 2) (by decide +kernel)
inductive Srt where
  | go
  | call
  | play
  | claim
  | back
  | again
def Srt.enc : Srt → D
  | .go => .str "go"
  | .call => .str "call"
  | .play => .str "play"
  | .claim => .str "claim"
  | .back => .str "back"
  | .again => .str "again"
def Srt.isBack : Srt → Bool
  | .back => true
  | .again => true
  | _ => false
theorem ba_or (s : Srt) : (PyData.eqv (.str "back") s.enc || PyData.eqv (.str "again") s.enc) = s.isBack := by
  cases s <;> (unfold Srt.enc; simp only [eqv_str]; decide)
local macro_rules | `(tactic| walk_at "sr") => `(tactic| simp only [tV, tVr, tFzV, turnD, DL.wipeE, tK, tOpD, tUnD, tBo, tAndD, tOrD, tNotD, tIfE, DL.tAndV, DL.tOrV, DL.tNotV, tTru, truD, okLen, sSet, sSetL, sExpr, sRet, sIf, sNx, tTupD, dNil, dCons, tLstD, tFzD, tApp, tExtd, tPopAt, sSetIx, tIxO, tChainD, tChain3D, tRevT, caStr, opRepT, opAdd, opSub, opMul, opDiv, opMod, opPow, DL.opI, DL.opI0, opB0, opLt, opLe, opGt, opGtD, opLtD, opGe, opEq, opNe, opIs, opIsN, isNone, opIn, opNotIn, opIx, atD_0, atD_1, atD_2, atD_3, putD_0, unNeg, tCa1, tCa2, tCaL1, caLen, caAbs, caMax2, caMin2, caSum, caMax, caMin, caSumT, caMaxT, caMinT, caAll, caTuple, caList, caInt, tIsi, isInt, isBool, isStr, isTuple, isList, notDict, sAsg, gSet, gTupD, gLstD, gsNil, gsCons, sPar, pNil, pD, pL, setAll, tCallD, aNil, aV, aO, argS, oixs, ndp, putO, tOpL, opCat, opRep, tSlD, slD, tSlL, oNo, oE, tRevD, iLstD, iTupD, iRange1, iRange2, iZipD, iZipM, finO, tTrue, Option.map, eqv_int, eqv_bool, eqv_none, shaped_int, shaped_bool, shaped_none, tLenRange, tSortSet, tLenSet, tLenSetP, tSortSetP, tCountL, tCountT, tIndexL, tIndexT, DL.tOrT, DL.tAndT, DL.tNotT, tSortRev, caSorted, iEnumL, iEnumT, tDGetV, tDGetD, tDGet2V, dictAt, sDPutV, sSetM, mDt, mDk, pM, tInN, tNotInN, tCallM, amM, amV, tListRg, iDk, iDv, iDi, tLDk, tLDv, tTruDk, mDt1, tFzM, tCall0D, tFldD, tFldR, fldD, fldL, obD, unH_hdl, obGet, setOb, putOD, sFldD, sFldL, tMethO, tAppF, tPopF, sRaise, keyB_2, keyB_3, keyB_4, decide_eq_true_eq, and_self, List.cons_append, List.nil_append, List.replicate, List.getElem?_cons_zero, List.getElem?_cons_succ, List.set_cons_zero, List.set_cons_succ, List.length_cons, List.length_nil, true_and, and_true, if_true, if_false, Bool.false_eq_true, List.contains_nil, Bool.not_false, Bool.not_true, Bool.and_self, Bool.and_true, Bool.true_and, decide_true, decide_false, beq_self_eq_true, fs_ranks, fs_deal, fs_dealer, fs_risk, fs_state, fs_done, fs_undone, fs_contract, fs_leader, fs_stage, fs_turn, fs_may, fs_call, fs_must, fs_play, fs_claim, fs_tricks, fs_score, fs_calls, fs_cards, fs_back, fs_again, fs_deeds, fs_taken, fs_become, stg_sh, sh_sC, sh_sP, sh_sE, stg_eqC, stg_eqP, stg_eqE, reduceCtorEq, List.length_map, isNone_con, sw_call, we_call_call, we_call_play, we_call_claim, we_call_back, sw_play, we_play_call, we_play_play, we_play_claim, we_play_back, sw_claim, we_claim_call, we_claim_play, we_claim_claim, we_claim_back, sw_back, we_back_call, we_back_play, we_back_claim, we_back_back, sw_again, we_again_call, we_again_play, we_again_claim, we_again_back, sw_go, we_go_go, we_go_claim, we_go_call, we_go_back, we_go_again, we_call_go, we_call_again, we_play_go, we_play_again, we_claim_go, we_claim_again, we_back_go, we_back_again, we_again_go, we_again_again, sh_ba, ba_or, List.any_cons, List.any_nil, Bool.or_false, Bool.or_true, Bool.true_or, Bool.false_or])
def Mv.isDeed : Mv → Bool
  | .deed _ => true
  | _ => false
def spDrawnM : SpD := fun ss Q => ∃ (ns : List Int) (t : List D) (R b : Nat) (w : Stg) (xs : List D) (srt : List Srt), ss = [.d (.list (ns.map PyData.int)), .ol t, .d (.int R), .d w.enc, .d (.tuple xs), .d (.list (srt.map Srt.enc))] ∧ srt ≠ [] ∧ ns.length ≤ 63 ∧ TownOk t b ∧ b ≤ 9000000 ∧ 1 ≤ R ∧ R ≤ 13 ∧ xs.length ≤ 1000 ∧
  (w = .calls → ∀ x ∈ xs, ∃ c : Call, x = c.enc) ∧ (w = .play → ∀ x ∈ xs, ∃ c : Card, x = cE c) ∧ ∀ (m : Mv) (t' : List D), (m.isDeed = true ∨ ∃ s ∈ srt, s.isBack = true) → TownOk t' (b + 10) → Q m.enc [.ol t']
theorem sh_law_drawn_deed : ∀ ss QD, spDrawnM ss QD → ss.length = 6 ∧ mpos 0 ss = [1] := by rintro ss QD ⟨ns, t, R, b, w, xs, srt, rfl, _⟩; exact ⟨rfl, rfl⟩
def spRisk : SpD := fun ss Q => ∃ (ns : List Int) (t : List D) (b : Nat), ss = [.d (.list (ns.map PyData.int)), .ol t] ∧ ns.length ≤ 63 ∧ TownOk t b ∧ b ≤ 9000000 ∧ ∀ r0 r1 t', TownOk t' (b + 4) → Q (.tuple [.bool r0, .bool r1]) [.ol t']
theorem sh_law_drawn_risk : ∀ ss QD, spRisk ss QD → ss.length = 2 ∧ mpos 0 ss = [1] := by rintro ss QD ⟨ns, t, b, rfl, _⟩; exact ⟨rfl, rfl⟩
theorem rd_law_drawn_risk : ∀ ss QD, spRisk ss QD → tb_law_drawn_risk spDraw { nx := fun E' => finO [1] E' (QD .none), rt := fun d E' => finO [1] E' (QD d) } (ss ++ List.replicate 0 .un) := by
  rintro ss QD ⟨ns, t, b, rfl, hn, ht, hb, q⟩
  unfold tb_law_drawn_risk
  walk_at "sr"
  refine ⟨ns, t, _, b, rfl, by decide, hn, ht, by omega, fun r t2 h0 h1 ht2 => ?_⟩
  walk_at "sr"
  refine ⟨ns, t2, _, b + 2, rfl, by decide, hn, ht2, by omega, fun r2 t3 h2 h3 ht3 => ?_⟩
  walk_at "sr"
  exact ⟨small_line (by decide), q _ _ _ ht3⟩
theorem drawn_call {x : D} (h : x ∈ [PyData.str "pass", .str "double", .str "redouble", .tuple [.int 1, .int 0], .tuple [.int 1, .int 4], .tuple [.int 2, .int 3], .tuple [.int 8, .int 0], .tuple [.int 0, .int 1]]) : ∃ c : Call, x = c.enc := by
  simp only [List.mem_cons, List.not_mem_nil, or_false] at h
  rcases h with rfl | rfl | rfl | rfl | rfl | rfl | rfl | rfl
  · exact ⟨.pass, rfl⟩
  · exact ⟨.dbl, rfl⟩
  · exact ⟨.rdb, rfl⟩
  · exact ⟨.bid 1 0, rfl⟩
  · exact ⟨.bid 1 4, rfl⟩
  · exact ⟨.bid 2 3, rfl⟩
  · exact ⟨.bid 8 0, rfl⟩
  · exact ⟨.bid 0 1, rfl⟩
theorem rd_law_drawn_deed : ∀ ss QD, spDrawnM ss QD → tb_law_drawn_deed spPick spDraw { nx := fun E' => finO [1] E' (QD .none), rt := fun d E' => finO [1] E' (QD d) } (ss ++ List.replicate 3 .un) := by
  rintro ss QD ⟨ns, t, RR, b, w, xs, srt, rfl, hs, hn, ht, hb, hR1, hR2, hx, hw1, hw2, q⟩
  unfold tb_law_drawn_deed
  refine seq_step fun R hR => ?_
  walk_at "sr"
  refine ⟨ns, t, _, _, b, rfl, .inl rfl, by cases srt with | nil => exact absurd rfl hs | cons a l => simp, hn, ht, by omega, fun x t2 hx2 ht2 => ?_⟩
  obtain ⟨s, hs2, rfl⟩ := List.mem_map.mp hx2
  walk_at "sr"
  refine hR _ ?_
  clear hR
  refine seq_step fun R hR => ?_
  have shs : SeqAt.shaped s.enc = true := by cases s <;> first | exact sw_go | exact sw_call | exact sw_play | exact sw_claim | exact sw_back | exact sw_again
  walk_at "sr"
  refine ⟨small_line (by decide), shs, ?_⟩
  by_cases hbk : s.isBack = true
  · rw [if_pos hbk]
    refine ⟨small_line (by decide), ?_⟩
    cases s with
    | back => exact q .back _ (.inr ⟨_, hs2, rfl⟩) (ht2.mono (by omega))
    | again => exact q .again _ (.inr ⟨_, hs2, rfl⟩) (ht2.mono (by omega))
    | _ => cases hbk
  rw [if_neg hbk]
  refine hR _ ?_
  clear hR
  refine seq_step fun R hR => ?_
  have dd : ∀ (d : Deed) (t' : List D), TownOk t' (b + 10) → QD d.enc [.ol t'] := fun d t' h => q (.deed d) t' (.inl rfl) h
  have rest : ∀ t3, TownOk t3 (b + 4) → s ≠ .claim → R [.d (.list (ns.map PyData.int)), .ol t3, .d (.int RR), .d w.enc, .d (.tuple xs), .d (.list (srt.map Srt.enc)), .d s.enc, .un, .un] := fun t3 ht3 hcl => by
    refine hR _ ?_
    clear hR
    refine seq_step fun R hR => ?_
    have playP : ∀ t4, TownOk t4 (b + 4) → R [.d (.list (ns.map PyData.int)), .ol t4, .d (.int RR), .d w.enc, .d (.tuple xs), .d (.list (srt.map Srt.enc)), .d s.enc, .un, .un] := fun t4 ht4 => by
      refine hR _ ?_
      clear hR
      refine seq_step fun R hR => ?_
      walk_at "sr"
      refine ⟨ns, t4, _, b + 4, rfl, by decide, hn, ht4, by omega, fun r t5 h0 h1 ht5 => ?_⟩
      walk_at "sr"
      by_cases hr : r = 0
      · rw [if_pos hr]
        refine ⟨ns, t5, _, b + 6, rfl, by decide, hn, ht5, by omega, fun r1 t6 h2 h3 ht6 => ?_⟩
        walk_at "sr"
        refine ⟨ns, t6, _, b + 8, rfl, by omega, hn, ht6, by omega, fun r2 t7 h4 h5 ht7 => ?_⟩
        walk_at "sr"
        exact ⟨small_line (by decide), small_line (by decide), dd (.play (r1, 1 + r2)) _ ht7⟩
      · rw [if_neg hr]
        cases hxs : xs with
        | nil =>
          refine ifT rfl ?_
          refine ⟨ns, t5, _, b + 6, rfl, by decide, hn, ht5, by omega, fun r1 t6 h2 h3 ht6 => ?_⟩
          walk_at "sr"
          refine ⟨ns, t6, _, b + 8, rfl, by omega, hn, ht6, by omega, fun r2 t7 h4 h5 ht7 => ?_⟩
          walk_at "sr"
          exact ⟨small_line (by decide), small_line (by decide), dd (.play (r1, 1 + r2)) _ ht7⟩
        | cons x0 l0 =>
          refine ifF rfl ?_
          by_cases hwp : w = .play
          · subst hwp
            walk_at "sr"
            refine hR _ ?_
            clear hR
            walk_at "sr"
            refine ⟨ns, t5, _, x0 :: l0, b + 6, rfl, .inr rfl, (fun z => by cases z), hn, ht5, by omega, fun x t6 hx6 ht6 => ?_⟩
            obtain ⟨c, rfl⟩ := hw2 rfl x (by rw [hxs]; exact hx6)
            walk_at "sr"
            exact ⟨small_line (by decide), dd (.play c) _ (ht6.mono (by omega))⟩
          · rw [decide_eq_false hwp]
            refine ifT rfl ?_
            refine ⟨ns, t5, _, b + 6, rfl, by decide, hn, ht5, by omega, fun r1 t6 h2 h3 ht6 => ?_⟩
            walk_at "sr"
            refine ⟨ns, t6, _, b + 8, rfl, by omega, hn, ht6, by omega, fun r2 t7 h4 h5 ht7 => ?_⟩
            walk_at "sr"
            exact ⟨small_line (by decide), small_line (by decide), dd (.play (r1, 1 + r2)) _ ht7⟩
    cases s with
    | claim => exact absurd rfl hcl
    | go =>
      unfold Srt.enc at playP ⊢
      walk_at "sr"
      by_cases hwc : w = .calls
      · rw [if_pos hwc]
        refine seq_step fun R5 hR5 => ?_
        walk_at "sr"
        refine ⟨ns, t3, _, b + 4, rfl, by decide, hn, ht3, by omega, fun r t5 h0 h1 ht5 => ?_⟩
        walk_at "sr"
        refine hR5 _ ?_
        clear hR5
        refine seq_step fun R5 hR5 => ?_
        walk_at "sr"
        by_cases hr : r = 0
        · rw [if_pos hr]
          refine seq_step fun R6 hR6 => ?_
          walk_at "sr"
          refine ⟨small_line (by decide), small_line (by decide), small_line (by decide), small_line (by decide), small_line (by decide), small_line (by decide), hR6 _ ?_⟩
          clear hR6
          walk_at "sr"
          refine ⟨ns, t5, _, _, b + 6, rfl, .inl rfl, (fun z => by cases z), hn, ht5, by omega, fun x t6 hx6 ht6 => ?_⟩
          obtain ⟨c, rfl⟩ := drawn_call hx6
          walk_at "sr"
          exact ⟨small_line (by decide), dd (.call c) _ (ht6.mono (by omega))⟩
        · rw [if_neg hr]
          cases hxs : xs with
          | nil =>
            refine ifT rfl ?_
            refine seq_step fun R6 hR6 => ?_
            walk_at "sr"
            refine ⟨small_line (by decide), small_line (by decide), small_line (by decide), small_line (by decide), small_line (by decide), small_line (by decide), hR6 _ ?_⟩
            clear hR6
            walk_at "sr"
            refine ⟨ns, t5, _, _, b + 6, rfl, .inl rfl, (fun z => by cases z), hn, ht5, by omega, fun x t6 hx6 ht6 => ?_⟩
            obtain ⟨c, rfl⟩ := drawn_call hx6
            walk_at "sr"
            exact ⟨small_line (by decide), dd (.call c) _ (ht6.mono (by omega))⟩
          | cons x0 l0 =>
            refine ifF rfl ?_
            by_cases hwc : w = .calls
            · subst hwc
              walk_at "sr"
              refine hR5 _ ?_
              clear hR5
              walk_at "sr"
              by_cases h5 : r < 5
              · rw [if_pos h5]
                exact ⟨small_line (by decide), dd (.call .pass) _ (ht5.mono (by omega))⟩
              · rw [if_neg h5]
                rw [cut_to (by omega)]
                refine ⟨cmul_small (by decide) (by omega), ns, t5, _, (x0 :: l0).take (2 * r).toNat, b + 6, rfl, .inr rfl, ?_, hn, ht5, by omega, fun x t6 hx6 ht6 => ?_⟩
                · have e : (2 * r).toNat = ((2 * r).toNat - 1) + 1 := by omega
                  rw [e, List.take_succ_cons]
                  exact fun z => by cases z
                · obtain ⟨c, rfl⟩ := hw1 rfl x (by rw [hxs]; exact List.mem_of_mem_take hx6)
                  walk_at "sr"
                  exact ⟨small_line (by decide), dd (.call c) _ (ht6.mono (by omega))⟩
            · rw [decide_eq_false hwc]
              refine ifT rfl ?_
              refine seq_step fun R6 hR6 => ?_
              walk_at "sr"
              refine ⟨small_line (by decide), small_line (by decide), small_line (by decide), small_line (by decide), small_line (by decide), small_line (by decide), hR6 _ ?_⟩
              clear hR6
              walk_at "sr"
              refine ⟨ns, t5, _, _, b + 6, rfl, .inl rfl, (fun z => by cases z), hn, ht5, by omega, fun x t6 hx6 ht6 => ?_⟩
              obtain ⟨c, rfl⟩ := drawn_call hx6
              walk_at "sr"
              exact ⟨small_line (by decide), dd (.call c) _ (ht6.mono (by omega))⟩
      · rw [if_neg hwc]
        exact playP _ ht3
    | call =>
      unfold Srt.enc at playP ⊢
      walk_at "sr"
      refine seq_step fun R5 hR5 => ?_
      walk_at "sr"
      refine ⟨ns, t3, _, b + 4, rfl, by decide, hn, ht3, by omega, fun r t5 h0 h1 ht5 => ?_⟩
      walk_at "sr"
      refine hR5 _ ?_
      clear hR5
      refine seq_step fun R5 hR5 => ?_
      walk_at "sr"
      by_cases hr : r = 0
      · rw [if_pos hr]
        refine seq_step fun R6 hR6 => ?_
        walk_at "sr"
        refine ⟨small_line (by decide), small_line (by decide), small_line (by decide), small_line (by decide), small_line (by decide), small_line (by decide), hR6 _ ?_⟩
        clear hR6
        walk_at "sr"
        refine ⟨ns, t5, _, _, b + 6, rfl, .inl rfl, (fun z => by cases z), hn, ht5, by omega, fun x t6 hx6 ht6 => ?_⟩
        obtain ⟨c, rfl⟩ := drawn_call hx6
        walk_at "sr"
        exact ⟨small_line (by decide), dd (.call c) _ (ht6.mono (by omega))⟩
      · rw [if_neg hr]
        cases hxs : xs with
        | nil =>
          refine ifT rfl ?_
          refine seq_step fun R6 hR6 => ?_
          walk_at "sr"
          refine ⟨small_line (by decide), small_line (by decide), small_line (by decide), small_line (by decide), small_line (by decide), small_line (by decide), hR6 _ ?_⟩
          clear hR6
          walk_at "sr"
          refine ⟨ns, t5, _, _, b + 6, rfl, .inl rfl, (fun z => by cases z), hn, ht5, by omega, fun x t6 hx6 ht6 => ?_⟩
          obtain ⟨c, rfl⟩ := drawn_call hx6
          walk_at "sr"
          exact ⟨small_line (by decide), dd (.call c) _ (ht6.mono (by omega))⟩
        | cons x0 l0 =>
          refine ifF rfl ?_
          by_cases hwc : w = .calls
          · subst hwc
            walk_at "sr"
            refine hR5 _ ?_
            clear hR5
            walk_at "sr"
            by_cases h5 : r < 5
            · rw [if_pos h5]
              exact ⟨small_line (by decide), dd (.call .pass) _ (ht5.mono (by omega))⟩
            · rw [if_neg h5]
              rw [cut_to (by omega)]
              refine ⟨cmul_small (by decide) (by omega), ns, t5, _, (x0 :: l0).take (2 * r).toNat, b + 6, rfl, .inr rfl, ?_, hn, ht5, by omega, fun x t6 hx6 ht6 => ?_⟩
              · have e : (2 * r).toNat = ((2 * r).toNat - 1) + 1 := by omega
                rw [e, List.take_succ_cons]
                exact fun z => by cases z
              · obtain ⟨c, rfl⟩ := hw1 rfl x (by rw [hxs]; exact List.mem_of_mem_take hx6)
                walk_at "sr"
                exact ⟨small_line (by decide), dd (.call c) _ (ht6.mono (by omega))⟩
          · rw [decide_eq_false hwc]
            refine ifT rfl ?_
            refine seq_step fun R6 hR6 => ?_
            walk_at "sr"
            refine ⟨small_line (by decide), small_line (by decide), small_line (by decide), small_line (by decide), small_line (by decide), small_line (by decide), hR6 _ ?_⟩
            clear hR6
            walk_at "sr"
            refine ⟨ns, t5, _, _, b + 6, rfl, .inl rfl, (fun z => by cases z), hn, ht5, by omega, fun x t6 hx6 ht6 => ?_⟩
            obtain ⟨c, rfl⟩ := drawn_call hx6
            walk_at "sr"
            exact ⟨small_line (by decide), dd (.call c) _ (ht6.mono (by omega))⟩
    | play =>
      unfold Srt.enc at playP ⊢
      walk_at "sr"
      exact playP _ ht3
    | back => exact absurd rfl hbk
    | again => exact absurd rfl hbk
  cases s with
  | claim =>
    unfold Srt.enc
    walk_at "sr"
    refine ⟨ns, t2, _, b + 2, rfl, by omega, hn, ht2, by omega, fun r t3 h0 h1 ht3 => ?_⟩
    walk_at "sr"
    exact ⟨small_line (by decide), dd (.claim (r - 1)) _ (ht3.mono (by omega))⟩
  | go =>
    unfold Srt.enc at rest ⊢
    walk_at "sr"
    refine ⟨ns, t2, _, b + 2, rfl, by decide, hn, ht2, by omega, fun r t3 h0 h1 ht3 => ?_⟩
    walk_at "sr"
    by_cases hr : r = 0
    · rw [if_pos hr]
      refine ⟨ns, t3, _, b + 4, rfl, by omega, hn, ht3, by omega, fun r t4 h0 h1 ht4 => ?_⟩
      walk_at "sr"
      exact ⟨small_line (by decide), dd (.claim (r - 1)) _ (ht4.mono (by omega))⟩
    · rw [if_neg hr]
      exact rest _ ht3 (fun z => by cases z)
  | call =>
    unfold Srt.enc at rest ⊢
    walk_at "sr"
    exact rest _ (ht2.mono (by omega)) (fun z => by cases z)
  | play =>
    unfold Srt.enc at rest ⊢
    walk_at "sr"
    exact rest _ (ht2.mono (by omega)) (fun z => by cases z)
  | back => exact absurd rfl hbk
  | again => exact absurd rfl hbk
theorem apart_ofT {h0 h1 h2 h3 : List Card} (nd : (h0 ++ h1 ++ h2 ++ h3).Nodup) : Apart [h0, h1, h2, h3] := by
  obtain ⟨n012, n3, d3⟩ := List.nodup_append.mp nd
  obtain ⟨n01, n2, d2⟩ := List.nodup_append.mp n012
  obtain ⟨n0, n1, d1⟩ := List.nodup_append.mp n01
  have out : ∀ p c, c ∈ handAt [h0, h1, h2, h3] p → p < 4 := fun p c hc => by
    rcases Nat.lt_or_ge p 4 with h | h
    · exact h
    · unfold handAt at hc
      rw [List.getD_eq_getElem?_getD, List.getElem?_eq_none (by simpa using h)] at hc
      cases hc
  have key : ∀ (i j : Nat) (c : Card), i < j → c ∈ handAt [h0, h1, h2, h3] i → c ∈ handAt [h0, h1, h2, h3] j → False := fun i j c hij hi hj => by
    have h4 := out j c hj
    have : (i = 0 ∧ j = 1) ∨ (i = 0 ∧ j = 2) ∨ (i = 0 ∧ j = 3) ∨ (i = 1 ∧ j = 2) ∨ (i = 1 ∧ j = 3) ∨ (i = 2 ∧ j = 3) := by omega
    rcases this with ⟨rfl, rfl⟩ | ⟨rfl, rfl⟩ | ⟨rfl, rfl⟩ | ⟨rfl, rfl⟩ | ⟨rfl, rfl⟩ | ⟨rfl, rfl⟩
    · exact d1 c hi c hj rfl
    · exact d2 c (List.mem_append_left _ hi) c hj rfl
    · exact d3 c (List.mem_append_left _ (List.mem_append_left _ hi)) c hj rfl
    · exact d2 c (List.mem_append_right _ hi) c hj rfl
    · exact d3 c (List.mem_append_left _ (List.mem_append_right _ hi)) c hj rfl
    · exact d3 c (List.mem_append_right _ hi) c hj rfl
  refine ⟨fun p q c hp hq => ?_, fun p => ?_⟩
  · rcases Nat.lt_trichotomy p q with h | h | h
    · exact (key p q c h hp hq).elim
    · exact h
    · exact (key q p c h hq hp).elim
  · rcases Nat.lt_or_ge p 4 with h | h
    · have : p = 0 ∨ p = 1 ∨ p = 2 ∨ p = 3 := by omega
      rcases this with rfl | rfl | rfl | rfl
      · exact n0
      · exact n1
      · exact n2
      · exact n3
    · unfold handAt
      rw [List.getD_eq_getElem?_getD, List.getElem?_eq_none (by simpa using h)]
      exact List.nodup_nil
theorem deal_okT {R : Nat} {h0 h1 h2 h3 : List Card} (h : Deal R h0 h1 h2 h3) (l : 1 ≤ R) (u : R ≤ 13) : DealOk R [h0, h1, h2, h3] :=
  ⟨rfl, fun h' hm => by
    simp only [List.mem_cons, List.not_mem_nil, or_false] at hm
    rcases hm with rfl | rfl | rfl | rfl
    · exact h.l0
    · exact h.l1
    · exact h.l2
    · exact h.l3, l, u⟩
end DL
set_option Elab.async false
set_option linter.all false
set_option maxRecDepth 100000
set_option maxHeartbeats 4000000
/-! FnRotT: tables turned, plain Lean. -/
namespace DL
open PySem PySem.Spec PyProof.Rows L2
def rotL {α : Type} (τ : Nat) (l : List α) : List α := l.drop (4 - τ) ++ l.take (4 - τ)
theorem rotL_len {α : Type} {τ : Nat} {l : List α} : (rotL τ l).length = l.length := by
  unfold rotL; rw [List.length_append, List.length_drop, List.length_take]; omega
theorem rotL_mem {α : Type} {τ : Nat} {l : List α} {x : α} : x ∈ rotL τ l ↔ x ∈ l := by
  unfold rotL
  rw [List.mem_append]
  conv => rhs; rw [← List.take_append_drop (4 - τ) l, List.mem_append]
  exact Or.comm
theorem rot_at {hs : List (List Card)} {τ p : Nat} (h4 : hs.length = 4) (hτ : τ = 1 ∨ τ = 2) (hp : p < 4) : handAt (rotL τ hs) ((p + τ) % 4) = handAt hs p := by
  match hs, h4 with
  | [h0, h1, h2, h3], _ =>
    have : p = 0 ∨ p = 1 ∨ p = 2 ∨ p = 3 := by omega
    rcases hτ with rfl | rfl <;> rcases this with rfl | rfl | rfl | rfl <;> rfl
theorem rot_at2 {hs : List (List Card)} {τ q : Nat} (h4 : hs.length = 4) (hτ : τ = 1 ∨ τ = 2) (hq : q < 4) : handAt (rotL τ hs) q = handAt hs ((q + 4 - τ) % 4) := by
  have := rot_at (p := (q + 4 - τ) % 4) h4 hτ (by omega)
  rw [← this]
  congr 1
  rcases hτ with rfl | rfl <;> omega
theorem hand_out {hs : List (List Card)} {p : Nat} (h4 : hs.length = 4) (hp : ¬ p < 4) : handAt hs p = [] := by
  unfold handAt; rw [List.getD_eq_getElem?_getD, List.getElem?_eq_none (by omega)]; rfl
theorem DealOk.rot {R τ : Nat} {hs : List (List Card)} (h : DealOk R hs) : DealOk R (rotL τ hs) := ⟨by rw [rotL_len]; exact h.four, fun x hx => h.each x (rotL_mem.mp hx), h.lo, h.hi⟩
theorem Apart.rot {R τ : Nat} {hs : List (List Card)} (hd : DealOk R hs) (h : Apart hs) (hτ : τ = 1 ∨ τ = 2) : Apart (rotL τ hs) := by
  have h4 := hd.four
  have h4' : (rotL τ hs).length = 4 := by rw [rotL_len]; exact h4
  refine ⟨fun p q c hp hq => ?_, fun p => ?_⟩
  · by_cases p4 : p < 4
    · by_cases q4 : q < 4
      · rw [rot_at2 h4 hτ p4] at hp
        rw [rot_at2 h4 hτ q4] at hq
        have := h.one _ _ c hp hq
        rcases hτ with rfl | rfl <;> omega
      · rw [hand_out h4' q4] at hq; cases hq
    · rw [hand_out h4' p4] at hp; cases hp
  · by_cases p4 : p < 4
    · rw [rot_at2 h4 hτ p4]; exact h.nd _
    · rw [hand_out h4' p4]; exact List.nodup_nil
def swp {α : Type} (τ : Nat) (p : α × α) : α × α := if τ % 2 = 0 then p else (p.2, p.1)
def Cont.rot (τ : Nat) (c : Cont) : Cont := { c with p := (c.p + (τ : Int)) % 4 }
theorem Cont.rot_ld (τ : Nat) (c : Cont) : (c.rot τ).ld = (c.ld + (τ : Int)) % 4 := by unfold Cont.ld Cont.rot; dsimp only; omega
theorem contr_rot (τ : Nat) (dealer : Int) (cs : List Call) : contr ((dealer + (τ : Int)) % 4) cs = (contr dealer cs).map (Cont.rot τ) := by
  unfold contr
  split
  · split
    · simp only [Option.map_some]
      congr 1
      unfold Cont.rot
      dsimp only
      congr 1
      omega
    · rfl
  · rfl
def rotW (τ : Nat) (s : Stand) : Stand := ⟨(s.ld + (τ : Int)) % 4, s.tr, (swp τ (s.w0, s.w1)).1, (swp τ (s.w0, s.w1)).2⟩
theorem walk_rot {τ : Nat} (hτ : τ = 1 ∨ τ = 2) (st ld : Int) (cs : List Card) : walkP st ((ld + (τ : Int)) % 4) cs = rotW τ (walkP st ld cs) := by
  refine snoc_indP (P := fun cs => walkP st ((ld + (τ : Int)) % 4) cs = rotW τ (walkP st ld cs)) ?_ (fun cs c ih => ?_) cs
  · rcases hτ with rfl | rfl <;> rfl
  · rw [walk_snoc, walk_snoc, ih]
    unfold stepP
    show (if ((rotW τ (walkP st ld cs)).tr ++ [c]).length = 4 then _ else _) = _
    rw [show (rotW τ (walkP st ld cs)).tr = (walkP st ld cs).tr from rfl, show (rotW τ (walkP st ld cs)).ld = ((walkP st ld cs).ld + (τ : Int)) % 4 from rfl]
    generalize winI st ((walkP st ld cs).tr ++ [c]) = w
    generalize walkP st ld cs = s
    obtain ⟨l, tr, w0, w1⟩ := s
    split
    · unfold upW rotW swp
      dsimp only
      rcases hτ with rfl | rfl
      · have e : ((l + ((1 : Nat) : Int)) % 4 + (w : Int)) % 4 = ((l + (w : Int)) % 4 + ((1 : Nat) : Int)) % 4 := by omega
        rw [e]
        have h2 : (((l + (w : Int)) % 4 + ((1 : Nat) : Int)) % 4) % 2 = 0 ↔ ¬ ((l + (w : Int)) % 4) % 2 = 0 := by omega
        by_cases hz : ((l + (w : Int)) % 4) % 2 = 0
        · have : ¬ (((l + (w : Int)) % 4 + ((1 : Nat) : Int)) % 4) % 2 = 0 := fun z => (h2.mp z) hz
          simp only [if_pos hz, if_neg this]
          rfl
        · have := h2.mpr hz
          simp only [if_neg hz, if_pos this]
          rfl
      · have e : ((l + ((2 : Nat) : Int)) % 4 + (w : Int)) % 4 = ((l + (w : Int)) % 4 + ((2 : Nat) : Int)) % 4 := by omega
        rw [e]
        have h2 : (((l + (w : Int)) % 4 + ((2 : Nat) : Int)) % 4) % 2 = 0 ↔ ((l + (w : Int)) % 4) % 2 = 0 := by omega
        by_cases hz : ((l + (w : Int)) % 4) % 2 = 0
        · have := h2.mpr hz
          simp only [if_pos hz, if_pos this]
          rfl
        · have : ¬ (((l + (w : Int)) % 4 + ((2 : Nat) : Int)) % 4) % 2 = 0 := fun z => hz (h2.mp z)
          simp only [if_neg hz, if_neg this]
          rfl
    · rfl
theorem turnP_rot {τ : Nat} (hτ : τ = 1 ∨ τ = 2) (st ld : Int) (cs : List Card) : turnP st ((ld + (τ : Int)) % 4) cs = (turnP st ld cs + (τ : Int)) % 4 := by
  unfold turnP
  rw [walk_rot hτ]
  show (((walkP st ld cs).ld + (τ : Int)) % 4 + ((walkP st ld cs).tr.length : Int)) % 4 = _
  omega
theorem mayF_rot {τ : Nat} {hs : List (List Card)} (h4 : hs.length = 4) (hτ : τ = 1 ∨ τ = 2) (st ld : Int) (cs : List Card) : mayF (rotL τ hs) st ((ld + (τ : Int)) % 4) cs = mayF hs st ld cs := by
  have tb := turnP_bd st ld cs
  unfold mayF
  rw [turnP_rot hτ, walk_rot hτ]
  have e : ((turnP st ld cs + (τ : Int)) % 4).toNat = ((turnP st ld cs).toNat + τ) % 4 := by omega
  rw [e, rot_at h4 hτ (by omega)]
  rfl
theorem PReach.rot {R τ : Nat} {hs : List (List Card)} {st ld : Int} {cs : List Card} (h4 : hs.length = 4) (hτ : τ = 1 ∨ τ = 2) (h : PReach R hs st ld cs) : PReach R (rotL τ hs) st ((ld + (τ : Int)) % 4) cs := by
  induction h with
  | nil => exact .nil
  | snoc _ hl hc ih => exact .snoc ih hl (by rw [mayF_rot h4 hτ]; exact hc)
def Tab.rot (τ : Nat) (t : Tab) : Tab := { t with hs := rotL τ t.hs, dealer := (t.dealer + (τ : Int)) % 4, r0 := (swp τ (t.r0, t.r1)).1, r1 := (swp τ (t.r0, t.r1)).2 }
theorem Tab.rot_con (τ : Nat) (t : Tab) : (t.rot τ).con = t.con.map (Cont.rot τ) := contr_rot τ t.dealer t.st.cs
theorem Tab.rot_stage (τ : Nat) (t : Tab) : (t.rot τ).stage = t.stage := by
  unfold Tab.stage
  rw [Tab.rot_con]
  rw [show (t.con.map (Cont.rot τ)).isNone = t.con.isNone by cases t.con <;> rfl]
  rfl
theorem SOk.rot {n τ : Nat} {t : Tab} {s : Tst} (h4 : t.hs.length = 4) (hτ : τ = 1 ∨ τ = 2) (h : SOk n t s) : SOk n (t.rot τ) s := by
  have e : contr (t.rot τ).dealer s.cs = (contr t.dealer s.cs).map (Cont.rot τ) := contr_rot τ t.dealer s.cs
  refine ⟨h.rc, h.ln, fun hn => ?_, fun c hc => ?_⟩
  · rw [e] at hn
    cases q : contr t.dealer s.cs with
    | none => exact h.no q
    | some c => rw [q] at hn; cases hn
  · rw [e] at hc
    cases q : contr t.dealer s.cs with
    | none => rw [q] at hc; cases hc
    | some k =>
      rw [q] at hc
      cases hc
      have := h.pl k q
      refine ⟨?_, this.2⟩
      rw [Cont.rot_ld]
      exact this.1.rot h4 hτ
theorem TOk.rot {n τ : Nat} {t : Tab} (hτ : τ = 1 ∨ τ = 2) (h : TOk n t) : TOk n (t.rot τ) :=
  ⟨h.dok.rot, h.ap.rot h.dok hτ, (by show 0 ≤ (t.dealer + (τ : Int)) % 4; omega), (by show (t.dealer + (τ : Int)) % 4 < 4; omega), h.st.rot h.dok.four hτ, fun p hp => (h.done p hp).rot h.dok.four hτ, fun p hp => (h.undone p hp).rot h.dok.four hτ, h.len⟩
theorem Tab.rot_won {τ : Nat} (hτ : τ = 1 ∨ τ = 2) (t : Tab) : (t.rot τ).won = swp τ t.won := by
  unfold Tab.won
  rw [Tab.rot_con]
  cases t.con with
  | none => rcases hτ with rfl | rfl <;> rfl
  | some c =>
    rw [Option.map_some]
    dsimp only
    show (match t.st.cl with | none => _ | some n => _) = _
    cases t.st.cl with
    | none =>
      dsimp only
      rw [Cont.rot_ld]
      show ((walkP c.s ((c.ld + (τ : Int)) % 4) t.st.ps).w0, (walkP c.s ((c.ld + (τ : Int)) % 4) t.st.ps).w1) = _
      rw [walk_rot hτ]
      rfl
    | some k =>
      dsimp only
      unfold Cont.rot
      dsimp only
      have hR : ((t.rot τ).R : Int) = t.R := rfl
      rw [hR]
      rcases hτ with rfl | rfl
      · have h2 : ((c.p + ((1 : Nat) : Int)) % 4) % 2 = 0 ↔ ¬ c.p % 2 = 0 := by omega
        by_cases hz : c.p % 2 = 0
        · rw [if_pos hz, if_neg (fun z => (h2.mp z) hz)]; rfl
        · rw [if_neg hz, if_pos (h2.mpr hz)]; rfl
      · have h2 : ((c.p + ((2 : Nat) : Int)) % 4) % 2 = 0 ↔ c.p % 2 = 0 := by omega
        by_cases hz : c.p % 2 = 0
        · rw [if_pos hz, if_pos (h2.mpr hz)]; rfl
        · rw [if_neg hz, if_neg (fun z => hz (h2.mp z))]; rfl
theorem Tab.rot_may {τ : Nat} (hτ : τ = 1 ∨ τ = 2) {t : Tab} (h4 : t.hs.length = 4) : (t.rot τ).may = t.may := by
  unfold Tab.may
  rw [Tab.rot_stage, Tab.rot_con]
  cases t.stage with
  | calls => rfl
  | fin => cases t.con <;> rfl
  | play =>
    cases t.con with
    | none => rfl
    | some c =>
      rw [Option.map_some]
      dsimp only
      rw [Cont.rot_ld]
      show handD (mayF (rotL τ t.hs) c.s ((c.ld + (τ : Int)) % 4) t.st.ps) = _
      rw [mayF_rot h4 hτ]
def Tab.turnO (t : Tab) : Option Int := match t.stage, t.con with
  | .calls, _ => some ((t.dealer + (t.st.cs.length : Int)) % 4)
  | .play, some c => some (turnP c.s c.ld t.st.ps)
  | _, _ => none
theorem Tab.turn_O (t : Tab) : t.turn = optI t.turnO := by
  unfold Tab.turn Tab.turnO
  cases t.stage <;> cases t.con <;> rfl
theorem Tab.rot_turn {τ : Nat} (hτ : τ = 1 ∨ τ = 2) (t : Tab) : (t.rot τ).turnO = t.turnO.map fun p => (p + (τ : Int)) % 4 := by
  unfold Tab.turnO
  rw [Tab.rot_stage, Tab.rot_con]
  cases t.stage with
  | calls =>
    dsimp only
    rw [Option.map_some]
    show some (((t.dealer + (τ : Int)) % 4 + (t.st.cs.length : Int)) % 4) = _
    congr 1
    omega
  | fin => cases t.con <;> rfl
  | play =>
    cases t.con with
    | none => rfl
    | some c =>
      rw [Option.map_some]
      dsimp only
      rw [Option.map_some, Cont.rot_ld]
      congr 1
      exact turnP_rot hτ _ _ _
def Tab.scoreO (t : Tab) : Option Int := if t.stage = .fin then (match t.con with
  | none => some 0
  | some c => some (t.paid c)) else none
theorem Tab.score_O (t : Tab) : t.score = optI t.scoreO := by
  unfold Tab.score Tab.scoreO
  split
  · cases t.con <;> rfl
  · rfl
theorem Tab.rot_score {τ : Nat} (hτ : τ = 1 ∨ τ = 2) (t : Tab) : (t.rot τ).scoreO = t.scoreO.map fun s => if τ = 2 then s else 0 - s := by
  unfold Tab.scoreO
  rw [Tab.rot_stage, Tab.rot_con]
  split
  · cases t.con with
    | none => rcases hτ with rfl | rfl <;> rfl
    | some c =>
      rw [Option.map_some]
      dsimp only
      rw [Option.map_some]
      congr 1
      unfold Tab.paid
      rw [Tab.rot_won hτ]
      unfold Cont.rot
      dsimp only
      rw [show ((t.rot τ).R : Int) = t.R from rfl]
      rcases hτ with rfl | rfl
      · have h2 : ((c.p + ((1 : Nat) : Int)) % 4) % 2 = 0 ↔ ¬ c.p % 2 = 0 := by omega
        rw [show (t.rot 1).r0 = t.r1 from rfl, show (t.rot 1).r1 = t.r0 from rfl, show (swp 1 t.won).1 = t.won.2 from rfl, show (swp 1 t.won).2 = t.won.1 from rfl, if_neg (by decide : ¬ (1 : Nat) = 2)]
        by_cases hz : c.p % 2 = 0
        · rw [if_pos hz, if_neg (fun z => (h2.mp z) hz)]; omega
        · rw [if_neg hz, if_pos (h2.mpr hz)]; omega
      · have h2 : ((c.p + ((2 : Nat) : Int)) % 4) % 2 = 0 ↔ c.p % 2 = 0 := by omega
        rw [show (t.rot 2).r0 = t.r0 from rfl, show (t.rot 2).r1 = t.r1 from rfl, show swp 2 t.won = t.won from rfl, if_pos rfl]
        by_cases hz : c.p % 2 = 0
        · rw [if_pos hz, if_pos (h2.mpr hz)]
        · rw [if_neg hz, if_neg (fun z => hz (h2.mp z))]
  · rfl
def mapE (τ : Nat) : Except Err Tab → Except Err Tab
  | .ok u => .ok (u.rot τ)
  | .error e => .error e
theorem Tab.rot_must (τ : Nat) (t : Tab) : (t.rot τ).must = t.must := by
  unfold Tab.must
  rw [Tab.rot_stage, Tab.rot_con]
  rw [show (t.con.map (Cont.rot τ)).isNone = t.con.isNone by cases t.con <;> rfl]
theorem Tab.rot_okClaim {τ : Nat} (hτ : τ = 1 ∨ τ = 2) (t : Tab) (c : Cont) (n : Int) : (t.rot τ).okClaim (c.rot τ) n = t.okClaim c n := by
  unfold Tab.okClaim
  rw [Tab.rot_won hτ, show ((t.rot τ).R : Int) = t.R from rfl]
  have hp : (c.rot τ).p = (c.p + (τ : Int)) % 4 := rfl
  rw [hp]
  congr 1
  rcases hτ with rfl | rfl
  · have sw : swp 1 t.won = (t.won.2, t.won.1) := rfl
    rw [sw]
    rcases Int.emod_two_eq c.p with h | h
    · rw [show ((c.p + ((1 : Nat) : Int)) % 4) % 2 = 1 by omega, h]; rfl
    · rw [show ((c.p + ((1 : Nat) : Int)) % 4) % 2 = 0 by omega, h]; rfl
  · have sw : swp 2 t.won = t.won := rfl
    rw [sw, show ((c.p + ((2 : Nat) : Int)) % 4) % 2 = c.p % 2 by omega]
theorem Tab.rot_mv {τ : Nat} (hτ : τ = 1 ∨ τ = 2) {t : Tab} (h4 : t.hs.length = 4) (m : Mv) : (t.rot τ).mv m = mapE τ (t.mv m) := by
  cases m with
  | deed d =>
    show (t.rot τ).act d = mapE τ (t.act d)
    cases d with
    | call c =>
      simp only [Tab.act]
      rw [show (t.rot τ).st = t.st from rfl, show (t.rot τ).L = t.L from rfl]
      split
      · rfl
      · split <;> rfl
    | play c =>
      simp only [Tab.act]
      rw [Tab.rot_must, Tab.rot_con]
      cases t.must with
      | some e => rfl
      | none =>
        cases t.con with
        | none => rfl
        | some k =>
          rw [Option.map_some]
          dsimp only
          rw [Cont.rot_ld]
          show (if c ∈ mayF (rotL τ t.hs) k.s ((k.ld + (τ : Int)) % 4) t.st.ps then _ else _) = _
          rw [mayF_rot h4 hτ]
          split <;> rfl
    | claim n =>
      simp only [Tab.act]
      rw [Tab.rot_must, Tab.rot_con]
      cases t.must with
      | some e => rfl
      | none =>
        cases t.con with
        | none => rfl
        | some k =>
          rw [Option.map_some]
          dsimp only
          rw [Tab.rot_okClaim hτ]
          split <;> rfl
  | back =>
    show (t.rot τ).back = mapE τ t.back
    unfold Tab.back
    rw [show (t.rot τ).done = t.done from rfl]
    split <;> rfl
  | again =>
    show (t.rot τ).again = mapE τ t.again
    unfold Tab.again
    rw [show (t.rot τ).undone = t.undone from rfl]
    split <;> rfl
end DL
set_option Elab.async false
set_option linter.all false
set_option maxRecDepth 100000
set_option maxHeartbeats 4000000
namespace DL
open PySem PySem.Spec PyProof.Rows L2
local macro_rules | `(tactic| walk_at "dl") => `(tactic| simp only [tV, tVr, tFzV, turnD, DL.wipeE, tK, tOpD, tUnD, tBo, tAndD, tOrD, tNotD, tIfE, DL.tAndV, DL.tOrV, DL.tNotV, tTru, truD, okLen, sSet, sSetL, sExpr, sRet, sIf, sNx, tTupD, dNil, dCons, tLstD, tFzD, tApp, tExtd, tPopAt, sSetIx, tIxO, tChainD, tChain3D, tRevT, caStr, opRepT, opAdd, opSub, opMul, opDiv, opMod, opPow, DL.opI, DL.opI0, opB0, opLt, opLe, opGt, opGtD, opLtD, opGe, opEq, opNe, opIs, opIsN, isNone, opIn, opNotIn, opIx, atD_0, atD_1, atD_2, atD_3, putD_0, unNeg, tCa1, tCa2, tCaL1, caLen, caAbs, caMax2, caMin2, caSum, caMax, caMin, caSumT, caMaxT, caMinT, caAll, caTuple, caList, caInt, tIsi, isInt, isBool, isStr, isTuple, isList, notDict, sAsg, gSet, gTupD, gLstD, gsNil, gsCons, sPar, pNil, pD, pL, setAll, tCallD, aNil, aV, aO, argS, oixs, ndp, putO, tOpL, opCat, opRep, tSlD, slD, tSlL, oNo, oE, tRevD, iLstD, iTupD, iRange1, iRange2, iZipD, iZipM, finO, tTrue, Option.map, eqv_int, eqv_bool, eqv_none, shaped_int, shaped_bool, shaped_none, tLenRange, tSortSet, tLenSet, tLenSetP, tSortSetP, tCountL, tCountT, tIndexL, tIndexT, DL.tOrT, DL.tAndT, DL.tNotT, tSortRev, caSorted, iEnumL, iEnumT, tDGetV, tDGetD, tDGet2V, dictAt, sDPutV, sSetM, mDt, mDk, pM, tInN, tNotInN, tCallM, amM, amV, tListRg, iDk, iDv, iDi, tLDk, tLDv, tTruDk, mDt1, tFzM, tCall0D, tFldD, tFldR, fldD, fldL, obD, unH_hdl, obGet, setOb, putOD, sFldD, sFldL, tMethO, tAppF, tPopF, sRaise, keyB_2, keyB_3, keyB_4, decide_eq_true_eq, and_self, List.cons_append, List.nil_append, List.replicate, List.getElem?_cons_zero, List.getElem?_cons_succ, List.set_cons_zero, List.set_cons_succ, List.length_cons, List.length_nil, true_and, and_true, if_true, if_false, Bool.false_eq_true, List.contains_nil, Bool.not_false, Bool.not_true, Bool.and_self, Bool.and_true, Bool.true_and, decide_true, decide_false, beq_self_eq_true])
def tb_law_turned_k30 : TSd :=
  sSeq (sAsg (tV 0) (gTupD 4 (gsCons (gSet 2) (gsCons (gSet 3) (gsCons (gSet 4) (gsCons (gSet 5) (gsNil)))))))
      (sSeq (sSet 2 (tIfE (tBo (tOpD opIs (tV 2) (tK .none))) (tK .none) (tOpD opMod (tOpD opAdd (tV 2) (tV 1)) (tK (.int 4)))))
      (sSeq (sSet 3 (tIfE (tBo (tOpD opIs (tV 3) (tK .none))) (tK .none) (tOpD opAdd (tSlD (tV 3) (oNo) (oE (tK (.int 3)))) (tTupD (dCons (tOpD opMod (tOpD opAdd (tOpD opIx (tV 3) (tK (.int 3))) (tV 1)) (tK (.int 4))) (dNil))))))
      (sSeq (sIf (tBo (tOpD opEq (tV 1) (tK (.int 2)))) (sRet (tTupD (dCons (tV 2) (dCons (tV 3) (dCons (tV 4) (dCons (tV 5) (dNil))))))) (sNx))
      (sRet (tTupD (dCons (tV 2) (dCons (tV 3) (dCons (tRevT (tV 4)) (dCons (tIfE (tBo (tOpD opIs (tV 5) (tK .none))) (tK .none) (tOpD opSub (tK (.int 0)) (tV 5))) (dNil))))))))))
def tb_law_k30 (C : Addr) (sp_law_same : SpD) (sp_Table_taken_back : SpO) (sp_Table_deeds : SpO) (sp_Table_cards : SpO) (sp_Table_calls : SpO) (sp_Table_may : SpO) (sp_Table_stage : SpO) (sp_law_turned : SpD) (sp_Table_score : SpO) (sp_Table_tricks : SpO) (sp_Table_contract : SpO) (sp_Table_turn : SpO) (sp_law_acted : SpO) (sp_law_drawn_deed : SpD) (sp_Table___init__ : SpO) (sp_law_drawn_deal : SpD) (sp_law_drawn_risk : SpD) (sp_law_pick : SpD) (sp_law_draw : SpD) : TSd :=
  sSeq (sSetL 1 (tLstD (dNil)))
      (sSeq (sFor (iRange1 (tK (.int 3))) (gSet 2) (sSeq (sPar [3, 4] (pD (tCallD sp_law_pick (aV (tV 0) (aO 1 (aV (tFzD (tLstD (dCons (tK (.int 1)) (dCons (tK (.int 2)) (dCons (tK (.int 3)) (dCons (tK (.int 4)) (dCons (tK (.int 13)) (dNil)))))))) (aNil))))) (pD (tCallD sp_law_draw (aV (tV 0) (aO 1 (aV (tK (.int 4)) (aNil))))) (pNil))))
      (sSeq (sPar [5, 6] (pD (tCallD sp_law_drawn_deal (aV (tV 0) (aO 1 (aV (tV 3) (aNil))))) (pD (tCallD sp_law_drawn_risk (aV (tV 0) (aO 1 (aNil)))) (pNil))))
      (sSeq (sSet 7 (tMakeO C sp_Table___init__ [] 23 (dCons (tV 3) (dCons (tV 5) (dCons (tV 4) (dCons (tV 6) (dNil)))))))
      (sSeq (sSet 8 (tMakeO C sp_Table___init__ [] 22 (dCons (tV 3) (dCons (tOpD opAdd (tSlD (tV 5) (oE (tK (.int 3))) (oNo)) (tSlD (tV 5) (oNo) (oE (tK (.int 3))))) (dCons (tOpD opMod (tOpD opAdd (tV 4) (tK (.int 1))) (tK (.int 4))) (dCons (tRevT (tV 6)) (dNil)))))))
      (sSeq (sSet 9 (tMakeO C sp_Table___init__ [] 21 (dCons (tV 3) (dCons (tOpD opAdd (tSlD (tV 5) (oE (tK (.int 2))) (oNo)) (tSlD (tV 5) (oNo) (oE (tK (.int 2))))) (dCons (tOpD opMod (tOpD opAdd (tV 4) (tK (.int 2))) (tK (.int 4))) (dCons (tV 6) (dNil)))))))
      (sSeq (sSet 10 (tFzD (tOpL opCat (tFzD (tOpL opRep (tFzD (tLstD (dCons (tK (.str "go")) (dNil)))) (tK (.int 10)))) (tFzD (tLstD (dCons (tK (.str "claim")) (dCons (tK (.str "call")) (dCons (tK (.str "play")) (dCons (tK (.str "back")) (dCons (tK (.str "again")) (dNil)))))))))))
      (sFor (iRange1 (tCa2 caMin2 (tOpD opAdd (tOpD opMul (tK (.int 4)) (tV 3)) (tK (.int 16))) (tK (.int 36)))) (gSet 11) (sSeq (sSet 12 (tCallD sp_law_drawn_deed (aV (tV 0) (aO 1 (aV (tV 3) (aV (tMethO C "stage" sp_Table_stage (tV 7) (dNil) (fun _ _ => False)) (aV (tMethO C "may" sp_Table_may (tV 7) (dNil) (fun _ _ => False)) (aV (tV 10) (aNil)))))))))
      (sSeq (sSet 13 (tFzD (tComp (iTupD (tTupD (dCons (tV 7) (dCons (tV 8) (dCons (tV 9) (dNil)))))) (gSet 16) (tTrue) (tCallO sp_law_acted (dCons (tV 16) (dCons (tV 12) (dNil))) (fun _ _ => False)) [16])))
      (sSeq (sIf (tTru (tFzD (tComp (iLstD (tV 13)) (gSet 20) (tNotD (tTru (tCallD sp_law_same (aV (tV 20) (aV (tOpD opIx (tV 13) (tK (.int 0))) (aNil)))))) (tV 20) [20]))) (sRet (tK (.bool false))) (sNx))
      (sSeq (sSet 14 (tTupD (dCons (tMethO C "turn" sp_Table_turn (tV 7) (dNil) (fun _ _ => False)) (dCons (tMethO C "contract" sp_Table_contract (tV 7) (dNil) (fun _ _ => False)) (dCons (tMethO C "tricks" sp_Table_tricks (tV 7) (dNil) (fun _ _ => False)) (dCons (tMethO C "score" sp_Table_score (tV 7) (dNil) (fun _ _ => False)) (dNil)))))))
      (sFor (iTupD (tTupD (dCons (tTupD (dCons (tK (.int 1)) (dCons (tV 8) (dNil)))) (dCons (tTupD (dCons (tK (.int 2)) (dCons (tV 9) (dNil)))) (dNil))))) (gTupD 2 (gsCons (gSet 15) (gsCons (gSet 16) (gsNil)))) (sSeq (sSet 17 (tTupD (dCons (tMethO C "turn" sp_Table_turn (tV 16) (dNil) (fun _ _ => False)) (dCons (tMethO C "contract" sp_Table_contract (tV 16) (dNil) (fun _ _ => False)) (dCons (tMethO C "tricks" sp_Table_tricks (tV 16) (dNil) (fun _ _ => False)) (dCons (tMethO C "score" sp_Table_score (tV 16) (dNil) (fun _ _ => False)) (dNil)))))))
      (sSeq (sIf (tNotD (tTru (tCallD sp_law_same (aV (tV 17) (aV (tCallD sp_law_turned (aV (tV 14) (aV (tV 15) (aNil)))) (aNil)))))) (sRet (tK (.bool false))) (sNx))
      (sSeq (sSet 18 (tTupD (dCons (tMethO C "stage" sp_Table_stage (tV 16) (dNil) (fun _ _ => False)) (dCons (tMethO C "may" sp_Table_may (tV 16) (dNil) (fun _ _ => False)) (dCons (tMethO C "calls" sp_Table_calls (tV 16) (dNil) (fun _ _ => False)) (dCons (tMethO C "cards" sp_Table_cards (tV 16) (dNil) (fun _ _ => False)) (dCons (tMethO C "deeds" sp_Table_deeds (tV 16) (dNil) (fun _ _ => False)) (dCons (tMethO C "taken_back" sp_Table_taken_back (tV 16) (dNil) (fun _ _ => False)) (dNil)))))))))
      (sSeq (sSet 19 (tTupD (dCons (tMethO C "stage" sp_Table_stage (tV 7) (dNil) (fun _ _ => False)) (dCons (tMethO C "may" sp_Table_may (tV 7) (dNil) (fun _ _ => False)) (dCons (tMethO C "calls" sp_Table_calls (tV 7) (dNil) (fun _ _ => False)) (dCons (tMethO C "cards" sp_Table_cards (tV 7) (dNil) (fun _ _ => False)) (dCons (tMethO C "deeds" sp_Table_deeds (tV 7) (dNil) (fun _ _ => False)) (dCons (tMethO C "taken_back" sp_Table_taken_back (tV 7) (dNil) (fun _ _ => False)) (dNil)))))))))
      (sIf (tNotD (tTru (tCallD sp_law_same (aV (tV 18) (aV (tV 19) (aNil)))))) (sRet (tK (.bool false))) (sNx)))))))))))))))))))
      (sRet (tK (.bool true))))
local macro_rules | `(tactic| walk_at "tb") => `(tactic| simp only [tV, tVr, tFzV, turnD, DL.wipeE, tK, tOpD, tUnD, tBo, tAndD, tOrD, tNotD, tIfE, DL.tAndV, DL.tOrV, DL.tNotV, tTru, truD, okLen, sSet, sSetL, sExpr, sRet, sIf, sNx, tTupD, dNil, dCons, tLstD, tFzD, tApp, tExtd, tPopAt, sSetIx, tIxO, tChainD, tChain3D, tRevT, caStr, opRepT, opAdd, opSub, opMul, opDiv, opMod, opPow, DL.opI, DL.opI0, opB0, opLt, opLe, opGt, opGtD, opLtD, opGe, opEq, opNe, opIs, opIsN, isNone, opIn, opNotIn, opIx, atD_0, atD_1, atD_2, atD_3, putD_0, unNeg, tCa1, tCa2, tCaL1, caLen, caAbs, caMax2, caMin2, caSum, caMax, caMin, caSumT, caMaxT, caMinT, caAll, caTuple, caList, caInt, tIsi, isInt, isBool, isStr, isTuple, isList, notDict, sAsg, gSet, gTupD, gLstD, gsNil, gsCons, sPar, pNil, pD, pL, setAll, tCallD, aNil, aV, aO, argS, oixs, ndp, putO, tOpL, opCat, opRep, tSlD, slD, tSlL, oNo, oE, tRevD, iLstD, iTupD, iRange1, iRange2, iZipD, iZipM, finO, tTrue, Option.map, eqv_int, eqv_bool, eqv_none, shaped_int, shaped_bool, shaped_none, tLenRange, tSortSet, tLenSet, tLenSetP, tSortSetP, tCountL, tCountT, tIndexL, tIndexT, DL.tOrT, DL.tAndT, DL.tNotT, tSortRev, caSorted, iEnumL, iEnumT, tDGetV, tDGetD, tDGet2V, dictAt, sDPutV, sSetM, mDt, mDk, pM, tInN, tNotInN, tCallM, amM, amV, tListRg, iDk, iDv, iDi, tLDk, tLDv, tTruDk, mDt1, tFzM, tCall0D, tFldD, tFldR, fldD, fldL, obD, unH_hdl, obGet, setOb, putOD, sFldD, sFldL, tMethO, tAppF, tPopF, sRaise, keyB_2, keyB_3, keyB_4, decide_eq_true_eq, and_self, List.cons_append, List.nil_append, List.replicate, List.getElem?_cons_zero, List.getElem?_cons_succ, List.set_cons_zero, List.set_cons_succ, List.length_cons, List.length_nil, true_and, and_true, if_true, if_false, Bool.false_eq_true, List.contains_nil, Bool.not_false, Bool.not_true, Bool.and_self, Bool.and_true, Bool.true_and, decide_true, decide_false, beq_self_eq_true, fs_ranks, fs_deal, fs_dealer, fs_risk, fs_state, fs_done, fs_undone, fs_contract, fs_leader, fs_stage, fs_turn, fs_may, fs_call, fs_must, fs_play, fs_claim, fs_tricks, fs_score, fs_calls, fs_cards, fs_back, fs_again, fs_deeds, fs_taken, fs_become, stg_sh, sh_sC, sh_sP, sh_sE, stg_eqC, stg_eqP, stg_eqE, reduceCtorEq, List.length_map, isNone_con])
local macro_rules | `(tactic| walk_at "mv") => `(tactic| simp only [tV, tVr, tFzV, turnD, DL.wipeE, tK, tOpD, tUnD, tBo, tAndD, tOrD, tNotD, tIfE, DL.tAndV, DL.tOrV, DL.tNotV, tTru, truD, okLen, sSet, sSetL, sExpr, sRet, sIf, sNx, tTupD, dNil, dCons, tLstD, tFzD, tApp, tExtd, tPopAt, sSetIx, tIxO, tChainD, tChain3D, tRevT, caStr, opRepT, opAdd, opSub, opMul, opDiv, opMod, opPow, DL.opI, DL.opI0, opB0, opLt, opLe, opGt, opGtD, opLtD, opGe, opEq, opNe, opIs, opIsN, isNone, opIn, opNotIn, opIx, atD_0, atD_1, atD_2, atD_3, putD_0, unNeg, tCa1, tCa2, tCaL1, caLen, caAbs, caMax2, caMin2, caSum, caMax, caMin, caSumT, caMaxT, caMinT, caAll, caTuple, caList, caInt, tIsi, isInt, isBool, isStr, isTuple, isList, notDict, sAsg, gSet, gTupD, gLstD, gsNil, gsCons, sPar, pNil, pD, pL, setAll, tCallD, aNil, aV, aO, argS, oixs, ndp, putO, tOpL, opCat, opRep, tSlD, slD, tSlL, oNo, oE, tRevD, iLstD, iTupD, iRange1, iRange2, iZipD, iZipM, finO, tTrue, Option.map, eqv_int, eqv_bool, eqv_none, shaped_int, shaped_bool, shaped_none, tLenRange, tSortSet, tLenSet, tLenSetP, tSortSetP, tCountL, tCountT, tIndexL, tIndexT, DL.tOrT, DL.tAndT, DL.tNotT, tSortRev, caSorted, iEnumL, iEnumT, tDGetV, tDGetD, tDGet2V, dictAt, sDPutV, sSetM, mDt, mDk, pM, tInN, tNotInN, tCallM, amM, amV, tListRg, iDk, iDv, iDi, tLDk, tLDv, tTruDk, mDt1, tFzM, tCall0D, tFldD, tFldR, fldD, fldL, obD, unH_hdl, obGet, setOb, putOD, sFldD, sFldL, tMethO, tAppF, tPopF, sRaise, keyB_2, keyB_3, keyB_4, decide_eq_true_eq, and_self, List.cons_append, List.nil_append, List.replicate, List.getElem?_cons_zero, List.getElem?_cons_succ, List.set_cons_zero, List.set_cons_succ, List.length_cons, List.length_nil, true_and, and_true, if_true, if_false, Bool.false_eq_true, List.contains_nil, Bool.not_false, Bool.not_true, Bool.and_self, Bool.and_true, Bool.true_and, decide_true, decide_false, beq_self_eq_true, fs_ranks, fs_deal, fs_dealer, fs_risk, fs_state, fs_done, fs_undone, fs_contract, fs_leader, fs_stage, fs_turn, fs_may, fs_call, fs_must, fs_play, fs_claim, fs_tricks, fs_score, fs_calls, fs_cards, fs_back, fs_again, fs_deeds, fs_taken, fs_become, stg_sh, sh_sC, sh_sP, sh_sE, stg_eqC, stg_eqP, stg_eqE, reduceCtorEq, List.length_map, isNone_con, sw_call, we_call_call, we_call_play, we_call_claim, we_call_back, sw_play, we_play_call, we_play_play, we_play_claim, we_play_back, sw_claim, we_claim_call, we_claim_play, we_claim_claim, we_claim_back, sw_back, we_back_call, we_back_play, we_back_claim, we_back_back, sw_again, we_again_call, we_again_play, we_again_claim, we_again_back])
local macro_rules | `(tactic| walk_at "sr") => `(tactic| simp only [tV, tVr, tFzV, turnD, DL.wipeE, tK, tOpD, tUnD, tBo, tAndD, tOrD, tNotD, tIfE, DL.tAndV, DL.tOrV, DL.tNotV, tTru, truD, okLen, sSet, sSetL, sExpr, sRet, sIf, sNx, tTupD, dNil, dCons, tLstD, tFzD, tApp, tExtd, tPopAt, sSetIx, tIxO, tChainD, tChain3D, tRevT, caStr, opRepT, opAdd, opSub, opMul, opDiv, opMod, opPow, DL.opI, DL.opI0, opB0, opLt, opLe, opGt, opGtD, opLtD, opGe, opEq, opNe, opIs, opIsN, isNone, opIn, opNotIn, opIx, atD_0, atD_1, atD_2, atD_3, putD_0, unNeg, tCa1, tCa2, tCaL1, caLen, caAbs, caMax2, caMin2, caSum, caMax, caMin, caSumT, caMaxT, caMinT, caAll, caTuple, caList, caInt, tIsi, isInt, isBool, isStr, isTuple, isList, notDict, sAsg, gSet, gTupD, gLstD, gsNil, gsCons, sPar, pNil, pD, pL, setAll, tCallD, aNil, aV, aO, argS, oixs, ndp, putO, tOpL, opCat, opRep, tSlD, slD, tSlL, oNo, oE, tRevD, iLstD, iTupD, iRange1, iRange2, iZipD, iZipM, finO, tTrue, Option.map, eqv_int, eqv_bool, eqv_none, shaped_int, shaped_bool, shaped_none, tLenRange, tSortSet, tLenSet, tLenSetP, tSortSetP, tCountL, tCountT, tIndexL, tIndexT, DL.tOrT, DL.tAndT, DL.tNotT, tSortRev, caSorted, iEnumL, iEnumT, tDGetV, tDGetD, tDGet2V, dictAt, sDPutV, sSetM, mDt, mDk, pM, tInN, tNotInN, tCallM, amM, amV, tListRg, iDk, iDv, iDi, tLDk, tLDv, tTruDk, mDt1, tFzM, tCall0D, tFldD, tFldR, fldD, fldL, obD, unH_hdl, obGet, setOb, putOD, sFldD, sFldL, tMethO, tAppF, tPopF, sRaise, keyB_2, keyB_3, keyB_4, decide_eq_true_eq, and_self, List.cons_append, List.nil_append, List.replicate, List.getElem?_cons_zero, List.getElem?_cons_succ, List.set_cons_zero, List.set_cons_succ, List.length_cons, List.length_nil, true_and, and_true, if_true, if_false, Bool.false_eq_true, List.contains_nil, Bool.not_false, Bool.not_true, Bool.and_self, Bool.and_true, Bool.true_and, decide_true, decide_false, beq_self_eq_true, fs_ranks, fs_deal, fs_dealer, fs_risk, fs_state, fs_done, fs_undone, fs_contract, fs_leader, fs_stage, fs_turn, fs_may, fs_call, fs_must, fs_play, fs_claim, fs_tricks, fs_score, fs_calls, fs_cards, fs_back, fs_again, fs_deeds, fs_taken, fs_become, stg_sh, sh_sC, sh_sP, sh_sE, stg_eqC, stg_eqP, stg_eqE, reduceCtorEq, List.length_map, isNone_con, sw_call, we_call_call, we_call_play, we_call_claim, we_call_back, sw_play, we_play_call, we_play_play, we_play_claim, we_play_back, sw_claim, we_claim_call, we_claim_play, we_claim_claim, we_claim_back, sw_back, we_back_call, we_back_play, we_back_claim, we_back_back, sw_again, we_again_call, we_again_play, we_again_claim, we_again_back, sw_go, we_go_go, we_go_claim, we_go_call, we_go_back, we_go_again, we_call_go, we_call_again, we_play_go, we_play_again, we_claim_go, we_claim_again, we_back_go, we_back_again, we_again_go, we_again_again, sh_ba, ba_or, List.any_cons, List.any_nil, Bool.or_false, Bool.or_true, Bool.true_or, Bool.false_or])
def spLaw : SpD := fun ss Q => ∃ ns : List Int, ss = [.d (.list (ns.map PyData.int))] ∧ ns.length ≤ 63 ∧ Q (.bool true) []
theorem sh_law : ∀ ss QD, spLaw ss QD → ss.length = 1 ∧ mpos 0 ss = [] := by rintro ss QD ⟨ns, rfl, _⟩; exact ⟨rfl, rfl⟩
def spTurnedT : SpD := fun ss Q => ∃ (τ : Nat) (pl : Option Int) (c : Option Cont) (a b : Int) (sc : Option Int), ss = [.d (.tuple [optI pl, oEnc c, .tuple [.int a, .int b], optI sc]), .d (.int τ)] ∧ (τ = 1 ∨ τ = 2) ∧
  Q (.tuple [optI (pl.map fun p => (p + (τ : Int)) % 4), oEnc (c.map (Cont.rot τ)), .tuple [.int (swp τ (a, b)).1, .int (swp τ (a, b)).2], optI (sc.map fun s => if τ = 2 then s else 0 - s)]) []
theorem sh_law_turned : ∀ ss QD, spTurnedT ss QD → ss.length = 2 ∧ mpos 0 ss = [] := by rintro ss QD ⟨_, _, _, _, _, _, rfl, _⟩; exact ⟨rfl, rfl⟩
theorem rd_law_turned_k30 : ∀ ss QD, spTurnedT ss QD → tb_law_turned_k30 { nx := fun E' => finO [] E' (QD .none), rt := fun d E' => finO [] E' (QD d) } (ss ++ List.replicate 4 .un) := by
  rintro ss QD ⟨τ, pl, c, a, b, sc, rfl, hτ, q⟩
  unfold tb_law_turned_k30
  refine seq_step fun R hR => ?_
  walk_at "sr"
  refine hR _ ?_
  clear hR
  refine seq_step fun R hR => ?_
  have h1 : R [.d (.tuple [optI pl, oEnc c, .tuple [.int a, .int b], optI sc]), .d (.int τ), .d (optI (pl.map fun p => (p + (τ : Int)) % 4)), .d (oEnc c), .d (.tuple [.int a, .int b]), .d (optI sc)] := by
    refine hR _ ?_
    clear hR
    refine seq_step fun R hR => ?_
    have h2 : R [.d (.tuple [optI pl, oEnc c, .tuple [.int a, .int b], optI sc]), .d (.int τ), .d (optI (pl.map fun p => (p + (τ : Int)) % 4)), .d (oEnc (c.map (Cont.rot τ))), .d (.tuple [.int a, .int b]), .d (optI sc)] := by
      refine hR _ ?_
      clear hR
      refine seq_step fun R hR => ?_
      walk_at "sr"
      rcases hτ with rfl | rfl
      · refine (if_neg (by decide)).mpr (hR _ ?_)
        clear hR
        walk_at "sr"
        cases sc with
        | none => exact ⟨small_line (by decide), q⟩
        | some s => exact ⟨small_line (by decide), q⟩
      · refine (if_pos (by decide)).mpr ⟨small_line (by decide), ?_⟩
        cases sc <;> exact q
    cases c with
    | none => walk_at "sr"; exact h2
    | some c =>
      rw [oEnc_some]
      unfold Cont.enc
      walk_at "sr"
      rw [show cutD [PyData.int c.l, .int c.s, .int c.t, .int c.p] none (some 3) = [.int c.l, .int c.s, .int c.t] from rfl]
      exact ⟨by decide, small_line (by decide), small_line (by show 3 + (0 + 1) ≤ _; decide), h2⟩
  cases pl with
  | none => walk_at "sr"; exact h1
  | some p =>
    unfold optI
    walk_at "sr"
    exact ⟨by decide, h1⟩
theorem new_ok {R : Nat} {hs : List (List Card)} {dealer : Int} {r0 r1 : Bool} (h1 : DealOk R hs) (h2 : Apart hs) (d0 : 0 ≤ dealer) (d1 : dealer < 4) : TOk 0 (newTab R hs dealer r0 r1) := by
  refine ⟨h1, h2, d0, d1, ⟨.nil, Nat.le_refl 0, fun _ => ⟨rfl, rfl⟩, fun c hc => ?_⟩, (fun p hp => by cases hp), (fun p hp => by cases hp), Nat.le_refl 0⟩
  have : contr dealer [] = none := contr_open rfl
  rw [show (newTab R hs dealer r0 r1).dealer = dealer from rfl, show (newTab R hs dealer r0 r1).st.cs = [] from rfl, this] at hc
  cases hc
theorem call_acted {C a : Addr} {t : Tab} {n : Nat} {m : Mv} {E : Env} {j : Nat} {Q : D → Env → Prop} (hj : E[j]? = some (.ob a C t.fs)) (ok : TOk n t) (hn : n ≤ 900) (q : ∀ u, t.mv m = .ok u → Q .none (E.set j (.ob a C u.fs))) (qx : ∀ e, t.mv m = .error e → Q (.str (errW e)) E) : tObs (spActed C) [hdl a, m.enc] E Q fun _ _ => False := by
  refine ⟨[j], [.ob a C t.fs], by simp, by unfold obsAt; rw [hj]; rfl, a, t, n, m, rfl, rfl, ok, hn, fun u h => ⟨rfl, q u h⟩, fun e h => ⟨rfl, ?_⟩⟩
  show Q _ (E.set j _)
  rw [set_same hj]; exact qx e h
theorem Tab.may_list (t : Tab) : ∃ xs, t.may = .tuple xs ∧ (t.stage = .calls → ∀ x ∈ xs, ∃ c : Call, x = c.enc) ∧ (t.stage = .play → ∀ x ∈ xs, ∃ c : Card, x = cE c) := by
  unfold Tab.may
  split
  · rename_i h
    refine ⟨_, rfl, fun _ x hx => ?_, fun z => by rw [h] at z; cases z⟩
    obtain ⟨c, _, rfl⟩ := List.mem_map.mp hx
    exact ⟨c, rfl⟩
  · rename_i h
    refine ⟨_, rfl, (fun z => by rw [‹t.stage = .play›] at z; cases z), fun _ x hx => ?_⟩
    obtain ⟨c, _, rfl⟩ := List.mem_map.mp hx
    exact ⟨c, rfl⟩
  · exact ⟨_, rfl, fun _ x hx => (by cases hx), fun _ x hx => by cases hx⟩
theorem Tab.act_same {t u : Tab} {d : Deed} (h : t.act d = .ok u) : u.R = t.R ∧ u.hs = t.hs ∧ u.dealer = t.dealer ∧ u.r0 = t.r0 ∧ u.r1 = t.r1 := by
  cases d with
  | call c =>
    simp only [Tab.act] at h
    split at h
    · cases h
    · split at h
      · cases h; exact ⟨rfl, rfl, rfl, rfl, rfl⟩
      · cases h
  | play c =>
    simp only [Tab.act] at h
    split at h
    · cases h
    · split at h
      · split at h
        · cases h; exact ⟨rfl, rfl, rfl, rfl, rfl⟩
        · cases h
      · cases h
  | claim c =>
    simp only [Tab.act] at h
    split at h
    · cases h
    · split at h
      · split at h
        · cases h; exact ⟨rfl, rfl, rfl, rfl, rfl⟩
        · cases h
      · cases h
theorem Tab.mv_same {t u : Tab} {m : Mv} (h : t.mv m = .ok u) : u.R = t.R := by
  cases m with
  | deed d => exact (Tab.act_same (d := d) h).1
  | back =>
    have h : t.back = .ok u := h
    unfold Tab.back at h
    split at h
    · cases h; rfl
    · cases h
  | again =>
    have h : t.again = .ok u := h
    unfold Tab.again at h
    split at h
    · cases h; rfl
    · cases h
theorem TOk.mv {n : Nat} {t u : Tab} {m : Mv} (ok : TOk n t) (h : t.mv m = .ok u) : TOk (n + 1) u := by
  cases m with
  | deed d => exact ok.act h
  | back => exact (ok.back h).mono (Nat.le_succ n)
  | again => exact (ok.again h).mono (Nat.le_succ n)
theorem same_word (r : Except Err Tab) (n : Nat) : sameOk (n + 1) (match r with | .ok _ => PyData.none | .error e => .str (errW e)) = true := by
  cases r with
  | ok _ => cases n <;> rfl
  | error e => cases e <;> (show PyData.strOk _ = true; decide +kernel)
def wordD (r : Except Err Tab) : D := match r with
  | .ok _ => .none
  | .error e => .str (errW e)
def nextT (t : Tab) (m : Mv) : Tab := match t.mv m with
  | .ok u => u
  | .error _ => t
theorem nextT_rot {τ : Nat} (hτ : τ = 1 ∨ τ = 2) {t : Tab} (h4 : t.hs.length = 4) (m : Mv) : nextT (t.rot τ) m = (nextT t m).rot τ ∧ wordD ((t.rot τ).mv m) = wordD (t.mv m) := by
  unfold nextT wordD
  rw [Tab.rot_mv hτ h4]
  cases t.mv m <;> exact ⟨rfl, rfl⟩
theorem nextT_ok {n : Nat} {t : Tab} (ok : TOk n t) (m : Mv) : TOk (n + 1) (nextT t m) ∧ (nextT t m).R = t.R := by
  unfold nextT
  cases h : t.mv m with
  | ok u => exact ⟨ok.mv h, Tab.mv_same h⟩
  | error e => exact ⟨ok.mono (Nat.le_succ n), rfl⟩
theorem call_actedN {C a : Addr} {t : Tab} {n : Nat} {m : Mv} {E : Env} {j : Nat} {Q : D → Env → Prop} (hj : E[j]? = some (.ob a C t.fs)) (ok : TOk n t) (hn : n ≤ 900) (q : Q (wordD (t.mv m)) (E.set j (.ob a C (nextT t m).fs))) : tObs (spActed C) [hdl a, m.enc] E Q fun _ _ => False := by
  refine call_acted hj ok hn (fun u h => ?_) (fun e h => ?_)
  · unfold wordD nextT at q; rw [h] at q; exact q
  · unfold wordD nextT at q; rw [h] at q
    rw [← set_same hj]; exact q
theorem gs2 {i j : Nat} {a b : D} {E : Env} {Q : Env → Prop} (h : Q ((E.set i (.d a)).set j (.d b))) : gTupD 2 (gsCons (gSet i) (gsCons (gSet j) gsNil)) (.tuple [a, b]) E Q := ⟨rfl, h⟩
theorem same_up : ∀ (n : Nat) (d : D), sameOk n d = true → sameOk (n + 1) d = true
  | 0, .tuple xs, h => by cases h
  | n + 1, .tuple xs, h => by
    have h : (xs.all (sameOk n) && decide (xs.length ≤ 10000000)) = true := h
    show (xs.all (sameOk (n + 1)) && decide (xs.length ≤ 10000000)) = true
    rw [Bool.and_eq_true] at h ⊢
    exact ⟨List.all_eq_true.mpr fun x hx => same_up n x (List.all_eq_true.mp h.1 x hx), h.2⟩
  | 0, .none, h => h
  | 0, .bool _, h => h
  | 0, .int _, h => h
  | 0, .str _, h => h
  | 0, .list _, h => by cases h
  | 0, .dict _, h => by cases h
  | n + 1, .none, h => h
  | n + 1, .bool _, h => h
  | n + 1, .int _, h => h
  | n + 1, .str _, h => h
  | n + 1, .list _, h => by cases h
  | n + 1, .dict _, h => by cases h
theorem same_deed (d : Deed) : sameOk 2 d.enc = true := by
  have h1 : sameOk 1 (.str "call") = true := by show PyData.strOk _ = true; decide +kernel
  have h2 : sameOk 1 (.str "play") = true := by show PyData.strOk _ = true; decide +kernel
  have h3 : sameOk 1 (.str "claim") = true := by show PyData.strOk _ = true; decide +kernel
  cases d with
  | call c =>
    show ([PyData.str "call", c.enc].all (sameOk 1) && decide (2 ≤ 10000000)) = true
    simp only [List.all_cons, List.all_nil, h1]
    have : sameOk 1 c.enc = true := by
      cases c <;> first | rfl | (show PyData.strOk _ = true; decide +kernel)
    rw [this]; rfl
  | play c =>
    show ([PyData.str "play", cE c].all (sameOk 1) && decide (2 ≤ 10000000)) = true
    simp only [List.all_cons, List.all_nil, h2, sameC 0]; rfl
  | claim c =>
    show ([PyData.str "claim", .int c].all (sameOk 1) && decide (2 ≤ 10000000)) = true
    simp only [List.all_cons, List.all_nil, h3]; rfl
theorem same_deeds {l : List (Tst × Deed)} (h : l.length ≤ 1000) : sameOk 3 (.tuple (l.map fun p => p.2.enc)) = true ∧ sameOk 3 (.tuple (l.map fun p => p.2.enc).reverse) = true := by
  have key : ∀ x ∈ l.map (fun p => p.2.enc), sameOk 2 x = true := fun x hx => by obtain ⟨p, _, rfl⟩ := List.mem_map.mp hx; exact same_deed p.2
  constructor
  · show ((l.map fun p => p.2.enc).all (sameOk 2) && decide ((l.map fun p => p.2.enc).length ≤ 10000000)) = true
    rw [List.all_eq_true.mpr key, decide_eq_true (by rw [List.length_map]; omega)]; rfl
  · show ((l.map fun p => p.2.enc).reverse.all (sameOk 2) && decide ((l.map fun p => p.2.enc).reverse.length ≤ 10000000)) = true
    rw [List.all_eq_true.mpr (fun x hx => key x (List.mem_reverse.mp hx)), decide_eq_true (by rw [List.length_reverse, List.length_map]; omega)]; rfl
theorem same_told (t : Tab) : sameOk 4 (.tuple [t.turn, oEnc t.con, t.tricks, t.score]) = true := by
  refine same_up 3 _ ?_
  show ([t.turn, oEnc t.con, t.tricks, t.score].all (sameOk 2) && decide (4 ≤ 10000000)) = true
  have e : sameOk 2 t.tricks = true := rfl
  simp only [List.all_cons, List.all_nil, sameT, sameK, sameSc, e]
  rfl
theorem same_looks {n : Nat} {t : Tab} (ok : TOk n t) (hn : n ≤ 900) : sameOk 4 (.tuple [t.stage.enc, t.may, rowD t.st.cs, handD t.st.ps, .tuple (t.done.map fun p => p.2.enc), .tuple (t.undone.map fun p => p.2.enc).reverse]) = true := by
  have h1 := ok.st.ln
  have h2 := ok.st.ps
  have hi := ok.dok.hi
  have hl := ok.len
  show ([t.stage.enc, t.may, rowD t.st.cs, handD t.st.ps, .tuple (t.done.map fun p => p.2.enc), .tuple (t.undone.map fun p => p.2.enc).reverse].all (sameOk 3) && decide (6 ≤ 10000000)) = true
  simp only [List.all_cons, List.all_nil, sameS 2, same_up 2 _ (sameM ok), same_up 2 _ (same_row (cs := t.st.cs) (by omega)), same_up 2 _ (sameH (h := t.st.ps) (by omega)), (same_deeds (l := t.done) (by omega)).1, (same_deeds (l := t.undone) (by omega)).2, Bool.true_and, Bool.and_true]
  rfl
theorem obGet_ne {y : Addr} : ∀ {E : Env} {j : Nat} {b C : Addr} {fs : List (Str × FS)}, obGet y E = none → E[j]? = some (.ob b C fs) → b ≠ y
  | [], j, b, C, fs, _, h => by simp at h
  | s :: E, 0, b, C, fs, h, hj => by
    cases (Option.some.inj hj : s = _)
    intro e
    simp only [obGet] at h
    rw [if_pos e] at h
    cases h
  | s :: E, j + 1, b, C, fs, h, hj => by
    refine obGet_ne (E := E) (j := j) ?_ hj
    cases s with
    | ob b' C' fs' =>
      simp only [obGet] at h
      split at h
      · cases h
      · exact h
    | _ => exact h
theorem rd_law_k30 {C : Addr} : ∀ ss QD, spLaw ss QD → tb_law_k30 C (spSame 4) (spGet C fun t => .tuple (t.undone.map fun p => p.2.enc).reverse) (spGet C fun t => .tuple (t.done.map fun p => p.2.enc)) (spGet C fun t => handD t.st.ps) (spGet C fun t => rowD t.st.cs) (spGet C Tab.may) (spStage C) spTurnedT (spGet C Tab.score) (spGet C Tab.tricks) (spCon C) (spGet C Tab.turn) (spActed C) spDrawnM (spInit C) spDeal spRisk spPick spDraw { nx := fun E' => finO [] E' (QD .none), rt := fun d E' => finO [] E' (QD d) } (ss ++ List.replicate 23 .un) := by
  rintro ss QD ⟨ns, rfl, hn, q⟩
  unfold tb_law_k30
  refine seq_step fun R hR => ?_
  walk_at "sr"
  refine ⟨small_line (by decide), hR _ ?_⟩
  refine seq_step fun R hR => ?_
  refine for_inv (ds := rangeD 0 3) (E1 := [.d (.list (ns.map PyData.int)), .ol [], .un, .un, .un, .un, .un, .un, .un, .un, .un, .un, .un, .un, .un, .un, .un, .un, .un, .un, .un, .un, .un, .un]) (fun Q h => ⟨⟨by decide, by decide⟩, h⟩)
    (fun i E => ∃ t a2 a3 a4 a5 a6 a7 a8 a9 a10 a11 a12 a13 a14 a15 a16 a17 a18 a19 a21 a22 a23, E = [.d (.list (ns.map PyData.int)), .ol t, a2, a3, a4, a5, a6, a7, a8, a9, a10, a11, a12, a13, a14, a15, a16, a17, a18, a19, .un, a21, a22, a23] ∧ (∀ b C fs, a8 ≠ .ob b C fs) ∧ (∀ b C fs, a9 ≠ .ob b C fs) ∧ (∀ b C fs, a10 ≠ .ob b C fs) ∧ (∀ b C fs, a11 ≠ .ob b C fs) ∧ (∀ b C fs, a12 ≠ .ob b C fs) ∧ (∀ b C fs, a13 ≠ .ob b C fs) ∧ (∀ b C fs, a14 ≠ .ob b C fs) ∧ (∀ b C fs, a15 ≠ .ob b C fs) ∧ (∀ b C fs, a16 ≠ .ob b C fs) ∧ (∀ b C fs, a17 ≠ .ob b C fs) ∧ (∀ b C fs, a18 ≠ .ob b C fs) ∧ (∀ b C fs, a19 ≠ .ob b C fs) ∧ TownOk t (1000 * i)) ⟨_, _, _, _, _, _, _, _, _, _, _, _, _, _, _, _, _, _, _, _, _, _, rfl, (fun _ _ _ z => by cases z), (fun _ _ _ z => by cases z), (fun _ _ _ z => by cases z), (fun _ _ _ z => by cases z), (fun _ _ _ z => by cases z), (fun _ _ _ z => by cases z), (fun _ _ _ z => by cases z), (fun _ _ _ z => by cases z), (fun _ _ _ z => by cases z), (fun _ _ _ z => by cases z), (fun _ _ _ z => by cases z), (fun _ _ _ z => by cases z), by decide, .inl rfl⟩ (fun i d E hd hE R2 hR2 => ?_) (fun E hE => ?_)
  · obtain ⟨t, a2, a3, a4, a5, a6, a7, a8, a9, a10, a11, a12, a13, a14, a15, a16, a17, a18, a19, a21, a22, a23, rfl, g8, g9, g10, g11, g12, g13, g14, g15, g16, g17, g18, g19, ht⟩ := hE
    have hi : i < 3 := by have := (List.getElem?_eq_some_iff.mp hd).1; rwa [rangeD_length] at this
    refine seq_step fun R3 hR3 => ?_
    walk_at "sr"
    refine ⟨small_line (by decide), ns, t, _, _, _, rfl, .inl rfl, List.cons_ne_nil _ _, hn, ht, by omega, fun x t1 hx ht1 => ?_⟩
    have hx : x ∈ ([1, 2, 3, 4, 13] : List Nat).map (fun n : Nat => PyData.int (n : Int)) := hx
    obtain ⟨L, hL, rfl⟩ := List.mem_map.mp hx
    have hL := (by decide : ∀ z ∈ ([1, 2, 3, 4, 13] : List Nat), 1 ≤ z ∧ z ≤ 13) L hL
    walk_at "sr"
    refine ⟨ns, t1, 4, _, rfl, by decide, hn, ht1, by omega, fun dealer t2 d0 d1 ht2 => ?_⟩
    walk_at "sr"
    refine hR3 _ ?_
    clear hR3
    refine seq_step fun R3 hR3 => ?_
    walk_at "sr"
    refine ⟨ns, t2, L, _, rfl, by omega, hn, ht2, by omega, fun h0 h1 h2 h3 t3 hdl ht3 => ?_⟩
    walk_at "sr"
    refine ⟨ns, t3, _, rfl, hn, ht3, by omega, fun r0 r1 t4 ht4 => ?_⟩
    walk_at "sr"
    refine hR3 _ ?_
    clear hR3
    refine seq_step fun R3 hR3 => ?_
    simp only [tMakeO]
    walk_at "sr"
    intro x hx
    refine ⟨x, L, [h0, h1, h2, h3], dealer, some (r0, r1), rfl, rfl, rfl, _, rfl, ?_⟩
    walk_at "sr"
    refine hR3 _ ?_
    clear hR3
    refine seq_step fun R3 hR3 => ?_
    simp only [tMakeO]
    have hdd : dealD h0 h1 h2 h3 = .tuple [handD h0, handD h1, handD h2, handD h3] := rfl
    rw [hdd]
    walk_at "sr"
    unfold tMakeO
    walk_at "sr"
    rw [show cutD [handD h0, handD h1, handD h2, handD h3] (some 3) none = [handD h3] from rfl, show cutD [handD h0, handD h1, handD h2, handD h3] none (some 3) = [handD h0, handD h1, handD h2] from rfl]
    refine ⟨small_line (by show 1 + 3 ≤ _; decide), by decide, fun y hy => ?_⟩
    have hxy : x ≠ y := obGet_ne (j := 2) hy rfl
    refine ⟨y, L, [h3, h0, h1, h2], (dealer + 1) % 4, some (r1, r0), rfl, rfl, rfl, _, rfl, ?_⟩
    refine hR3 _ ?_
    clear hR3
    refine seq_step fun R3 hR3 => ?_
    walk_at "sr"
    unfold tMakeO
    walk_at "sr"
    rw [show cutD [handD h0, handD h1, handD h2, handD h3] (some 2) none = [handD h2, handD h3] from rfl, show cutD [handD h0, handD h1, handD h2, handD h3] none (some 2) = [handD h0, handD h1] from rfl]
    refine ⟨small_line (by show 2 + 2 ≤ _; decide), by decide, fun z hz => ?_⟩
    have hxz : x ≠ z := obGet_ne (j := 2) hz rfl
    have hyz : y ≠ z := obGet_ne (j := 1) hz rfl
    refine ⟨z, L, [h2, h3, h0, h1], (dealer + 2) % 4, some (r0, r1), rfl, rfl, rfl, _, rfl, ?_⟩
    refine hR3 _ ?_
    clear hR3
    refine seq_step fun R3 hR3 => ?_
    walk_at "sr"
    refine ⟨small_line (by decide), ⟨by decide, by decide, small_line (by decide)⟩, small_line (by decide), small_line (by decide), hR3 _ ?_⟩
    clear hR3
    have hdok := deal_okT hdl hL.1 hL.2
    have hnd : (allC L).Nodup := (by decide : ∀ z : Nat, z ≤ 13 → (allC z).Nodup) L hL.2
    have hap : Apart [h0, h1, h2, h3] := apart_ofT (hdl.all.nodup_iff.mpr hnd)
    have e1 : newTab L [h3, h0, h1, h2] ((dealer + 1) % 4) r1 r0 = (newTab L [h0, h1, h2, h3] dealer r0 r1).rot 1 := rfl
    have e2 : newTab L [h2, h3, h0, h1] ((dealer + 2) % 4) r0 r1 = (newTab L [h0, h1, h2, h3] dealer r0 r1).rot 2 := rfl
    simp only [Option.getD_some]
    rw [e1, e2]
    generalize ht0 : newTab L [h0, h1, h2, h3] dealer r0 r1 = t0
    have ok0 : TOk 0 t0 := by rw [← ht0]; exact new_ok hdok hap d0 d1
    have hR0 : t0.R = L := by rw [← ht0]; rfl
    clear ht0 e1 e2 hap hnd hdok
    generalize hgd : PyData.tuple [handD h0, handD h1, handD h2, handD h3] = dl
    clear hgd hdd hx hy hz g8 g9 g10
    have ne1 : (z = x) = False := eq_false hxz.symm
    have ne2 : (y = x) = False := eq_false hxy.symm
    have ne3 : (z = y) = False := eq_false hyz.symm
    refine for_inv (ds := rangeD 0 (min (4 * L + 16) 36)) (E1 := [.d (.list (ns.map PyData.int)), .ol t4, .d d, .d (.int (L : Int)), .d (.int dealer), .d dl, .d (.tuple [.bool r0, .bool r1]), .d (DL.hdl x), .d (DL.hdl y), .d (DL.hdl z), .d (.list ((List.replicate 10 Srt.go ++ [Srt.claim, Srt.call, Srt.play, Srt.back, Srt.again]).map Srt.enc)), a11, a12, a13, a14, a15, a16, a17, a18, a19, .un, .ob z C (t0.rot 2).fs, .ob y C (t0.rot 1).fs, .ob x C t0.fs]) (fun Q h => ?_)
      (fun j E => ∃ (tb : Tab) (tn : List D) (a11 a12 a13 a14 a15 a16 a17 a18 a19 : S), E = [.d (.list (ns.map PyData.int)), .ol tn, .d d, .d (.int (L : Int)), .d (.int dealer), .d dl, .d (.tuple [.bool r0, .bool r1]), .d (DL.hdl x), .d (DL.hdl y), .d (DL.hdl z), .d (.list ((List.replicate 10 Srt.go ++ [Srt.claim, Srt.call, Srt.play, Srt.back, Srt.again]).map Srt.enc)), a11, a12, a13, a14, a15, a16, a17, a18, a19, .un, .ob z C (tb.rot 2).fs, .ob y C (tb.rot 1).fs, .ob x C tb.fs] ∧ (∀ b C fs, a11 ≠ .ob b C fs) ∧ (∀ b C fs, a12 ≠ .ob b C fs) ∧ (∀ b C fs, a13 ≠ .ob b C fs) ∧ (∀ b C fs, a14 ≠ .ob b C fs) ∧ (∀ b C fs, a15 ≠ .ob b C fs) ∧ (∀ b C fs, a16 ≠ .ob b C fs) ∧ (∀ b C fs, a17 ≠ .ob b C fs) ∧ (∀ b C fs, a18 ≠ .ob b C fs) ∧ (∀ b C fs, a19 ≠ .ob b C fs) ∧ TOk j tb ∧ tb.R = L ∧ TownOk tn (1000 * i + 200 + 10 * j))
      ⟨_, _, _, _, _, _, _, _, _, _, _, rfl, g11, g12, g13, g14, g15, g16, g17, g18, g19, ok0, hR0, ht4.mono (by omega)⟩ (fun j d2 E hd2 hE R5 hR5 => ?_) (fun E hE => ?_)
    · walk_at "sr"
      have e : (if (36 : Int) < 4 * (L : Int) + 16 then (36 : Int) else 4 * (L : Int) + 16).toNat = min (4 * L + 16) 36 := by split <;> omega
      rw [e]
      exact ⟨cmul_small (by decide) (by omega), ⟨by split <;> omega, by split <;> omega⟩, h⟩
    · obtain ⟨tb, tn, b11, b12, b13, b14, b15, b16, b17, b18, b19, rfl, f11, f12, f13, f14, f15, f16, f17, f18, f19, ok, hRL, htn⟩ := hE
      have hj : j < 36 := by have := (List.getElem?_eq_some_iff.mp hd2).1; rw [rangeD_length] at this; omega
      have h4 : tb.hs.length = 4 := ok.dok.four
      have ok1 := ok.rot (τ := 1) (.inl rfl)
      have ok2 := ok.rot (τ := 2) (.inr rfl)
      clear g11 g12 g13 g14 g15 g16 g17 g18 g19 ht ht1 ht2 ht3 ht4 hR hR2 ok0 hR0
      refine seq_step fun R6 hR6 => ?_
      obtain ⟨xs, hm, hm1, hm2⟩ := tb.may_list
      have hml : xs.length ≤ 1000 := by
        have h1 := mayP_short (L := tb.L) (cs := tb.st.cs)
        have h2 : tb.L ≤ 13 := by unfold Tab.L; omega
        unfold Tab.may at hm
        split at hm
        · cases hm; rw [List.length_map]; omega
        · cases hm; rw [List.length_map]; have := mayF_short ok.dok ‹Cont›.s ‹Cont›.ld tb.st.ps; omega
        · cases hm; simp
      walk_at "sr"
      simp only [ne1, ne2, ne3, if_false]
      walk_at "sr"
      refine meth_get (j := 23) rfl ok (by omega) ?_
      walk_at "sr"
      simp only [ne1, ne2, ne3, if_false]
      walk_at "sr"
      refine meth_get (j := 23) rfl ok (by omega) ?_
      walk_at "sr"
      rw [hm]
      refine ⟨ns, tn, L, 1000 * i + 200 + 10 * j, tb.stage, xs, List.replicate 10 .go ++ [.claim, .call, .play, .back, .again], rfl, by simp, hn, htn, by omega, hL.1, hL.2, hml, hm1, hm2, fun m t5 hmd ht5 => ?_⟩
      walk_at "sr"
      refine hR6 _ ?_
      clear hR6
      refine seq_step fun R6 hR6 => ?_
      unfold tComp
      walk_at "sr"
      simp only [compD, tCallO]
      walk_at "sr"
      obtain ⟨nk1, nk2⟩ := nextT_ok ok m
      obtain ⟨q1, q2⟩ := nextT_rot (τ := 1) (.inl rfl) h4 m
      obtain ⟨q3, q4⟩ := nextT_rot (τ := 2) (.inr rfl) h4 m
      refine ⟨small_line (by decide), ?_⟩
      unfold tCallO
      walk_at "sr"
      refine call_actedN (j := 23) rfl ok (by omega) ?_
      refine ⟨small_line (by decide), ?_⟩
      walk_at "sr"
      refine call_actedN (j := 22) rfl ok1 (by omega) ?_
      refine ⟨small_line (by decide), ?_⟩
      walk_at "sr"
      refine call_actedN (j := 21) rfl ok2 (by omega) ?_
      rw [q1, q2, q3, q4]
      refine ⟨small_line (by decide), hR6 _ ?_⟩
      clear hR6
      simp only [restE]
      walk_at "sr"
      have f16' : ∀ b C fs, datOf (some b16) ≠ .ob b C fs := by
        intro b C fs
        cases b16 <;> (intro h; cases h)
      generalize datOf (some b16) = c16 at f16' ⊢
      clear f16 b16
      have sw : sameOk 4 (wordD (tb.mv m)) = true := same_word _ 3
      generalize wordD (tb.mv m) = wd at sw ⊢
      generalize nextT tb m = u at nk1 nk2 ⊢
      refine seq_step fun R6 hR6 => ?_
      walk_at "sr"
      refine comp_filter [wd, wd, wd] id (fun _ => false) id (E1 := [.d (.list (ns.map PyData.int)), .ol t5, .d d, .d (.int (L : Int)), .d (.int dealer), .d dl, .d (.tuple [.bool r0, .bool r1]), .d (DL.hdl x), .d (DL.hdl y), .d (DL.hdl z), .d (.list ((List.replicate 10 Srt.go ++ [Srt.claim, Srt.call, Srt.play, Srt.back, Srt.again]).map Srt.enc)), .d d2, .d m.enc, .d (.list [wd, wd, wd]), b14, b15, c16, b17, b18, b19, .un, .ob z C (u.rot 2).fs, .ob y C (u.rot 1).fs, .ob x C u.fs]) (fun Q h => h) (un1 rfl) (small_line (by show 3 ≤ 10000010; decide)) (fun e he R7 hR7 => ?_) ?_
      · have he : e = wd := by simpa using he
        subst he
        walk_at "sr"
        refine ⟨_, rfl, sw, ?_⟩
        exact ⟨trivial, hR7 _ rfl⟩
      refine ifF rfl (hR6 _ ?_)
      clear hR6
      have h4u : u.hs.length = 4 := nk1.dok.four
      have uk1 := nk1.rot (τ := 1) (.inl rfl)
      have uk2 := nk1.rot (τ := 2) (.inr rfl)
      refine seq_step fun R6 hR6 => ?_
      walk_at "sr"
      simp only [ne1, ne2, ne3, if_false]
      walk_at "sr"
      refine meth_get (j := 23) rfl nk1 (by omega) ?_
      walk_at "sr"
      simp only [ne1, ne2, ne3, if_false]
      walk_at "sr"
      refine meth_get (j := 23) rfl nk1 (by omega) ?_
      walk_at "sr"
      simp only [ne1, ne2, ne3, if_false]
      walk_at "sr"
      refine meth_get (j := 23) rfl nk1 (by omega) ?_
      walk_at "sr"
      simp only [ne1, ne2, ne3, if_false]
      walk_at "sr"
      refine meth_get (j := 23) rfl nk1 (by omega) ?_
      refine ⟨small_line (by decide), hR6 _ ?_⟩
      clear hR6
      walk_at "sr"
      refine for_inv (ds := [.tuple [.int ((1 : Nat) : Int), DL.hdl y], .tuple [.int ((2 : Nat) : Int), DL.hdl z]]) (E1 := [.d (.list (ns.map PyData.int)), .ol t5, .d d, .d (.int (L : Int)), .d (.int dealer), .d dl, .d (.tuple [.bool r0, .bool r1]), .d (DL.hdl x), .d (DL.hdl y), .d (DL.hdl z), .d (.list ((List.replicate 10 Srt.go ++ [Srt.claim, Srt.call, Srt.play, Srt.back, Srt.again]).map Srt.enc)), .d d2, .d m.enc, .d (.list [wd, wd, wd]), .d (.tuple [u.turn, oEnc u.con, u.tricks, u.score]), b15, c16, b17, b18, b19, .un, .ob z C (u.rot 2).fs, .ob y C (u.rot 1).fs, .ob x C u.fs]) (fun Q h => ⟨small_line (by show 2 ≤ 10000010; decide), small_line (by show 2 ≤ 10000010; decide), small_line (by show 2 ≤ 10000010; decide), h⟩)
        (fun i E => ∃ (a15 a16 a17 a18 a19 : S), E = [.d (.list (ns.map PyData.int)), .ol t5, .d d, .d (.int (L : Int)), .d (.int dealer), .d dl, .d (.tuple [.bool r0, .bool r1]), .d (DL.hdl x), .d (DL.hdl y), .d (DL.hdl z), .d (.list ((List.replicate 10 Srt.go ++ [Srt.claim, Srt.call, Srt.play, Srt.back, Srt.again]).map Srt.enc)), .d d2, .d m.enc, .d (.list [wd, wd, wd]), .d (.tuple [u.turn, oEnc u.con, u.tricks, u.score]), a15, a16, a17, a18, a19, .un, .ob z C (u.rot 2).fs, .ob y C (u.rot 1).fs, .ob x C u.fs] ∧ (∀ b C fs, a15 ≠ .ob b C fs) ∧ (∀ b C fs, a16 ≠ .ob b C fs) ∧ (∀ b C fs, a17 ≠ .ob b C fs) ∧ (∀ b C fs, a18 ≠ .ob b C fs) ∧ (∀ b C fs, a19 ≠ .ob b C fs)) ⟨_, _, _, _, _, rfl, f15, f16', f17, f18, f19⟩ (fun i' d3 E hd3 hE R7 hR7 => ?_) (fun E hE => ?_)
      · obtain ⟨c15, c16, c17, c18, c19, rfl, k15, k16, k17, k18, k19⟩ := hE
        have hi' : i' = 0 ∨ i' = 1 := by have := (List.getElem?_eq_some_iff.mp hd3).1; simp at this; omega
        rcases hi' with rfl | rfl
        · cases hd3
          refine gs2 ?_
          walk_at "sr"
          refine seq_step fun R8 hR8 => ?_
          walk_at "sr"
          simp only [ne1, ne2, ne3, if_false]
          walk_at "sr"
          refine meth_get (j := 22) rfl uk1 (by omega) ?_
          walk_at "sr"
          simp only [ne1, ne2, ne3, if_false]
          walk_at "sr"
          refine meth_get (j := 22) rfl uk1 (by omega) ?_
          walk_at "sr"
          simp only [ne1, ne2, ne3, if_false]
          walk_at "sr"
          refine meth_get (j := 22) rfl uk1 (by omega) ?_
          walk_at "sr"
          simp only [ne1, ne2, ne3, if_false]
          walk_at "sr"
          refine meth_get (j := 22) rfl uk1 (by omega) ?_
          refine ⟨small_line (by decide), hR8 _ ?_⟩
          clear hR8
          refine seq_step fun R8 hR8 => ?_
          walk_at "sr"
          refine ⟨1, u.turnO, u.con, u.won.1, u.won.2, u.scoreO, by rw [u.turn_O, u.score_O]; rfl, (.inl rfl), ?_⟩
          refine ⟨.tuple [(u.rot 1).turn, oEnc (u.rot 1).con, (u.rot 1).tricks, (u.rot 1).score], ?_, same_told _, ?_⟩
          · rw [Tab.turn_O (u.rot 1), Tab.score_O (u.rot 1), Tab.rot_turn (.inl rfl), Tab.rot_score (.inl rfl), Tab.rot_con, show (u.rot 1).tricks = .tuple [.int (swp 1 u.won).1, .int (swp 1 u.won).2] by unfold Tab.tricks; rw [Tab.rot_won (.inl rfl)]]
          refine ⟨trivial, hR8 _ ?_⟩
          clear hR8
          refine seq_step fun R8 hR8 => ?_
          walk_at "sr"
          simp only [ne1, ne2, ne3, if_false]
          walk_at "sr"
          refine meth_get (j := 22) rfl uk1 (by omega) ?_
          walk_at "sr"
          simp only [ne1, ne2, ne3, if_false]
          walk_at "sr"
          refine meth_get (j := 22) rfl uk1 (by omega) ?_
          walk_at "sr"
          simp only [ne1, ne2, ne3, if_false]
          walk_at "sr"
          refine meth_get (j := 22) rfl uk1 (by omega) ?_
          walk_at "sr"
          simp only [ne1, ne2, ne3, if_false]
          walk_at "sr"
          refine meth_get (j := 22) rfl uk1 (by omega) ?_
          walk_at "sr"
          simp only [ne1, ne2, ne3, if_false]
          walk_at "sr"
          refine meth_get (j := 22) rfl uk1 (by omega) ?_
          walk_at "sr"
          simp only [ne1, ne2, ne3, if_false]
          walk_at "sr"
          refine meth_get (j := 22) rfl uk1 (by omega) ?_
          refine ⟨small_line (by decide), hR8 _ ?_⟩
          clear hR8
          refine seq_step fun R8 hR8 => ?_
          walk_at "sr"
          simp only [ne1, ne2, ne3, if_false]
          walk_at "sr"
          refine meth_get (j := 23) rfl nk1 (by omega) ?_
          walk_at "sr"
          simp only [ne1, ne2, ne3, if_false]
          walk_at "sr"
          refine meth_get (j := 23) rfl nk1 (by omega) ?_
          walk_at "sr"
          simp only [ne1, ne2, ne3, if_false]
          walk_at "sr"
          refine meth_get (j := 23) rfl nk1 (by omega) ?_
          walk_at "sr"
          simp only [ne1, ne2, ne3, if_false]
          walk_at "sr"
          refine meth_get (j := 23) rfl nk1 (by omega) ?_
          walk_at "sr"
          simp only [ne1, ne2, ne3, if_false]
          walk_at "sr"
          refine meth_get (j := 23) rfl nk1 (by omega) ?_
          walk_at "sr"
          simp only [ne1, ne2, ne3, if_false]
          walk_at "sr"
          refine meth_get (j := 23) rfl nk1 (by omega) ?_
          refine ⟨small_line (by decide), hR8 _ ?_⟩
          clear hR8
          walk_at "sr"
          refine ⟨.tuple [u.stage.enc, u.may, rowD u.st.cs, handD u.st.ps, .tuple (u.done.map fun p => p.2.enc), .tuple (u.undone.map fun p => p.2.enc).reverse], ?_, same_looks nk1 (by omega), ?_⟩
          · rw [Tab.rot_stage, Tab.rot_may (.inl rfl) h4u]; rfl
          · exact ⟨trivial, hR7 _ ⟨_, _, _, _, _, rfl, (fun _ _ _ z => by cases z), (fun _ _ _ z => by cases z), (fun _ _ _ z => by cases z), (fun _ _ _ z => by cases z), (fun _ _ _ z => by cases z)⟩⟩
        · cases hd3
          refine gs2 ?_
          walk_at "sr"
          refine seq_step fun R8 hR8 => ?_
          walk_at "sr"
          refine meth_get (j := 21) rfl uk2 (by omega) ?_
          walk_at "sr"
          refine meth_get (j := 21) rfl uk2 (by omega) ?_
          walk_at "sr"
          refine meth_get (j := 21) rfl uk2 (by omega) ?_
          walk_at "sr"
          refine meth_get (j := 21) rfl uk2 (by omega) ?_
          refine ⟨small_line (by decide), hR8 _ ?_⟩
          clear hR8
          refine seq_step fun R8 hR8 => ?_
          walk_at "sr"
          refine ⟨2, u.turnO, u.con, u.won.1, u.won.2, u.scoreO, by rw [u.turn_O, u.score_O]; rfl, (.inr rfl), ?_⟩
          refine ⟨.tuple [(u.rot 2).turn, oEnc (u.rot 2).con, (u.rot 2).tricks, (u.rot 2).score], ?_, same_told _, ?_⟩
          · rw [Tab.turn_O (u.rot 2), Tab.score_O (u.rot 2), Tab.rot_turn (.inr rfl), Tab.rot_score (.inr rfl), Tab.rot_con, show (u.rot 2).tricks = .tuple [.int (swp 2 u.won).1, .int (swp 2 u.won).2] by unfold Tab.tricks; rw [Tab.rot_won (.inr rfl)]]
          refine ⟨trivial, hR8 _ ?_⟩
          clear hR8
          refine seq_step fun R8 hR8 => ?_
          walk_at "sr"
          refine meth_get (j := 21) rfl uk2 (by omega) ?_
          walk_at "sr"
          refine meth_get (j := 21) rfl uk2 (by omega) ?_
          walk_at "sr"
          refine meth_get (j := 21) rfl uk2 (by omega) ?_
          walk_at "sr"
          refine meth_get (j := 21) rfl uk2 (by omega) ?_
          walk_at "sr"
          refine meth_get (j := 21) rfl uk2 (by omega) ?_
          walk_at "sr"
          refine meth_get (j := 21) rfl uk2 (by omega) ?_
          refine ⟨small_line (by decide), hR8 _ ?_⟩
          clear hR8
          refine seq_step fun R8 hR8 => ?_
          walk_at "sr"
          simp only [ne1, ne2, ne3, if_false]
          walk_at "sr"
          refine meth_get (j := 23) rfl nk1 (by omega) ?_
          walk_at "sr"
          simp only [ne1, ne2, ne3, if_false]
          walk_at "sr"
          refine meth_get (j := 23) rfl nk1 (by omega) ?_
          walk_at "sr"
          simp only [ne1, ne2, ne3, if_false]
          walk_at "sr"
          refine meth_get (j := 23) rfl nk1 (by omega) ?_
          walk_at "sr"
          simp only [ne1, ne2, ne3, if_false]
          walk_at "sr"
          refine meth_get (j := 23) rfl nk1 (by omega) ?_
          walk_at "sr"
          simp only [ne1, ne2, ne3, if_false]
          walk_at "sr"
          refine meth_get (j := 23) rfl nk1 (by omega) ?_
          walk_at "sr"
          simp only [ne1, ne2, ne3, if_false]
          walk_at "sr"
          refine meth_get (j := 23) rfl nk1 (by omega) ?_
          refine ⟨small_line (by decide), hR8 _ ?_⟩
          clear hR8
          walk_at "sr"
          refine ⟨.tuple [u.stage.enc, u.may, rowD u.st.cs, handD u.st.ps, .tuple (u.done.map fun p => p.2.enc), .tuple (u.undone.map fun p => p.2.enc).reverse], ?_, same_looks nk1 (by omega), ?_⟩
          · rw [Tab.rot_stage, Tab.rot_may (.inr rfl) h4u]; rfl
          · exact ⟨trivial, hR7 _ ⟨_, _, _, _, _, rfl, (fun _ _ _ z => by cases z), (fun _ _ _ z => by cases z), (fun _ _ _ z => by cases z), (fun _ _ _ z => by cases z), (fun _ _ _ z => by cases z)⟩⟩
      · obtain ⟨c15, c16, c17, c18, c19, rfl, k15, k16, k17, k18, k19⟩ := hE
        exact hR5 _ ⟨u, t5, _, _, _, _, _, _, _, _, _, rfl, (fun _ _ _ z => by cases z), (fun _ _ _ z => by cases z), (fun _ _ _ z => by cases z), (fun _ _ _ z => by cases z), k15, k16, k17, k18, k19, nk1, nk2.trans hRL, ht5.mono (by omega)⟩
    · obtain ⟨tb, tn, b11, b12, b13, b14, b15, b16, b17, b18, b19, rfl, f11, f12, f13, f14, f15, f16, f17, f18, f19, ok, hRL, htn⟩ := hE
      rw [rangeD_length] at htn
      exact hR2 _ ⟨_, _, _, _, _, _, _, _, _, _, _, _, _, _, _, _, _, _, _, _, _, _, rfl, (fun _ _ _ z => by cases z), (fun _ _ _ z => by cases z), (fun _ _ _ z => by cases z), f11, f12, f13, f14, f15, f16, f17, f18, f19, htn.mono (by omega)⟩
  · obtain ⟨t, a2, a3, a4, a5, a6, a7, a8, a9, a10, a11, a12, a13, a14, a15, a16, a17, a18, a19, a21, a22, a23, rfl, g8, g9, g10, g11, g12, g13, g14, g15, g16, g17, g18, g19, ht⟩ := hE
    exact hR _ q
end DL
set_option Elab.async false
set_option linter.all false
set_option maxRecDepth 100000
set_option maxHeartbeats 4000000
namespace LW
open PySem PySem.Spec PyProof.Rows L2 DL
def topS (i : Nat) : Stmt := PySem.Challenge.pw_boardcalls_k30_whole_tables_turned.main.body.getD i (.Pass ⟨0, 0, 0, 0⟩)
section
variable {P : Program} {w : World} {K : PySem.W.Frag} {mg : Str → Option Value} {base : Heap}
abbrev s_law_same : Stmt := topS 36
abbrev N_law_same : List Str := ["got", "due", "one", "other"]
theorem sc_law_same : FnScope N_law_same ["got", "due"] (defScope s_law_same) := ⟨rfl, rfl, rfl, by decide +kernel, rfl, by decide +kernel, by decide +kernel⟩
theorem dv_law_same {f : Addr} {k : Nat} (b_isinstance : mg "isinstance" = none) (b_int : mg "int" = none) (b_bool : mg "bool" = none) (b_str : mg "str" = none) (b_tuple : mg "tuple" = none) (b_zip : mg "zip" = none) (b_all : mg "all" = none) (b_len : mg "len" = none) {sp_law_same : SpD} {f_law_same : Addr} {fd_law_same : FuncData} {k_law_same : Nat} (C_law_same : FnOk P w K mg base CX0 k_law_same f_law_same fd_law_same ["got", "due"] (spL K sp_law_same)) (h_law_same : k_law_same ≤ k) (C_law_same_g : mg "_law_same" = some (.ref f_law_same)) (C_law_same_k : PySem.W.keepIn K (.ref f_law_same) = true) (C_law_same_b : Binds K fd_law_same ["got", "due"] []) (cdv : Value) (A : Around) (outer : List PySem.Env) (s : Shared) (H : Hp) (E : XK) (hr : Room k (A.deeper (envOfC "_law_same" (defScope s_law_same) s.heap.objs.size f cdv))) (G : Gh) (hG : G.slots = []) :
    SDs (cxOf CX0 P w K mg base N_law_same "_law_same" (defScope s_law_same) f cdv A outer s H E).nox G (defBody s_law_same) (tb_law_same sp_law_same) := by
  unfold tb_law_same
  exact sds_cons (sd_if (eb_cmp od_is (ed_var 1) (ED.er (ed_non)) (nomark _)) (sds_one (sd_ret (ed_cmp od_is (ed_var 0) (ED.er (ed_non)) (nomark _)))) (sds_nil))
      (sds_cons (sd_if (eb_tru (ED.er (ed_isi isi_bool (ed_var 1) rfl b_isinstance rfl b_bool bb_bool))) (sds_one (sd_ret (ed_and (ed_isi isi_bool (ed_var 0) rfl b_isinstance rfl b_bool bb_bool) (ed_one (ed_cmp (od_eq hr.units) (ed_var 0) (ED.er (ed_var 1)) (nomark _)))))) (sds_nil))
      (sds_cons (sd_if (eb_tru (ED.er (ed_isi isi_tuple (ed_var 1) rfl b_isinstance rfl b_tuple bb_tuple))) (sds_cons (sd_if (EW.eb (ew_or (eb_not (eb_tru (ED.er (ed_isi isi_tuple (ed_var 0) rfl b_isinstance rfl b_tuple bb_tuple)))) (ew_or1 (eb_cmp (od_ne hr.units) (ed_ca1 cd_len (ED.er (ed_var 0)) rfl b_len bb_len) (ED.er (ed_ca1 cd_len (ED.er (ed_var 1)) rfl b_len bb_len)) (nomark _))))) (sds_one (sd_ret (ed_bl))) (sds_nil))
      (sds_one (sd_ret (ed_ca1 (cd_all rfl) (ED.er (EL.ed (el_comp [("one", 2), ("other", 3)] rfl sc_law_same.nd rfl (nsA hG (by decide)) (id_zip (ed_var 0) (ed_var 1) rfl b_zip) (blkOk_by (N := N_law_same) (sc := defScope s_law_same) (by decide +kernel)) (fun _ q1 _ _ _ _ _ => gd_tup rfl (gds_cons (gd_name (ns (q1.trans hG) (by decide)) (by decide) sc_law_same.nd rfl (by first | exact Or.inl rfl | exact Or.inr rfl)) (gds_cons (gd_name (ns (q1.trans hG) (by decide)) (by decide) sc_law_same.nd rfl (by first | exact Or.inl rfl | exact Or.inr rfl)) (gds_nil)))) (fun _ q1 _ _ _ _ _ => ebs_nil) (fun _ q1 _ _ _ _ _ => ed_call C_law_same (hr.mono h_law_same) rfl C_law_same_g C_law_same_k C_law_same_b (ea_v (ed_var 2) (ea_v (ed_var 3) (ea_nil))))))) rfl b_all bb_all)))) (sds_nil))
      (sds_cons (sd_if (eb_tru (ED.er (ed_isi isi_str (ed_var 1) rfl b_isinstance rfl b_str bb_str))) (sds_one (sd_ret (ed_and (ed_isi isi_str (ed_var 0) rfl b_isinstance rfl b_str bb_str) (ed_one (ed_cmp (od_eq hr.units) (ed_var 0) (ED.er (ed_var 1)) (nomark _)))))) (sds_nil))
      (sds_one (sd_ret (ed_and (ed_isi isi_int (ed_var 0) rfl b_isinstance rfl b_int bb_int) (ed_and (ed_not (ed_isi isi_bool (ed_var 0) rfl b_isinstance rfl b_bool bb_bool)) (ed_one (ed_cmp (od_eq hr.units) (ed_var 0) (ED.er (ed_var 1)) (nomark _))))))))))
abbrev s_Table_taken_back : Stmt := inClass (topS 34) 21
abbrev N_Table_taken_back : List Str := ["self", "state", "deed", "%o0"]
theorem sc_Table_taken_back : FnScope N_Table_taken_back ["self"] (defScope s_Table_taken_back) := ⟨rfl, rfl, rfl, by decide +kernel, rfl, by decide +kernel, by decide +kernel⟩
theorem dv_Table_taken_back {f : Addr} {k : Nat} (b_tuple : mg "tuple" = none) {C : Addr} (cl : Cls K C) (na_undone : NoAttr K C "undone") (cdv : Value) (A : Around) (outer : List PySem.Env) (s : Shared) (H : Hp) (E : XK) (hr : Room k (A.deeper (envOfC "Table.taken_back" (defScope s_Table_taken_back) s.heap.objs.size f cdv))) (G : Gh) (hG : G.slots = []) :
    SDs (cxOf CX0 P w K mg base N_Table_taken_back "Table.taken_back" (defScope s_Table_taken_back) f cdv A outer s H E).nox G (defBody s_Table_taken_back) (tb_Table_taken_back C) := by
  unfold tb_Table_taken_back
  exact sds_one (sd_ret (ed_revT (ed_caT1 cd_tuple (ED.er (EL.ed (el_compF 0 [("state", 1), ("deed", 2)] cl na_undone rfl sc_Table_taken_back.nd rfl (blkOk_by (N := N_Table_taken_back) (sc := defScope s_Table_taken_back) (by decide +kernel)) (fun _ q1 _ _ _ _ _ => gd_tup rfl (gds_cons (gd_name (ns q1 (by decide)) (by decide) sc_Table_taken_back.nd rfl (by first | exact Or.inl rfl | exact Or.inr rfl)) (gds_cons (gd_name (ns q1 (by decide)) (by decide) sc_Table_taken_back.nd rfl (by first | exact Or.inl rfl | exact Or.inr rfl)) (gds_nil)))) (fun _ q1 _ _ _ _ _ => ebs_nil) (fun _ q1 _ _ _ _ _ => ed_var 2)))) rfl b_tuple bb_tuple)))
abbrev s_Table_deeds : Stmt := inClass (topS 34) 20
abbrev N_Table_deeds : List Str := ["self", "state", "deed", "%o0"]
theorem sc_Table_deeds : FnScope N_Table_deeds ["self"] (defScope s_Table_deeds) := ⟨rfl, rfl, rfl, by decide +kernel, rfl, by decide +kernel, by decide +kernel⟩
theorem dv_Table_deeds {f : Addr} {k : Nat} (b_tuple : mg "tuple" = none) {C : Addr} (cl : Cls K C) (na_done : NoAttr K C "done") (cdv : Value) (A : Around) (outer : List PySem.Env) (s : Shared) (H : Hp) (E : XK) (hr : Room k (A.deeper (envOfC "Table.deeds" (defScope s_Table_deeds) s.heap.objs.size f cdv))) (G : Gh) (hG : G.slots = []) :
    SDs (cxOf CX0 P w K mg base N_Table_deeds "Table.deeds" (defScope s_Table_deeds) f cdv A outer s H E).nox G (defBody s_Table_deeds) (tb_Table_deeds C) := by
  unfold tb_Table_deeds
  exact sds_one (sd_ret (ed_caT1 cd_tuple (ED.er (EL.ed (el_compF 0 [("state", 1), ("deed", 2)] cl na_done rfl sc_Table_deeds.nd rfl (blkOk_by (N := N_Table_deeds) (sc := defScope s_Table_deeds) (by decide +kernel)) (fun _ q1 _ _ _ _ _ => gd_tup rfl (gds_cons (gd_name (ns q1 (by decide)) (by decide) sc_Table_deeds.nd rfl (by first | exact Or.inl rfl | exact Or.inr rfl)) (gds_cons (gd_name (ns q1 (by decide)) (by decide) sc_Table_deeds.nd rfl (by first | exact Or.inl rfl | exact Or.inr rfl)) (gds_nil)))) (fun _ q1 _ _ _ _ _ => ebs_nil) (fun _ q1 _ _ _ _ _ => ed_var 2)))) rfl b_tuple bb_tuple))
abbrev s_Table_cards : Stmt := inClass (topS 34) 17
abbrev N_Table_cards : List Str := ["self", "%o0"]
theorem sc_Table_cards : FnScope N_Table_cards ["self"] (defScope s_Table_cards) := ⟨rfl, rfl, rfl, by decide +kernel, rfl, by decide +kernel, by decide +kernel⟩
theorem dv_Table_cards {f : Addr} {k : Nat} {C : Addr} (cl : Cls K C) (na_state : NoAttr K C "state") (cdv : Value) (A : Around) (outer : List PySem.Env) (s : Shared) (H : Hp) (E : XK) (hr : Room k (A.deeper (envOfC "Table.cards" (defScope s_Table_cards) s.heap.objs.size f cdv))) (G : Gh) (hG : G.slots = []) :
    SDs (cxOf CX0 P w K mg base N_Table_cards "Table.cards" (defScope s_Table_cards) f cdv A outer s H E).nox G (defBody s_Table_cards) (tb_Table_cards C) := by
  unfold tb_Table_cards
  exact sds_one (sd_ret (ed_ix (ed_fld 0 cl na_state) (ed_int)))
abbrev s_Table_calls : Stmt := inClass (topS 34) 16
abbrev N_Table_calls : List Str := ["self", "%o0"]
theorem sc_Table_calls : FnScope N_Table_calls ["self"] (defScope s_Table_calls) := ⟨rfl, rfl, rfl, by decide +kernel, rfl, by decide +kernel, by decide +kernel⟩
theorem dv_Table_calls {f : Addr} {k : Nat} {C : Addr} (cl : Cls K C) (na_state : NoAttr K C "state") (cdv : Value) (A : Around) (outer : List PySem.Env) (s : Shared) (H : Hp) (E : XK) (hr : Room k (A.deeper (envOfC "Table.calls" (defScope s_Table_calls) s.heap.objs.size f cdv))) (G : Gh) (hG : G.slots = []) :
    SDs (cxOf CX0 P w K mg base N_Table_calls "Table.calls" (defScope s_Table_calls) f cdv A outer s H E).nox G (defBody s_Table_calls) (tb_Table_calls C) := by
  unfold tb_Table_calls
  exact sds_one (sd_ret (ed_ix (ed_fld 0 cl na_state) (ed_int)))
abbrev s_is_over : Stmt := topS 5
abbrev N_is_over : List Str := ["calls"]
theorem sc_is_over : FnScope N_is_over ["calls"] (defScope s_is_over) := ⟨rfl, rfl, rfl, by decide +kernel, rfl, by decide +kernel, by decide +kernel⟩
theorem dv_is_over {f : Addr} {k : Nat} (b_len : mg "len" = none) (cdv : Value) (A : Around) (outer : List PySem.Env) (s : Shared) (H : Hp) (E : XK) (hr : Room k (A.deeper (envOfC "is_over" (defScope s_is_over) s.heap.objs.size f cdv))) (G : Gh) (hG : G.slots = []) :
    SDs (cxOf CX0 P w K mg base N_is_over "is_over" (defScope s_is_over) f cdv A outer s H E).nox G (defBody s_is_over) (tb_is_over) := by
  unfold tb_is_over
  exact sds_one (sd_ret (ed_and (ed_cmp od_ge (ed_ca1 cd_len (ED.er (ed_var 0)) rfl b_len bb_len) (ED.er (ed_int)) (nomark _)) (ed_one (ed_cmp (od_eq hr.units) (ed_sl (ed_var 0) (eo_e (ed_un ud_neg (ED.er (ed_int)))) (eo_no)) (ED.er (ed_tup (eds_cons (ed_str) (eds_cons (ed_str) (eds_cons (ed_str) (eds_nil)))))) (nomark _)))))
abbrev s_last_bid : Stmt := topS 7
abbrev N_last_bid : List Str := ["calls", "found", "number", "call"]
theorem sc_last_bid : FnScope N_last_bid ["calls"] (defScope s_last_bid) := ⟨rfl, rfl, rfl, by decide +kernel, rfl, by decide +kernel, by decide +kernel⟩
theorem dv_last_bid {f : Addr} {k : Nat} (b_enumerate : mg "enumerate" = none) (b_isinstance : mg "isinstance" = none) (b_tuple : mg "tuple" = none) (cdv : Value) (A : Around) (outer : List PySem.Env) (s : Shared) (H : Hp) (E : XK) (hr : Room k (A.deeper (envOfC "last_bid" (defScope s_last_bid) s.heap.objs.size f cdv))) (G : Gh) (hG : G.slots = []) :
    SDs (cxOf CX0 P w K mg base N_last_bid "last_bid" (defScope s_last_bid) f cdv A outer s H E).nox G (defBody s_last_bid) (tb_last_bid) := by
  unfold tb_last_bid
  exact sds_cons (sd_set (ns hG (by decide)) sc_last_bid.nd rfl (by first | exact Or.inl rfl | exact Or.inr rfl) (ed_non))
      (sds_cons (sd_for (ms := [2, 3]) PassesOwn.never rfl (id_enumT (ed_var 0) rfl b_enumerate) (gd_tup rfl (gds_cons (gd_name (ns hG (by decide)) (by decide) sc_last_bid.nd rfl (by first | exact Or.inl rfl | exact Or.inr rfl)) (gds_cons (gd_name (ns hG (by decide)) (by decide) sc_last_bid.nd rfl (by first | exact Or.inl rfl | exact Or.inr rfl)) (gds_nil)))) (sds_one (sd_if (eb_tru (ED.er (ed_isi isi_tuple (ed_var 3) rfl b_isinstance rfl b_tuple bb_tuple))) (sds_one (sd_set (ns hG (by decide)) sc_last_bid.nd rfl (by first | exact Or.inl rfl | exact Or.inr rfl) (ed_var 2))) (sds_nil))))
      (sds_one (sd_ret (ed_var 1))))
abbrev s_contract_of : Stmt := topS 10
abbrev N_contract_of : List Str := ["dealer", "calls", "bid", "level", "strain", "times", "number", "call"]
theorem sc_contract_of : FnScope N_contract_of ["dealer", "calls"] (defScope s_contract_of) := ⟨rfl, rfl, rfl, by decide +kernel, rfl, by decide +kernel, by decide +kernel⟩
theorem dv_contract_of {f : Addr} {k : Nat} (b_enumerate : mg "enumerate" = none) (b_isinstance : mg "isinstance" = none) (b_tuple : mg "tuple" = none) {sp_is_over : SpD} {f_is_over : Addr} {fd_is_over : FuncData} {k_is_over : Nat} (C_is_over : FnOk P w K mg base CX0 k_is_over f_is_over fd_is_over ["calls"] (spL K sp_is_over)) (h_is_over : k_is_over ≤ k) (C_is_over_g : mg "is_over" = some (.ref f_is_over)) (C_is_over_k : PySem.W.keepIn K (.ref f_is_over) = true) (C_is_over_b : Binds K fd_is_over ["calls"] []) {sp_last_bid : SpD} {f_last_bid : Addr} {fd_last_bid : FuncData} {k_last_bid : Nat} (C_last_bid : FnOk P w K mg base CX0 k_last_bid f_last_bid fd_last_bid ["calls"] (spL K sp_last_bid)) (h_last_bid : k_last_bid ≤ k) (C_last_bid_g : mg "last_bid" = some (.ref f_last_bid)) (C_last_bid_k : PySem.W.keepIn K (.ref f_last_bid) = true) (C_last_bid_b : Binds K fd_last_bid ["calls"] []) (cdv : Value) (A : Around) (outer : List PySem.Env) (s : Shared) (H : Hp) (E : XK) (hr : Room k (A.deeper (envOfC "contract_of" (defScope s_contract_of) s.heap.objs.size f cdv))) (G : Gh) (hG : G.slots = []) :
    SDs (cxOf CX0 P w K mg base N_contract_of "contract_of" (defScope s_contract_of) f cdv A outer s H E).nox G (defBody s_contract_of) (tb_contract_of sp_is_over sp_last_bid) := by
  unfold tb_contract_of
  exact sds_cons (sd_set (ns hG (by decide)) sc_contract_of.nd rfl (by first | exact Or.inl rfl | exact Or.inr rfl) (ed_call C_last_bid (hr.mono h_last_bid) rfl C_last_bid_g C_last_bid_k C_last_bid_b (ea_v (ed_var 1) (ea_nil))))
      (sds_cons (sd_if (EW.eb (ew_or (eb_cmp od_is (ed_var 2) (ED.er (ed_non)) (nomark _)) (ew_or1 (eb_not (eb_tru (ED.er (ed_call C_is_over (hr.mono h_is_over) rfl C_is_over_g C_is_over_k C_is_over_b (ea_v (ed_var 1) (ea_nil))))))))) (sds_one (sd_ret (ed_non))) (sds_nil))
      (sds_cons (sd_asg (ms := [3, 4]) (ed_ix (ed_var 1) (ed_var 2)) (gd_tup rfl (gds_cons (gd_name (ns hG (by decide)) (by decide) sc_contract_of.nd rfl (by first | exact Or.inl rfl | exact Or.inr rfl)) (gds_cons (gd_name (ns hG (by decide)) (by decide) sc_contract_of.nd rfl (by first | exact Or.inl rfl | exact Or.inr rfl)) (gds_nil)))))
      (sds_cons (sd_set (ns hG (by decide)) sc_contract_of.nd rfl (by first | exact Or.inl rfl | exact Or.inr rfl) (ed_int))
      (sds_cons (sd_if (eb_cmp (od_in (u65 hr)) (ed_str) (ED.er (ed_sl (ed_var 1) (eo_e (ed_var 2)) (eo_no))) rfl) (sds_one (sd_set (ns hG (by decide)) sc_contract_of.nd rfl (by first | exact Or.inl rfl | exact Or.inr rfl) (ed_int))) (sds_nil))
      (sds_cons (sd_if (eb_cmp (od_in (u65 hr)) (ed_str) (ED.er (ed_sl (ed_var 1) (eo_e (ed_var 2)) (eo_no))) rfl) (sds_one (sd_set (ns hG (by decide)) sc_contract_of.nd rfl (by first | exact Or.inl rfl | exact Or.inr rfl) (ed_int))) (sds_nil))
      (sds_cons (sd_for (ms := [6, 7]) PassesOwn.never rfl (id_enumT (ed_var 1) rfl b_enumerate) (gd_tup rfl (gds_cons (gd_name (ns hG (by decide)) (by decide) sc_contract_of.nd rfl (by first | exact Or.inl rfl | exact Or.inr rfl)) (gds_cons (gd_name (ns hG (by decide)) (by decide) sc_contract_of.nd rfl (by first | exact Or.inl rfl | exact Or.inr rfl)) (gds_nil)))) (sds_one (sd_if (EW.eb (ew_and (eb_tru (ED.er (ed_isi isi_tuple (ed_var 7) rfl b_isinstance rfl b_tuple bb_tuple))) (ew_and (eb_cmp (od_eq hr.units) (ed_ix (ed_var 7) (ed_int)) (ED.er (ed_var 4)) (nomark _)) (ew_and1 (eb_cmp (od_eq hr.units) (ed_op od_mod (ed_op od_sub (ed_var 2) (ED.er (ed_var 6))) (ED.er (ed_int))) (ED.er (ed_int)) (nomark _)))))) (sds_one (sd_ret (ed_tup (eds_cons (ed_var 3) (eds_cons (ed_var 4) (eds_cons (ed_var 5) (eds_cons (ed_op od_mod (ed_op od_add (ed_var 0) (ED.er (ed_var 6))) (ED.er (ed_int))) (eds_nil)))))))) (sds_nil))))
      (sds_one (sd_ret (ed_non)))))))))
abbrev s_Table_contract : Stmt := inClass (topS 34) 5
abbrev N_Table_contract : List Str := ["self", "%o0"]
theorem sc_Table_contract : FnScope N_Table_contract ["self"] (defScope s_Table_contract) := ⟨rfl, rfl, rfl, by decide +kernel, rfl, by decide +kernel, by decide +kernel⟩
theorem dv_Table_contract {f : Addr} {k : Nat} {C : Addr} (cl : Cls K C) (na_state : NoAttr K C "state") (na_dealer : NoAttr K C "dealer") {sp_contract_of : SpD} {f_contract_of : Addr} {fd_contract_of : FuncData} {k_contract_of : Nat} (C_contract_of : FnOk P w K mg base CX0 k_contract_of f_contract_of fd_contract_of ["dealer", "calls"] (spL K sp_contract_of)) (h_contract_of : k_contract_of ≤ k) (C_contract_of_g : mg "contract_of" = some (.ref f_contract_of)) (C_contract_of_k : PySem.W.keepIn K (.ref f_contract_of) = true) (C_contract_of_b : Binds K fd_contract_of ["dealer", "calls"] []) (cdv : Value) (A : Around) (outer : List PySem.Env) (s : Shared) (H : Hp) (E : XK) (hr : Room k (A.deeper (envOfC "Table.contract" (defScope s_Table_contract) s.heap.objs.size f cdv))) (G : Gh) (hG : G.slots = []) :
    SDs (cxOf CX0 P w K mg base N_Table_contract "Table.contract" (defScope s_Table_contract) f cdv A outer s H E).nox G (defBody s_Table_contract) (tb_Table_contract C sp_contract_of) := by
  unfold tb_Table_contract
  exact sds_one (sd_ret (ed_call C_contract_of (hr.mono h_contract_of) rfl C_contract_of_g C_contract_of_k C_contract_of_b (ea_v (ed_fld 0 cl na_dealer) (ea_v (ed_ix (ed_fld 0 cl na_state) (ed_int)) (ea_nil)))))
abbrev s_Table_leader : Stmt := inClass (topS 34) 6
abbrev N_Table_leader : List Str := ["self", "%o0"]
theorem sc_Table_leader : FnScope N_Table_leader ["self"] (defScope s_Table_leader) := ⟨rfl, rfl, rfl, by decide +kernel, rfl, by decide +kernel, by decide +kernel⟩
theorem dv_Table_leader {f : Addr} {k : Nat} {C : Addr} (cl : Cls K C) {sp_Table_contract : SpO} {f_Table_contract : Addr} {fd_Table_contract : FuncData} {k_Table_contract : Nat} (C_Table_contract : FnOk P w K mg base CX0 k_Table_contract f_Table_contract fd_Table_contract ["self"] (spO K sp_Table_contract)) (h_Table_contract : k_Table_contract ≤ k) (me_Table_contract : Meth K C "contract" f_Table_contract) (C_Table_contract_b : Binds K fd_Table_contract ["self"] []) (cdv : Value) (A : Around) (outer : List PySem.Env) (s : Shared) (H : Hp) (E : XK) (hr : Room k (A.deeper (envOfC "Table.leader" (defScope s_Table_leader) s.heap.objs.size f cdv))) (G : Gh) (hG : G.slots = []) :
    SDs (cxOf CX0 P w K mg base N_Table_leader "Table.leader" (defScope s_Table_leader) f cdv A outer s H E).nox G (defBody s_Table_leader) (tb_Table_leader C sp_Table_contract) := by
  unfold tb_Table_leader
  exact sds_one (sd_ret (ed_op od_mod (ed_op od_add (ed_ix (ed_methO0 (ed_var 0) cl me_Table_contract C_Table_contract (hr.mono h_Table_contract) C_Table_contract_b) (ed_int)) (ED.er (ed_int))) (ED.er (ed_int))))
abbrev s_winner_of : Stmt := topS 27
abbrev N_winner_of : List Str := ["strain", "leader", "trick", "best", "at", "suit", "rank"]
theorem sc_winner_of : FnScope N_winner_of ["strain", "leader", "trick"] (defScope s_winner_of) := ⟨rfl, rfl, rfl, by decide +kernel, rfl, by decide +kernel, by decide +kernel⟩
theorem dv_winner_of {f : Addr} {k : Nat} (b_range : mg "range" = none) (cdv : Value) (A : Around) (outer : List PySem.Env) (s : Shared) (H : Hp) (E : XK) (hr : Room k (A.deeper (envOfC "winner_of" (defScope s_winner_of) s.heap.objs.size f cdv))) (G : Gh) (hG : G.slots = []) :
    SDs (cxOf CX0 P w K mg base N_winner_of "winner_of" (defScope s_winner_of) f cdv A outer s H E).nox G (defBody s_winner_of) (tb_winner_of) := by
  unfold tb_winner_of
  exact sds_cons (sd_set (ns hG (by decide)) sc_winner_of.nd rfl (by first | exact Or.inl rfl | exact Or.inr rfl) (ed_int))
      (sds_cons (sd_for (ms := [4]) PassesOwn.never rfl (id_range2 rfl b_range (ed_int) (ed_int)) (gd_name (ns hG (by decide)) (by decide) sc_winner_of.nd rfl (by first | exact Or.inl rfl | exact Or.inr rfl)) (sds_cons (sd_asg (ms := [5, 6]) (ed_ix (ed_var 2) (ed_var 4)) (gd_tup rfl (gds_cons (gd_name (ns hG (by decide)) (by decide) sc_winner_of.nd rfl (by first | exact Or.inl rfl | exact Or.inr rfl)) (gds_cons (gd_name (ns hG (by decide)) (by decide) sc_winner_of.nd rfl (by first | exact Or.inl rfl | exact Or.inr rfl)) (gds_nil)))))
      (sds_one (sd_if (EW.eb (ew_or (EW.eb (ew_and (eb_cmp (od_eq hr.units) (ed_var 5) (ED.er (ed_ix (ed_ix (ed_var 2) (ed_var 3)) (ed_int))) (nomark _)) (ew_and1 (eb_cmp od_gt (ed_var 6) (ED.er (ed_ix (ed_ix (ed_var 2) (ed_var 3)) (ed_int))) (nomark _))))) (ew_or1 (EW.eb (ew_and (eb_cmp (od_eq hr.units) (ed_var 5) (ED.er (ed_var 0)) (nomark _)) (ew_and1 (eb_cmp (od_ne hr.units) (ed_ix (ed_ix (ed_var 2) (ed_var 3)) (ed_int)) (ED.er (ed_var 0)) (nomark _)))))))) (sds_one (sd_set (ns hG (by decide)) sc_winner_of.nd rfl (by first | exact Or.inl rfl | exact Or.inr rfl) (ed_var 4))) (sds_nil)))))
      (sds_one (sd_ret (ed_op od_mod (ed_op od_add (ed_var 1) (ED.er (ed_var 3))) (ED.er (ed_int))))))
abbrev s_walked : Stmt := topS 28
abbrev N_walked : List Str := ["strain", "leader", "cards", "won", "at"]
theorem sc_walked : FnScope N_walked ["strain", "leader", "cards"] (defScope s_walked) := ⟨rfl, rfl, rfl, by decide +kernel, rfl, by decide +kernel, by decide +kernel⟩
theorem dv_walked {f : Addr} {k : Nat} (b_tuple : mg "tuple" = none) (b_len : mg "len" = none) (b_range : mg "range" = none) {sp_winner_of : SpD} {f_winner_of : Addr} {fd_winner_of : FuncData} {k_winner_of : Nat} (C_winner_of : FnOk P w K mg base CX0 k_winner_of f_winner_of fd_winner_of ["strain", "leader", "trick"] (spL K sp_winner_of)) (h_winner_of : k_winner_of ≤ k) (C_winner_of_g : mg "winner_of" = some (.ref f_winner_of)) (C_winner_of_k : PySem.W.keepIn K (.ref f_winner_of) = true) (C_winner_of_b : Binds K fd_winner_of ["strain", "leader", "trick"] []) (cdv : Value) (A : Around) (outer : List PySem.Env) (s : Shared) (H : Hp) (E : XK) (hr : Room k (A.deeper (envOfC "walked" (defScope s_walked) s.heap.objs.size f cdv))) (G : Gh) (hG : G.slots = []) :
    SDs (cxOf CX0 P w K mg base N_walked "walked" (defScope s_walked) f cdv A outer s H E).nox G (defBody s_walked) (tb_walked sp_winner_of) := by
  unfold tb_walked
  exact sds_cons (sd_setL (ns hG (by decide)) sc_walked.nd rfl (by first | exact Or.inl rfl | exact Or.inr rfl) (el_lst (eds_cons (ed_int) (eds_cons (ed_int) (eds_nil)))))
      (sds_cons (sd_for (ms := [4]) PassesOwn.never rfl (id_range3 rfl b_range (ed_int) (ed_op od_sub (ed_ca1 cd_len (ED.er (ed_var 2)) rfl b_len bb_len) (ED.er (ed_int))) (ed_int)) (gd_name (ns hG (by decide)) (by decide) sc_walked.nd rfl (by first | exact Or.inl rfl | exact Or.inr rfl)) (sds_cons (sd_set (ns hG (by decide)) sc_walked.nd rfl (by first | exact Or.inl rfl | exact Or.inr rfl) (ed_call C_winner_of (hr.mono h_winner_of) rfl C_winner_of_g C_winner_of_k C_winner_of_b (ea_v (ed_var 0) (ea_v (ed_var 1) (ea_v (ed_sl (ed_var 2) (eo_e (ed_var 4)) (eo_e (ed_op od_add (ed_var 4) (ED.er (ed_int))))) (ea_nil))))))
      (sds_one (sd_setIx 3 (ed_op od_mod (ed_var 1) (ED.er (ed_int))) (ed_op od_add (ed_ixO 3 (ed_op od_mod (ed_var 1) (ED.er (ed_int)))) (ED.er (ed_int)))))))
      (sds_one (sd_ret (ed_tup (eds_cons (ed_var 1) (eds_cons (ed_sl (ed_var 2) (eo_e (ed_op od_mul (ed_op od_div (ed_ca1 cd_len (ED.er (ed_var 2)) rfl b_len bb_len) (ED.er (ed_int))) (ED.er (ed_int)))) (eo_no)) (eds_cons (ed_caT1 cd_tuple (er_var 3) rfl b_tuple bb_tuple) (eds_nil))))))))
abbrev s_left_of : Stmt := topS 29
abbrev N_left_of : List Str := ["deal", "cards", "hand", "card"]
theorem sc_left_of : FnScope N_left_of ["deal", "cards"] (defScope s_left_of) := ⟨rfl, rfl, rfl, by decide +kernel, rfl, by decide +kernel, by decide +kernel⟩
theorem dv_left_of {f : Addr} {k : Nat} (b_tuple : mg "tuple" = none) (cdv : Value) (A : Around) (outer : List PySem.Env) (s : Shared) (H : Hp) (E : XK) (hr : Room k (A.deeper (envOfC "left_of" (defScope s_left_of) s.heap.objs.size f cdv))) (G : Gh) (hG : G.slots = []) :
    SDs (cxOf CX0 P w K mg base N_left_of "left_of" (defScope s_left_of) f cdv A outer s H E).nox G (defBody s_left_of) (tb_left_of) := by
  unfold tb_left_of
  exact sds_one (sd_ret (ed_caT1 cd_tuple (ED.er (EL.ed (el_comp [("hand", 2)] rfl sc_left_of.nd rfl (nsA hG (by decide)) (id_tup (ed_var 0)) (blkOk_by (N := N_left_of) (sc := defScope s_left_of) (by decide +kernel)) (fun _ q1 _ _ _ _ _ => gd_name (ns (q1.trans hG) (by decide)) (by decide) sc_left_of.nd rfl (by first | exact Or.inl rfl | exact Or.inr rfl)) (fun _ q1 _ _ _ _ _ => ebs_nil) (fun _ q1 _ _ _ _ _ => ed_caT1 cd_tuple (ED.er (EL.ed (el_comp [("card", 3)] rfl sc_left_of.nd rfl (nsA (q1.trans hG) (by decide)) (id_tup (ed_var 2)) (blkOk_by rfl) (fun _ q2 _ _ _ _ _ => gd_name (ns (q2.trans (q1.trans hG)) (by decide)) (by decide) sc_left_of.nd rfl (by first | exact Or.inl rfl | exact Or.inr rfl)) (fun _ q2 _ _ _ _ _ => ebs_one (eb_cmp (od_notIn (u65 hr)) (ed_var 3) (ED.er (ed_var 1)) rfl)) (fun _ q2 _ _ _ _ _ => ed_var 3)))) rfl b_tuple bb_tuple)))) rfl b_tuple bb_tuple))
abbrev s_turn_of : Stmt := topS 30
abbrev N_turn_of : List Str := ["deal", "strain", "leader", "cards", "first", "trick", "won"]
theorem sc_turn_of : FnScope N_turn_of ["deal", "strain", "leader", "cards"] (defScope s_turn_of) := ⟨rfl, rfl, rfl, by decide +kernel, rfl, by decide +kernel, by decide +kernel⟩
theorem dv_turn_of {f : Addr} {k : Nat} (b_len : mg "len" = none) {sp_walked : SpD} {f_walked : Addr} {fd_walked : FuncData} {k_walked : Nat} (C_walked : FnOk P w K mg base CX0 k_walked f_walked fd_walked ["strain", "leader", "cards"] (spL K sp_walked)) (h_walked : k_walked ≤ k) (C_walked_g : mg "walked" = some (.ref f_walked)) (C_walked_k : PySem.W.keepIn K (.ref f_walked) = true) (C_walked_b : Binds K fd_walked ["strain", "leader", "cards"] []) (cdv : Value) (A : Around) (outer : List PySem.Env) (s : Shared) (H : Hp) (E : XK) (hr : Room k (A.deeper (envOfC "turn_of" (defScope s_turn_of) s.heap.objs.size f cdv))) (G : Gh) (hG : G.slots = []) :
    SDs (cxOf CX0 P w K mg base N_turn_of "turn_of" (defScope s_turn_of) f cdv A outer s H E).nox G (defBody s_turn_of) (tb_turn_of sp_walked) := by
  unfold tb_turn_of
  exact sds_cons (sd_if (eb_cmp (od_eq hr.units) (ed_ca1 cd_len (ED.er (ed_var 3)) rfl b_len bb_len) (ED.er (ed_op od_mul (ed_int) (ED.er (ed_ca1 cd_len (ED.er (ed_ix (ed_var 0) (ed_int))) rfl b_len bb_len)))) (nomark _)) (sds_one (sd_ret (ed_non))) (sds_nil))
      (sds_cons (sd_asg (ms := [4, 5, 6]) (ed_call C_walked (hr.mono h_walked) rfl C_walked_g C_walked_k C_walked_b (ea_v (ed_var 1) (ea_v (ed_var 2) (ea_v (ed_var 3) (ea_nil))))) (gd_tup rfl (gds_cons (gd_name (ns hG (by decide)) (by decide) sc_turn_of.nd rfl (by first | exact Or.inl rfl | exact Or.inr rfl)) (gds_cons (gd_name (ns hG (by decide)) (by decide) sc_turn_of.nd rfl (by first | exact Or.inl rfl | exact Or.inr rfl)) (gds_cons (gd_name (ns hG (by decide)) (by decide) sc_turn_of.nd rfl (by first | exact Or.inl rfl | exact Or.inr rfl)) (gds_nil))))))
      (sds_one (sd_ret (ed_op od_mod (ed_op od_add (ed_var 4) (ED.er (ed_ca1 cd_len (ED.er (ed_var 5)) rfl b_len bb_len))) (ED.er (ed_int))))))
abbrev s_may_play : Stmt := topS 31
abbrev N_may_play : List Str := ["deal", "strain", "leader", "cards", "player", "hand", "trick", "some", "card"]
theorem sc_may_play : FnScope N_may_play ["deal", "strain", "leader", "cards"] (defScope s_may_play) := ⟨rfl, rfl, rfl, by decide +kernel, rfl, by decide +kernel, by decide +kernel⟩
theorem dv_may_play {f : Addr} {k : Nat} (b_tuple : mg "tuple" = none) {sp_walked : SpD} {f_walked : Addr} {fd_walked : FuncData} {k_walked : Nat} (C_walked : FnOk P w K mg base CX0 k_walked f_walked fd_walked ["strain", "leader", "cards"] (spL K sp_walked)) (h_walked : k_walked ≤ k) (C_walked_g : mg "walked" = some (.ref f_walked)) (C_walked_k : PySem.W.keepIn K (.ref f_walked) = true) (C_walked_b : Binds K fd_walked ["strain", "leader", "cards"] []) {sp_left_of : SpD} {f_left_of : Addr} {fd_left_of : FuncData} {k_left_of : Nat} (C_left_of : FnOk P w K mg base CX0 k_left_of f_left_of fd_left_of ["deal", "cards"] (spL K sp_left_of)) (h_left_of : k_left_of ≤ k) (C_left_of_g : mg "left_of" = some (.ref f_left_of)) (C_left_of_k : PySem.W.keepIn K (.ref f_left_of) = true) (C_left_of_b : Binds K fd_left_of ["deal", "cards"] []) {sp_turn_of : SpD} {f_turn_of : Addr} {fd_turn_of : FuncData} {k_turn_of : Nat} (C_turn_of : FnOk P w K mg base CX0 k_turn_of f_turn_of fd_turn_of ["deal", "strain", "leader", "cards"] (spL K sp_turn_of)) (h_turn_of : k_turn_of ≤ k) (C_turn_of_g : mg "turn_of" = some (.ref f_turn_of)) (C_turn_of_k : PySem.W.keepIn K (.ref f_turn_of) = true) (C_turn_of_b : Binds K fd_turn_of ["deal", "strain", "leader", "cards"] []) (cdv : Value) (A : Around) (outer : List PySem.Env) (s : Shared) (H : Hp) (E : XK) (hr : Room k (A.deeper (envOfC "may_play" (defScope s_may_play) s.heap.objs.size f cdv))) (G : Gh) (hG : G.slots = []) :
    SDs (cxOf CX0 P w K mg base N_may_play "may_play" (defScope s_may_play) f cdv A outer s H E).nox G (defBody s_may_play) (tb_may_play sp_walked sp_left_of sp_turn_of) := by
  unfold tb_may_play
  exact sds_cons (sd_set (ns hG (by decide)) sc_may_play.nd rfl (by first | exact Or.inl rfl | exact Or.inr rfl) (ed_call C_turn_of (hr.mono h_turn_of) rfl C_turn_of_g C_turn_of_k C_turn_of_b (ea_v (ed_var 0) (ea_v (ed_var 1) (ea_v (ed_var 2) (ea_v (ed_var 3) (ea_nil)))))))
      (sds_cons (sd_if (eb_cmp od_is (ed_var 4) (ED.er (ed_non)) (nomark _)) (sds_one (sd_ret (ed_tup (eds_nil)))) (sds_nil))
      (sds_cons (sd_set (ns hG (by decide)) sc_may_play.nd rfl (by first | exact Or.inl rfl | exact Or.inr rfl) (ed_ix (ed_call C_left_of (hr.mono h_left_of) rfl C_left_of_g C_left_of_k C_left_of_b (ea_v (ed_var 0) (ea_v (ed_var 3) (ea_nil)))) (ed_var 4)))
      (sds_cons (sd_set (ns hG (by decide)) sc_may_play.nd rfl (by first | exact Or.inl rfl | exact Or.inr rfl) (ed_ix (ed_call C_walked (hr.mono h_walked) rfl C_walked_g C_walked_k C_walked_b (ea_v (ed_var 1) (ea_v (ed_var 2) (ea_v (ed_var 3) (ea_nil))))) (ed_int)))
      (sds_cons (sd_set (ns hG (by decide)) sc_may_play.nd rfl (by first | exact Or.inl rfl | exact Or.inr rfl) (ed_caT1 cd_tuple (ED.er (EL.ed (el_comp [("card", 8)] rfl sc_may_play.nd rfl (nsA hG (by decide)) (id_tup (ed_var 5)) (blkOk_by (N := N_may_play) (sc := defScope s_may_play) (by decide +kernel)) (fun _ q1 _ _ _ _ _ => gd_name (ns (q1.trans hG) (by decide)) (by decide) sc_may_play.nd rfl (by first | exact Or.inl rfl | exact Or.inr rfl)) (fun _ q1 _ _ _ _ _ => ebs_one (EW.eb (ew_and (eb_tru (ED.er (ed_var 6))) (ew_and1 (eb_cmp (od_eq hr.units) (ed_ix (ed_var 8) (ed_int)) (ED.er (ed_ix (ed_ix (ed_var 6) (ed_int)) (ed_int))) (nomark _)))))) (fun _ q1 _ _ _ _ _ => ed_var 8)))) rfl b_tuple bb_tuple))
      (sds_one (sd_ret (ed_orT (ed_var 7) (ed_one (ed_var 5)))))))))
abbrev s_book_of : Stmt := topS 20
abbrev N_book_of : List Str := ["ranks"]
theorem sc_book_of : FnScope N_book_of ["ranks"] (defScope s_book_of) := ⟨rfl, rfl, rfl, by decide +kernel, rfl, by decide +kernel, by decide +kernel⟩
theorem dv_book_of {f : Addr} {k : Nat} (cdv : Value) (A : Around) (outer : List PySem.Env) (s : Shared) (H : Hp) (E : XK) (hr : Room k (A.deeper (envOfC "book_of" (defScope s_book_of) s.heap.objs.size f cdv))) (G : Gh) (hG : G.slots = []) :
    SDs (cxOf CX0 P w K mg base N_book_of "book_of" (defScope s_book_of) f cdv A outer s H E).nox G (defBody s_book_of) (tb_book_of) := by
  unfold tb_book_of
  exact sds_one (sd_ret (ed_op od_div (ed_op od_sub (ed_var 0) (ED.er (ed_int))) (ED.er (ed_int))))
abbrev s_levels_of : Stmt := topS 21
abbrev N_levels_of : List Str := ["ranks"]
theorem sc_levels_of : FnScope N_levels_of ["ranks"] (defScope s_levels_of) := ⟨rfl, rfl, rfl, by decide +kernel, rfl, by decide +kernel, by decide +kernel⟩
theorem dv_levels_of {f : Addr} {k : Nat} {sp_book_of : SpD} {f_book_of : Addr} {fd_book_of : FuncData} {k_book_of : Nat} (C_book_of : FnOk P w K mg base CX0 k_book_of f_book_of fd_book_of ["ranks"] (spL K sp_book_of)) (h_book_of : k_book_of ≤ k) (C_book_of_g : mg "book_of" = some (.ref f_book_of)) (C_book_of_k : PySem.W.keepIn K (.ref f_book_of) = true) (C_book_of_b : Binds K fd_book_of ["ranks"] []) (cdv : Value) (A : Around) (outer : List PySem.Env) (s : Shared) (H : Hp) (E : XK) (hr : Room k (A.deeper (envOfC "levels_of" (defScope s_levels_of) s.heap.objs.size f cdv))) (G : Gh) (hG : G.slots = []) :
    SDs (cxOf CX0 P w K mg base N_levels_of "levels_of" (defScope s_levels_of) f cdv A outer s H E).nox G (defBody s_levels_of) (tb_levels_of sp_book_of) := by
  unfold tb_levels_of
  exact sds_one (sd_ret (ed_op od_sub (ed_var 0) (ED.er (ed_call C_book_of (hr.mono h_book_of) rfl C_book_of_g C_book_of_k C_book_of_b (ea_v (ed_var 0) (ea_nil))))))
abbrev s_all_bids : Stmt := topS 8
abbrev N_all_bids : List Str := ["levels", "found", "level", "strain"]
theorem sc_all_bids : FnScope N_all_bids ["levels"] (defScope s_all_bids) := ⟨rfl, rfl, rfl, by decide +kernel, rfl, by decide +kernel, by decide +kernel⟩
theorem dv_all_bids {f : Addr} {k : Nat} (b_range : mg "range" = none) (cdv : Value) (A : Around) (outer : List PySem.Env) (s : Shared) (H : Hp) (E : XK) (hr : Room k (A.deeper (envOfC "all_bids" (defScope s_all_bids) s.heap.objs.size f cdv))) (G : Gh) (hG : G.slots = []) :
    SDs (cxOf CX0 P w K mg base N_all_bids "all_bids" (defScope s_all_bids) f cdv A outer s H E).nox G (defBody s_all_bids) (tb_all_bids) := by
  unfold tb_all_bids
  exact sds_cons (sd_setL (ns hG (by decide)) sc_all_bids.nd rfl (by first | exact Or.inl rfl | exact Or.inr rfl) (el_lst (eds_nil)))
      (sds_cons (sd_for (ms := [2]) PassesOwn.never rfl (id_range2 rfl b_range (ed_int) (ed_op od_add (ed_var 0) (ED.er (ed_int)))) (gd_name (ns hG (by decide)) (by decide) sc_all_bids.nd rfl (by first | exact Or.inl rfl | exact Or.inr rfl)) (sds_one (sd_expr (ed_extd 1 (el_comp [("strain", 3)] rfl sc_all_bids.nd rfl (nsA hG (by decide)) (id_range1 rfl b_range (ed_int)) (blkOk_by (N := N_all_bids) (sc := defScope s_all_bids) (by decide +kernel)) (fun _ q1 _ _ _ _ _ => gd_name (ns (q1.trans hG) (by decide)) (by decide) sc_all_bids.nd rfl (by first | exact Or.inl rfl | exact Or.inr rfl)) (fun _ q1 _ _ _ _ _ => ebs_nil) (fun _ q1 _ _ _ _ _ => ed_tup (eds_cons (ed_var 2) (eds_cons (ed_var 3) (eds_nil)))))))))
      (sds_one (sd_ret (ed_fzv 1))))
abbrev s_last_but_pass : Stmt := topS 6
abbrev N_last_but_pass : List Str := ["calls", "found", "number", "call"]
theorem sc_last_but_pass : FnScope N_last_but_pass ["calls"] (defScope s_last_but_pass) := ⟨rfl, rfl, rfl, by decide +kernel, rfl, by decide +kernel, by decide +kernel⟩
theorem dv_last_but_pass {f : Addr} {k : Nat} (b_enumerate : mg "enumerate" = none) (cdv : Value) (A : Around) (outer : List PySem.Env) (s : Shared) (H : Hp) (E : XK) (hr : Room k (A.deeper (envOfC "last_but_pass" (defScope s_last_but_pass) s.heap.objs.size f cdv))) (G : Gh) (hG : G.slots = []) :
    SDs (cxOf CX0 P w K mg base N_last_but_pass "last_but_pass" (defScope s_last_but_pass) f cdv A outer s H E).nox G (defBody s_last_but_pass) (tb_last_but_pass) := by
  unfold tb_last_but_pass
  exact sds_cons (sd_set (ns hG (by decide)) sc_last_but_pass.nd rfl (by first | exact Or.inl rfl | exact Or.inr rfl) (ed_non))
      (sds_cons (sd_for (ms := [2, 3]) PassesOwn.never rfl (id_enumT (ed_var 0) rfl b_enumerate) (gd_tup rfl (gds_cons (gd_name (ns hG (by decide)) (by decide) sc_last_but_pass.nd rfl (by first | exact Or.inl rfl | exact Or.inr rfl)) (gds_cons (gd_name (ns hG (by decide)) (by decide) sc_last_but_pass.nd rfl (by first | exact Or.inl rfl | exact Or.inr rfl)) (gds_nil)))) (sds_one (sd_if (eb_cmp (od_ne hr.units) (ed_var 3) (ED.er (ed_str)) (nomark _)) (sds_one (sd_set (ns hG (by decide)) sc_last_but_pass.nd rfl (by first | exact Or.inl rfl | exact Or.inr rfl) (ed_var 2))) (sds_nil))))
      (sds_one (sd_ret (ed_var 1))))
abbrev s_may_call : Stmt := topS 9
abbrev N_may_call : List Str := ["levels", "calls", "found", "last", "bid", "one"]
theorem sc_may_call : FnScope N_may_call ["levels", "calls"] (defScope s_may_call) := ⟨rfl, rfl, rfl, by decide +kernel, rfl, by decide +kernel, by decide +kernel⟩
theorem dv_may_call {f : Addr} {k : Nat} (b_tuple : mg "tuple" = none) (b_len : mg "len" = none) (b_isinstance : mg "isinstance" = none) {sp_all_bids : SpD} {f_all_bids : Addr} {fd_all_bids : FuncData} {k_all_bids : Nat} (C_all_bids : FnOk P w K mg base CX0 k_all_bids f_all_bids fd_all_bids ["levels"] (spL K sp_all_bids)) (h_all_bids : k_all_bids ≤ k) (C_all_bids_g : mg "all_bids" = some (.ref f_all_bids)) (C_all_bids_k : PySem.W.keepIn K (.ref f_all_bids) = true) (C_all_bids_b : Binds K fd_all_bids ["levels"] []) {sp_last_but_pass : SpD} {f_last_but_pass : Addr} {fd_last_but_pass : FuncData} {k_last_but_pass : Nat} (C_last_but_pass : FnOk P w K mg base CX0 k_last_but_pass f_last_but_pass fd_last_but_pass ["calls"] (spL K sp_last_but_pass)) (h_last_but_pass : k_last_but_pass ≤ k) (C_last_but_pass_g : mg "last_but_pass" = some (.ref f_last_but_pass)) (C_last_but_pass_k : PySem.W.keepIn K (.ref f_last_but_pass) = true) (C_last_but_pass_b : Binds K fd_last_but_pass ["calls"] []) {sp_last_bid : SpD} {f_last_bid : Addr} {fd_last_bid : FuncData} {k_last_bid : Nat} (C_last_bid : FnOk P w K mg base CX0 k_last_bid f_last_bid fd_last_bid ["calls"] (spL K sp_last_bid)) (h_last_bid : k_last_bid ≤ k) (C_last_bid_g : mg "last_bid" = some (.ref f_last_bid)) (C_last_bid_k : PySem.W.keepIn K (.ref f_last_bid) = true) (C_last_bid_b : Binds K fd_last_bid ["calls"] []) {sp_is_over : SpD} {f_is_over : Addr} {fd_is_over : FuncData} {k_is_over : Nat} (C_is_over : FnOk P w K mg base CX0 k_is_over f_is_over fd_is_over ["calls"] (spL K sp_is_over)) (h_is_over : k_is_over ≤ k) (C_is_over_g : mg "is_over" = some (.ref f_is_over)) (C_is_over_k : PySem.W.keepIn K (.ref f_is_over) = true) (C_is_over_b : Binds K fd_is_over ["calls"] []) (cdv : Value) (A : Around) (outer : List PySem.Env) (s : Shared) (H : Hp) (E : XK) (hr : Room k (A.deeper (envOfC "may_call" (defScope s_may_call) s.heap.objs.size f cdv))) (G : Gh) (hG : G.slots = []) :
    SDs (cxOf CX0 P w K mg base N_may_call "may_call" (defScope s_may_call) f cdv A outer s H E).nox G (defBody s_may_call) (tb_may_call sp_all_bids sp_last_but_pass sp_last_bid sp_is_over) := by
  unfold tb_may_call
  exact sds_cons (sd_if (eb_tru (ED.er (ed_call C_is_over (hr.mono h_is_over) rfl C_is_over_g C_is_over_k C_is_over_b (ea_v (ed_var 1) (ea_nil))))) (sds_one (sd_ret (ed_tup (eds_nil)))) (sds_nil))
      (sds_cons (sd_setL (ns hG (by decide)) sc_may_call.nd rfl (by first | exact Or.inl rfl | exact Or.inr rfl) (el_lst (eds_cons (ed_str) (eds_nil))))
      (sds_cons (sd_parC (nsA hG (by decide)) rfl (by decide) (eps_d (ed_call C_last_but_pass (hr.mono h_last_but_pass) rfl C_last_but_pass_g C_last_but_pass_k C_last_but_pass_b (ea_v (ed_var 1) (ea_nil))) (eps_d (ed_call C_last_bid (hr.mono h_last_bid) rfl C_last_bid_g C_last_bid_k C_last_bid_b (ea_v (ed_var 1) (ea_nil))) (eps_nil))) rfl (pgs_nS sc_may_call.nd rfl (by first | exact Or.inl rfl | exact Or.inr rfl) (pgs_nS sc_may_call.nd rfl (by first | exact Or.inl rfl | exact Or.inr rfl) (pgs_n0))))
      (sds_cons (sd_if (EW.eb (ew_and (eb_cmp od_isN (ed_var 3) (ED.er (ed_non)) (nomark _)) (ew_and1 (eb_cmp (od_eq hr.units) (ed_op od_mod (ed_op od_sub (ed_ca1 cd_len (ED.er (ed_var 1)) rfl b_len bb_len) (ED.er (ed_var 3))) (ED.er (ed_int))) (ED.er (ed_int)) (nomark _))))) (sds_one (sd_if (eb_tru (ED.er (ed_isi isi_tuple (ed_ix (ed_var 1) (ed_var 3)) rfl b_isinstance rfl b_tuple bb_tuple))) (sds_one (sd_expr (ed_app 2 (ed_str)))) (sds_one (sd_if (eb_cmp (od_eq hr.units) (ed_ix (ed_var 1) (ed_var 3)) (ED.er (ed_str)) (nomark _)) (sds_one (sd_expr (ed_app 2 (ed_str)))) (sds_nil))))) (sds_nil))
      (sds_one (sd_ret (ed_caT1 cd_tuple (ED.er (EL.ed (el_op od_cat (ed_fzv 2) (ED.er (EL.ed (el_comp [("one", 5)] rfl sc_may_call.nd rfl (nsA hG (by decide)) (id_lst (ed_call C_all_bids (hr.mono h_all_bids) rfl C_all_bids_g C_all_bids_k C_all_bids_b (ea_v (ed_var 0) (ea_nil)))) (blkOk_by (N := N_may_call) (sc := defScope s_may_call) (by decide +kernel)) (fun _ q1 _ _ _ _ _ => gd_name (ns (q1.trans hG) (by decide)) (by decide) sc_may_call.nd rfl (by first | exact Or.inl rfl | exact Or.inr rfl)) (fun _ q1 _ _ _ _ _ => ebs_one (EW.eb (ew_or (eb_cmp od_is (ed_var 4) (ED.er (ed_non)) (nomark _)) (ew_or1 (eb_cmp (od_gtD (u65 hr)) (ed_var 5) (ED.er (ed_ix (ed_var 1) (ed_var 4))) (nomark _)))))) (fun _ q1 _ _ _ _ _ => ed_var 5))))))) rfl b_tuple bb_tuple))))))
abbrev s_Table_stage : Stmt := inClass (topS 34) 7
abbrev N_Table_stage : List Str := ["self", "calls", "cards", "claimed", "%o0"]
theorem sc_Table_stage : FnScope N_Table_stage ["self"] (defScope s_Table_stage) := ⟨rfl, rfl, rfl, by decide +kernel, rfl, by decide +kernel, by decide +kernel⟩
theorem dv_Table_stage {f : Addr} {k : Nat} (b_len : mg "len" = none) {C : Addr} (cl : Cls K C) (na_ranks : NoAttr K C "ranks") (na_state : NoAttr K C "state") {sp_Table_contract : SpO} {f_Table_contract : Addr} {fd_Table_contract : FuncData} {k_Table_contract : Nat} (C_Table_contract : FnOk P w K mg base CX0 k_Table_contract f_Table_contract fd_Table_contract ["self"] (spO K sp_Table_contract)) (h_Table_contract : k_Table_contract ≤ k) (me_Table_contract : Meth K C "contract" f_Table_contract) (C_Table_contract_b : Binds K fd_Table_contract ["self"] []) {sp_is_over : SpD} {f_is_over : Addr} {fd_is_over : FuncData} {k_is_over : Nat} (C_is_over : FnOk P w K mg base CX0 k_is_over f_is_over fd_is_over ["calls"] (spL K sp_is_over)) (h_is_over : k_is_over ≤ k) (C_is_over_g : mg "is_over" = some (.ref f_is_over)) (C_is_over_k : PySem.W.keepIn K (.ref f_is_over) = true) (C_is_over_b : Binds K fd_is_over ["calls"] []) (cdv : Value) (A : Around) (outer : List PySem.Env) (s : Shared) (H : Hp) (E : XK) (hr : Room k (A.deeper (envOfC "Table.stage" (defScope s_Table_stage) s.heap.objs.size f cdv))) (G : Gh) (hG : G.slots = []) :
    SDs (cxOf CX0 P w K mg base N_Table_stage "Table.stage" (defScope s_Table_stage) f cdv A outer s H E).nox G (defBody s_Table_stage) (tb_Table_stage C sp_Table_contract sp_is_over) := by
  unfold tb_Table_stage
  exact sds_cons (sd_asg (ms := [1, 2, 3]) (ed_fld 0 cl na_state) (gd_tup rfl (gds_cons (gd_name (ns hG (by decide)) (by decide) sc_Table_stage.nd rfl (by first | exact Or.inl rfl | exact Or.inr rfl)) (gds_cons (gd_name (ns hG (by decide)) (by decide) sc_Table_stage.nd rfl (by first | exact Or.inl rfl | exact Or.inr rfl)) (gds_cons (gd_name (ns hG (by decide)) (by decide) sc_Table_stage.nd rfl (by first | exact Or.inl rfl | exact Or.inr rfl)) (gds_nil))))))
      (sds_cons (sd_if (eb_not (eb_tru (ED.er (ed_call C_is_over (hr.mono h_is_over) rfl C_is_over_g C_is_over_k C_is_over_b (ea_v (ed_var 1) (ea_nil)))))) (sds_one (sd_ret (ed_str))) (sds_nil))
      (sds_cons (sd_if (EW.eb (ew_or (eb_cmp od_is (ed_methO0 (ed_var 0) cl me_Table_contract C_Table_contract (hr.mono h_Table_contract) C_Table_contract_b) (ED.er (ed_non)) (nomark _)) (ew_or (eb_cmp od_isN (ed_var 3) (ED.er (ed_non)) (nomark _)) (ew_or1 (eb_cmp (od_eq hr.units) (ed_ca1 cd_len (ED.er (ed_var 2)) rfl b_len bb_len) (ED.er (ed_op od_mul (ed_int) (ED.er (ed_fld 0 cl na_ranks)))) (nomark _)))))) (sds_one (sd_ret (ed_str))) (sds_nil))
      (sds_one (sd_ret (ed_str)))))
abbrev s_Table_may : Stmt := inClass (topS 34) 9
abbrev N_Table_may : List Str := ["self", "calls", "cards", "claimed", "stage", "%o0"]
theorem sc_Table_may : FnScope N_Table_may ["self"] (defScope s_Table_may) := ⟨rfl, rfl, rfl, by decide +kernel, rfl, by decide +kernel, by decide +kernel⟩
theorem dv_Table_may {f : Addr} {k : Nat} {C : Addr} (cl : Cls K C) (na_deal : NoAttr K C "deal") (na_ranks : NoAttr K C "ranks") (na_state : NoAttr K C "state") {sp_Table_leader : SpO} {f_Table_leader : Addr} {fd_Table_leader : FuncData} {k_Table_leader : Nat} (C_Table_leader : FnOk P w K mg base CX0 k_Table_leader f_Table_leader fd_Table_leader ["self"] (spO K sp_Table_leader)) (h_Table_leader : k_Table_leader ≤ k) (me_Table_leader : Meth K C "leader" f_Table_leader) (C_Table_leader_b : Binds K fd_Table_leader ["self"] []) {sp_Table_contract : SpO} {f_Table_contract : Addr} {fd_Table_contract : FuncData} {k_Table_contract : Nat} (C_Table_contract : FnOk P w K mg base CX0 k_Table_contract f_Table_contract fd_Table_contract ["self"] (spO K sp_Table_contract)) (h_Table_contract : k_Table_contract ≤ k) (me_Table_contract : Meth K C "contract" f_Table_contract) (C_Table_contract_b : Binds K fd_Table_contract ["self"] []) {sp_may_play : SpD} {f_may_play : Addr} {fd_may_play : FuncData} {k_may_play : Nat} (C_may_play : FnOk P w K mg base CX0 k_may_play f_may_play fd_may_play ["deal", "strain", "leader", "cards"] (spL K sp_may_play)) (h_may_play : k_may_play ≤ k) (C_may_play_g : mg "may_play" = some (.ref f_may_play)) (C_may_play_k : PySem.W.keepIn K (.ref f_may_play) = true) (C_may_play_b : Binds K fd_may_play ["deal", "strain", "leader", "cards"] []) {sp_levels_of : SpD} {f_levels_of : Addr} {fd_levels_of : FuncData} {k_levels_of : Nat} (C_levels_of : FnOk P w K mg base CX0 k_levels_of f_levels_of fd_levels_of ["ranks"] (spL K sp_levels_of)) (h_levels_of : k_levels_of ≤ k) (C_levels_of_g : mg "levels_of" = some (.ref f_levels_of)) (C_levels_of_k : PySem.W.keepIn K (.ref f_levels_of) = true) (C_levels_of_b : Binds K fd_levels_of ["ranks"] []) {sp_may_call : SpD} {f_may_call : Addr} {fd_may_call : FuncData} {k_may_call : Nat} (C_may_call : FnOk P w K mg base CX0 k_may_call f_may_call fd_may_call ["levels", "calls"] (spL K sp_may_call)) (h_may_call : k_may_call ≤ k) (C_may_call_g : mg "may_call" = some (.ref f_may_call)) (C_may_call_k : PySem.W.keepIn K (.ref f_may_call) = true) (C_may_call_b : Binds K fd_may_call ["levels", "calls"] []) {sp_Table_stage : SpO} {f_Table_stage : Addr} {fd_Table_stage : FuncData} {k_Table_stage : Nat} (C_Table_stage : FnOk P w K mg base CX0 k_Table_stage f_Table_stage fd_Table_stage ["self"] (spO K sp_Table_stage)) (h_Table_stage : k_Table_stage ≤ k) (me_Table_stage : Meth K C "stage" f_Table_stage) (C_Table_stage_b : Binds K fd_Table_stage ["self"] []) (cdv : Value) (A : Around) (outer : List PySem.Env) (s : Shared) (H : Hp) (E : XK) (hr : Room k (A.deeper (envOfC "Table.may" (defScope s_Table_may) s.heap.objs.size f cdv))) (G : Gh) (hG : G.slots = []) :
    SDs (cxOf CX0 P w K mg base N_Table_may "Table.may" (defScope s_Table_may) f cdv A outer s H E).nox G (defBody s_Table_may) (tb_Table_may C sp_Table_leader sp_Table_contract sp_may_play sp_levels_of sp_may_call sp_Table_stage) := by
  unfold tb_Table_may
  exact sds_cons (sd_asg (ms := [1, 2, 3]) (ed_fld 0 cl na_state) (gd_tup rfl (gds_cons (gd_name (ns hG (by decide)) (by decide) sc_Table_may.nd rfl (by first | exact Or.inl rfl | exact Or.inr rfl)) (gds_cons (gd_name (ns hG (by decide)) (by decide) sc_Table_may.nd rfl (by first | exact Or.inl rfl | exact Or.inr rfl)) (gds_cons (gd_name (ns hG (by decide)) (by decide) sc_Table_may.nd rfl (by first | exact Or.inl rfl | exact Or.inr rfl)) (gds_nil))))))
      (sds_cons (sd_set (ns hG (by decide)) sc_Table_may.nd rfl (by first | exact Or.inl rfl | exact Or.inr rfl) (ed_methO0 (ed_var 0) cl me_Table_stage C_Table_stage (hr.mono h_Table_stage) C_Table_stage_b))
      (sds_cons (sd_if (eb_cmp (od_eq hr.units) (ed_var 4) (ED.er (ed_str)) (nomark _)) (sds_one (sd_ret (ed_call C_may_call (hr.mono h_may_call) rfl C_may_call_g C_may_call_k C_may_call_b (ea_v (ed_call C_levels_of (hr.mono h_levels_of) rfl C_levels_of_g C_levels_of_k C_levels_of_b (ea_v (ed_fld 0 cl na_ranks) (ea_nil))) (ea_v (ed_var 1) (ea_nil)))))) (sds_nil))
      (sds_cons (sd_if (eb_cmp (od_eq hr.units) (ed_var 4) (ED.er (ed_str)) (nomark _)) (sds_one (sd_ret (ed_call C_may_play (hr.mono h_may_play) rfl C_may_play_g C_may_play_k C_may_play_b (ea_v (ed_fld 0 cl na_deal) (ea_v (ed_ix (ed_methO0 (ed_var 0) cl me_Table_contract C_Table_contract (hr.mono h_Table_contract) C_Table_contract_b) (ed_int)) (ea_v (ed_methO0 (ed_var 0) cl me_Table_leader C_Table_leader (hr.mono h_Table_leader) C_Table_leader_b) (ea_v (ed_var 2) (ea_nil)))))))) (sds_nil))
      (sds_one (sd_ret (ed_tup (eds_nil)))))))
abbrev s_law_turned : Stmt := topS 46
abbrev N_law_turned : List Str := ["told", "turn", "player", "contract", "tricks", "score"]
theorem sc_law_turned : FnScope N_law_turned ["told", "turn"] (defScope s_law_turned) := ⟨rfl, rfl, rfl, by decide +kernel, rfl, by decide +kernel, by decide +kernel⟩
theorem dv_law_turned {f : Addr} {k : Nat} (cdv : Value) (A : Around) (outer : List PySem.Env) (s : Shared) (H : Hp) (E : XK) (hr : Room k (A.deeper (envOfC "_law_turned" (defScope s_law_turned) s.heap.objs.size f cdv))) (G : Gh) (hG : G.slots = []) :
    SDs (cxOf CX0 P w K mg base N_law_turned "_law_turned" (defScope s_law_turned) f cdv A outer s H E).nox G (defBody s_law_turned) (tb_law_turned_k30) := by
  unfold tb_law_turned_k30
  exact sds_cons (sd_asg (ms := [2, 3, 4, 5]) (ed_var 0) (gd_tup rfl (gds_cons (gd_name (ns hG (by decide)) (by decide) sc_law_turned.nd rfl (by first | exact Or.inl rfl | exact Or.inr rfl)) (gds_cons (gd_name (ns hG (by decide)) (by decide) sc_law_turned.nd rfl (by first | exact Or.inl rfl | exact Or.inr rfl)) (gds_cons (gd_name (ns hG (by decide)) (by decide) sc_law_turned.nd rfl (by first | exact Or.inl rfl | exact Or.inr rfl)) (gds_cons (gd_name (ns hG (by decide)) (by decide) sc_law_turned.nd rfl (by first | exact Or.inl rfl | exact Or.inr rfl)) (gds_nil)))))))
      (sds_cons (sd_set (ns hG (by decide)) sc_law_turned.nd rfl (by first | exact Or.inl rfl | exact Or.inr rfl) (ed_if (eb_cmp od_is (ed_var 2) (ED.er (ed_non)) (nomark _)) (ed_non) (ed_op od_mod (ed_op od_add (ed_var 2) (ED.er (ed_var 1))) (ED.er (ed_int)))))
      (sds_cons (sd_set (ns hG (by decide)) sc_law_turned.nd rfl (by first | exact Or.inl rfl | exact Or.inr rfl) (ed_if (eb_cmp od_is (ed_var 3) (ED.er (ed_non)) (nomark _)) (ed_non) (ed_op od_add (ed_sl (ed_var 3) (eo_no) (eo_e (ed_int))) (ED.er (ed_tup (eds_cons (ed_op od_mod (ed_op od_add (ed_ix (ed_var 3) (ed_int)) (ED.er (ed_var 1))) (ED.er (ed_int))) (eds_nil)))))))
      (sds_cons (sd_if (eb_cmp (od_eq hr.units) (ed_var 1) (ED.er (ed_int)) (nomark _)) (sds_one (sd_ret (ed_tup (eds_cons (ed_var 2) (eds_cons (ed_var 3) (eds_cons (ed_var 4) (eds_cons (ed_var 5) (eds_nil)))))))) (sds_nil))
      (sds_one (sd_ret (ed_tup (eds_cons (ed_var 2) (eds_cons (ed_var 3) (eds_cons (ed_revT (ed_var 4)) (eds_cons (ed_if (eb_cmp od_is (ed_var 5) (ED.er (ed_non)) (nomark _)) (ed_non) (ed_op od_sub (ed_int) (ED.er (ed_var 5)))) (eds_nil)))))))))))
abbrev s_tricks_of : Stmt := topS 32
abbrev N_tricks_of : List Str := ["strain", "leader", "cards"]
theorem sc_tricks_of : FnScope N_tricks_of ["strain", "leader", "cards"] (defScope s_tricks_of) := ⟨rfl, rfl, rfl, by decide +kernel, rfl, by decide +kernel, by decide +kernel⟩
theorem dv_tricks_of {f : Addr} {k : Nat} {sp_walked : SpD} {f_walked : Addr} {fd_walked : FuncData} {k_walked : Nat} (C_walked : FnOk P w K mg base CX0 k_walked f_walked fd_walked ["strain", "leader", "cards"] (spL K sp_walked)) (h_walked : k_walked ≤ k) (C_walked_g : mg "walked" = some (.ref f_walked)) (C_walked_k : PySem.W.keepIn K (.ref f_walked) = true) (C_walked_b : Binds K fd_walked ["strain", "leader", "cards"] []) (cdv : Value) (A : Around) (outer : List PySem.Env) (s : Shared) (H : Hp) (E : XK) (hr : Room k (A.deeper (envOfC "tricks_of" (defScope s_tricks_of) s.heap.objs.size f cdv))) (G : Gh) (hG : G.slots = []) :
    SDs (cxOf CX0 P w K mg base N_tricks_of "tricks_of" (defScope s_tricks_of) f cdv A outer s H E).nox G (defBody s_tricks_of) (tb_tricks_of sp_walked) := by
  unfold tb_tricks_of
  exact sds_one (sd_ret (ed_ix (ed_call C_walked (hr.mono h_walked) rfl C_walked_g C_walked_k C_walked_b (ea_v (ed_var 0) (ea_v (ed_var 1) (ea_v (ed_var 2) (ea_nil))))) (ed_int)))
abbrev s_Table_tricks : Stmt := inClass (topS 34) 14
abbrev N_Table_tricks : List Str := ["self", "calls", "cards", "claimed", "contract", "%o0"]
theorem sc_Table_tricks : FnScope N_Table_tricks ["self"] (defScope s_Table_tricks) := ⟨rfl, rfl, rfl, by decide +kernel, rfl, by decide +kernel, by decide +kernel⟩
theorem dv_Table_tricks {f : Addr} {k : Nat} {C : Addr} (cl : Cls K C) (na_ranks : NoAttr K C "ranks") (na_state : NoAttr K C "state") {sp_Table_leader : SpO} {f_Table_leader : Addr} {fd_Table_leader : FuncData} {k_Table_leader : Nat} (C_Table_leader : FnOk P w K mg base CX0 k_Table_leader f_Table_leader fd_Table_leader ["self"] (spO K sp_Table_leader)) (h_Table_leader : k_Table_leader ≤ k) (me_Table_leader : Meth K C "leader" f_Table_leader) (C_Table_leader_b : Binds K fd_Table_leader ["self"] []) {sp_tricks_of : SpD} {f_tricks_of : Addr} {fd_tricks_of : FuncData} {k_tricks_of : Nat} (C_tricks_of : FnOk P w K mg base CX0 k_tricks_of f_tricks_of fd_tricks_of ["strain", "leader", "cards"] (spL K sp_tricks_of)) (h_tricks_of : k_tricks_of ≤ k) (C_tricks_of_g : mg "tricks_of" = some (.ref f_tricks_of)) (C_tricks_of_k : PySem.W.keepIn K (.ref f_tricks_of) = true) (C_tricks_of_b : Binds K fd_tricks_of ["strain", "leader", "cards"] []) {sp_Table_contract : SpO} {f_Table_contract : Addr} {fd_Table_contract : FuncData} {k_Table_contract : Nat} (C_Table_contract : FnOk P w K mg base CX0 k_Table_contract f_Table_contract fd_Table_contract ["self"] (spO K sp_Table_contract)) (h_Table_contract : k_Table_contract ≤ k) (me_Table_contract : Meth K C "contract" f_Table_contract) (C_Table_contract_b : Binds K fd_Table_contract ["self"] []) (cdv : Value) (A : Around) (outer : List PySem.Env) (s : Shared) (H : Hp) (E : XK) (hr : Room k (A.deeper (envOfC "Table.tricks" (defScope s_Table_tricks) s.heap.objs.size f cdv))) (G : Gh) (hG : G.slots = []) :
    SDs (cxOf CX0 P w K mg base N_Table_tricks "Table.tricks" (defScope s_Table_tricks) f cdv A outer s H E).nox G (defBody s_Table_tricks) (tb_Table_tricks C sp_Table_leader sp_tricks_of sp_Table_contract) := by
  unfold tb_Table_tricks
  exact sds_cons (sd_asg (ms := [1, 2, 3]) (ed_fld 0 cl na_state) (gd_tup rfl (gds_cons (gd_name (ns hG (by decide)) (by decide) sc_Table_tricks.nd rfl (by first | exact Or.inl rfl | exact Or.inr rfl)) (gds_cons (gd_name (ns hG (by decide)) (by decide) sc_Table_tricks.nd rfl (by first | exact Or.inl rfl | exact Or.inr rfl)) (gds_cons (gd_name (ns hG (by decide)) (by decide) sc_Table_tricks.nd rfl (by first | exact Or.inl rfl | exact Or.inr rfl)) (gds_nil))))))
      (sds_cons (sd_set (ns hG (by decide)) sc_Table_tricks.nd rfl (by first | exact Or.inl rfl | exact Or.inr rfl) (ed_methO0 (ed_var 0) cl me_Table_contract C_Table_contract (hr.mono h_Table_contract) C_Table_contract_b))
      (sds_cons (sd_if (eb_cmp od_is (ed_var 4) (ED.er (ed_non)) (nomark _)) (sds_one (sd_ret (ed_tup (eds_cons (ed_int) (eds_cons (ed_int) (eds_nil)))))) (sds_nil))
      (sds_cons (sd_if (eb_cmp od_is (ed_var 3) (ED.er (ed_non)) (nomark _)) (sds_one (sd_ret (ed_call C_tricks_of (hr.mono h_tricks_of) rfl C_tricks_of_g C_tricks_of_k C_tricks_of_b (ea_v (ed_ix (ed_var 4) (ed_int)) (ea_v (ed_methO0 (ed_var 0) cl me_Table_leader C_Table_leader (hr.mono h_Table_leader) C_Table_leader_b) (ea_v (ed_var 2) (ea_nil))))))) (sds_nil))
      (sds_cons (sd_if (eb_cmp (od_eq hr.units) (ed_op od_mod (ed_ix (ed_var 4) (ed_int)) (ED.er (ed_int))) (ED.er (ed_int)) (nomark _)) (sds_one (sd_ret (ed_tup (eds_cons (ed_var 3) (eds_cons (ed_op od_sub (ed_fld 0 cl na_ranks) (ED.er (ed_var 3))) (eds_nil)))))) (sds_nil))
      (sds_one (sd_ret (ed_tup (eds_cons (ed_op od_sub (ed_fld 0 cl na_ranks) (ED.er (ed_var 3))) (eds_cons (ed_var 3) (eds_nil))))))))))
abbrev s_trick_worth : Stmt := topS 22
abbrev N_trick_worth : List Str := ["strain"]
theorem sc_trick_worth : FnScope N_trick_worth ["strain"] (defScope s_trick_worth) := ⟨rfl, rfl, rfl, by decide +kernel, rfl, by decide +kernel, by decide +kernel⟩
theorem dv_trick_worth {f : Addr} {k : Nat} (cdv : Value) (A : Around) (outer : List PySem.Env) (s : Shared) (H : Hp) (E : XK) (hr : Room k (A.deeper (envOfC "trick_worth" (defScope s_trick_worth) s.heap.objs.size f cdv))) (G : Gh) (hG : G.slots = []) :
    SDs (cxOf CX0 P w K mg base N_trick_worth "trick_worth" (defScope s_trick_worth) f cdv A outer s H E).nox G (defBody s_trick_worth) (tb_trick_worth) := by
  unfold tb_trick_worth
  exact sds_one (sd_ret (ed_if (eb_cmp od_lt (ed_var 0) (ED.er (ed_int)) (nomark _)) (ed_int) (ed_int)))
abbrev s_won_by : Stmt := topS 24
abbrev N_won_by : List Str := ["ranks", "contract", "risk", "more", "level", "strain", "times", "player", "counted", "total", "needed"]
theorem sc_won_by : FnScope N_won_by ["ranks", "contract", "risk", "more"] (defScope s_won_by) := ⟨rfl, rfl, rfl, by decide +kernel, rfl, by decide +kernel, by decide +kernel⟩
theorem dv_won_by {f : Addr} {k : Nat} {sp_trick_worth : SpD} {f_trick_worth : Addr} {fd_trick_worth : FuncData} {k_trick_worth : Nat} (C_trick_worth : FnOk P w K mg base CX0 k_trick_worth f_trick_worth fd_trick_worth ["strain"] (spL K sp_trick_worth)) (h_trick_worth : k_trick_worth ≤ k) (C_trick_worth_g : mg "trick_worth" = some (.ref f_trick_worth)) (C_trick_worth_k : PySem.W.keepIn K (.ref f_trick_worth) = true) (C_trick_worth_b : Binds K fd_trick_worth ["strain"] []) {sp_book_of : SpD} {f_book_of : Addr} {fd_book_of : FuncData} {k_book_of : Nat} (C_book_of : FnOk P w K mg base CX0 k_book_of f_book_of fd_book_of ["ranks"] (spL K sp_book_of)) (h_book_of : k_book_of ≤ k) (C_book_of_g : mg "book_of" = some (.ref f_book_of)) (C_book_of_k : PySem.W.keepIn K (.ref f_book_of) = true) (C_book_of_b : Binds K fd_book_of ["ranks"] []) (cdv : Value) (A : Around) (outer : List PySem.Env) (s : Shared) (H : Hp) (E : XK) (hr : Room k (A.deeper (envOfC "won_by" (defScope s_won_by) s.heap.objs.size f cdv))) (G : Gh) (hG : G.slots = []) :
    SDs (cxOf CX0 P w K mg base N_won_by "won_by" (defScope s_won_by) f cdv A outer s H E).nox G (defBody s_won_by) (tb_won_by sp_trick_worth sp_book_of) := by
  unfold tb_won_by
  exact sds_cons (sd_asg (ms := [4, 5, 6, 7]) (ed_var 1) (gd_tup rfl (gds_cons (gd_name (ns hG (by decide)) (by decide) sc_won_by.nd rfl (by first | exact Or.inl rfl | exact Or.inr rfl)) (gds_cons (gd_name (ns hG (by decide)) (by decide) sc_won_by.nd rfl (by first | exact Or.inl rfl | exact Or.inr rfl)) (gds_cons (gd_name (ns hG (by decide)) (by decide) sc_won_by.nd rfl (by first | exact Or.inl rfl | exact Or.inr rfl)) (gds_cons (gd_name (ns hG (by decide)) (by decide) sc_won_by.nd rfl (by first | exact Or.inl rfl | exact Or.inr rfl)) (gds_nil)))))))
      (sds_cons (sd_set (ns hG (by decide)) sc_won_by.nd rfl (by first | exact Or.inl rfl | exact Or.inr rfl) (ed_op od_mul (ed_op od_add (ed_op od_mul (ed_var 4) (ED.er (ed_call C_trick_worth (hr.mono h_trick_worth) rfl C_trick_worth_g C_trick_worth_k C_trick_worth_b (ea_v (ed_var 5) (ea_nil))))) (ED.er (ed_if (eb_cmp (od_eq hr.units) (ed_var 5) (ED.er (ed_int)) (nomark _)) (ed_int) (ed_int)))) (ED.er (ed_var 6))))
      (sds_cons (sd_set (ns hG (by decide)) sc_won_by.nd rfl (by first | exact Or.inl rfl | exact Or.inr rfl) (ed_op od_add (ed_var 8) (ED.er (ed_int))))
      (sds_cons (sd_if (eb_cmp od_ge (ed_var 8) (ED.er (ed_int)) (nomark _)) (sds_one (sd_set (ns hG (by decide)) sc_won_by.nd rfl (by first | exact Or.inl rfl | exact Or.inr rfl) (ed_op od_add (ed_var 8) (ED.er (ed_if (eb_tru (ED.er (ed_var 2))) (ed_int) (ed_int)))))) (sds_nil))
      (sds_cons (sd_set (ns hG (by decide)) sc_won_by.nd rfl (by first | exact Or.inl rfl | exact Or.inr rfl) (ed_op od_add (ed_call C_book_of (hr.mono h_book_of) rfl C_book_of_g C_book_of_k C_book_of_b (ea_v (ed_var 0) (ea_nil))) (ED.er (ed_var 4))))
      (sds_cons (sd_if (eb_cmp (od_eq hr.units) (ed_var 10) (ED.er (ed_op od_sub (ed_var 0) (ED.er (ed_int)))) (nomark _)) (sds_one (sd_set (ns hG (by decide)) sc_won_by.nd rfl (by first | exact Or.inl rfl | exact Or.inr rfl) (ed_op od_add (ed_var 9) (ED.er (ed_if (eb_tru (ED.er (ed_var 2))) (ed_int) (ed_int)))))) (sds_nil))
      (sds_cons (sd_if (eb_cmp (od_eq hr.units) (ed_var 10) (ED.er (ed_var 0)) (nomark _)) (sds_one (sd_set (ns hG (by decide)) sc_won_by.nd rfl (by first | exact Or.inl rfl | exact Or.inr rfl) (ed_op od_add (ed_var 9) (ED.er (ed_if (eb_tru (ED.er (ed_var 2))) (ed_int) (ed_int)))))) (sds_nil))
      (sds_cons (sd_set (ns hG (by decide)) sc_won_by.nd rfl (by first | exact Or.inl rfl | exact Or.inr rfl) (ed_op od_add (ed_var 9) (ED.er (ed_ix (ed_tup (eds_cons (ed_int) (eds_cons (ed_int) (eds_cons (ed_int) (eds_nil))))) (ed_op od_div (ed_var 6) (ED.er (ed_int)))))))
      (sds_cons (sd_if (eb_cmp (od_eq hr.units) (ed_var 6) (ED.er (ed_int)) (nomark _)) (sds_one (sd_ret (ed_op od_add (ed_var 9) (ED.er (ed_op od_mul (ed_var 3) (ED.er (ed_call C_trick_worth (hr.mono h_trick_worth) rfl C_trick_worth_g C_trick_worth_k C_trick_worth_b (ea_v (ed_var 5) (ea_nil))))))))) (sds_nil))
      (sds_one (sd_ret (ed_op od_add (ed_var 9) (ED.er (ed_op od_mul (ed_op od_mul (ed_var 3) (ED.er (ed_if (eb_tru (ED.er (ed_var 2))) (ed_int) (ed_int)))) (ED.er (ed_var 6)))))))))))))))
abbrev s_lost_by : Stmt := topS 23
abbrev N_lost_by : List Str := ["lacking", "times", "risk", "total", "number"]
theorem sc_lost_by : FnScope N_lost_by ["lacking", "times", "risk"] (defScope s_lost_by) := ⟨rfl, rfl, rfl, by decide +kernel, rfl, by decide +kernel, by decide +kernel⟩
theorem dv_lost_by {f : Addr} {k : Nat} (b_range : mg "range" = none) (cdv : Value) (A : Around) (outer : List PySem.Env) (s : Shared) (H : Hp) (E : XK) (hr : Room k (A.deeper (envOfC "lost_by" (defScope s_lost_by) s.heap.objs.size f cdv))) (G : Gh) (hG : G.slots = []) :
    SDs (cxOf CX0 P w K mg base N_lost_by "lost_by" (defScope s_lost_by) f cdv A outer s H E).nox G (defBody s_lost_by) (tb_lost_by) := by
  unfold tb_lost_by
  exact sds_cons (sd_if (eb_cmp (od_eq hr.units) (ed_var 1) (ED.er (ed_int)) (nomark _)) (sds_one (sd_ret (ed_op od_mul (ed_var 0) (ED.er (ed_if (eb_tru (ED.er (ed_var 2))) (ed_int) (ed_int)))))) (sds_nil))
      (sds_cons (sd_set (ns hG (by decide)) sc_lost_by.nd rfl (by first | exact Or.inl rfl | exact Or.inr rfl) (ed_int))
      (sds_cons (sd_for (ms := [4]) PassesOwn.never rfl (id_range1 rfl b_range (ed_var 0)) (gd_name (ns hG (by decide)) (by decide) sc_lost_by.nd rfl (by first | exact Or.inl rfl | exact Or.inr rfl)) (sds_one (sd_if (eb_cmp (od_eq hr.units) (ed_var 4) (ED.er (ed_int)) (nomark _)) (sds_one (sd_set (ns hG (by decide)) sc_lost_by.nd rfl (by first | exact Or.inl rfl | exact Or.inr rfl) (ed_op od_add (ed_var 3) (ED.er (ed_if (eb_tru (ED.er (ed_var 2))) (ed_int) (ed_int)))))) (sds_one (sd_if (EW.eb (ew_and (eb_cmp od_lt (ed_var 4) (ED.er (ed_int)) (nomark _)) (ew_and1 (eb_not (eb_tru (ED.er (ed_var 2))))))) (sds_one (sd_set (ns hG (by decide)) sc_lost_by.nd rfl (by first | exact Or.inl rfl | exact Or.inr rfl) (ed_op od_add (ed_var 3) (ED.er (ed_int))))) (sds_one (sd_set (ns hG (by decide)) sc_lost_by.nd rfl (by first | exact Or.inl rfl | exact Or.inr rfl) (ed_op od_add (ed_var 3) (ED.er (ed_int))))))))))
      (sds_one (sd_ret (ed_op od_div (ed_op od_mul (ed_var 3) (ED.er (ed_var 1))) (ED.er (ed_int)))))))
abbrev s_paid : Stmt := topS 25
abbrev N_paid : List Str := ["ranks", "contract", "risk", "tricks", "more"]
theorem sc_paid : FnScope N_paid ["ranks", "contract", "risk", "tricks"] (defScope s_paid) := ⟨rfl, rfl, rfl, by decide +kernel, rfl, by decide +kernel, by decide +kernel⟩
theorem dv_paid {f : Addr} {k : Nat} {sp_won_by : SpD} {f_won_by : Addr} {fd_won_by : FuncData} {k_won_by : Nat} (C_won_by : FnOk P w K mg base CX0 k_won_by f_won_by fd_won_by ["ranks", "contract", "risk", "more"] (spL K sp_won_by)) (h_won_by : k_won_by ≤ k) (C_won_by_g : mg "won_by" = some (.ref f_won_by)) (C_won_by_k : PySem.W.keepIn K (.ref f_won_by) = true) (C_won_by_b : Binds K fd_won_by ["ranks", "contract", "risk", "more"] []) {sp_lost_by : SpD} {f_lost_by : Addr} {fd_lost_by : FuncData} {k_lost_by : Nat} (C_lost_by : FnOk P w K mg base CX0 k_lost_by f_lost_by fd_lost_by ["lacking", "times", "risk"] (spL K sp_lost_by)) (h_lost_by : k_lost_by ≤ k) (C_lost_by_g : mg "lost_by" = some (.ref f_lost_by)) (C_lost_by_k : PySem.W.keepIn K (.ref f_lost_by) = true) (C_lost_by_b : Binds K fd_lost_by ["lacking", "times", "risk"] []) {sp_book_of : SpD} {f_book_of : Addr} {fd_book_of : FuncData} {k_book_of : Nat} (C_book_of : FnOk P w K mg base CX0 k_book_of f_book_of fd_book_of ["ranks"] (spL K sp_book_of)) (h_book_of : k_book_of ≤ k) (C_book_of_g : mg "book_of" = some (.ref f_book_of)) (C_book_of_k : PySem.W.keepIn K (.ref f_book_of) = true) (C_book_of_b : Binds K fd_book_of ["ranks"] []) (cdv : Value) (A : Around) (outer : List PySem.Env) (s : Shared) (H : Hp) (E : XK) (hr : Room k (A.deeper (envOfC "paid" (defScope s_paid) s.heap.objs.size f cdv))) (G : Gh) (hG : G.slots = []) :
    SDs (cxOf CX0 P w K mg base N_paid "paid" (defScope s_paid) f cdv A outer s H E).nox G (defBody s_paid) (tb_paid sp_won_by sp_lost_by sp_book_of) := by
  unfold tb_paid
  exact sds_cons (sd_set (ns hG (by decide)) sc_paid.nd rfl (by first | exact Or.inl rfl | exact Or.inr rfl) (ed_op od_sub (ed_op od_sub (ed_var 3) (ED.er (ed_call C_book_of (hr.mono h_book_of) rfl C_book_of_g C_book_of_k C_book_of_b (ea_v (ed_var 0) (ea_nil))))) (ED.er (ed_ix (ed_var 1) (ed_int)))))
      (sds_cons (sd_if (eb_cmp od_lt (ed_var 4) (ED.er (ed_int)) (nomark _)) (sds_one (sd_ret (ed_un ud_neg (ED.er (ed_call C_lost_by (hr.mono h_lost_by) rfl C_lost_by_g C_lost_by_k C_lost_by_b (ea_v (ed_un ud_neg (ED.er (ed_var 4))) (ea_v (ed_ix (ed_var 1) (ed_int)) (ea_v (ed_var 2) (ea_nil))))))))) (sds_nil))
      (sds_one (sd_ret (ed_call C_won_by (hr.mono h_won_by) rfl C_won_by_g C_won_by_k C_won_by_b (ea_v (ed_var 0) (ea_v (ed_var 1) (ea_v (ed_var 2) (ea_v (ed_var 4) (ea_nil)))))))))
abbrev s_Table_score : Stmt := inClass (topS 34) 15
abbrev N_Table_score : List Str := ["self", "contract", "side", "got", "%o0"]
theorem sc_Table_score : FnScope N_Table_score ["self"] (defScope s_Table_score) := ⟨rfl, rfl, rfl, by decide +kernel, rfl, by decide +kernel, by decide +kernel⟩
theorem dv_Table_score {f : Addr} {k : Nat} {C : Addr} (cl : Cls K C) (na_risk : NoAttr K C "risk") (na_ranks : NoAttr K C "ranks") {sp_Table_tricks : SpO} {f_Table_tricks : Addr} {fd_Table_tricks : FuncData} {k_Table_tricks : Nat} (C_Table_tricks : FnOk P w K mg base CX0 k_Table_tricks f_Table_tricks fd_Table_tricks ["self"] (spO K sp_Table_tricks)) (h_Table_tricks : k_Table_tricks ≤ k) (me_Table_tricks : Meth K C "tricks" f_Table_tricks) (C_Table_tricks_b : Binds K fd_Table_tricks ["self"] []) {sp_paid : SpD} {f_paid : Addr} {fd_paid : FuncData} {k_paid : Nat} (C_paid : FnOk P w K mg base CX0 k_paid f_paid fd_paid ["ranks", "contract", "risk", "tricks"] (spL K sp_paid)) (h_paid : k_paid ≤ k) (C_paid_g : mg "paid" = some (.ref f_paid)) (C_paid_k : PySem.W.keepIn K (.ref f_paid) = true) (C_paid_b : Binds K fd_paid ["ranks", "contract", "risk", "tricks"] []) {sp_Table_contract : SpO} {f_Table_contract : Addr} {fd_Table_contract : FuncData} {k_Table_contract : Nat} (C_Table_contract : FnOk P w K mg base CX0 k_Table_contract f_Table_contract fd_Table_contract ["self"] (spO K sp_Table_contract)) (h_Table_contract : k_Table_contract ≤ k) (me_Table_contract : Meth K C "contract" f_Table_contract) (C_Table_contract_b : Binds K fd_Table_contract ["self"] []) {sp_Table_stage : SpO} {f_Table_stage : Addr} {fd_Table_stage : FuncData} {k_Table_stage : Nat} (C_Table_stage : FnOk P w K mg base CX0 k_Table_stage f_Table_stage fd_Table_stage ["self"] (spO K sp_Table_stage)) (h_Table_stage : k_Table_stage ≤ k) (me_Table_stage : Meth K C "stage" f_Table_stage) (C_Table_stage_b : Binds K fd_Table_stage ["self"] []) (cdv : Value) (A : Around) (outer : List PySem.Env) (s : Shared) (H : Hp) (E : XK) (hr : Room k (A.deeper (envOfC "Table.score" (defScope s_Table_score) s.heap.objs.size f cdv))) (G : Gh) (hG : G.slots = []) :
    SDs (cxOf CX0 P w K mg base N_Table_score "Table.score" (defScope s_Table_score) f cdv A outer s H E).nox G (defBody s_Table_score) (tb_Table_score C sp_Table_tricks sp_paid sp_Table_contract sp_Table_stage) := by
  unfold tb_Table_score
  exact sds_cons (sd_if (eb_cmp (od_ne hr.units) (ed_methO0 (ed_var 0) cl me_Table_stage C_Table_stage (hr.mono h_Table_stage) C_Table_stage_b) (ED.er (ed_str)) (nomark _)) (sds_one (sd_ret (ed_non))) (sds_nil))
      (sds_cons (sd_set (ns hG (by decide)) sc_Table_score.nd rfl (by first | exact Or.inl rfl | exact Or.inr rfl) (ed_methO0 (ed_var 0) cl me_Table_contract C_Table_contract (hr.mono h_Table_contract) C_Table_contract_b))
      (sds_cons (sd_if (eb_cmp od_is (ed_var 1) (ED.er (ed_non)) (nomark _)) (sds_one (sd_ret (ed_int))) (sds_nil))
      (sds_cons (sd_set (ns hG (by decide)) sc_Table_score.nd rfl (by first | exact Or.inl rfl | exact Or.inr rfl) (ed_op od_mod (ed_ix (ed_var 1) (ed_int)) (ED.er (ed_int))))
      (sds_cons (sd_set (ns hG (by decide)) sc_Table_score.nd rfl (by first | exact Or.inl rfl | exact Or.inr rfl) (ed_call C_paid (hr.mono h_paid) rfl C_paid_g C_paid_k C_paid_b (ea_v (ed_fld 0 cl na_ranks) (ea_v (ed_var 1) (ea_v (ed_ix (ed_fld 0 cl na_risk) (ed_var 2)) (ea_v (ed_ix (ed_methO0 (ed_var 0) cl me_Table_tricks C_Table_tricks (hr.mono h_Table_tricks) C_Table_tricks_b) (ed_var 2)) (ea_nil)))))))
      (sds_one (sd_ret (ed_if (eb_cmp (od_eq hr.units) (ed_var 2) (ED.er (ed_int)) (nomark _)) (ed_var 3) (ed_un ud_neg (ED.er (ed_var 3))))))))))
abbrev s_Table_turn : Stmt := inClass (topS 34) 8
abbrev N_Table_turn : List Str := ["self", "calls", "cards", "claimed", "stage", "%o0"]
theorem sc_Table_turn : FnScope N_Table_turn ["self"] (defScope s_Table_turn) := ⟨rfl, rfl, rfl, by decide +kernel, rfl, by decide +kernel, by decide +kernel⟩
theorem dv_Table_turn {f : Addr} {k : Nat} (b_len : mg "len" = none) {C : Addr} (cl : Cls K C) (na_deal : NoAttr K C "deal") (na_dealer : NoAttr K C "dealer") (na_state : NoAttr K C "state") {sp_Table_leader : SpO} {f_Table_leader : Addr} {fd_Table_leader : FuncData} {k_Table_leader : Nat} (C_Table_leader : FnOk P w K mg base CX0 k_Table_leader f_Table_leader fd_Table_leader ["self"] (spO K sp_Table_leader)) (h_Table_leader : k_Table_leader ≤ k) (me_Table_leader : Meth K C "leader" f_Table_leader) (C_Table_leader_b : Binds K fd_Table_leader ["self"] []) {sp_Table_contract : SpO} {f_Table_contract : Addr} {fd_Table_contract : FuncData} {k_Table_contract : Nat} (C_Table_contract : FnOk P w K mg base CX0 k_Table_contract f_Table_contract fd_Table_contract ["self"] (spO K sp_Table_contract)) (h_Table_contract : k_Table_contract ≤ k) (me_Table_contract : Meth K C "contract" f_Table_contract) (C_Table_contract_b : Binds K fd_Table_contract ["self"] []) {sp_turn_of : SpD} {f_turn_of : Addr} {fd_turn_of : FuncData} {k_turn_of : Nat} (C_turn_of : FnOk P w K mg base CX0 k_turn_of f_turn_of fd_turn_of ["deal", "strain", "leader", "cards"] (spL K sp_turn_of)) (h_turn_of : k_turn_of ≤ k) (C_turn_of_g : mg "turn_of" = some (.ref f_turn_of)) (C_turn_of_k : PySem.W.keepIn K (.ref f_turn_of) = true) (C_turn_of_b : Binds K fd_turn_of ["deal", "strain", "leader", "cards"] []) {sp_Table_stage : SpO} {f_Table_stage : Addr} {fd_Table_stage : FuncData} {k_Table_stage : Nat} (C_Table_stage : FnOk P w K mg base CX0 k_Table_stage f_Table_stage fd_Table_stage ["self"] (spO K sp_Table_stage)) (h_Table_stage : k_Table_stage ≤ k) (me_Table_stage : Meth K C "stage" f_Table_stage) (C_Table_stage_b : Binds K fd_Table_stage ["self"] []) (cdv : Value) (A : Around) (outer : List PySem.Env) (s : Shared) (H : Hp) (E : XK) (hr : Room k (A.deeper (envOfC "Table.turn" (defScope s_Table_turn) s.heap.objs.size f cdv))) (G : Gh) (hG : G.slots = []) :
    SDs (cxOf CX0 P w K mg base N_Table_turn "Table.turn" (defScope s_Table_turn) f cdv A outer s H E).nox G (defBody s_Table_turn) (tb_Table_turn C sp_Table_leader sp_Table_contract sp_turn_of sp_Table_stage) := by
  unfold tb_Table_turn
  exact sds_cons (sd_asg (ms := [1, 2, 3]) (ed_fld 0 cl na_state) (gd_tup rfl (gds_cons (gd_name (ns hG (by decide)) (by decide) sc_Table_turn.nd rfl (by first | exact Or.inl rfl | exact Or.inr rfl)) (gds_cons (gd_name (ns hG (by decide)) (by decide) sc_Table_turn.nd rfl (by first | exact Or.inl rfl | exact Or.inr rfl)) (gds_cons (gd_name (ns hG (by decide)) (by decide) sc_Table_turn.nd rfl (by first | exact Or.inl rfl | exact Or.inr rfl)) (gds_nil))))))
      (sds_cons (sd_set (ns hG (by decide)) sc_Table_turn.nd rfl (by first | exact Or.inl rfl | exact Or.inr rfl) (ed_methO0 (ed_var 0) cl me_Table_stage C_Table_stage (hr.mono h_Table_stage) C_Table_stage_b))
      (sds_cons (sd_if (eb_cmp (od_eq hr.units) (ed_var 4) (ED.er (ed_str)) (nomark _)) (sds_one (sd_ret (ed_op od_mod (ed_op od_add (ed_fld 0 cl na_dealer) (ED.er (ed_ca1 cd_len (ED.er (ed_var 1)) rfl b_len bb_len))) (ED.er (ed_int))))) (sds_nil))
      (sds_cons (sd_if (eb_cmp (od_eq hr.units) (ed_var 4) (ED.er (ed_str)) (nomark _)) (sds_one (sd_ret (ed_call C_turn_of (hr.mono h_turn_of) rfl C_turn_of_g C_turn_of_k C_turn_of_b (ea_v (ed_fld 0 cl na_deal) (ea_v (ed_ix (ed_methO0 (ed_var 0) cl me_Table_contract C_Table_contract (hr.mono h_Table_contract) C_Table_contract_b) (ed_int)) (ea_v (ed_methO0 (ed_var 0) cl me_Table_leader C_Table_leader (hr.mono h_Table_leader) C_Table_leader_b) (ea_v (ed_var 2) (ea_nil)))))))) (sds_nil))
      (sds_one (sd_ret (ed_non))))))
abbrev s_Table_become : Stmt := inClass (topS 34) 4
abbrev N_Table_become : List Str := ["self", "state", "deed", "%o0"]
theorem sc_Table_become : FnScope N_Table_become ["self", "state", "deed"] (defScope s_Table_become) := ⟨rfl, rfl, rfl, by decide +kernel, rfl, by decide +kernel, by decide +kernel⟩
theorem dv_Table_become {f : Addr} {k : Nat} {C : Addr} (cl : Cls K C) (na_undone : NoAttr K C "undone") (na_state : NoAttr K C "state") (na_done : NoAttr K C "done") (cdv : Value) (A : Around) (outer : List PySem.Env) (s : Shared) (H : Hp) (E : XK) (hr : Room k (A.deeper (envOfC "Table.become" (defScope s_Table_become) s.heap.objs.size f cdv))) (G : Gh) (hG : G.slots = []) :
    SDs (cxOf CX0 P w K mg base N_Table_become "Table.become" (defScope s_Table_become) f cdv A outer s H E).nox G (defBody s_Table_become) (tb_Table_become C) := by
  unfold tb_Table_become
  exact sds_cons (sd_expr (ed_appF 0 2 cl na_done na_state))
      (sds_cons (sd_fld 0 cl na_state (ed_var 1))
      (sds_one (sd_fldL 0 cl na_undone (el_lst (eds_nil)))))
abbrev s_is_whole : Stmt := topS 1
abbrev N_is_whole : List Str := ["thing"]
theorem sc_is_whole : FnScope N_is_whole ["thing"] (defScope s_is_whole) := ⟨rfl, rfl, rfl, by decide +kernel, rfl, by decide +kernel, by decide +kernel⟩
theorem dv_is_whole {f : Addr} {k : Nat} (b_isinstance : mg "isinstance" = none) (b_int : mg "int" = none) (b_bool : mg "bool" = none) (cdv : Value) (A : Around) (outer : List PySem.Env) (s : Shared) (H : Hp) (E : XK) (hr : Room k (A.deeper (envOfC "is_whole" (defScope s_is_whole) s.heap.objs.size f cdv))) (G : Gh) (hG : G.slots = []) :
    SDs (cxOf CX0 P w K mg base N_is_whole "is_whole" (defScope s_is_whole) f cdv A outer s H E).nox G (defBody s_is_whole) (tb_is_whole) := by
  unfold tb_is_whole
  exact sds_one (sd_ret (ed_and (ed_isi isi_int (ed_var 0) rfl b_isinstance rfl b_int bb_int) (ed_one (ed_not (ed_isi isi_bool (ed_var 0) rfl b_isinstance rfl b_bool bb_bool)))))
abbrev s_is_bid : Stmt := topS 3
abbrev N_is_bid : List Str := ["levels", "thing"]
theorem sc_is_bid : FnScope N_is_bid ["levels", "thing"] (defScope s_is_bid) := ⟨rfl, rfl, rfl, by decide +kernel, rfl, by decide +kernel, by decide +kernel⟩
theorem dv_is_bid {f : Addr} {k : Nat} (b_isinstance : mg "isinstance" = none) (b_tuple : mg "tuple" = none) (b_len : mg "len" = none) {sp_is_whole : SpD} {f_is_whole : Addr} {fd_is_whole : FuncData} {k_is_whole : Nat} (C_is_whole : FnOk P w K mg base CX0 k_is_whole f_is_whole fd_is_whole ["thing"] (spL K sp_is_whole)) (h_is_whole : k_is_whole ≤ k) (C_is_whole_g : mg "is_whole" = some (.ref f_is_whole)) (C_is_whole_k : PySem.W.keepIn K (.ref f_is_whole) = true) (C_is_whole_b : Binds K fd_is_whole ["thing"] []) (cdv : Value) (A : Around) (outer : List PySem.Env) (s : Shared) (H : Hp) (E : XK) (hr : Room k (A.deeper (envOfC "is_bid" (defScope s_is_bid) s.heap.objs.size f cdv))) (G : Gh) (hG : G.slots = []) :
    SDs (cxOf CX0 P w K mg base N_is_bid "is_bid" (defScope s_is_bid) f cdv A outer s H E).nox G (defBody s_is_bid) (tb_is_bid sp_is_whole) := by
  unfold tb_is_bid
  exact sds_cons (sd_if (EW.eb (ew_or (eb_not (eb_tru (ED.er (ed_isi isi_tuple (ed_var 1) rfl b_isinstance rfl b_tuple bb_tuple)))) (ew_or (eb_cmp (od_ne hr.units) (ed_ca1 cd_len (ED.er (ed_var 1)) rfl b_len bb_len) (ED.er (ed_int)) (nomark _)) (ew_or (eb_not (eb_tru (ED.er (ed_call C_is_whole (hr.mono h_is_whole) rfl C_is_whole_g C_is_whole_k C_is_whole_b (ea_v (ed_ix (ed_var 1) (ed_int)) (ea_nil)))))) (ew_or1 (eb_not (eb_tru (ED.er (ed_call C_is_whole (hr.mono h_is_whole) rfl C_is_whole_g C_is_whole_k C_is_whole_b (ea_v (ed_ix (ed_var 1) (ed_int)) (ea_nil))))))))))) (sds_one (sd_ret (ed_bl))) (sds_nil))
      (sds_one (sd_ret (ed_and (ed_chain od_le od_le (ed_int) (ed_ix (ed_var 1) (ed_int)) (ed_var 0)) (ed_one (ed_chain od_le od_le (ed_int) (ed_ix (ed_var 1) (ed_int)) (ed_int))))))
abbrev s_is_call : Stmt := topS 4
abbrev N_is_call : List Str := ["levels", "thing"]
theorem sc_is_call : FnScope N_is_call ["levels", "thing"] (defScope s_is_call) := ⟨rfl, rfl, rfl, by decide +kernel, rfl, by decide +kernel, by decide +kernel⟩
theorem dv_is_call {f : Addr} {k : Nat} (b_isinstance : mg "isinstance" = none) (b_str : mg "str" = none) {sp_is_bid : SpD} {f_is_bid : Addr} {fd_is_bid : FuncData} {k_is_bid : Nat} (C_is_bid : FnOk P w K mg base CX0 k_is_bid f_is_bid fd_is_bid ["levels", "thing"] (spL K sp_is_bid)) (h_is_bid : k_is_bid ≤ k) (C_is_bid_g : mg "is_bid" = some (.ref f_is_bid)) (C_is_bid_k : PySem.W.keepIn K (.ref f_is_bid) = true) (C_is_bid_b : Binds K fd_is_bid ["levels", "thing"] []) (cdv : Value) (A : Around) (outer : List PySem.Env) (s : Shared) (H : Hp) (E : XK) (hr : Room k (A.deeper (envOfC "is_call" (defScope s_is_call) s.heap.objs.size f cdv))) (G : Gh) (hG : G.slots = []) :
    SDs (cxOf CX0 P w K mg base N_is_call "is_call" (defScope s_is_call) f cdv A outer s H E).nox G (defBody s_is_call) (tb_is_call sp_is_bid) := by
  unfold tb_is_call
  exact sds_cons (sd_if (eb_tru (ED.er (ed_isi isi_str (ed_var 1) rfl b_isinstance rfl b_str bb_str))) (sds_one (sd_ret (ed_cmp (od_in (u65 hr)) (ed_var 1) (ED.er (ed_tup (eds_cons (ed_str) (eds_cons (ed_str) (eds_cons (ed_str) (eds_nil)))))) rfl))) (sds_nil))
      (sds_one (sd_ret (ed_call C_is_bid (hr.mono h_is_bid) rfl C_is_bid_g C_is_bid_k C_is_bid_b (ea_v (ed_var 0) (ea_v (ed_var 1) (ea_nil))))))
abbrev s_Table_call : Stmt := inClass (topS 34) 10
abbrev N_Table_call : List Str := ["self", "call", "calls", "cards", "claimed", "%o0"]
theorem sc_Table_call : FnScope N_Table_call ["self", "call"] (defScope s_Table_call) := ⟨rfl, rfl, rfl, by decide +kernel, rfl, by decide +kernel, by decide +kernel⟩
theorem dv_Table_call {f : Addr} {k : Nat} {C : Addr} (cl : Cls K C) (na_ranks : NoAttr K C "ranks") (na_state : NoAttr K C "state") {sp_Table_become : SpO} {f_Table_become : Addr} {fd_Table_become : FuncData} {k_Table_become : Nat} (C_Table_become : FnOk P w K mg base CX0 k_Table_become f_Table_become fd_Table_become ["self", "state", "deed"] (spO K sp_Table_become)) (h_Table_become : k_Table_become ≤ k) (me_Table_become : Meth K C "become" f_Table_become) (C_Table_become_b : Binds K fd_Table_become ["self", "state", "deed"] []) {sp_levels_of : SpD} {f_levels_of : Addr} {fd_levels_of : FuncData} {k_levels_of : Nat} (C_levels_of : FnOk P w K mg base CX0 k_levels_of f_levels_of fd_levels_of ["ranks"] (spL K sp_levels_of)) (h_levels_of : k_levels_of ≤ k) (C_levels_of_g : mg "levels_of" = some (.ref f_levels_of)) (C_levels_of_k : PySem.W.keepIn K (.ref f_levels_of) = true) (C_levels_of_b : Binds K fd_levels_of ["ranks"] []) {sp_is_call : SpD} {f_is_call : Addr} {fd_is_call : FuncData} {k_is_call : Nat} (C_is_call : FnOk P w K mg base CX0 k_is_call f_is_call fd_is_call ["levels", "thing"] (spL K sp_is_call)) (h_is_call : k_is_call ≤ k) (C_is_call_g : mg "is_call" = some (.ref f_is_call)) (C_is_call_k : PySem.W.keepIn K (.ref f_is_call) = true) (C_is_call_b : Binds K fd_is_call ["levels", "thing"] []) {sp_Table_may : SpO} {f_Table_may : Addr} {fd_Table_may : FuncData} {k_Table_may : Nat} (C_Table_may : FnOk P w K mg base CX0 k_Table_may f_Table_may fd_Table_may ["self"] (spO K sp_Table_may)) (h_Table_may : k_Table_may ≤ k) (me_Table_may : Meth K C "may" f_Table_may) (C_Table_may_b : Binds K fd_Table_may ["self"] []) {sp_is_over : SpD} {f_is_over : Addr} {fd_is_over : FuncData} {k_is_over : Nat} (C_is_over : FnOk P w K mg base CX0 k_is_over f_is_over fd_is_over ["calls"] (spL K sp_is_over)) (h_is_over : k_is_over ≤ k) (C_is_over_g : mg "is_over" = some (.ref f_is_over)) (C_is_over_k : PySem.W.keepIn K (.ref f_is_over) = true) (C_is_over_b : Binds K fd_is_over ["calls"] []) {A_BadCall : Addr} (x_BadCall : PySem.W.excIn K A_BadCall [.type "ValueError", .type "Exception", .type "BaseException", .type "object"] "ValueError.__new__" = true) (g_BadCall : mg "BadCall" = some (.ref A_BadCall)) (k_BadCall : PySem.W.keepIn K (.ref A_BadCall) = true) (b_BadCall : PySem.W.subIn K (.ref A_BadCall) (.type "BaseException") = some true) (t_BadCall : PySem.W.typeIn K (.ref A_BadCall) = some (.type "type")) {A_Over : Addr} (x_Over : PySem.W.excIn K A_Over [.type "ValueError", .type "Exception", .type "BaseException", .type "object"] "ValueError.__new__" = true) (g_Over : mg "Over" = some (.ref A_Over)) (k_Over : PySem.W.keepIn K (.ref A_Over) = true) (b_Over : PySem.W.subIn K (.ref A_Over) (.type "BaseException") = some true) (t_Over : PySem.W.typeIn K (.ref A_Over) = some (.type "type")) (cdv : Value) (A : Around) (outer : List PySem.Env) (s : Shared) (H : Hp) (E : XK) (hr : Room k (A.deeper (envOfC "Table.call" (defScope s_Table_call) s.heap.objs.size f cdv))) (G : Gh) (hG : G.slots = []) (WD : WDt) (hW : Wish K G WD (fun cls d _ H' => E cls d H')) :
    SDs (cxOf (L2.CX P w) P w K mg base N_Table_call "Table.call" (defScope s_Table_call) f cdv A outer s H E) G (defBody s_Table_call) (tb_Table_call C sp_Table_become sp_levels_of sp_is_call sp_Table_may sp_is_over (.ref A_BadCall) (.ref A_Over) WD) := by
  unfold tb_Table_call
  exact sds_cons (sd_asg (ms := [2, 3, 4]) (ed_fld 0 cl na_state) (gd_tup rfl (gds_cons (gd_name (ns hG (by decide)) (by decide) sc_Table_call.nd rfl (by first | exact Or.inl rfl | exact Or.inr rfl)) (gds_cons (gd_name (ns hG (by decide)) (by decide) sc_Table_call.nd rfl (by first | exact Or.inl rfl | exact Or.inr rfl)) (gds_cons (gd_name (ns hG (by decide)) (by decide) sc_Table_call.nd rfl (by first | exact Or.inl rfl | exact Or.inr rfl)) (gds_nil))))))
      (sds_cons (sd_if (eb_tru (ED.er (ed_call C_is_over (hr.mono h_is_over) rfl C_is_over_g C_is_over_k C_is_over_b (ea_v (ed_var 2) (ea_nil))))) (sds_one (sd_raise rfl (takes_of rfl rfl rfl rfl) hW (pmk_own0 PySem.F.excBase_ValueError x_Over g_Over k_Over (raises_own b_Over t_Over) rfl))) (sds_nil))
      (sds_cons (sd_if (EW.eb (ew_or (eb_not (eb_tru (ED.er (ed_call C_is_call (hr.mono h_is_call) rfl C_is_call_g C_is_call_k C_is_call_b (ea_v (ed_call C_levels_of (hr.mono h_levels_of) rfl C_levels_of_g C_levels_of_k C_levels_of_b (ea_v (ed_fld 0 cl na_ranks) (ea_nil))) (ea_v (ed_var 1) (ea_nil))))))) (ew_or1 (eb_cmp (od_notIn (u65 hr)) (ed_var 1) (ED.er (ed_methO0 (ed_var 0) cl me_Table_may C_Table_may (hr.mono h_Table_may) C_Table_may_b)) rfl)))) (sds_one (sd_raise rfl (takes_of rfl rfl rfl rfl) hW (pmk_own0 PySem.F.excBase_ValueError x_BadCall g_BadCall k_BadCall (raises_own b_BadCall t_BadCall) rfl))) (sds_nil))
      (SDs.nox (sds_one (sd_expr (ed_methO (ed_var 0) cl me_Table_become C_Table_become (hr.mono h_Table_become) C_Table_become_b (eds_cons (ed_tup (eds_cons (ed_op od_add (ed_var 2) (ED.er (ed_tup (eds_cons (ed_var 1) (eds_nil))))) (eds_cons (ed_var 3) (eds_cons (ed_var 4) (eds_nil))))) (eds_cons (ed_tup (eds_cons (ed_str) (eds_cons (ed_var 1) (eds_nil)))) (eds_nil)))))))))
abbrev s_Table_must_play : Stmt := inClass (topS 34) 11
abbrev N_Table_must_play : List Str := ["self", "%o0"]
theorem sc_Table_must_play : FnScope N_Table_must_play ["self"] (defScope s_Table_must_play) := ⟨rfl, rfl, rfl, by decide +kernel, rfl, by decide +kernel, by decide +kernel⟩
theorem dv_Table_must_play {f : Addr} {k : Nat} {C : Addr} (cl : Cls K C) {sp_Table_stage : SpO} {f_Table_stage : Addr} {fd_Table_stage : FuncData} {k_Table_stage : Nat} (C_Table_stage : FnOk P w K mg base CX0 k_Table_stage f_Table_stage fd_Table_stage ["self"] (spO K sp_Table_stage)) (h_Table_stage : k_Table_stage ≤ k) (me_Table_stage : Meth K C "stage" f_Table_stage) (C_Table_stage_b : Binds K fd_Table_stage ["self"] []) {sp_Table_contract : SpO} {f_Table_contract : Addr} {fd_Table_contract : FuncData} {k_Table_contract : Nat} (C_Table_contract : FnOk P w K mg base CX0 k_Table_contract f_Table_contract fd_Table_contract ["self"] (spO K sp_Table_contract)) (h_Table_contract : k_Table_contract ≤ k) (me_Table_contract : Meth K C "contract" f_Table_contract) (C_Table_contract_b : Binds K fd_Table_contract ["self"] []) {A_Over : Addr} (x_Over : PySem.W.excIn K A_Over [.type "ValueError", .type "Exception", .type "BaseException", .type "object"] "ValueError.__new__" = true) (g_Over : mg "Over" = some (.ref A_Over)) (k_Over : PySem.W.keepIn K (.ref A_Over) = true) (b_Over : PySem.W.subIn K (.ref A_Over) (.type "BaseException") = some true) (t_Over : PySem.W.typeIn K (.ref A_Over) = some (.type "type")) {A_NotNow : Addr} (x_NotNow : PySem.W.excIn K A_NotNow [.type "ValueError", .type "Exception", .type "BaseException", .type "object"] "ValueError.__new__" = true) (g_NotNow : mg "NotNow" = some (.ref A_NotNow)) (k_NotNow : PySem.W.keepIn K (.ref A_NotNow) = true) (b_NotNow : PySem.W.subIn K (.ref A_NotNow) (.type "BaseException") = some true) (t_NotNow : PySem.W.typeIn K (.ref A_NotNow) = some (.type "type")) (cdv : Value) (A : Around) (outer : List PySem.Env) (s : Shared) (H : Hp) (E : XK) (hr : Room k (A.deeper (envOfC "Table.must_play" (defScope s_Table_must_play) s.heap.objs.size f cdv))) (G : Gh) (hG : G.slots = []) (WD : WDt) (hW : Wish K G WD (fun cls d _ H' => E cls d H')) :
    SDs (cxOf (L2.CX P w) P w K mg base N_Table_must_play "Table.must_play" (defScope s_Table_must_play) f cdv A outer s H E) G (defBody s_Table_must_play) (tb_Table_must_play C sp_Table_stage sp_Table_contract (.ref A_Over) (.ref A_NotNow) WD) := by
  unfold tb_Table_must_play
  exact sds_cons (sd_if (eb_cmp od_is (ed_methO0 (ed_var 0) cl me_Table_contract C_Table_contract (hr.mono h_Table_contract) C_Table_contract_b) (ED.er (ed_non)) (nomark _)) (sds_one (sd_raise rfl (takes_of rfl rfl rfl rfl) hW (pmk_own0 PySem.F.excBase_ValueError x_NotNow g_NotNow k_NotNow (raises_own b_NotNow t_NotNow) rfl))) (sds_nil))
      (sds_one (sd_if (eb_cmp (od_eq hr.units) (ed_methO0 (ed_var 0) cl me_Table_stage C_Table_stage (hr.mono h_Table_stage) C_Table_stage_b) (ED.er (ed_str)) (nomark _)) (sds_one (sd_raise rfl (takes_of rfl rfl rfl rfl) hW (pmk_own0 PySem.F.excBase_ValueError x_Over g_Over k_Over (raises_own b_Over t_Over) rfl))) (sds_nil)))
abbrev s_Table_play : Stmt := inClass (topS 34) 12
abbrev N_Table_play : List Str := ["self", "card", "calls", "cards", "claimed", "%o0"]
theorem sc_Table_play : FnScope N_Table_play ["self", "card"] (defScope s_Table_play) := ⟨rfl, rfl, rfl, by decide +kernel, rfl, by decide +kernel, by decide +kernel⟩
theorem dv_Table_play {f : Addr} {k : Nat} {C : Addr} (cl : Cls K C) (na_state : NoAttr K C "state") {sp_Table_become : SpO} {f_Table_become : Addr} {fd_Table_become : FuncData} {k_Table_become : Nat} (C_Table_become : FnOk P w K mg base CX0 k_Table_become f_Table_become fd_Table_become ["self", "state", "deed"] (spO K sp_Table_become)) (h_Table_become : k_Table_become ≤ k) (me_Table_become : Meth K C "become" f_Table_become) (C_Table_become_b : Binds K fd_Table_become ["self", "state", "deed"] []) {sp_Table_may : SpO} {f_Table_may : Addr} {fd_Table_may : FuncData} {k_Table_may : Nat} (C_Table_may : FnOk P w K mg base CX0 k_Table_may f_Table_may fd_Table_may ["self"] (spO K sp_Table_may)) (h_Table_may : k_Table_may ≤ k) (me_Table_may : Meth K C "may" f_Table_may) (C_Table_may_b : Binds K fd_Table_may ["self"] []) {sp_Table_must_play : SpO} {f_Table_must_play : Addr} {fd_Table_must_play : FuncData} {k_Table_must_play : Nat} (C_Table_must_play : FnOk P w K mg base (L2.CX P w) k_Table_must_play f_Table_must_play fd_Table_must_play ["self"] (spO K sp_Table_must_play)) (h_Table_must_play : k_Table_must_play ≤ k) (me_Table_must_play : Meth K C "must_play" f_Table_must_play) (C_Table_must_play_b : Binds K fd_Table_must_play ["self"] []) {A_BadCard : Addr} (x_BadCard : PySem.W.excIn K A_BadCard [.type "ValueError", .type "Exception", .type "BaseException", .type "object"] "ValueError.__new__" = true) (g_BadCard : mg "BadCard" = some (.ref A_BadCard)) (k_BadCard : PySem.W.keepIn K (.ref A_BadCard) = true) (b_BadCard : PySem.W.subIn K (.ref A_BadCard) (.type "BaseException") = some true) (t_BadCard : PySem.W.typeIn K (.ref A_BadCard) = some (.type "type")) (cdv : Value) (A : Around) (outer : List PySem.Env) (s : Shared) (H : Hp) (E : XK) (hr : Room k (A.deeper (envOfC "Table.play" (defScope s_Table_play) s.heap.objs.size f cdv))) (G : Gh) (hG : G.slots = []) (WD : WDt) (hW : Wish K G WD (fun cls d _ H' => E cls d H')) :
    SDs (cxOf (L2.CX P w) P w K mg base N_Table_play "Table.play" (defScope s_Table_play) f cdv A outer s H E) G (defBody s_Table_play) (tb_Table_play C sp_Table_become sp_Table_may sp_Table_must_play (.ref A_BadCard) WD) := by
  unfold tb_Table_play
  exact sds_cons (sd_asg (ms := [2, 3, 4]) (ed_fld 0 cl na_state) (gd_tup rfl (gds_cons (gd_name (ns hG (by decide)) (by decide) sc_Table_play.nd rfl (by first | exact Or.inl rfl | exact Or.inr rfl)) (gds_cons (gd_name (ns hG (by decide)) (by decide) sc_Table_play.nd rfl (by first | exact Or.inl rfl | exact Or.inr rfl)) (gds_cons (gd_name (ns hG (by decide)) (by decide) sc_Table_play.nd rfl (by first | exact Or.inl rfl | exact Or.inr rfl)) (gds_nil))))))
      (sds_cons (sd_expr (ed_methOX0 (ed_var 0) cl me_Table_must_play C_Table_must_play (takes_of rfl rfl rfl rfl) hW (hr.mono h_Table_must_play) C_Table_must_play_b))
      (sds_cons (sd_if (eb_cmp (od_notIn (u65 hr)) (ed_var 1) (ED.er (ed_methO0 (ed_var 0) cl me_Table_may C_Table_may (hr.mono h_Table_may) C_Table_may_b)) rfl) (sds_one (sd_raise rfl (takes_of rfl rfl rfl rfl) hW (pmk_own0 PySem.F.excBase_ValueError x_BadCard g_BadCard k_BadCard (raises_own b_BadCard t_BadCard) rfl))) (sds_nil))
      (SDs.nox (sds_one (sd_expr (ed_methO (ed_var 0) cl me_Table_become C_Table_become (hr.mono h_Table_become) C_Table_become_b (eds_cons (ed_tup (eds_cons (ed_var 2) (eds_cons (ed_op od_add (ed_var 3) (ED.er (ed_tup (eds_cons (ed_var 1) (eds_nil))))) (eds_cons (ed_var 4) (eds_nil))))) (eds_cons (ed_tup (eds_cons (ed_str) (eds_cons (ed_var 1) (eds_nil)))) (eds_nil)))))))))
abbrev s_Table_claim : Stmt := inClass (topS 34) 13
abbrev N_Table_claim : List Str := ["self", "tricks", "calls", "cards", "claimed", "side", "won", "%o0"]
theorem sc_Table_claim : FnScope N_Table_claim ["self", "tricks"] (defScope s_Table_claim) := ⟨rfl, rfl, rfl, by decide +kernel, rfl, by decide +kernel, by decide +kernel⟩
theorem dv_Table_claim {f : Addr} {k : Nat} {C : Addr} (cl : Cls K C) (na_ranks : NoAttr K C "ranks") (na_state : NoAttr K C "state") {sp_Table_become : SpO} {f_Table_become : Addr} {fd_Table_become : FuncData} {k_Table_become : Nat} (C_Table_become : FnOk P w K mg base CX0 k_Table_become f_Table_become fd_Table_become ["self", "state", "deed"] (spO K sp_Table_become)) (h_Table_become : k_Table_become ≤ k) (me_Table_become : Meth K C "become" f_Table_become) (C_Table_become_b : Binds K fd_Table_become ["self", "state", "deed"] []) {sp_Table_tricks : SpO} {f_Table_tricks : Addr} {fd_Table_tricks : FuncData} {k_Table_tricks : Nat} (C_Table_tricks : FnOk P w K mg base CX0 k_Table_tricks f_Table_tricks fd_Table_tricks ["self"] (spO K sp_Table_tricks)) (h_Table_tricks : k_Table_tricks ≤ k) (me_Table_tricks : Meth K C "tricks" f_Table_tricks) (C_Table_tricks_b : Binds K fd_Table_tricks ["self"] []) {sp_Table_contract : SpO} {f_Table_contract : Addr} {fd_Table_contract : FuncData} {k_Table_contract : Nat} (C_Table_contract : FnOk P w K mg base CX0 k_Table_contract f_Table_contract fd_Table_contract ["self"] (spO K sp_Table_contract)) (h_Table_contract : k_Table_contract ≤ k) (me_Table_contract : Meth K C "contract" f_Table_contract) (C_Table_contract_b : Binds K fd_Table_contract ["self"] []) {sp_Table_must_play : SpO} {f_Table_must_play : Addr} {fd_Table_must_play : FuncData} {k_Table_must_play : Nat} (C_Table_must_play : FnOk P w K mg base (L2.CX P w) k_Table_must_play f_Table_must_play fd_Table_must_play ["self"] (spO K sp_Table_must_play)) (h_Table_must_play : k_Table_must_play ≤ k) (me_Table_must_play : Meth K C "must_play" f_Table_must_play) (C_Table_must_play_b : Binds K fd_Table_must_play ["self"] []) {A_BadClaim : Addr} (x_BadClaim : PySem.W.excIn K A_BadClaim [.type "ValueError", .type "Exception", .type "BaseException", .type "object"] "ValueError.__new__" = true) (g_BadClaim : mg "BadClaim" = some (.ref A_BadClaim)) (k_BadClaim : PySem.W.keepIn K (.ref A_BadClaim) = true) (b_BadClaim : PySem.W.subIn K (.ref A_BadClaim) (.type "BaseException") = some true) (t_BadClaim : PySem.W.typeIn K (.ref A_BadClaim) = some (.type "type")) (cdv : Value) (A : Around) (outer : List PySem.Env) (s : Shared) (H : Hp) (E : XK) (hr : Room k (A.deeper (envOfC "Table.claim" (defScope s_Table_claim) s.heap.objs.size f cdv))) (G : Gh) (hG : G.slots = []) (WD : WDt) (hW : Wish K G WD (fun cls d _ H' => E cls d H')) :
    SDs (cxOf (L2.CX P w) P w K mg base N_Table_claim "Table.claim" (defScope s_Table_claim) f cdv A outer s H E) G (defBody s_Table_claim) (tb_Table_claim C sp_Table_become sp_Table_tricks sp_Table_contract sp_Table_must_play (.ref A_BadClaim) WD) := by
  unfold tb_Table_claim
  exact sds_cons (sd_asg (ms := [2, 3, 4]) (ed_fld 0 cl na_state) (gd_tup rfl (gds_cons (gd_name (ns hG (by decide)) (by decide) sc_Table_claim.nd rfl (by first | exact Or.inl rfl | exact Or.inr rfl)) (gds_cons (gd_name (ns hG (by decide)) (by decide) sc_Table_claim.nd rfl (by first | exact Or.inl rfl | exact Or.inr rfl)) (gds_cons (gd_name (ns hG (by decide)) (by decide) sc_Table_claim.nd rfl (by first | exact Or.inl rfl | exact Or.inr rfl)) (gds_nil))))))
      (sds_cons (sd_expr (ed_methOX0 (ed_var 0) cl me_Table_must_play C_Table_must_play (takes_of rfl rfl rfl rfl) hW (hr.mono h_Table_must_play) C_Table_must_play_b))
      (sds_cons (sd_set (ns hG (by decide)) sc_Table_claim.nd rfl (by first | exact Or.inl rfl | exact Or.inr rfl) (ed_op od_mod (ed_ix (ed_methO0 (ed_var 0) cl me_Table_contract C_Table_contract (hr.mono h_Table_contract) C_Table_contract_b) (ed_int)) (ED.er (ed_int))))
      (sds_cons (sd_set (ns hG (by decide)) sc_Table_claim.nd rfl (by first | exact Or.inl rfl | exact Or.inr rfl) (ed_methO0 (ed_var 0) cl me_Table_tricks C_Table_tricks (hr.mono h_Table_tricks) C_Table_tricks_b))
      (sds_cons (sd_if (eb_not (eb_chain od_le od_le (ed_ix (ed_var 6) (ed_var 5)) (ed_var 1) (ed_op od_sub (ed_fld 0 cl na_ranks) (ED.er (ed_ix (ed_var 6) (ed_op od_sub (ed_int) (ED.er (ed_var 5)))))))) (sds_one (sd_raise rfl (takes_of rfl rfl rfl rfl) hW (pmk_own0 PySem.F.excBase_ValueError x_BadClaim g_BadClaim k_BadClaim (raises_own b_BadClaim t_BadClaim) rfl))) (sds_nil))
      (SDs.nox (sds_one (sd_expr (ed_methO (ed_var 0) cl me_Table_become C_Table_become (hr.mono h_Table_become) C_Table_become_b (eds_cons (ed_tup (eds_cons (ed_var 2) (eds_cons (ed_var 3) (eds_cons (ed_var 1) (eds_nil))))) (eds_cons (ed_tup (eds_cons (ed_str) (eds_cons (ed_var 1) (eds_nil)))) (eds_nil)))))))))))
abbrev s_Table_back : Stmt := inClass (topS 34) 18
abbrev N_Table_back : List Str := ["self", "state", "deed", "%o0"]
theorem sc_Table_back : FnScope N_Table_back ["self"] (defScope s_Table_back) := ⟨rfl, rfl, rfl, by decide +kernel, rfl, by decide +kernel, by decide +kernel⟩
theorem dv_Table_back {f : Addr} {k : Nat} {C : Addr} (cl : Cls K C) (na_state : NoAttr K C "state") (na_undone : NoAttr K C "undone") (na_done : NoAttr K C "done") {A_NothingBack : Addr} (x_NothingBack : PySem.W.excIn K A_NothingBack [.type "ValueError", .type "Exception", .type "BaseException", .type "object"] "ValueError.__new__" = true) (g_NothingBack : mg "NothingBack" = some (.ref A_NothingBack)) (k_NothingBack : PySem.W.keepIn K (.ref A_NothingBack) = true) (b_NothingBack : PySem.W.subIn K (.ref A_NothingBack) (.type "BaseException") = some true) (t_NothingBack : PySem.W.typeIn K (.ref A_NothingBack) = some (.type "type")) (cdv : Value) (A : Around) (outer : List PySem.Env) (s : Shared) (H : Hp) (E : XK) (hr : Room k (A.deeper (envOfC "Table.back" (defScope s_Table_back) s.heap.objs.size f cdv))) (G : Gh) (hG : G.slots = []) (WD : WDt) (hW : Wish K G WD (fun cls d _ H' => E cls d H')) :
    SDs (cxOf (L2.CX P w) P w K mg base N_Table_back "Table.back" (defScope s_Table_back) f cdv A outer s H E) G (defBody s_Table_back) (tb_Table_back C (.ref A_NothingBack) WD) := by
  unfold tb_Table_back
  exact sds_cons (sd_if (eb_not (eb_tru (er_fld 0 cl na_done))) (sds_one (sd_raise rfl (takes_of rfl rfl rfl rfl) hW (pmk_own0 PySem.F.excBase_ValueError x_NothingBack g_NothingBack k_NothingBack (raises_own b_NothingBack t_NothingBack) rfl))) (sds_nil))
      (SDs.nox (sds_cons (sd_asg (ms := [1, 2]) (ed_popF 0 cl na_done) (gd_tup rfl (gds_cons (gd_name (ns hG (by decide)) (by decide) sc_Table_back.nd rfl (by first | exact Or.inl rfl | exact Or.inr rfl)) (gds_cons (gd_name (ns hG (by decide)) (by decide) sc_Table_back.nd rfl (by first | exact Or.inl rfl | exact Or.inr rfl)) (gds_nil)))))
      (sds_cons (sd_expr (ed_appF 0 2 cl na_undone na_state))
      (sds_one (sd_fld 0 cl na_state (ed_var 1))))))
abbrev s_Table_again : Stmt := inClass (topS 34) 19
abbrev N_Table_again : List Str := ["self", "state", "deed", "%o0"]
theorem sc_Table_again : FnScope N_Table_again ["self"] (defScope s_Table_again) := ⟨rfl, rfl, rfl, by decide +kernel, rfl, by decide +kernel, by decide +kernel⟩
theorem dv_Table_again {f : Addr} {k : Nat} {C : Addr} (cl : Cls K C) (na_state : NoAttr K C "state") (na_done : NoAttr K C "done") (na_undone : NoAttr K C "undone") {A_NothingBack : Addr} (x_NothingBack : PySem.W.excIn K A_NothingBack [.type "ValueError", .type "Exception", .type "BaseException", .type "object"] "ValueError.__new__" = true) (g_NothingBack : mg "NothingBack" = some (.ref A_NothingBack)) (k_NothingBack : PySem.W.keepIn K (.ref A_NothingBack) = true) (b_NothingBack : PySem.W.subIn K (.ref A_NothingBack) (.type "BaseException") = some true) (t_NothingBack : PySem.W.typeIn K (.ref A_NothingBack) = some (.type "type")) (cdv : Value) (A : Around) (outer : List PySem.Env) (s : Shared) (H : Hp) (E : XK) (hr : Room k (A.deeper (envOfC "Table.again" (defScope s_Table_again) s.heap.objs.size f cdv))) (G : Gh) (hG : G.slots = []) (WD : WDt) (hW : Wish K G WD (fun cls d _ H' => E cls d H')) :
    SDs (cxOf (L2.CX P w) P w K mg base N_Table_again "Table.again" (defScope s_Table_again) f cdv A outer s H E) G (defBody s_Table_again) (tb_Table_again C (.ref A_NothingBack) WD) := by
  unfold tb_Table_again
  exact sds_cons (sd_if (eb_not (eb_tru (er_fld 0 cl na_undone))) (sds_one (sd_raise rfl (takes_of rfl rfl rfl rfl) hW (pmk_own0 PySem.F.excBase_ValueError x_NothingBack g_NothingBack k_NothingBack (raises_own b_NothingBack t_NothingBack) rfl))) (sds_nil))
      (SDs.nox (sds_cons (sd_asg (ms := [1, 2]) (ed_popF 0 cl na_undone) (gd_tup rfl (gds_cons (gd_name (ns hG (by decide)) (by decide) sc_Table_again.nd rfl (by first | exact Or.inl rfl | exact Or.inr rfl)) (gds_cons (gd_name (ns hG (by decide)) (by decide) sc_Table_again.nd rfl (by first | exact Or.inl rfl | exact Or.inr rfl)) (gds_nil)))))
      (sds_cons (sd_expr (ed_appF 0 2 cl na_done na_state))
      (sds_one (sd_fld 0 cl na_state (ed_var 1))))))
abbrev s_law_word : Stmt := topS 42
abbrev N_law_word : List Str := ["e", "sorts", "words"]
theorem sc_law_word : FnScope N_law_word ["e"] (defScope s_law_word) := ⟨rfl, rfl, rfl, by decide +kernel, rfl, by decide +kernel, by decide +kernel⟩
theorem dv_law_word {f : Addr} {k : Nat} (b_ValueErr : mg "ValueError" = none) (b_isinstance : mg "isinstance" = none) {D a : Addr} {oe : Obj} (ec : ExcC K D) (hz : Zc (.ref D) none oe) (hf : ∃ vs, oe.data = .fields vs) {b_ValueError : Bool} (k_ValueError : PySem.W.kitOne K (.ref D) (.type "ValueError") = some b_ValueError) {A_NothingBack : Addr} {b_NothingBack : Bool} (g_NothingBack : mg "NothingBack" = some (.ref A_NothingBack)) (k_NothingBack : PySem.W.kitOne K (.ref D) (.ref A_NothingBack) = some b_NothingBack) {A_BadClaim : Addr} {b_BadClaim : Bool} (g_BadClaim : mg "BadClaim" = some (.ref A_BadClaim)) (k_BadClaim : PySem.W.kitOne K (.ref D) (.ref A_BadClaim) = some b_BadClaim) {A_BadCard : Addr} {b_BadCard : Bool} (g_BadCard : mg "BadCard" = some (.ref A_BadCard)) (k_BadCard : PySem.W.kitOne K (.ref D) (.ref A_BadCard) = some b_BadCard) {A_BadCall : Addr} {b_BadCall : Bool} (g_BadCall : mg "BadCall" = some (.ref A_BadCall)) (k_BadCall : PySem.W.kitOne K (.ref D) (.ref A_BadCall) = some b_BadCall) {A_NotNow : Addr} {b_NotNow : Bool} (g_NotNow : mg "NotNow" = some (.ref A_NotNow)) (k_NotNow : PySem.W.kitOne K (.ref D) (.ref A_NotNow) = some b_NotNow) {A_Over : Addr} {b_Over : Bool} (g_Over : mg "Over" = some (.ref A_Over)) (k_Over : PySem.W.kitOne K (.ref D) (.ref A_Over) = some b_Over) (cdv : Value) (A : Around) (outer : List PySem.Env) (s : Shared) (H : Hp) (hr : L2H.RoomH k (A.deeper (envOfC "_law_word" (defScope s_law_word) s.heap.objs.size f cdv))) (G : Gh) (hG : G.slots = []) :
    SDs (L2H.cxH CX0 P w K mg base N_law_word "_law_word" (defScope s_law_word) f cdv A outer s H (fun _ _ _ => False) (a, oe)) G (defBody s_law_word) (tb_law_word a b_NothingBack b_BadClaim b_BadCard b_BadCall b_NotNow b_Over b_ValueError) := by
  unfold tb_law_word
  exact sds_cons (sd_set (ns hG (by decide)) sc_law_word.nd rfl (by first | exact Or.inl rfl | exact Or.inr rfl) (EL.ed (el_lst (eds_cons (ed_isE 0 ec List.mem_cons_self hz hf (pe_glob (v := .ref A_Over) rfl g_Over rfl) (fun u h => h) k_Over rfl b_isinstance) (eds_cons (ed_isE 0 ec List.mem_cons_self hz hf (pe_glob (v := .ref A_NotNow) rfl g_NotNow rfl) (fun u h => h) k_NotNow rfl b_isinstance) (eds_cons (ed_isE 0 ec List.mem_cons_self hz hf (pe_glob (v := .ref A_BadCall) rfl g_BadCall rfl) (fun u h => h) k_BadCall rfl b_isinstance) (eds_cons (ed_isE 0 ec List.mem_cons_self hz hf (pe_glob (v := .ref A_BadCard) rfl g_BadCard rfl) (fun u h => h) k_BadCard rfl b_isinstance) (eds_nil))))))))
      (sds_cons (sd_set (ns hG (by decide)) sc_law_word.nd rfl (by first | exact Or.inl rfl | exact Or.inr rfl) (EL.ed (el_op od_cat (ed_var 1) (ED.er (EL.ed (el_lst (eds_cons (ed_isE 0 ec List.mem_cons_self hz hf (pe_glob (v := .ref A_BadClaim) rfl g_BadClaim rfl) (fun u h => h) k_BadClaim rfl b_isinstance) (eds_cons (ed_isE 0 ec List.mem_cons_self hz hf (pe_glob (v := .ref A_NothingBack) rfl g_NothingBack rfl) (fun u h => h) k_NothingBack rfl b_isinstance) (eds_nil)))))))))
      (sds_cons (sd_set (ns hG (by decide)) sc_law_word.nd rfl (by first | exact Or.inl rfl | exact Or.inr rfl) (EL.ed (el_lst (eds_cons (ed_str) (eds_cons (ed_str) (eds_cons (ed_str) (eds_cons (ed_str) (eds_cons (ed_str) (eds_cons (ed_str) (eds_nil))))))))))
      (sds_cons (sd_if (EW.eb (ew_or (eb_cmp (od_ne (u64H hr)) (ed_countL (u65H hr) (ed_var 1) (ed_bl)) (ED.er (ed_int)) (nomark _)) (ew_or1 (eb_not (eb_tru (ED.er (ed_isE 0 ec List.mem_cons_self hz hf (pe_bltn (v := .ty "ValueError") rfl b_ValueErr (by decide +kernel) rfl) (fun u h => h) k_ValueError rfl b_isinstance))))))) (sds_one (sd_ret (ed_str))) (sds_nil))
      (sds_one (sd_ret (ed_ix (ed_var 2) (ed_indexL (u65H hr) (ed_var 1) (ed_bl))))))))
abbrev s_law_acted : Stmt := topS 43
abbrev N_law_acted : List Str := ["table", "deed", "got", "e", "%o0"]
theorem sc_law_acted : FnScope N_law_acted ["table", "deed"] (defScope s_law_acted) := ⟨rfl, rfl, rfl, by decide +kernel, rfl, by decide +kernel, by decide +kernel⟩
theorem dv_law_acted {f : Addr} {k : Nat} {C : Addr} (cl : Cls K C) {sp_Table_call : SpO} {f_Table_call : Addr} {fd_Table_call : FuncData} {k_Table_call : Nat} (C_Table_call : FnOk P w K mg base (L2.CX P w) k_Table_call f_Table_call fd_Table_call ["self", "call"] (spO K sp_Table_call)) (h_Table_call : k_Table_call ≤ k) (me_Table_call : Meth K C "call" f_Table_call) (C_Table_call_b : Binds K fd_Table_call ["self", "call"] []) {sp_Table_play : SpO} {f_Table_play : Addr} {fd_Table_play : FuncData} {k_Table_play : Nat} (C_Table_play : FnOk P w K mg base (L2.CX P w) k_Table_play f_Table_play fd_Table_play ["self", "card"] (spO K sp_Table_play)) (h_Table_play : k_Table_play ≤ k) (me_Table_play : Meth K C "play" f_Table_play) (C_Table_play_b : Binds K fd_Table_play ["self", "card"] []) {sp_Table_claim : SpO} {f_Table_claim : Addr} {fd_Table_claim : FuncData} {k_Table_claim : Nat} (C_Table_claim : FnOk P w K mg base (L2.CX P w) k_Table_claim f_Table_claim fd_Table_claim ["self", "tricks"] (spO K sp_Table_claim)) (h_Table_claim : k_Table_claim ≤ k) (me_Table_claim : Meth K C "claim" f_Table_claim) (C_Table_claim_b : Binds K fd_Table_claim ["self", "tricks"] []) {sp_Table_back : SpO} {f_Table_back : Addr} {fd_Table_back : FuncData} {k_Table_back : Nat} (C_Table_back : FnOk P w K mg base (L2.CX P w) k_Table_back f_Table_back fd_Table_back ["self"] (spO K sp_Table_back)) (h_Table_back : k_Table_back ≤ k) (me_Table_back : Meth K C "back" f_Table_back) (C_Table_back_b : Binds K fd_Table_back ["self"] []) {sp_Table_again : SpO} {f_Table_again : Addr} {fd_Table_again : FuncData} {k_Table_again : Nat} (C_Table_again : FnOk P w K mg base (L2.CX P w) k_Table_again f_Table_again fd_Table_again ["self"] (spO K sp_Table_again)) (h_Table_again : k_Table_again ≤ k) (me_Table_again : Meth K C "again" f_Table_again) (C_Table_again_b : Binds K fd_Table_again ["self"] []) {A_BoardError : Addr} (g_BoardError : mg "BoardError" = some (.ref A_BoardError)) {m_BoardError : Value → Option Bool} (hm_BoardError : ∀ cls b, m_BoardError cls = some b → PySem.W.exmOne K cls (.ref A_BoardError) = some b) {wd : Value → Option Str} {f_law_word : Addr} {fd_law_word : FuncData} {k_law_word : Nat} (hwd : ∀ cls y, wd cls = some y → FnW P w K mg base k_law_word f_law_word fd_law_word "e" cls y) (h_law_word : k_law_word ≤ k) (C_law_word_g : mg "_law_word" = some (.ref f_law_word)) (C_law_word_k : PySem.W.keepIn K (.ref f_law_word) = true) (C_law_word_b : Binds K fd_law_word ["e"] []) (cdv : Value) (A : Around) (outer : List PySem.Env) (s : Shared) (H : Hp) (E : XK) (hr : Room k (A.deeper (envOfC "_law_acted" (defScope s_law_acted) s.heap.objs.size f cdv))) (G : Gh) (hG : G.slots = []) :
    SDs (cxOf CX0 P w K mg base N_law_acted "_law_acted" (defScope s_law_acted) f cdv A outer s H E).nox G (defBody s_law_acted) (tb_law_acted C sp_Table_call sp_Table_play sp_Table_claim sp_Table_back sp_Table_again m_BoardError wd) := by
  unfold tb_law_acted
  exact sds_cons (sd_set (ns hG (by decide)) sc_law_acted.nd rfl (by first | exact Or.inl rfl | exact Or.inr rfl) (ed_non))
      (sds_cons (sd_tryW (i := 3) (j := 2) (m := m_BoardError) (Wo := fun _ _ => False) hm_BoardError (fun _ _ _ _ h _ => h.elim) rfl rfl ⟨rfl, by decide, .inl g_BoardError⟩ takes0 (fun W1 pn1 xe1 tk1 _ G1 q1 WD1 hw1 => sds_one (sd_if (eb_cmp (od_eq hr.units) (ed_ix (ed_var 1) (ed_int)) (ED.er (ed_str)) (nomark _)) (sds_one (sd_set (ns (q1.trans hG) (by decide)) sc_law_acted.nd rfl (by first | exact Or.inl rfl | exact Or.inr rfl) (ed_methOX (ed_var 0) cl me_Table_call C_Table_call tk1 hw1 (hr.mono h_Table_call) C_Table_call_b (eds_cons (ed_ix (ed_var 1) (ed_int)) (eds_nil))))) (sds_one (sd_if (eb_cmp (od_eq hr.units) (ed_ix (ed_var 1) (ed_int)) (ED.er (ed_str)) (nomark _)) (sds_one (sd_set (ns (q1.trans hG) (by decide)) sc_law_acted.nd rfl (by first | exact Or.inl rfl | exact Or.inr rfl) (ed_methOX (ed_var 0) cl me_Table_play C_Table_play tk1 hw1 (hr.mono h_Table_play) C_Table_play_b (eds_cons (ed_ix (ed_var 1) (ed_int)) (eds_nil))))) (sds_one (sd_if (eb_cmp (od_eq hr.units) (ed_ix (ed_var 1) (ed_int)) (ED.er (ed_str)) (nomark _)) (sds_one (sd_set (ns (q1.trans hG) (by decide)) sc_law_acted.nd rfl (by first | exact Or.inl rfl | exact Or.inr rfl) (ed_methOX (ed_var 0) cl me_Table_claim C_Table_claim tk1 hw1 (hr.mono h_Table_claim) C_Table_claim_b (eds_cons (ed_ix (ed_var 1) (ed_int)) (eds_nil))))) (sds_one (sd_if (eb_cmp (od_eq hr.units) (ed_ix (ed_var 1) (ed_int)) (ED.er (ed_str)) (nomark _)) (sds_one (sd_set (ns (q1.trans hG) (by decide)) sc_law_acted.nd rfl (by first | exact Or.inl rfl | exact Or.inr rfl) (ed_methOX0 (ed_var 0) cl me_Table_back C_Table_back tk1 hw1 (hr.mono h_Table_back) C_Table_back_b))) (sds_one (sd_set (ns (q1.trans hG) (by decide)) sc_law_acted.nd rfl (by first | exact Or.inl rfl | exact Or.inr rfl) (ed_methOX0 (ed_var 0) cl me_Table_again C_Table_again tk1 hw1 (hr.mono h_Table_again) C_Table_again_b))))))))))) hwd (L2H.roomH_of (hr.mono h_law_word)) rfl C_law_word_g C_law_word_k C_law_word_b sc_law_acted.nd rfl rfl rfl (by first | exact Or.inl rfl | exact Or.inr rfl) (.inr rfl) (ns hG (by decide)) (ns hG (by decide)) (by first | exact Or.inl rfl | exact Or.inr (Or.inl rfl) | exact Or.inr (Or.inr rfl)))
      (sds_one (sd_ret (ed_var 2))))
abbrev s_law_draw : Stmt := topS 37
abbrev N_law_draw : List Str := ["script", "town", "many", "k", "cell", "digits", "number", "more"]
theorem sc_law_draw : FnScope N_law_draw ["script", "town", "many"] (defScope s_law_draw) := ⟨rfl, rfl, rfl, by decide +kernel, rfl, by decide +kernel, by decide +kernel⟩
theorem dv_law_draw {f : Addr} {k : Nat} (b_len : mg "len" = none) (b_abs : mg "abs" = none) (b_max : mg "max" = none) (cdv : Value) (A : Around) (outer : List PySem.Env) (s : Shared) (H : Hp) (E : XK) (hr : Room k (A.deeper (envOfC "_law_draw" (defScope s_law_draw) s.heap.objs.size f cdv))) (G : Gh) (hG : G.slots = [1]) :
    SDs (cxOf CX0 P w K mg base N_law_draw "_law_draw" (defScope s_law_draw) f cdv A outer s H E).nox G (defBody s_law_draw) (tb_law_draw) := by
  unfold tb_law_draw
  exact sds_cons (sd_if (eb_not (eb_tru (er_var 1))) (sds_one (sd_expr (ed_app 1 (ed_ca1 (cd_max rfl) (ED.er (EL.ed (el_op od_cat (EL.ed (el_comp [("cell", 4)] rfl sc_law_draw.nd rfl (nsA hG (by decide)) (id_lst (ed_var 0)) (blkOk_by (N := N_law_draw) (sc := defScope s_law_draw) (by decide +kernel)) (fun _ q1 _ _ _ _ _ => gd_name (ns (q1.trans hG) (by decide)) (by decide) sc_law_draw.nd rfl (by first | exact Or.inl rfl | exact Or.inr rfl)) (fun _ q1 _ _ _ _ _ => ebs_nil) (fun _ q1 _ _ _ _ _ => ed_ca1 cd_abs (ED.er (ed_var 4)) rfl b_abs bb_abs))) (ED.er (EL.ed (el_lst (eds_cons (ed_int) (eds_nil)))))))) rfl b_max bb_max)))) (sds_nil))
      (sds_cons (sd_expr (ed_app 1 (ed_int)))
      (sds_cons (sd_set (ns hG (by decide)) sc_law_draw.nd rfl (by first | exact Or.inl rfl | exact Or.inr rfl) (ed_ca1 cd_len (er_var 1) rfl b_len bb_len))
      (sds_cons (sd_set (ns hG (by decide)) sc_law_draw.nd rfl (by first | exact Or.inl rfl | exact Or.inr rfl) (ed_if (eb_tru (ED.er (ed_var 0))) (ed_ix (ed_var 0) (ed_op od_mod (ed_var 3) (ED.er (ed_ca1 cd_len (ED.er (ed_var 0)) rfl b_len bb_len)))) (ed_int)))
      (sds_cons (sd_set (ns hG (by decide)) sc_law_draw.nd rfl (by first | exact Or.inl rfl | exact Or.inr rfl) (ed_op od_mod (ed_ixO 1 (ed_int)) (ED.er (ed_int))))
      (sds_cons (sd_setIx 1 (ed_int) (ed_op od_div (ed_ixO 1 (ed_int)) (ED.er (ed_int))))
      (sds_cons (sd_set (ns hG (by decide)) sc_law_draw.nd rfl (by first | exact Or.inl rfl | exact Or.inr rfl) (ed_op od_mod (ed_op od_add (ed_op od_add (ed_var 4) (ED.er (ed_op od_mul (ed_int) (ED.er (ed_var 5))))) (ED.er (ed_op od_mul (ed_int) (ED.er (ed_var 3))))) (ED.er (ed_int))))
      (sds_cons (sd_set (ns hG (by decide)) sc_law_draw.nd rfl (by first | exact Or.inl rfl | exact Or.inr rfl) (ed_op od_mod (ed_op od_mul (ed_op od_mod (ed_op od_mul (ed_var 6) (ED.er (ed_var 6))) (ED.er (ed_int))) (ED.er (ed_int))) (ED.er (ed_int))))
      (sds_cons (sd_set (ns hG (by decide)) sc_law_draw.nd rfl (by first | exact Or.inl rfl | exact Or.inr rfl) (ed_op od_mod (ed_op od_mul (ed_op od_mod (ed_op od_mul (ed_var 6) (ED.er (ed_var 6))) (ED.er (ed_int))) (ED.er (ed_int))) (ED.er (ed_int))))
      (sds_one (sd_ret (ed_op od_mod (ed_op od_add (ed_op od_mul (ed_op od_div (ed_var 6) (ED.er (ed_int))) (ED.er (ed_int))) (ED.er (ed_op od_div (ed_var 7) (ED.er (ed_int))))) (ED.er (ed_var 2)))))))))))))
abbrev s_law_pick : Stmt := topS 38
abbrev N_law_pick : List Str := ["script", "town", "some"]
theorem sc_law_pick : FnScope N_law_pick ["script", "town", "some"] (defScope s_law_pick) := ⟨rfl, rfl, rfl, by decide +kernel, rfl, by decide +kernel, by decide +kernel⟩
theorem dv_law_pick {f : Addr} {k : Nat} (b_len : mg "len" = none) {sp_law_draw : SpD} {f_law_draw : Addr} {fd_law_draw : FuncData} {k_law_draw : Nat} (C_law_draw : FnOk P w K mg base CX0 k_law_draw f_law_draw fd_law_draw ["script", "town", "many"] (spL K sp_law_draw)) (h_law_draw : k_law_draw ≤ k) (C_law_draw_g : mg "_law_draw" = some (.ref f_law_draw)) (C_law_draw_k : PySem.W.keepIn K (.ref f_law_draw) = true) (C_law_draw_b : Binds K fd_law_draw ["script", "town", "many"] []) (cdv : Value) (A : Around) (outer : List PySem.Env) (s : Shared) (H : Hp) (E : XK) (hr : Room k (A.deeper (envOfC "_law_pick" (defScope s_law_pick) s.heap.objs.size f cdv))) (G : Gh) (hG : G.slots = [1]) :
    SDs (cxOf CX0 P w K mg base N_law_pick "_law_pick" (defScope s_law_pick) f cdv A outer s H E).nox G (defBody s_law_pick) (tb_law_pick sp_law_draw) := by
  unfold tb_law_pick
  exact sds_one (sd_ret (ed_ix (ed_var 2) (ed_call C_law_draw (hr.mono h_law_draw) rfl C_law_draw_g C_law_draw_k C_law_draw_b (ea_v (ed_var 0) (ea_o 1 (ea_v (ed_ca1 cd_len (ED.er (ed_var 2)) rfl b_len bb_len) (ea_nil)))))))
abbrev s_law_drawn_deed : Stmt := topS 44
abbrev N_law_drawn_deed : List Str := ["script", "town", "ranks", "stage", "some", "sorts", "sort", "way", "calls"]
theorem sc_law_drawn_deed : FnScope N_law_drawn_deed ["script", "town", "ranks", "stage", "some", "sorts"] (defScope s_law_drawn_deed) := ⟨rfl, rfl, rfl, by decide +kernel, rfl, by decide +kernel, by decide +kernel⟩
theorem dv_law_drawn_deed {f : Addr} {k : Nat} {sp_law_pick : SpD} {f_law_pick : Addr} {fd_law_pick : FuncData} {k_law_pick : Nat} (C_law_pick : FnOk P w K mg base CX0 k_law_pick f_law_pick fd_law_pick ["script", "town", "some"] (spL K sp_law_pick)) (h_law_pick : k_law_pick ≤ k) (C_law_pick_g : mg "_law_pick" = some (.ref f_law_pick)) (C_law_pick_k : PySem.W.keepIn K (.ref f_law_pick) = true) (C_law_pick_b : Binds K fd_law_pick ["script", "town", "some"] []) {sp_law_draw : SpD} {f_law_draw : Addr} {fd_law_draw : FuncData} {k_law_draw : Nat} (C_law_draw : FnOk P w K mg base CX0 k_law_draw f_law_draw fd_law_draw ["script", "town", "many"] (spL K sp_law_draw)) (h_law_draw : k_law_draw ≤ k) (C_law_draw_g : mg "_law_draw" = some (.ref f_law_draw)) (C_law_draw_k : PySem.W.keepIn K (.ref f_law_draw) = true) (C_law_draw_b : Binds K fd_law_draw ["script", "town", "many"] []) (cdv : Value) (A : Around) (outer : List PySem.Env) (s : Shared) (H : Hp) (E : XK) (hr : Room k (A.deeper (envOfC "_law_drawn_deed" (defScope s_law_drawn_deed) s.heap.objs.size f cdv))) (G : Gh) (hG : G.slots = [1]) :
    SDs (cxOf CX0 P w K mg base N_law_drawn_deed "_law_drawn_deed" (defScope s_law_drawn_deed) f cdv A outer s H E).nox G (defBody s_law_drawn_deed) (tb_law_drawn_deed sp_law_pick sp_law_draw) := by
  unfold tb_law_drawn_deed
  exact sds_cons (sd_set (ns hG (by decide)) sc_law_drawn_deed.nd rfl (by first | exact Or.inl rfl | exact Or.inr rfl) (ed_call C_law_pick (hr.mono h_law_pick) rfl C_law_pick_g C_law_pick_k C_law_pick_b (ea_v (ed_var 0) (ea_o 1 (ea_v (ed_var 5) (ea_nil))))))
      (sds_cons (sd_if (eb_cmp (od_in (u65 hr)) (ed_var 6) (ED.er (ed_tup (eds_cons (ed_str) (eds_cons (ed_str) (eds_nil))))) rfl) (sds_one (sd_ret (ed_tup (eds_cons (ed_var 6) (eds_nil))))) (sds_nil))
      (sds_cons (sd_if (EW.eb (ew_or (eb_cmp (od_eq hr.units) (ed_var 6) (ED.er (ed_str)) (nomark _)) (ew_or1 (EW.eb (ew_and (eb_cmp (od_eq hr.units) (ed_var 6) (ED.er (ed_str)) (nomark _)) (ew_and1 (eb_cmp (od_eq hr.units) (ed_call C_law_draw (hr.mono h_law_draw) rfl C_law_draw_g C_law_draw_k C_law_draw_b (ea_v (ed_var 0) (ea_o 1 (ea_v (ed_int) (ea_nil))))) (ED.er (ed_int)) (nomark _)))))))) (sds_one (sd_ret (ed_tup (eds_cons (ed_str) (eds_cons (ed_op od_sub (ed_call C_law_draw (hr.mono h_law_draw) rfl C_law_draw_g C_law_draw_k C_law_draw_b (ea_v (ed_var 0) (ea_o 1 (ea_v (ed_op od_add (ed_var 2) (ED.er (ed_int))) (ea_nil))))) (ED.er (ed_int))) (eds_nil)))))) (sds_nil))
      (sds_cons (sd_if (EW.eb (ew_or (eb_cmp (od_eq hr.units) (ed_var 6) (ED.er (ed_str)) (nomark _)) (ew_or1 (EW.eb (ew_and (eb_cmp (od_eq hr.units) (ed_var 6) (ED.er (ed_str)) (nomark _)) (ew_and1 (eb_cmp (od_eq hr.units) (ed_var 3) (ED.er (ed_str)) (nomark _)))))))) (sds_cons (sd_set (ns hG (by decide)) sc_law_drawn_deed.nd rfl (by first | exact Or.inl rfl | exact Or.inr rfl) (ed_call C_law_draw (hr.mono h_law_draw) rfl C_law_draw_g C_law_draw_k C_law_draw_b (ea_v (ed_var 0) (ea_o 1 (ea_v (ed_int) (ea_nil))))))
      (sds_cons (sd_if (EW.eb (ew_or (eb_cmp (od_eq hr.units) (ed_var 7) (ED.er (ed_int)) (nomark _)) (ew_or (eb_not (eb_tru (ED.er (ed_var 4)))) (ew_or1 (eb_cmp (od_ne hr.units) (ed_var 3) (ED.er (ed_str)) (nomark _)))))) (sds_cons (sd_set (ns hG (by decide)) sc_law_drawn_deed.nd rfl (by first | exact Or.inl rfl | exact Or.inr rfl) (EL.ed (el_lst (eds_cons (ed_str) (eds_cons (ed_str) (eds_cons (ed_str) (eds_cons (ed_tup (eds_cons (ed_int) (eds_cons (ed_int) (eds_nil)))) (eds_cons (ed_tup (eds_cons (ed_int) (eds_cons (ed_int) (eds_nil)))) (eds_cons (ed_tup (eds_cons (ed_int) (eds_cons (ed_int) (eds_nil)))) (eds_cons (ed_tup (eds_cons (ed_int) (eds_cons (ed_int) (eds_nil)))) (eds_cons (ed_tup (eds_cons (ed_int) (eds_cons (ed_int) (eds_nil)))) (eds_nil))))))))))))
      (sds_one (sd_ret (ed_tup (eds_cons (ed_str) (eds_cons (ed_call C_law_pick (hr.mono h_law_pick) rfl C_law_pick_g C_law_pick_k C_law_pick_b (ea_v (ed_var 0) (ea_o 1 (ea_v (ed_var 8) (ea_nil))))) (eds_nil))))))) (sds_nil))
      (sds_one (sd_ret (ed_tup (eds_cons (ed_str) (eds_cons (ed_if (eb_cmp od_lt (ed_var 7) (ED.er (ed_int)) (nomark _)) (ed_str) (ed_call C_law_pick (hr.mono h_law_pick) rfl C_law_pick_g C_law_pick_k C_law_pick_b (ea_v (ed_var 0) (ea_o 1 (ea_v (ed_sl (ed_var 4) (eo_no) (eo_e (ed_op od_mul (ed_int) (ED.er (ed_var 7))))) (ea_nil)))))) (eds_nil)))))))) (sds_nil))
      (sds_cons (sd_if (EW.eb (ew_or (eb_cmp (od_eq hr.units) (ed_call C_law_draw (hr.mono h_law_draw) rfl C_law_draw_g C_law_draw_k C_law_draw_b (ea_v (ed_var 0) (ea_o 1 (ea_v (ed_int) (ea_nil))))) (ED.er (ed_int)) (nomark _)) (ew_or (eb_not (eb_tru (ED.er (ed_var 4)))) (ew_or1 (eb_cmp (od_ne hr.units) (ed_var 3) (ED.er (ed_str)) (nomark _)))))) (sds_one (sd_ret (ed_tup (eds_cons (ed_str) (eds_cons (ed_tup (eds_cons (ed_call C_law_draw (hr.mono h_law_draw) rfl C_law_draw_g C_law_draw_k C_law_draw_b (ea_v (ed_var 0) (ea_o 1 (ea_v (ed_int) (ea_nil))))) (eds_cons (ed_op od_add (ed_int) (ED.er (ed_call C_law_draw (hr.mono h_law_draw) rfl C_law_draw_g C_law_draw_k C_law_draw_b (ea_v (ed_var 0) (ea_o 1 (ea_v (ed_var 2) (ea_nil))))))) (eds_nil)))) (eds_nil)))))) (sds_nil))
      (sds_one (sd_ret (ed_tup (eds_cons (ed_str) (eds_cons (ed_call C_law_pick (hr.mono h_law_pick) rfl C_law_pick_g C_law_pick_k C_law_pick_b (ea_v (ed_var 0) (ea_o 1 (ea_v (ed_var 4) (ea_nil))))) (eds_nil))))))))))
abbrev s_Table___init__ : Stmt := inClass (topS 34) 0
abbrev N_Table___init__ : List Str := ["self", "ranks", "deal", "dealer", "risk", "%o0"]
theorem sc_Table___init__ : FnScope N_Table___init__ ["self", "ranks", "deal", "dealer", "risk"] (defScope s_Table___init__) := ⟨rfl, rfl, rfl, by decide +kernel, rfl, by decide +kernel, by decide +kernel⟩
theorem dv_Table___init__ {f : Addr} {k : Nat} {C : Addr} (cl : Cls K C) (na_undone : NoAttr K C "undone") (na_done : NoAttr K C "done") (na_state : NoAttr K C "state") (na_risk : NoAttr K C "risk") (na_dealer : NoAttr K C "dealer") (na_deal : NoAttr K C "deal") (na_ranks : NoAttr K C "ranks") (cdv : Value) (A : Around) (outer : List PySem.Env) (s : Shared) (H : Hp) (E : XK) (hr : Room k (A.deeper (envOfC "Table.__init__" (defScope s_Table___init__) s.heap.objs.size f cdv))) (G : Gh) (hG : G.slots = []) :
    SDs (cxOf CX0 P w K mg base N_Table___init__ "Table.__init__" (defScope s_Table___init__) f cdv A outer s H E).nox G (defBody s_Table___init__) (tb_Table___init__ C) := by
  unfold tb_Table___init__
  exact sds_cons (sd_fld 0 cl na_ranks (ed_var 1))
      (sds_cons (sd_fld 0 cl na_deal (ed_var 2))
      (sds_cons (sd_fld 0 cl na_dealer (ed_var 3))
      (sds_cons (sd_fld 0 cl na_risk (ed_if (eb_cmp od_is (ed_var 4) (ED.er (ed_non)) (nomark _)) (ed_tup (eds_cons (ed_bl) (eds_cons (ed_bl) (eds_nil)))) (ed_var 4)))
      (sds_cons (sd_fld 0 cl na_state (ed_tup (eds_cons (ed_tup (eds_nil)) (eds_cons (ed_tup (eds_nil)) (eds_cons (ed_non) (eds_nil))))))
      (sds_cons (sd_fldL 0 cl na_done (el_lst (eds_nil)))
      (sds_one (sd_fldL 0 cl na_undone (el_lst (eds_nil)))))))))
abbrev s_law_all_cards : Stmt := topS 40
abbrev N_law_all_cards : List Str := ["ranks", "found", "suit", "rank"]
theorem sc_law_all_cards : FnScope N_law_all_cards ["ranks"] (defScope s_law_all_cards) := ⟨rfl, rfl, rfl, by decide +kernel, rfl, by decide +kernel, by decide +kernel⟩
theorem dv_law_all_cards {f : Addr} {k : Nat} (b_range : mg "range" = none) (cdv : Value) (A : Around) (outer : List PySem.Env) (s : Shared) (H : Hp) (E : XK) (hr : Room k (A.deeper (envOfC "_law_all_cards" (defScope s_law_all_cards) s.heap.objs.size f cdv))) (G : Gh) (hG : G.slots = []) :
    SDs (cxOf CX0 P w K mg base N_law_all_cards "_law_all_cards" (defScope s_law_all_cards) f cdv A outer s H E).nox G (defBody s_law_all_cards) (tb_law_all_cards) := by
  unfold tb_law_all_cards
  exact sds_cons (sd_setL (ns hG (by decide)) sc_law_all_cards.nd rfl (by first | exact Or.inl rfl | exact Or.inr rfl) (el_lst (eds_nil)))
      (sds_cons (sd_for (ms := [2]) PassesOwn.never rfl (id_range1 rfl b_range (ed_int)) (gd_name (ns hG (by decide)) (by decide) sc_law_all_cards.nd rfl (by first | exact Or.inl rfl | exact Or.inr rfl)) (sds_one (sd_expr (ed_extd 1 (el_comp [("rank", 3)] rfl sc_law_all_cards.nd rfl (nsA hG (by decide)) (id_range2 rfl b_range (ed_int) (ed_op od_add (ed_var 0) (ED.er (ed_int)))) (blkOk_by (N := N_law_all_cards) (sc := defScope s_law_all_cards) (by decide +kernel)) (fun _ q1 _ _ _ _ _ => gd_name (ns (q1.trans hG) (by decide)) (by decide) sc_law_all_cards.nd rfl (by first | exact Or.inl rfl | exact Or.inr rfl)) (fun _ q1 _ _ _ _ _ => ebs_nil) (fun _ q1 _ _ _ _ _ => ed_tup (eds_cons (ed_var 2) (eds_cons (ed_var 3) (eds_nil)))))))))
      (sds_one (sd_ret (ed_fzv 1))))
abbrev s_law_mixed : Stmt := topS 39
abbrev N_law_mixed : List Str := ["script", "town", "things", "rest", "found"]
theorem sc_law_mixed : FnScope N_law_mixed ["script", "town", "things"] (defScope s_law_mixed) := ⟨rfl, rfl, rfl, by decide +kernel, rfl, by decide +kernel, by decide +kernel⟩
theorem dv_law_mixed {f : Addr} {k : Nat} (b_len : mg "len" = none) (b_list : mg "list" = none) {sp_law_draw : SpD} {f_law_draw : Addr} {fd_law_draw : FuncData} {k_law_draw : Nat} (C_law_draw : FnOk P w K mg base CX0 k_law_draw f_law_draw fd_law_draw ["script", "town", "many"] (spL K sp_law_draw)) (h_law_draw : k_law_draw ≤ k) (C_law_draw_g : mg "_law_draw" = some (.ref f_law_draw)) (C_law_draw_k : PySem.W.keepIn K (.ref f_law_draw) = true) (C_law_draw_b : Binds K fd_law_draw ["script", "town", "many"] []) (cdv : Value) (A : Around) (outer : List PySem.Env) (s : Shared) (H : Hp) (E : XK) (hr : Room k (A.deeper (envOfC "_law_mixed" (defScope s_law_mixed) s.heap.objs.size f cdv))) (G : Gh) (hG : G.slots = [1]) :
    SDs (cxOf CX0 P w K mg base N_law_mixed "_law_mixed" (defScope s_law_mixed) f cdv A outer s H E).nox G (defBody s_law_mixed) (tb_law_mixed sp_law_draw) := by
  unfold tb_law_mixed
  exact sds_cons (sd_par2 (nsA hG (by decide)) rfl sc_law_mixed.nd rfl rfl (by decide) rfl rfl (eps_l (el_caT1 cd_list (ED.er (ed_var 2)) rfl b_list bb_list) (fun _ q1 => eps_l (el_lst (eds_nil)) (fun _ q2 => eps_nil))))
      (sds_cons (sd_while PassesOwn.never (eb_tru (er_var 3)) (sds_one (sd_expr (ed_app 4 (ed_popAt 3 (ed_call C_law_draw (hr.mono h_law_draw) rfl C_law_draw_g C_law_draw_k C_law_draw_b (ea_v (ed_var 0) (ea_o 1 (ea_v (ed_ca1 cd_len (er_var 3) rfl b_len bb_len) (ea_nil))))))))))
      (sds_one (sd_ret (ed_fzv 4))))
abbrev s_law_drawn_deal : Stmt := topS 41
abbrev N_law_drawn_deal : List Str := ["script", "town", "ranks", "cards", "at"]
theorem sc_law_drawn_deal : FnScope N_law_drawn_deal ["script", "town", "ranks"] (defScope s_law_drawn_deal) := ⟨rfl, rfl, rfl, by decide +kernel, rfl, by decide +kernel, by decide +kernel⟩
theorem dv_law_drawn_deal {f : Addr} {k : Nat} (b_range : mg "range" = none) (b_sorted : mg "sorted" = none) (b_tuple : mg "tuple" = none) {sp_law_all_cards : SpD} {f_law_all_cards : Addr} {fd_law_all_cards : FuncData} {k_law_all_cards : Nat} (C_law_all_cards : FnOk P w K mg base CX0 k_law_all_cards f_law_all_cards fd_law_all_cards ["ranks"] (spL K sp_law_all_cards)) (h_law_all_cards : k_law_all_cards ≤ k) (C_law_all_cards_g : mg "_law_all_cards" = some (.ref f_law_all_cards)) (C_law_all_cards_k : PySem.W.keepIn K (.ref f_law_all_cards) = true) (C_law_all_cards_b : Binds K fd_law_all_cards ["ranks"] []) {sp_law_mixed : SpD} {f_law_mixed : Addr} {fd_law_mixed : FuncData} {k_law_mixed : Nat} (C_law_mixed : FnOk P w K mg base CX0 k_law_mixed f_law_mixed fd_law_mixed ["script", "town", "things"] (spL K sp_law_mixed)) (h_law_mixed : k_law_mixed ≤ k) (C_law_mixed_g : mg "_law_mixed" = some (.ref f_law_mixed)) (C_law_mixed_k : PySem.W.keepIn K (.ref f_law_mixed) = true) (C_law_mixed_b : Binds K fd_law_mixed ["script", "town", "things"] []) (cdv : Value) (A : Around) (outer : List PySem.Env) (s : Shared) (H : Hp) (E : XK) (hr : Room k (A.deeper (envOfC "_law_drawn_deal" (defScope s_law_drawn_deal) s.heap.objs.size f cdv))) (G : Gh) (hG : G.slots = [1]) :
    SDs (cxOf CX0 P w K mg base N_law_drawn_deal "_law_drawn_deal" (defScope s_law_drawn_deal) f cdv A outer s H E).nox G (defBody s_law_drawn_deal) (tb_law_drawn_deal sp_law_all_cards sp_law_mixed) := by
  unfold tb_law_drawn_deal
  exact sds_cons (sd_set (ns hG (by decide)) sc_law_drawn_deal.nd rfl (by first | exact Or.inl rfl | exact Or.inr rfl) (ed_call C_law_mixed (hr.mono h_law_mixed) rfl C_law_mixed_g C_law_mixed_k C_law_mixed_b (ea_v (ed_var 0) (ea_o 1 (ea_v (ed_call C_law_all_cards (hr.mono h_law_all_cards) rfl C_law_all_cards_g C_law_all_cards_k C_law_all_cards_b (ea_v (ed_var 2) (ea_nil))) (ea_nil))))))
      (sds_one (sd_ret (ed_caT1 cd_tuple (ED.er (EL.ed (el_comp [("at", 4)] rfl sc_law_drawn_deal.nd rfl (nsA hG (by decide)) (id_range1 rfl b_range (ed_int)) (blkOk_by (N := N_law_drawn_deal) (sc := defScope s_law_drawn_deal) (by decide +kernel)) (fun _ q1 _ _ _ _ _ => gd_name (ns (q1.trans hG) (by decide)) (by decide) sc_law_drawn_deal.nd rfl (by first | exact Or.inl rfl | exact Or.inr rfl)) (fun _ q1 _ _ _ _ _ => ebs_nil) (fun _ q1 _ _ _ _ _ => ed_caT1 cd_tuple (ED.er (EL.ed (el_ca1 (cd_sorted (u65 hr)) (ED.er (EL.ed (el_sl (ed_var 3) (eo_e (ed_op od_mul (ed_var 4) (ED.er (ed_var 2)))) (eo_e (ed_op od_add (ed_op od_mul (ed_var 4) (ED.er (ed_var 2))) (ED.er (ed_var 2))))))) rfl b_sorted bb_sorted))) rfl b_tuple bb_tuple)))) rfl b_tuple bb_tuple)))
abbrev s_law_drawn_risk : Stmt := topS 45
abbrev N_law_drawn_risk : List Str := ["script", "town"]
theorem sc_law_drawn_risk : FnScope N_law_drawn_risk ["script", "town"] (defScope s_law_drawn_risk) := ⟨rfl, rfl, rfl, by decide +kernel, rfl, by decide +kernel, by decide +kernel⟩
theorem dv_law_drawn_risk {f : Addr} {k : Nat} {sp_law_draw : SpD} {f_law_draw : Addr} {fd_law_draw : FuncData} {k_law_draw : Nat} (C_law_draw : FnOk P w K mg base CX0 k_law_draw f_law_draw fd_law_draw ["script", "town", "many"] (spL K sp_law_draw)) (h_law_draw : k_law_draw ≤ k) (C_law_draw_g : mg "_law_draw" = some (.ref f_law_draw)) (C_law_draw_k : PySem.W.keepIn K (.ref f_law_draw) = true) (C_law_draw_b : Binds K fd_law_draw ["script", "town", "many"] []) (cdv : Value) (A : Around) (outer : List PySem.Env) (s : Shared) (H : Hp) (E : XK) (hr : Room k (A.deeper (envOfC "_law_drawn_risk" (defScope s_law_drawn_risk) s.heap.objs.size f cdv))) (G : Gh) (hG : G.slots = [1]) :
    SDs (cxOf CX0 P w K mg base N_law_drawn_risk "_law_drawn_risk" (defScope s_law_drawn_risk) f cdv A outer s H E).nox G (defBody s_law_drawn_risk) (tb_law_drawn_risk sp_law_draw) := by
  unfold tb_law_drawn_risk
  exact sds_one (sd_ret (ed_tup (eds_cons (ed_cmp (od_eq hr.units) (ed_call C_law_draw (hr.mono h_law_draw) rfl C_law_draw_g C_law_draw_k C_law_draw_b (ea_v (ed_var 0) (ea_o 1 (ea_v (ed_int) (ea_nil))))) (ED.er (ed_int)) (nomark _)) (eds_cons (ed_cmp (od_eq hr.units) (ed_call C_law_draw (hr.mono h_law_draw) rfl C_law_draw_g C_law_draw_k C_law_draw_b (ea_v (ed_var 0) (ea_o 1 (ea_v (ed_int) (ea_nil))))) (ED.er (ed_int)) (nomark _)) (eds_nil)))))
abbrev s_law : Stmt := topS 47
abbrev N_law : List Str := ["script", "town", "k", "ranks", "dealer", "deal", "risk", "one", "two", "three", "sorts", "j", "deed", "words", "told", "turn", "table", "own", "looks", "due", "word", "%m0", "%m1", "%m2"]
theorem sc_law : FnScope N_law ["script"] (defScope s_law) := ⟨rfl, rfl, rfl, by decide +kernel, rfl, by decide +kernel, by decide +kernel⟩
theorem dv_law {f : Addr} {k : Nat} (b_range : mg "range" = none) (b_min : mg "min" = none) {C : Addr} (cl : Cls K C) {sp_law_same : SpD} {f_law_same : Addr} {fd_law_same : FuncData} {k_law_same : Nat} (C_law_same : FnOk P w K mg base CX0 k_law_same f_law_same fd_law_same ["got", "due"] (spL K sp_law_same)) (h_law_same : k_law_same ≤ k) (C_law_same_g : mg "_law_same" = some (.ref f_law_same)) (C_law_same_k : PySem.W.keepIn K (.ref f_law_same) = true) (C_law_same_b : Binds K fd_law_same ["got", "due"] []) {sp_Table_taken_back : SpO} {f_Table_taken_back : Addr} {fd_Table_taken_back : FuncData} {k_Table_taken_back : Nat} (C_Table_taken_back : FnOk P w K mg base CX0 k_Table_taken_back f_Table_taken_back fd_Table_taken_back ["self"] (spO K sp_Table_taken_back)) (h_Table_taken_back : k_Table_taken_back ≤ k) (me_Table_taken_back : Meth K C "taken_back" f_Table_taken_back) (C_Table_taken_back_b : Binds K fd_Table_taken_back ["self"] []) {sp_Table_deeds : SpO} {f_Table_deeds : Addr} {fd_Table_deeds : FuncData} {k_Table_deeds : Nat} (C_Table_deeds : FnOk P w K mg base CX0 k_Table_deeds f_Table_deeds fd_Table_deeds ["self"] (spO K sp_Table_deeds)) (h_Table_deeds : k_Table_deeds ≤ k) (me_Table_deeds : Meth K C "deeds" f_Table_deeds) (C_Table_deeds_b : Binds K fd_Table_deeds ["self"] []) {sp_Table_cards : SpO} {f_Table_cards : Addr} {fd_Table_cards : FuncData} {k_Table_cards : Nat} (C_Table_cards : FnOk P w K mg base CX0 k_Table_cards f_Table_cards fd_Table_cards ["self"] (spO K sp_Table_cards)) (h_Table_cards : k_Table_cards ≤ k) (me_Table_cards : Meth K C "cards" f_Table_cards) (C_Table_cards_b : Binds K fd_Table_cards ["self"] []) {sp_Table_calls : SpO} {f_Table_calls : Addr} {fd_Table_calls : FuncData} {k_Table_calls : Nat} (C_Table_calls : FnOk P w K mg base CX0 k_Table_calls f_Table_calls fd_Table_calls ["self"] (spO K sp_Table_calls)) (h_Table_calls : k_Table_calls ≤ k) (me_Table_calls : Meth K C "calls" f_Table_calls) (C_Table_calls_b : Binds K fd_Table_calls ["self"] []) {sp_Table_may : SpO} {f_Table_may : Addr} {fd_Table_may : FuncData} {k_Table_may : Nat} (C_Table_may : FnOk P w K mg base CX0 k_Table_may f_Table_may fd_Table_may ["self"] (spO K sp_Table_may)) (h_Table_may : k_Table_may ≤ k) (me_Table_may : Meth K C "may" f_Table_may) (C_Table_may_b : Binds K fd_Table_may ["self"] []) {sp_Table_stage : SpO} {f_Table_stage : Addr} {fd_Table_stage : FuncData} {k_Table_stage : Nat} (C_Table_stage : FnOk P w K mg base CX0 k_Table_stage f_Table_stage fd_Table_stage ["self"] (spO K sp_Table_stage)) (h_Table_stage : k_Table_stage ≤ k) (me_Table_stage : Meth K C "stage" f_Table_stage) (C_Table_stage_b : Binds K fd_Table_stage ["self"] []) {sp_law_turned : SpD} {f_law_turned : Addr} {fd_law_turned : FuncData} {k_law_turned : Nat} (C_law_turned : FnOk P w K mg base CX0 k_law_turned f_law_turned fd_law_turned ["told", "turn"] (spL K sp_law_turned)) (h_law_turned : k_law_turned ≤ k) (C_law_turned_g : mg "_law_turned" = some (.ref f_law_turned)) (C_law_turned_k : PySem.W.keepIn K (.ref f_law_turned) = true) (C_law_turned_b : Binds K fd_law_turned ["told", "turn"] []) {sp_Table_score : SpO} {f_Table_score : Addr} {fd_Table_score : FuncData} {k_Table_score : Nat} (C_Table_score : FnOk P w K mg base CX0 k_Table_score f_Table_score fd_Table_score ["self"] (spO K sp_Table_score)) (h_Table_score : k_Table_score ≤ k) (me_Table_score : Meth K C "score" f_Table_score) (C_Table_score_b : Binds K fd_Table_score ["self"] []) {sp_Table_tricks : SpO} {f_Table_tricks : Addr} {fd_Table_tricks : FuncData} {k_Table_tricks : Nat} (C_Table_tricks : FnOk P w K mg base CX0 k_Table_tricks f_Table_tricks fd_Table_tricks ["self"] (spO K sp_Table_tricks)) (h_Table_tricks : k_Table_tricks ≤ k) (me_Table_tricks : Meth K C "tricks" f_Table_tricks) (C_Table_tricks_b : Binds K fd_Table_tricks ["self"] []) {sp_Table_contract : SpO} {f_Table_contract : Addr} {fd_Table_contract : FuncData} {k_Table_contract : Nat} (C_Table_contract : FnOk P w K mg base CX0 k_Table_contract f_Table_contract fd_Table_contract ["self"] (spO K sp_Table_contract)) (h_Table_contract : k_Table_contract ≤ k) (me_Table_contract : Meth K C "contract" f_Table_contract) (C_Table_contract_b : Binds K fd_Table_contract ["self"] []) {sp_Table_turn : SpO} {f_Table_turn : Addr} {fd_Table_turn : FuncData} {k_Table_turn : Nat} (C_Table_turn : FnOk P w K mg base CX0 k_Table_turn f_Table_turn fd_Table_turn ["self"] (spO K sp_Table_turn)) (h_Table_turn : k_Table_turn ≤ k) (me_Table_turn : Meth K C "turn" f_Table_turn) (C_Table_turn_b : Binds K fd_Table_turn ["self"] []) {sp_law_acted : SpO} {f_law_acted : Addr} {fd_law_acted : FuncData} {k_law_acted : Nat} (C_law_acted : FnOk P w K mg base CX0 k_law_acted f_law_acted fd_law_acted ["table", "deed"] (spO K sp_law_acted)) (h_law_acted : k_law_acted ≤ k) (C_law_acted_g : mg "_law_acted" = some (.ref f_law_acted)) (C_law_acted_k : PySem.W.keepIn K (.ref f_law_acted) = true) (C_law_acted_b : Binds K fd_law_acted ["table", "deed"] []) {sp_law_drawn_deed : SpD} {f_law_drawn_deed : Addr} {fd_law_drawn_deed : FuncData} {k_law_drawn_deed : Nat} (C_law_drawn_deed : FnOk P w K mg base CX0 k_law_drawn_deed f_law_drawn_deed fd_law_drawn_deed ["script", "town", "ranks", "stage", "some", "sorts"] (spL K sp_law_drawn_deed)) (h_law_drawn_deed : k_law_drawn_deed ≤ k) (C_law_drawn_deed_g : mg "_law_drawn_deed" = some (.ref f_law_drawn_deed)) (C_law_drawn_deed_k : PySem.W.keepIn K (.ref f_law_drawn_deed) = true) (C_law_drawn_deed_b : Binds K fd_law_drawn_deed ["script", "town", "ranks", "stage", "some", "sorts"] []) {sp_Table___init__ : SpO} {f_Table___init__ : Addr} {fd_Table___init__ : FuncData} {k_Table___init__ : Nat} (C_Table___init__ : FnOk P w K mg base CX0 k_Table___init__ f_Table___init__ fd_Table___init__ ["self", "ranks", "deal", "dealer", "risk"] (spO K sp_Table___init__)) (h_Table___init__ : k_Table___init__ + 1 ≤ k) (mk : Mk K C f_Table___init__) (g_Table : mg "Table" = some (.ref C)) {ds0 : List Value} (Bd0 : Binds K fd_Table___init__ ["self", "ranks", "deal", "dealer", "risk"] ds0) (Vd0 : Vals [] ds0) (rd0 : ∀ H, RpL K H [] []) {sp_law_drawn_deal : SpD} {f_law_drawn_deal : Addr} {fd_law_drawn_deal : FuncData} {k_law_drawn_deal : Nat} (C_law_drawn_deal : FnOk P w K mg base CX0 k_law_drawn_deal f_law_drawn_deal fd_law_drawn_deal ["script", "town", "ranks"] (spL K sp_law_drawn_deal)) (h_law_drawn_deal : k_law_drawn_deal ≤ k) (C_law_drawn_deal_g : mg "_law_drawn_deal" = some (.ref f_law_drawn_deal)) (C_law_drawn_deal_k : PySem.W.keepIn K (.ref f_law_drawn_deal) = true) (C_law_drawn_deal_b : Binds K fd_law_drawn_deal ["script", "town", "ranks"] []) {sp_law_drawn_risk : SpD} {f_law_drawn_risk : Addr} {fd_law_drawn_risk : FuncData} {k_law_drawn_risk : Nat} (C_law_drawn_risk : FnOk P w K mg base CX0 k_law_drawn_risk f_law_drawn_risk fd_law_drawn_risk ["script", "town"] (spL K sp_law_drawn_risk)) (h_law_drawn_risk : k_law_drawn_risk ≤ k) (C_law_drawn_risk_g : mg "_law_drawn_risk" = some (.ref f_law_drawn_risk)) (C_law_drawn_risk_k : PySem.W.keepIn K (.ref f_law_drawn_risk) = true) (C_law_drawn_risk_b : Binds K fd_law_drawn_risk ["script", "town"] []) {sp_law_pick : SpD} {f_law_pick : Addr} {fd_law_pick : FuncData} {k_law_pick : Nat} (C_law_pick : FnOk P w K mg base CX0 k_law_pick f_law_pick fd_law_pick ["script", "town", "some"] (spL K sp_law_pick)) (h_law_pick : k_law_pick ≤ k) (C_law_pick_g : mg "_law_pick" = some (.ref f_law_pick)) (C_law_pick_k : PySem.W.keepIn K (.ref f_law_pick) = true) (C_law_pick_b : Binds K fd_law_pick ["script", "town", "some"] []) {sp_law_draw : SpD} {f_law_draw : Addr} {fd_law_draw : FuncData} {k_law_draw : Nat} (C_law_draw : FnOk P w K mg base CX0 k_law_draw f_law_draw fd_law_draw ["script", "town", "many"] (spL K sp_law_draw)) (h_law_draw : k_law_draw ≤ k) (C_law_draw_g : mg "_law_draw" = some (.ref f_law_draw)) (C_law_draw_k : PySem.W.keepIn K (.ref f_law_draw) = true) (C_law_draw_b : Binds K fd_law_draw ["script", "town", "many"] []) (cdv : Value) (A : Around) (outer : List PySem.Env) (s : Shared) (H : Hp) (E : XK) (hr : Room k (A.deeper (envOfC "law" (defScope s_law) s.heap.objs.size f cdv))) (G : Gh) (hG : G.slots = []) :
    SDs (cxOf CX0 P w K mg base N_law "law" (defScope s_law) f cdv A outer s H E).nox G (defBody s_law) (tb_law_k30 C sp_law_same sp_Table_taken_back sp_Table_deeds sp_Table_cards sp_Table_calls sp_Table_may sp_Table_stage sp_law_turned sp_Table_score sp_Table_tricks sp_Table_contract sp_Table_turn sp_law_acted sp_law_drawn_deed sp_Table___init__ sp_law_drawn_deal sp_law_drawn_risk sp_law_pick sp_law_draw) := by
  unfold tb_law_k30
  exact sds_cons (sd_setL (ns hG (by decide)) sc_law.nd rfl (by first | exact Or.inl rfl | exact Or.inr rfl) (el_lst (eds_nil)))
      (sds_cons (sd_for (ms := [2]) PassesOwn.never rfl (id_range1 rfl b_range (ed_int)) (gd_name (ns hG (by decide)) (by decide) sc_law.nd rfl (by first | exact Or.inl rfl | exact Or.inr rfl)) (sds_cons (sd_par2 (nsA hG (by decide)) rfl sc_law.nd rfl rfl (by decide) rfl rfl (eps_d (ed_call C_law_pick (hr.mono h_law_pick) rfl C_law_pick_g C_law_pick_k C_law_pick_b (ea_v (ed_var 0) (ea_o 1 (ea_v (EL.ed (el_lst (eds_cons (ed_int) (eds_cons (ed_int) (eds_cons (ed_int) (eds_cons (ed_int) (eds_cons (ed_int) (eds_nil)))))))) (ea_nil))))) (eps_d (ed_call C_law_draw (hr.mono h_law_draw) rfl C_law_draw_g C_law_draw_k C_law_draw_b (ea_v (ed_var 0) (ea_o 1 (ea_v (ed_int) (ea_nil))))) (eps_nil))))
      (sds_cons (sd_par2 (nsA hG (by decide)) rfl sc_law.nd rfl rfl (by decide) rfl rfl (eps_d (ed_call C_law_drawn_deal (hr.mono h_law_drawn_deal) rfl C_law_drawn_deal_g C_law_drawn_deal_k C_law_drawn_deal_b (ea_v (ed_var 0) (ea_o 1 (ea_v (ed_var 3) (ea_nil))))) (eps_d (ed_call C_law_drawn_risk (hr.mono h_law_drawn_risk) rfl C_law_drawn_risk_g C_law_drawn_risk_k C_law_drawn_risk_b (ea_v (ed_var 0) (ea_o 1 (ea_nil)))) (eps_nil))))
      (sds_cons (sd_set (ns hG (by decide)) sc_law.nd rfl (by first | exact Or.inl rfl | exact Or.inr rfl) (ed_makeO 23 mk C_Table___init__ (hr.mono h_Table___init__) rfl g_Table Bd0 Vd0 rd0 (eds_cons (ed_var 3) (eds_cons (ed_var 5) (eds_cons (ed_var 4) (eds_cons (ed_var 6) (eds_nil)))))))
      (sds_cons (sd_set (ns hG (by decide)) sc_law.nd rfl (by first | exact Or.inl rfl | exact Or.inr rfl) (ed_makeO 22 mk C_Table___init__ (hr.mono h_Table___init__) rfl g_Table Bd0 Vd0 rd0 (eds_cons (ed_var 3) (eds_cons (ed_op od_add (ed_sl (ed_var 5) (eo_e (ed_int)) (eo_no)) (ED.er (ed_sl (ed_var 5) (eo_no) (eo_e (ed_int))))) (eds_cons (ed_op od_mod (ed_op od_add (ed_var 4) (ED.er (ed_int))) (ED.er (ed_int))) (eds_cons (ed_revT (ed_var 6)) (eds_nil)))))))
      (sds_cons (sd_set (ns hG (by decide)) sc_law.nd rfl (by first | exact Or.inl rfl | exact Or.inr rfl) (ed_makeO 21 mk C_Table___init__ (hr.mono h_Table___init__) rfl g_Table Bd0 Vd0 rd0 (eds_cons (ed_var 3) (eds_cons (ed_op od_add (ed_sl (ed_var 5) (eo_e (ed_int)) (eo_no)) (ED.er (ed_sl (ed_var 5) (eo_no) (eo_e (ed_int))))) (eds_cons (ed_op od_mod (ed_op od_add (ed_var 4) (ED.er (ed_int))) (ED.er (ed_int))) (eds_cons (ed_var 6) (eds_nil)))))))
      (sds_cons (sd_set (ns hG (by decide)) sc_law.nd rfl (by first | exact Or.inl rfl | exact Or.inr rfl) (EL.ed (el_op od_cat (EL.ed (el_op od_rep (EL.ed (el_lst (eds_cons (ed_str) (eds_nil)))) (ED.er (ed_int)))) (ED.er (EL.ed (el_lst (eds_cons (ed_str) (eds_cons (ed_str) (eds_cons (ed_str) (eds_cons (ed_str) (eds_cons (ed_str) (eds_nil))))))))))))
      (sds_one (sd_for (ms := [11]) PassesOwn.never rfl (id_range1 rfl b_range (ed_ca2 (cd_min2 rfl) (ed_op od_add (ed_op od_mul (ed_int) (ED.er (ed_var 3))) (ED.er (ed_int))) (ED.er (ed_int)) rfl b_min bb_min)) (gd_name (ns hG (by decide)) (by decide) sc_law.nd rfl (by first | exact Or.inl rfl | exact Or.inr rfl)) (sds_cons (sd_set (ns hG (by decide)) sc_law.nd rfl (by first | exact Or.inl rfl | exact Or.inr rfl) (ed_call C_law_drawn_deed (hr.mono h_law_drawn_deed) rfl C_law_drawn_deed_g C_law_drawn_deed_k C_law_drawn_deed_b (ea_v (ed_var 0) (ea_o 1 (ea_v (ed_var 3) (ea_v (ed_methO0 (ed_var 7) cl me_Table_stage C_Table_stage (hr.mono h_Table_stage) C_Table_stage_b) (ea_v (ed_methO0 (ed_var 7) cl me_Table_may C_Table_may (hr.mono h_Table_may) C_Table_may_b) (ea_v (ed_var 10) (ea_nil)))))))))
      (sds_cons (sd_set (ns hG (by decide)) sc_law.nd rfl (by first | exact Or.inl rfl | exact Or.inr rfl) (EL.ed (el_comp [("table", 16)] rfl sc_law.nd rfl (nsA hG (by decide)) (id_tup (ed_tup (eds_cons (ed_var 7) (eds_cons (ed_var 8) (eds_cons (ed_var 9) (eds_nil)))))) (blkOk_by (N := N_law) (sc := defScope s_law) (by decide +kernel)) (fun _ q2 _ _ _ _ _ => gd_name (ns (q2.trans hG) (by decide)) (by decide) sc_law.nd rfl (by first | exact Or.inl rfl | exact Or.inr rfl)) (fun _ q2 _ _ _ _ _ => ebs_nil) (fun _ q2 _ _ _ _ _ => ed_callO C_law_acted (hr.mono h_law_acted) rfl C_law_acted_g C_law_acted_k C_law_acted_b (eds_cons (ed_var 16) (eds_cons (ed_var 12) (eds_nil)))))))
      (sds_cons (sd_if (eb_tru (ED.er (EL.ed (el_comp [("word", 20)] rfl sc_law.nd rfl (nsA hG (by decide)) (id_lst (ed_var 13)) (blkOk_by (N := N_law) (sc := defScope s_law) (by decide +kernel)) (fun _ q1 _ _ _ _ _ => gd_name (ns (q1.trans hG) (by decide)) (by decide) sc_law.nd rfl (by first | exact Or.inl rfl | exact Or.inr rfl)) (fun _ q1 _ _ _ _ _ => ebs_one (eb_not (eb_tru (ED.er (ed_call C_law_same (hr.mono h_law_same) rfl C_law_same_g C_law_same_k C_law_same_b (ea_v (ed_var 20) (ea_v (ed_ix (ed_var 13) (ed_int)) (ea_nil)))))))) (fun _ q1 _ _ _ _ _ => ed_var 20))))) (sds_one (sd_ret (ed_bl))) (sds_nil))
      (sds_cons (sd_set (ns hG (by decide)) sc_law.nd rfl (by first | exact Or.inl rfl | exact Or.inr rfl) (ed_tup (eds_cons (ed_methO0 (ed_var 7) cl me_Table_turn C_Table_turn (hr.mono h_Table_turn) C_Table_turn_b) (eds_cons (ed_methO0 (ed_var 7) cl me_Table_contract C_Table_contract (hr.mono h_Table_contract) C_Table_contract_b) (eds_cons (ed_methO0 (ed_var 7) cl me_Table_tricks C_Table_tricks (hr.mono h_Table_tricks) C_Table_tricks_b) (eds_cons (ed_methO0 (ed_var 7) cl me_Table_score C_Table_score (hr.mono h_Table_score) C_Table_score_b) (eds_nil)))))))
      (sds_one (sd_for (ms := [15, 16]) PassesOwn.never rfl (id_tup (ed_tup (eds_cons (ed_tup (eds_cons (ed_int) (eds_cons (ed_var 8) (eds_nil)))) (eds_cons (ed_tup (eds_cons (ed_int) (eds_cons (ed_var 9) (eds_nil)))) (eds_nil))))) (gd_tup rfl (gds_cons (gd_name (ns hG (by decide)) (by decide) sc_law.nd rfl (by first | exact Or.inl rfl | exact Or.inr rfl)) (gds_cons (gd_name (ns hG (by decide)) (by decide) sc_law.nd rfl (by first | exact Or.inl rfl | exact Or.inr rfl)) (gds_nil)))) (sds_cons (sd_set (ns hG (by decide)) sc_law.nd rfl (by first | exact Or.inl rfl | exact Or.inr rfl) (ed_tup (eds_cons (ed_methO0 (ed_var 16) cl me_Table_turn C_Table_turn (hr.mono h_Table_turn) C_Table_turn_b) (eds_cons (ed_methO0 (ed_var 16) cl me_Table_contract C_Table_contract (hr.mono h_Table_contract) C_Table_contract_b) (eds_cons (ed_methO0 (ed_var 16) cl me_Table_tricks C_Table_tricks (hr.mono h_Table_tricks) C_Table_tricks_b) (eds_cons (ed_methO0 (ed_var 16) cl me_Table_score C_Table_score (hr.mono h_Table_score) C_Table_score_b) (eds_nil)))))))
      (sds_cons (sd_if (eb_not (eb_tru (ED.er (ed_call C_law_same (hr.mono h_law_same) rfl C_law_same_g C_law_same_k C_law_same_b (ea_v (ed_var 17) (ea_v (ed_call C_law_turned (hr.mono h_law_turned) rfl C_law_turned_g C_law_turned_k C_law_turned_b (ea_v (ed_var 14) (ea_v (ed_var 15) (ea_nil)))) (ea_nil))))))) (sds_one (sd_ret (ed_bl))) (sds_nil))
      (sds_cons (sd_set (ns hG (by decide)) sc_law.nd rfl (by first | exact Or.inl rfl | exact Or.inr rfl) (ed_tup (eds_cons (ed_methO0 (ed_var 16) cl me_Table_stage C_Table_stage (hr.mono h_Table_stage) C_Table_stage_b) (eds_cons (ed_methO0 (ed_var 16) cl me_Table_may C_Table_may (hr.mono h_Table_may) C_Table_may_b) (eds_cons (ed_methO0 (ed_var 16) cl me_Table_calls C_Table_calls (hr.mono h_Table_calls) C_Table_calls_b) (eds_cons (ed_methO0 (ed_var 16) cl me_Table_cards C_Table_cards (hr.mono h_Table_cards) C_Table_cards_b) (eds_cons (ed_methO0 (ed_var 16) cl me_Table_deeds C_Table_deeds (hr.mono h_Table_deeds) C_Table_deeds_b) (eds_cons (ed_methO0 (ed_var 16) cl me_Table_taken_back C_Table_taken_back (hr.mono h_Table_taken_back) C_Table_taken_back_b) (eds_nil)))))))))
      (sds_cons (sd_set (ns hG (by decide)) sc_law.nd rfl (by first | exact Or.inl rfl | exact Or.inr rfl) (ed_tup (eds_cons (ed_methO0 (ed_var 7) cl me_Table_stage C_Table_stage (hr.mono h_Table_stage) C_Table_stage_b) (eds_cons (ed_methO0 (ed_var 7) cl me_Table_may C_Table_may (hr.mono h_Table_may) C_Table_may_b) (eds_cons (ed_methO0 (ed_var 7) cl me_Table_calls C_Table_calls (hr.mono h_Table_calls) C_Table_calls_b) (eds_cons (ed_methO0 (ed_var 7) cl me_Table_cards C_Table_cards (hr.mono h_Table_cards) C_Table_cards_b) (eds_cons (ed_methO0 (ed_var 7) cl me_Table_deeds C_Table_deeds (hr.mono h_Table_deeds) C_Table_deeds_b) (eds_cons (ed_methO0 (ed_var 7) cl me_Table_taken_back C_Table_taken_back (hr.mono h_Table_taken_back) C_Table_taken_back_b) (eds_nil)))))))))
      (sds_one (sd_if (eb_not (eb_tru (ED.er (ed_call C_law_same (hr.mono h_law_same) rfl C_law_same_g C_law_same_k C_law_same_b (ea_v (ed_var 18) (ea_v (ed_var 19) (ea_nil))))))) (sds_one (sd_ret (ed_bl))) (sds_nil))))))))))))))))))))))
      (sds_one (sd_ret (ed_bl))))
end
theorem all_mk {l : PySem.W.OpenLaw} {w : World} {K : PySem.W.Frag} {h : Heap} {mg : Str → Option Value} {fa : Addr} {A_Table : Addr} {f_law_same : Addr} {od_law_same an_law_same : Option Addr} {sl_law_same : Array (Option Value)} {oc_law_same kV_law_same dc_law_same pm_law_same cd_law_same ct_law_same : Value} {f_Table_taken_back : Addr} {od_Table_taken_back an_Table_taken_back : Option Addr} {sl_Table_taken_back : Array (Option Value)} {oc_Table_taken_back kV_Table_taken_back dc_Table_taken_back pm_Table_taken_back cd_Table_taken_back ct_Table_taken_back : Value} {f_Table_deeds : Addr} {od_Table_deeds an_Table_deeds : Option Addr} {sl_Table_deeds : Array (Option Value)} {oc_Table_deeds kV_Table_deeds dc_Table_deeds pm_Table_deeds cd_Table_deeds ct_Table_deeds : Value} {f_Table_cards : Addr} {od_Table_cards an_Table_cards : Option Addr} {sl_Table_cards : Array (Option Value)} {oc_Table_cards kV_Table_cards dc_Table_cards pm_Table_cards cd_Table_cards ct_Table_cards : Value} {f_Table_calls : Addr} {od_Table_calls an_Table_calls : Option Addr} {sl_Table_calls : Array (Option Value)} {oc_Table_calls kV_Table_calls dc_Table_calls pm_Table_calls cd_Table_calls ct_Table_calls : Value} {f_is_over : Addr} {od_is_over an_is_over : Option Addr} {sl_is_over : Array (Option Value)} {oc_is_over kV_is_over dc_is_over pm_is_over cd_is_over ct_is_over : Value} {f_last_bid : Addr} {od_last_bid an_last_bid : Option Addr} {sl_last_bid : Array (Option Value)} {oc_last_bid kV_last_bid dc_last_bid pm_last_bid cd_last_bid ct_last_bid : Value} {f_contract_of : Addr} {od_contract_of an_contract_of : Option Addr} {sl_contract_of : Array (Option Value)} {oc_contract_of kV_contract_of dc_contract_of pm_contract_of cd_contract_of ct_contract_of : Value} {f_Table_contract : Addr} {od_Table_contract an_Table_contract : Option Addr} {sl_Table_contract : Array (Option Value)} {oc_Table_contract kV_Table_contract dc_Table_contract pm_Table_contract cd_Table_contract ct_Table_contract : Value} {f_Table_leader : Addr} {od_Table_leader an_Table_leader : Option Addr} {sl_Table_leader : Array (Option Value)} {oc_Table_leader kV_Table_leader dc_Table_leader pm_Table_leader cd_Table_leader ct_Table_leader : Value} {f_winner_of : Addr} {od_winner_of an_winner_of : Option Addr} {sl_winner_of : Array (Option Value)} {oc_winner_of kV_winner_of dc_winner_of pm_winner_of cd_winner_of ct_winner_of : Value} {f_walked : Addr} {od_walked an_walked : Option Addr} {sl_walked : Array (Option Value)} {oc_walked kV_walked dc_walked pm_walked cd_walked ct_walked : Value} {f_left_of : Addr} {od_left_of an_left_of : Option Addr} {sl_left_of : Array (Option Value)} {oc_left_of kV_left_of dc_left_of pm_left_of cd_left_of ct_left_of : Value} {f_turn_of : Addr} {od_turn_of an_turn_of : Option Addr} {sl_turn_of : Array (Option Value)} {oc_turn_of kV_turn_of dc_turn_of pm_turn_of cd_turn_of ct_turn_of : Value} {f_may_play : Addr} {od_may_play an_may_play : Option Addr} {sl_may_play : Array (Option Value)} {oc_may_play kV_may_play dc_may_play pm_may_play cd_may_play ct_may_play : Value} {f_book_of : Addr} {od_book_of an_book_of : Option Addr} {sl_book_of : Array (Option Value)} {oc_book_of kV_book_of dc_book_of pm_book_of cd_book_of ct_book_of : Value} {f_levels_of : Addr} {od_levels_of an_levels_of : Option Addr} {sl_levels_of : Array (Option Value)} {oc_levels_of kV_levels_of dc_levels_of pm_levels_of cd_levels_of ct_levels_of : Value} {f_all_bids : Addr} {od_all_bids an_all_bids : Option Addr} {sl_all_bids : Array (Option Value)} {oc_all_bids kV_all_bids dc_all_bids pm_all_bids cd_all_bids ct_all_bids : Value} {f_last_but_pass : Addr} {od_last_but_pass an_last_but_pass : Option Addr} {sl_last_but_pass : Array (Option Value)} {oc_last_but_pass kV_last_but_pass dc_last_but_pass pm_last_but_pass cd_last_but_pass ct_last_but_pass : Value} {f_may_call : Addr} {od_may_call an_may_call : Option Addr} {sl_may_call : Array (Option Value)} {oc_may_call kV_may_call dc_may_call pm_may_call cd_may_call ct_may_call : Value} {f_Table_stage : Addr} {od_Table_stage an_Table_stage : Option Addr} {sl_Table_stage : Array (Option Value)} {oc_Table_stage kV_Table_stage dc_Table_stage pm_Table_stage cd_Table_stage ct_Table_stage : Value} {f_Table_may : Addr} {od_Table_may an_Table_may : Option Addr} {sl_Table_may : Array (Option Value)} {oc_Table_may kV_Table_may dc_Table_may pm_Table_may cd_Table_may ct_Table_may : Value} {f_law_turned : Addr} {od_law_turned an_law_turned : Option Addr} {sl_law_turned : Array (Option Value)} {oc_law_turned kV_law_turned dc_law_turned pm_law_turned cd_law_turned ct_law_turned : Value} {f_tricks_of : Addr} {od_tricks_of an_tricks_of : Option Addr} {sl_tricks_of : Array (Option Value)} {oc_tricks_of kV_tricks_of dc_tricks_of pm_tricks_of cd_tricks_of ct_tricks_of : Value} {f_Table_tricks : Addr} {od_Table_tricks an_Table_tricks : Option Addr} {sl_Table_tricks : Array (Option Value)} {oc_Table_tricks kV_Table_tricks dc_Table_tricks pm_Table_tricks cd_Table_tricks ct_Table_tricks : Value} {f_trick_worth : Addr} {od_trick_worth an_trick_worth : Option Addr} {sl_trick_worth : Array (Option Value)} {oc_trick_worth kV_trick_worth dc_trick_worth pm_trick_worth cd_trick_worth ct_trick_worth : Value} {f_won_by : Addr} {od_won_by an_won_by : Option Addr} {sl_won_by : Array (Option Value)} {oc_won_by kV_won_by dc_won_by pm_won_by cd_won_by ct_won_by : Value} {f_lost_by : Addr} {od_lost_by an_lost_by : Option Addr} {sl_lost_by : Array (Option Value)} {oc_lost_by kV_lost_by dc_lost_by pm_lost_by cd_lost_by ct_lost_by : Value} {f_paid : Addr} {od_paid an_paid : Option Addr} {sl_paid : Array (Option Value)} {oc_paid kV_paid dc_paid pm_paid cd_paid ct_paid : Value} {f_Table_score : Addr} {od_Table_score an_Table_score : Option Addr} {sl_Table_score : Array (Option Value)} {oc_Table_score kV_Table_score dc_Table_score pm_Table_score cd_Table_score ct_Table_score : Value} {f_Table_turn : Addr} {od_Table_turn an_Table_turn : Option Addr} {sl_Table_turn : Array (Option Value)} {oc_Table_turn kV_Table_turn dc_Table_turn pm_Table_turn cd_Table_turn ct_Table_turn : Value} {f_Table_become : Addr} {od_Table_become an_Table_become : Option Addr} {sl_Table_become : Array (Option Value)} {oc_Table_become kV_Table_become dc_Table_become pm_Table_become cd_Table_become ct_Table_become : Value} {f_is_whole : Addr} {od_is_whole an_is_whole : Option Addr} {sl_is_whole : Array (Option Value)} {oc_is_whole kV_is_whole dc_is_whole pm_is_whole cd_is_whole ct_is_whole : Value} {f_is_bid : Addr} {od_is_bid an_is_bid : Option Addr} {sl_is_bid : Array (Option Value)} {oc_is_bid kV_is_bid dc_is_bid pm_is_bid cd_is_bid ct_is_bid : Value} {f_is_call : Addr} {od_is_call an_is_call : Option Addr} {sl_is_call : Array (Option Value)} {oc_is_call kV_is_call dc_is_call pm_is_call cd_is_call ct_is_call : Value} {f_Table_call : Addr} {od_Table_call an_Table_call : Option Addr} {sl_Table_call : Array (Option Value)} {oc_Table_call kV_Table_call dc_Table_call pm_Table_call cd_Table_call ct_Table_call : Value} {f_Table_must_play : Addr} {od_Table_must_play an_Table_must_play : Option Addr} {sl_Table_must_play : Array (Option Value)} {oc_Table_must_play kV_Table_must_play dc_Table_must_play pm_Table_must_play cd_Table_must_play ct_Table_must_play : Value} {f_Table_play : Addr} {od_Table_play an_Table_play : Option Addr} {sl_Table_play : Array (Option Value)} {oc_Table_play kV_Table_play dc_Table_play pm_Table_play cd_Table_play ct_Table_play : Value} {f_Table_claim : Addr} {od_Table_claim an_Table_claim : Option Addr} {sl_Table_claim : Array (Option Value)} {oc_Table_claim kV_Table_claim dc_Table_claim pm_Table_claim cd_Table_claim ct_Table_claim : Value} {f_Table_back : Addr} {od_Table_back an_Table_back : Option Addr} {sl_Table_back : Array (Option Value)} {oc_Table_back kV_Table_back dc_Table_back pm_Table_back cd_Table_back ct_Table_back : Value} {f_Table_again : Addr} {od_Table_again an_Table_again : Option Addr} {sl_Table_again : Array (Option Value)} {oc_Table_again kV_Table_again dc_Table_again pm_Table_again cd_Table_again ct_Table_again : Value} {f_law_word : Addr} {od_law_word an_law_word : Option Addr} {sl_law_word : Array (Option Value)} {oc_law_word kV_law_word dc_law_word pm_law_word cd_law_word ct_law_word : Value} {f_law_acted : Addr} {od_law_acted an_law_acted : Option Addr} {sl_law_acted : Array (Option Value)} {oc_law_acted kV_law_acted dc_law_acted pm_law_acted cd_law_acted ct_law_acted : Value} {f_law_draw : Addr} {od_law_draw an_law_draw : Option Addr} {sl_law_draw : Array (Option Value)} {oc_law_draw kV_law_draw dc_law_draw pm_law_draw cd_law_draw ct_law_draw : Value} {f_law_pick : Addr} {od_law_pick an_law_pick : Option Addr} {sl_law_pick : Array (Option Value)} {oc_law_pick kV_law_pick dc_law_pick pm_law_pick cd_law_pick ct_law_pick : Value} {f_law_drawn_deed : Addr} {od_law_drawn_deed an_law_drawn_deed : Option Addr} {sl_law_drawn_deed : Array (Option Value)} {oc_law_drawn_deed kV_law_drawn_deed dc_law_drawn_deed pm_law_drawn_deed cd_law_drawn_deed ct_law_drawn_deed : Value} {f_Table___init__ : Addr} {od_Table___init__ an_Table___init__ : Option Addr} {sl_Table___init__ : Array (Option Value)} {oc_Table___init__ kV_Table___init__ dc_Table___init__ pm_Table___init__ cd_Table___init__ ct_Table___init__ : Value} {T_D : Addr} {tc_D : Value} {td_D : Option Addr} {its_D : Array Value} {n_D : Nat} {ts_D : Array (Option Value)} {f_law_all_cards : Addr} {od_law_all_cards an_law_all_cards : Option Addr} {sl_law_all_cards : Array (Option Value)} {oc_law_all_cards kV_law_all_cards dc_law_all_cards pm_law_all_cards cd_law_all_cards ct_law_all_cards : Value} {f_law_mixed : Addr} {od_law_mixed an_law_mixed : Option Addr} {sl_law_mixed : Array (Option Value)} {oc_law_mixed kV_law_mixed dc_law_mixed pm_law_mixed cd_law_mixed ct_law_mixed : Value} {f_law_drawn_deal : Addr} {od_law_drawn_deal an_law_drawn_deal : Option Addr} {sl_law_drawn_deal : Array (Option Value)} {oc_law_drawn_deal kV_law_drawn_deal dc_law_drawn_deal pm_law_drawn_deal cd_law_drawn_deal ct_law_drawn_deal : Value} {f_law_drawn_risk : Addr} {od_law_drawn_risk an_law_drawn_risk : Option Addr} {sl_law_drawn_risk : Array (Option Value)} {oc_law_drawn_risk kV_law_drawn_risk dc_law_drawn_risk pm_law_drawn_risk cd_law_drawn_risk ct_law_drawn_risk : Value} {f_law : Addr} {od_law an_law : Option Addr} {sl_law : Array (Option Value)} {oc_law kV_law dc_law pm_law cd_law ct_law : Value} {A_Over : Addr} {A_NotNow : Addr} {A_BadCall : Addr} {A_BadCard : Addr} {A_BadClaim : Addr} {A_NothingBack : Addr} {A_BoardError : Addr} (X : K.In h) (G : h.Ns mainGlobals mg) (hfa : mg "law" = some (.ref fa))
    (a_Table : PySem.W.nsIn K mainGlobals "Table" = some (some (.ref A_Table))) (pg_C : PySem.W.plainGet K A_Table Str.empty = true) (hd_C : PySem.W.hasDictIn K A_Table = true) (po_C : PySem.W.plainOver K A_Table = true) (sa_C : PySem.W.findIn K (.ref A_Table) "__setattr__" = some (some (.builtin "object.__setattr__"))) (mk_C : PySem.W.makesIn K A_Table = true) (kc_C : PySem.W.keepIn K (.ref A_Table) = true) (na_undone : PySem.W.findIn K (.ref A_Table) "undone" = some none) (na_done : PySem.W.findIn K (.ref A_Table) "done" = some none) (na_state : PySem.W.findIn K (.ref A_Table) "state" = some none) (na_dealer : PySem.W.findIn K (.ref A_Table) "dealer" = some none) (na_ranks : PySem.W.findIn K (.ref A_Table) "ranks" = some none) (na_deal : PySem.W.findIn K (.ref A_Table) "deal" = some none) (na_risk : PySem.W.findIn K (.ref A_Table) "risk" = some none)
    (a_law_same : PySem.W.nsIn K mainGlobals "_law_same" = some (some (.ref f_law_same))) (l_law_same : K.lookup f_law_same = some ⟨oc_law_same, od_law_same, .func (PySem.W.fnOf "_law_same" "_law_same" (defArgs s_law_same) (defBody s_law_same) (defScope s_law_same) .none kV_law_same dc_law_same pm_law_same an_law_same cd_law_same ct_law_same), sl_law_same⟩) (c_law_same : PySem.W.codeIn K cd_law_same "_law_same" = true) (k_law_same : PySem.W.keepIn K (.ref f_law_same) = true)
    (a_Table_taken_back : PySem.W.findIn K (.ref A_Table) "taken_back" = some (some (.ref f_Table_taken_back))) (i_Table_taken_back : PySem.W.isFn K (.ref f_Table_taken_back) = true) (l_Table_taken_back : K.lookup f_Table_taken_back = some ⟨oc_Table_taken_back, od_Table_taken_back, .func (PySem.W.fnOf "taken_back" "Table.taken_back" (defArgs s_Table_taken_back) (defBody s_Table_taken_back) (defScope s_Table_taken_back) .none kV_Table_taken_back dc_Table_taken_back pm_Table_taken_back an_Table_taken_back cd_Table_taken_back ct_Table_taken_back), sl_Table_taken_back⟩) (c_Table_taken_back : PySem.W.codeIn K cd_Table_taken_back "Table.taken_back" = true) (k_Table_taken_back : PySem.W.keepIn K (.ref f_Table_taken_back) = true)
    (a_Table_deeds : PySem.W.findIn K (.ref A_Table) "deeds" = some (some (.ref f_Table_deeds))) (i_Table_deeds : PySem.W.isFn K (.ref f_Table_deeds) = true) (l_Table_deeds : K.lookup f_Table_deeds = some ⟨oc_Table_deeds, od_Table_deeds, .func (PySem.W.fnOf "deeds" "Table.deeds" (defArgs s_Table_deeds) (defBody s_Table_deeds) (defScope s_Table_deeds) .none kV_Table_deeds dc_Table_deeds pm_Table_deeds an_Table_deeds cd_Table_deeds ct_Table_deeds), sl_Table_deeds⟩) (c_Table_deeds : PySem.W.codeIn K cd_Table_deeds "Table.deeds" = true) (k_Table_deeds : PySem.W.keepIn K (.ref f_Table_deeds) = true)
    (a_Table_cards : PySem.W.findIn K (.ref A_Table) "cards" = some (some (.ref f_Table_cards))) (i_Table_cards : PySem.W.isFn K (.ref f_Table_cards) = true) (l_Table_cards : K.lookup f_Table_cards = some ⟨oc_Table_cards, od_Table_cards, .func (PySem.W.fnOf "cards" "Table.cards" (defArgs s_Table_cards) (defBody s_Table_cards) (defScope s_Table_cards) .none kV_Table_cards dc_Table_cards pm_Table_cards an_Table_cards cd_Table_cards ct_Table_cards), sl_Table_cards⟩) (c_Table_cards : PySem.W.codeIn K cd_Table_cards "Table.cards" = true) (k_Table_cards : PySem.W.keepIn K (.ref f_Table_cards) = true)
    (a_Table_calls : PySem.W.findIn K (.ref A_Table) "calls" = some (some (.ref f_Table_calls))) (i_Table_calls : PySem.W.isFn K (.ref f_Table_calls) = true) (l_Table_calls : K.lookup f_Table_calls = some ⟨oc_Table_calls, od_Table_calls, .func (PySem.W.fnOf "calls" "Table.calls" (defArgs s_Table_calls) (defBody s_Table_calls) (defScope s_Table_calls) .none kV_Table_calls dc_Table_calls pm_Table_calls an_Table_calls cd_Table_calls ct_Table_calls), sl_Table_calls⟩) (c_Table_calls : PySem.W.codeIn K cd_Table_calls "Table.calls" = true) (k_Table_calls : PySem.W.keepIn K (.ref f_Table_calls) = true)
    (a_is_over : PySem.W.nsIn K mainGlobals "is_over" = some (some (.ref f_is_over))) (l_is_over : K.lookup f_is_over = some ⟨oc_is_over, od_is_over, .func (PySem.W.fnOf "is_over" "is_over" (defArgs s_is_over) (defBody s_is_over) (defScope s_is_over) .none kV_is_over dc_is_over pm_is_over an_is_over cd_is_over ct_is_over), sl_is_over⟩) (c_is_over : PySem.W.codeIn K cd_is_over "is_over" = true) (k_is_over : PySem.W.keepIn K (.ref f_is_over) = true)
    (a_last_bid : PySem.W.nsIn K mainGlobals "last_bid" = some (some (.ref f_last_bid))) (l_last_bid : K.lookup f_last_bid = some ⟨oc_last_bid, od_last_bid, .func (PySem.W.fnOf "last_bid" "last_bid" (defArgs s_last_bid) (defBody s_last_bid) (defScope s_last_bid) .none kV_last_bid dc_last_bid pm_last_bid an_last_bid cd_last_bid ct_last_bid), sl_last_bid⟩) (c_last_bid : PySem.W.codeIn K cd_last_bid "last_bid" = true) (k_last_bid : PySem.W.keepIn K (.ref f_last_bid) = true)
    (a_contract_of : PySem.W.nsIn K mainGlobals "contract_of" = some (some (.ref f_contract_of))) (l_contract_of : K.lookup f_contract_of = some ⟨oc_contract_of, od_contract_of, .func (PySem.W.fnOf "contract_of" "contract_of" (defArgs s_contract_of) (defBody s_contract_of) (defScope s_contract_of) .none kV_contract_of dc_contract_of pm_contract_of an_contract_of cd_contract_of ct_contract_of), sl_contract_of⟩) (c_contract_of : PySem.W.codeIn K cd_contract_of "contract_of" = true) (k_contract_of : PySem.W.keepIn K (.ref f_contract_of) = true)
    (a_Table_contract : PySem.W.findIn K (.ref A_Table) "contract" = some (some (.ref f_Table_contract))) (i_Table_contract : PySem.W.isFn K (.ref f_Table_contract) = true) (l_Table_contract : K.lookup f_Table_contract = some ⟨oc_Table_contract, od_Table_contract, .func (PySem.W.fnOf "contract" "Table.contract" (defArgs s_Table_contract) (defBody s_Table_contract) (defScope s_Table_contract) .none kV_Table_contract dc_Table_contract pm_Table_contract an_Table_contract cd_Table_contract ct_Table_contract), sl_Table_contract⟩) (c_Table_contract : PySem.W.codeIn K cd_Table_contract "Table.contract" = true) (k_Table_contract : PySem.W.keepIn K (.ref f_Table_contract) = true)
    (a_Table_leader : PySem.W.findIn K (.ref A_Table) "leader" = some (some (.ref f_Table_leader))) (i_Table_leader : PySem.W.isFn K (.ref f_Table_leader) = true) (l_Table_leader : K.lookup f_Table_leader = some ⟨oc_Table_leader, od_Table_leader, .func (PySem.W.fnOf "leader" "Table.leader" (defArgs s_Table_leader) (defBody s_Table_leader) (defScope s_Table_leader) .none kV_Table_leader dc_Table_leader pm_Table_leader an_Table_leader cd_Table_leader ct_Table_leader), sl_Table_leader⟩) (c_Table_leader : PySem.W.codeIn K cd_Table_leader "Table.leader" = true) (k_Table_leader : PySem.W.keepIn K (.ref f_Table_leader) = true)
    (a_winner_of : PySem.W.nsIn K mainGlobals "winner_of" = some (some (.ref f_winner_of))) (l_winner_of : K.lookup f_winner_of = some ⟨oc_winner_of, od_winner_of, .func (PySem.W.fnOf "winner_of" "winner_of" (defArgs s_winner_of) (defBody s_winner_of) (defScope s_winner_of) .none kV_winner_of dc_winner_of pm_winner_of an_winner_of cd_winner_of ct_winner_of), sl_winner_of⟩) (c_winner_of : PySem.W.codeIn K cd_winner_of "winner_of" = true) (k_winner_of : PySem.W.keepIn K (.ref f_winner_of) = true)
    (a_walked : PySem.W.nsIn K mainGlobals "walked" = some (some (.ref f_walked))) (l_walked : K.lookup f_walked = some ⟨oc_walked, od_walked, .func (PySem.W.fnOf "walked" "walked" (defArgs s_walked) (defBody s_walked) (defScope s_walked) .none kV_walked dc_walked pm_walked an_walked cd_walked ct_walked), sl_walked⟩) (c_walked : PySem.W.codeIn K cd_walked "walked" = true) (k_walked : PySem.W.keepIn K (.ref f_walked) = true)
    (a_left_of : PySem.W.nsIn K mainGlobals "left_of" = some (some (.ref f_left_of))) (l_left_of : K.lookup f_left_of = some ⟨oc_left_of, od_left_of, .func (PySem.W.fnOf "left_of" "left_of" (defArgs s_left_of) (defBody s_left_of) (defScope s_left_of) .none kV_left_of dc_left_of pm_left_of an_left_of cd_left_of ct_left_of), sl_left_of⟩) (c_left_of : PySem.W.codeIn K cd_left_of "left_of" = true) (k_left_of : PySem.W.keepIn K (.ref f_left_of) = true)
    (a_turn_of : PySem.W.nsIn K mainGlobals "turn_of" = some (some (.ref f_turn_of))) (l_turn_of : K.lookup f_turn_of = some ⟨oc_turn_of, od_turn_of, .func (PySem.W.fnOf "turn_of" "turn_of" (defArgs s_turn_of) (defBody s_turn_of) (defScope s_turn_of) .none kV_turn_of dc_turn_of pm_turn_of an_turn_of cd_turn_of ct_turn_of), sl_turn_of⟩) (c_turn_of : PySem.W.codeIn K cd_turn_of "turn_of" = true) (k_turn_of : PySem.W.keepIn K (.ref f_turn_of) = true)
    (a_may_play : PySem.W.nsIn K mainGlobals "may_play" = some (some (.ref f_may_play))) (l_may_play : K.lookup f_may_play = some ⟨oc_may_play, od_may_play, .func (PySem.W.fnOf "may_play" "may_play" (defArgs s_may_play) (defBody s_may_play) (defScope s_may_play) .none kV_may_play dc_may_play pm_may_play an_may_play cd_may_play ct_may_play), sl_may_play⟩) (c_may_play : PySem.W.codeIn K cd_may_play "may_play" = true) (k_may_play : PySem.W.keepIn K (.ref f_may_play) = true)
    (a_book_of : PySem.W.nsIn K mainGlobals "book_of" = some (some (.ref f_book_of))) (l_book_of : K.lookup f_book_of = some ⟨oc_book_of, od_book_of, .func (PySem.W.fnOf "book_of" "book_of" (defArgs s_book_of) (defBody s_book_of) (defScope s_book_of) .none kV_book_of dc_book_of pm_book_of an_book_of cd_book_of ct_book_of), sl_book_of⟩) (c_book_of : PySem.W.codeIn K cd_book_of "book_of" = true) (k_book_of : PySem.W.keepIn K (.ref f_book_of) = true)
    (a_levels_of : PySem.W.nsIn K mainGlobals "levels_of" = some (some (.ref f_levels_of))) (l_levels_of : K.lookup f_levels_of = some ⟨oc_levels_of, od_levels_of, .func (PySem.W.fnOf "levels_of" "levels_of" (defArgs s_levels_of) (defBody s_levels_of) (defScope s_levels_of) .none kV_levels_of dc_levels_of pm_levels_of an_levels_of cd_levels_of ct_levels_of), sl_levels_of⟩) (c_levels_of : PySem.W.codeIn K cd_levels_of "levels_of" = true) (k_levels_of : PySem.W.keepIn K (.ref f_levels_of) = true)
    (a_all_bids : PySem.W.nsIn K mainGlobals "all_bids" = some (some (.ref f_all_bids))) (l_all_bids : K.lookup f_all_bids = some ⟨oc_all_bids, od_all_bids, .func (PySem.W.fnOf "all_bids" "all_bids" (defArgs s_all_bids) (defBody s_all_bids) (defScope s_all_bids) .none kV_all_bids dc_all_bids pm_all_bids an_all_bids cd_all_bids ct_all_bids), sl_all_bids⟩) (c_all_bids : PySem.W.codeIn K cd_all_bids "all_bids" = true) (k_all_bids : PySem.W.keepIn K (.ref f_all_bids) = true)
    (a_last_but_pass : PySem.W.nsIn K mainGlobals "last_but_pass" = some (some (.ref f_last_but_pass))) (l_last_but_pass : K.lookup f_last_but_pass = some ⟨oc_last_but_pass, od_last_but_pass, .func (PySem.W.fnOf "last_but_pass" "last_but_pass" (defArgs s_last_but_pass) (defBody s_last_but_pass) (defScope s_last_but_pass) .none kV_last_but_pass dc_last_but_pass pm_last_but_pass an_last_but_pass cd_last_but_pass ct_last_but_pass), sl_last_but_pass⟩) (c_last_but_pass : PySem.W.codeIn K cd_last_but_pass "last_but_pass" = true) (k_last_but_pass : PySem.W.keepIn K (.ref f_last_but_pass) = true)
    (a_may_call : PySem.W.nsIn K mainGlobals "may_call" = some (some (.ref f_may_call))) (l_may_call : K.lookup f_may_call = some ⟨oc_may_call, od_may_call, .func (PySem.W.fnOf "may_call" "may_call" (defArgs s_may_call) (defBody s_may_call) (defScope s_may_call) .none kV_may_call dc_may_call pm_may_call an_may_call cd_may_call ct_may_call), sl_may_call⟩) (c_may_call : PySem.W.codeIn K cd_may_call "may_call" = true) (k_may_call : PySem.W.keepIn K (.ref f_may_call) = true)
    (a_Table_stage : PySem.W.findIn K (.ref A_Table) "stage" = some (some (.ref f_Table_stage))) (i_Table_stage : PySem.W.isFn K (.ref f_Table_stage) = true) (l_Table_stage : K.lookup f_Table_stage = some ⟨oc_Table_stage, od_Table_stage, .func (PySem.W.fnOf "stage" "Table.stage" (defArgs s_Table_stage) (defBody s_Table_stage) (defScope s_Table_stage) .none kV_Table_stage dc_Table_stage pm_Table_stage an_Table_stage cd_Table_stage ct_Table_stage), sl_Table_stage⟩) (c_Table_stage : PySem.W.codeIn K cd_Table_stage "Table.stage" = true) (k_Table_stage : PySem.W.keepIn K (.ref f_Table_stage) = true)
    (a_Table_may : PySem.W.findIn K (.ref A_Table) "may" = some (some (.ref f_Table_may))) (i_Table_may : PySem.W.isFn K (.ref f_Table_may) = true) (l_Table_may : K.lookup f_Table_may = some ⟨oc_Table_may, od_Table_may, .func (PySem.W.fnOf "may" "Table.may" (defArgs s_Table_may) (defBody s_Table_may) (defScope s_Table_may) .none kV_Table_may dc_Table_may pm_Table_may an_Table_may cd_Table_may ct_Table_may), sl_Table_may⟩) (c_Table_may : PySem.W.codeIn K cd_Table_may "Table.may" = true) (k_Table_may : PySem.W.keepIn K (.ref f_Table_may) = true)
    (a_law_turned : PySem.W.nsIn K mainGlobals "_law_turned" = some (some (.ref f_law_turned))) (l_law_turned : K.lookup f_law_turned = some ⟨oc_law_turned, od_law_turned, .func (PySem.W.fnOf "_law_turned" "_law_turned" (defArgs s_law_turned) (defBody s_law_turned) (defScope s_law_turned) .none kV_law_turned dc_law_turned pm_law_turned an_law_turned cd_law_turned ct_law_turned), sl_law_turned⟩) (c_law_turned : PySem.W.codeIn K cd_law_turned "_law_turned" = true) (k_law_turned : PySem.W.keepIn K (.ref f_law_turned) = true)
    (a_tricks_of : PySem.W.nsIn K mainGlobals "tricks_of" = some (some (.ref f_tricks_of))) (l_tricks_of : K.lookup f_tricks_of = some ⟨oc_tricks_of, od_tricks_of, .func (PySem.W.fnOf "tricks_of" "tricks_of" (defArgs s_tricks_of) (defBody s_tricks_of) (defScope s_tricks_of) .none kV_tricks_of dc_tricks_of pm_tricks_of an_tricks_of cd_tricks_of ct_tricks_of), sl_tricks_of⟩) (c_tricks_of : PySem.W.codeIn K cd_tricks_of "tricks_of" = true) (k_tricks_of : PySem.W.keepIn K (.ref f_tricks_of) = true)
    (a_Table_tricks : PySem.W.findIn K (.ref A_Table) "tricks" = some (some (.ref f_Table_tricks))) (i_Table_tricks : PySem.W.isFn K (.ref f_Table_tricks) = true) (l_Table_tricks : K.lookup f_Table_tricks = some ⟨oc_Table_tricks, od_Table_tricks, .func (PySem.W.fnOf "tricks" "Table.tricks" (defArgs s_Table_tricks) (defBody s_Table_tricks) (defScope s_Table_tricks) .none kV_Table_tricks dc_Table_tricks pm_Table_tricks an_Table_tricks cd_Table_tricks ct_Table_tricks), sl_Table_tricks⟩) (c_Table_tricks : PySem.W.codeIn K cd_Table_tricks "Table.tricks" = true) (k_Table_tricks : PySem.W.keepIn K (.ref f_Table_tricks) = true)
    (a_trick_worth : PySem.W.nsIn K mainGlobals "trick_worth" = some (some (.ref f_trick_worth))) (l_trick_worth : K.lookup f_trick_worth = some ⟨oc_trick_worth, od_trick_worth, .func (PySem.W.fnOf "trick_worth" "trick_worth" (defArgs s_trick_worth) (defBody s_trick_worth) (defScope s_trick_worth) .none kV_trick_worth dc_trick_worth pm_trick_worth an_trick_worth cd_trick_worth ct_trick_worth), sl_trick_worth⟩) (c_trick_worth : PySem.W.codeIn K cd_trick_worth "trick_worth" = true) (k_trick_worth : PySem.W.keepIn K (.ref f_trick_worth) = true)
    (a_won_by : PySem.W.nsIn K mainGlobals "won_by" = some (some (.ref f_won_by))) (l_won_by : K.lookup f_won_by = some ⟨oc_won_by, od_won_by, .func (PySem.W.fnOf "won_by" "won_by" (defArgs s_won_by) (defBody s_won_by) (defScope s_won_by) .none kV_won_by dc_won_by pm_won_by an_won_by cd_won_by ct_won_by), sl_won_by⟩) (c_won_by : PySem.W.codeIn K cd_won_by "won_by" = true) (k_won_by : PySem.W.keepIn K (.ref f_won_by) = true)
    (a_lost_by : PySem.W.nsIn K mainGlobals "lost_by" = some (some (.ref f_lost_by))) (l_lost_by : K.lookup f_lost_by = some ⟨oc_lost_by, od_lost_by, .func (PySem.W.fnOf "lost_by" "lost_by" (defArgs s_lost_by) (defBody s_lost_by) (defScope s_lost_by) .none kV_lost_by dc_lost_by pm_lost_by an_lost_by cd_lost_by ct_lost_by), sl_lost_by⟩) (c_lost_by : PySem.W.codeIn K cd_lost_by "lost_by" = true) (k_lost_by : PySem.W.keepIn K (.ref f_lost_by) = true)
    (a_paid : PySem.W.nsIn K mainGlobals "paid" = some (some (.ref f_paid))) (l_paid : K.lookup f_paid = some ⟨oc_paid, od_paid, .func (PySem.W.fnOf "paid" "paid" (defArgs s_paid) (defBody s_paid) (defScope s_paid) .none kV_paid dc_paid pm_paid an_paid cd_paid ct_paid), sl_paid⟩) (c_paid : PySem.W.codeIn K cd_paid "paid" = true) (k_paid : PySem.W.keepIn K (.ref f_paid) = true)
    (a_Table_score : PySem.W.findIn K (.ref A_Table) "score" = some (some (.ref f_Table_score))) (i_Table_score : PySem.W.isFn K (.ref f_Table_score) = true) (l_Table_score : K.lookup f_Table_score = some ⟨oc_Table_score, od_Table_score, .func (PySem.W.fnOf "score" "Table.score" (defArgs s_Table_score) (defBody s_Table_score) (defScope s_Table_score) .none kV_Table_score dc_Table_score pm_Table_score an_Table_score cd_Table_score ct_Table_score), sl_Table_score⟩) (c_Table_score : PySem.W.codeIn K cd_Table_score "Table.score" = true) (k_Table_score : PySem.W.keepIn K (.ref f_Table_score) = true)
    (a_Table_turn : PySem.W.findIn K (.ref A_Table) "turn" = some (some (.ref f_Table_turn))) (i_Table_turn : PySem.W.isFn K (.ref f_Table_turn) = true) (l_Table_turn : K.lookup f_Table_turn = some ⟨oc_Table_turn, od_Table_turn, .func (PySem.W.fnOf "turn" "Table.turn" (defArgs s_Table_turn) (defBody s_Table_turn) (defScope s_Table_turn) .none kV_Table_turn dc_Table_turn pm_Table_turn an_Table_turn cd_Table_turn ct_Table_turn), sl_Table_turn⟩) (c_Table_turn : PySem.W.codeIn K cd_Table_turn "Table.turn" = true) (k_Table_turn : PySem.W.keepIn K (.ref f_Table_turn) = true)
    (a_Table_become : PySem.W.findIn K (.ref A_Table) "become" = some (some (.ref f_Table_become))) (i_Table_become : PySem.W.isFn K (.ref f_Table_become) = true) (l_Table_become : K.lookup f_Table_become = some ⟨oc_Table_become, od_Table_become, .func (PySem.W.fnOf "become" "Table.become" (defArgs s_Table_become) (defBody s_Table_become) (defScope s_Table_become) .none kV_Table_become dc_Table_become pm_Table_become an_Table_become cd_Table_become ct_Table_become), sl_Table_become⟩) (c_Table_become : PySem.W.codeIn K cd_Table_become "Table.become" = true) (k_Table_become : PySem.W.keepIn K (.ref f_Table_become) = true)
    (a_is_whole : PySem.W.nsIn K mainGlobals "is_whole" = some (some (.ref f_is_whole))) (l_is_whole : K.lookup f_is_whole = some ⟨oc_is_whole, od_is_whole, .func (PySem.W.fnOf "is_whole" "is_whole" (defArgs s_is_whole) (defBody s_is_whole) (defScope s_is_whole) .none kV_is_whole dc_is_whole pm_is_whole an_is_whole cd_is_whole ct_is_whole), sl_is_whole⟩) (c_is_whole : PySem.W.codeIn K cd_is_whole "is_whole" = true) (k_is_whole : PySem.W.keepIn K (.ref f_is_whole) = true)
    (a_is_bid : PySem.W.nsIn K mainGlobals "is_bid" = some (some (.ref f_is_bid))) (l_is_bid : K.lookup f_is_bid = some ⟨oc_is_bid, od_is_bid, .func (PySem.W.fnOf "is_bid" "is_bid" (defArgs s_is_bid) (defBody s_is_bid) (defScope s_is_bid) .none kV_is_bid dc_is_bid pm_is_bid an_is_bid cd_is_bid ct_is_bid), sl_is_bid⟩) (c_is_bid : PySem.W.codeIn K cd_is_bid "is_bid" = true) (k_is_bid : PySem.W.keepIn K (.ref f_is_bid) = true)
    (a_is_call : PySem.W.nsIn K mainGlobals "is_call" = some (some (.ref f_is_call))) (l_is_call : K.lookup f_is_call = some ⟨oc_is_call, od_is_call, .func (PySem.W.fnOf "is_call" "is_call" (defArgs s_is_call) (defBody s_is_call) (defScope s_is_call) .none kV_is_call dc_is_call pm_is_call an_is_call cd_is_call ct_is_call), sl_is_call⟩) (c_is_call : PySem.W.codeIn K cd_is_call "is_call" = true) (k_is_call : PySem.W.keepIn K (.ref f_is_call) = true)
    (a_Table_call : PySem.W.findIn K (.ref A_Table) "call" = some (some (.ref f_Table_call))) (i_Table_call : PySem.W.isFn K (.ref f_Table_call) = true) (l_Table_call : K.lookup f_Table_call = some ⟨oc_Table_call, od_Table_call, .func (PySem.W.fnOf "call" "Table.call" (defArgs s_Table_call) (defBody s_Table_call) (defScope s_Table_call) .none kV_Table_call dc_Table_call pm_Table_call an_Table_call cd_Table_call ct_Table_call), sl_Table_call⟩) (c_Table_call : PySem.W.codeIn K cd_Table_call "Table.call" = true) (k_Table_call : PySem.W.keepIn K (.ref f_Table_call) = true)
    (a_Table_must_play : PySem.W.findIn K (.ref A_Table) "must_play" = some (some (.ref f_Table_must_play))) (i_Table_must_play : PySem.W.isFn K (.ref f_Table_must_play) = true) (l_Table_must_play : K.lookup f_Table_must_play = some ⟨oc_Table_must_play, od_Table_must_play, .func (PySem.W.fnOf "must_play" "Table.must_play" (defArgs s_Table_must_play) (defBody s_Table_must_play) (defScope s_Table_must_play) .none kV_Table_must_play dc_Table_must_play pm_Table_must_play an_Table_must_play cd_Table_must_play ct_Table_must_play), sl_Table_must_play⟩) (c_Table_must_play : PySem.W.codeIn K cd_Table_must_play "Table.must_play" = true) (k_Table_must_play : PySem.W.keepIn K (.ref f_Table_must_play) = true)
    (a_Table_play : PySem.W.findIn K (.ref A_Table) "play" = some (some (.ref f_Table_play))) (i_Table_play : PySem.W.isFn K (.ref f_Table_play) = true) (l_Table_play : K.lookup f_Table_play = some ⟨oc_Table_play, od_Table_play, .func (PySem.W.fnOf "play" "Table.play" (defArgs s_Table_play) (defBody s_Table_play) (defScope s_Table_play) .none kV_Table_play dc_Table_play pm_Table_play an_Table_play cd_Table_play ct_Table_play), sl_Table_play⟩) (c_Table_play : PySem.W.codeIn K cd_Table_play "Table.play" = true) (k_Table_play : PySem.W.keepIn K (.ref f_Table_play) = true)
    (a_Table_claim : PySem.W.findIn K (.ref A_Table) "claim" = some (some (.ref f_Table_claim))) (i_Table_claim : PySem.W.isFn K (.ref f_Table_claim) = true) (l_Table_claim : K.lookup f_Table_claim = some ⟨oc_Table_claim, od_Table_claim, .func (PySem.W.fnOf "claim" "Table.claim" (defArgs s_Table_claim) (defBody s_Table_claim) (defScope s_Table_claim) .none kV_Table_claim dc_Table_claim pm_Table_claim an_Table_claim cd_Table_claim ct_Table_claim), sl_Table_claim⟩) (c_Table_claim : PySem.W.codeIn K cd_Table_claim "Table.claim" = true) (k_Table_claim : PySem.W.keepIn K (.ref f_Table_claim) = true)
    (a_Table_back : PySem.W.findIn K (.ref A_Table) "back" = some (some (.ref f_Table_back))) (i_Table_back : PySem.W.isFn K (.ref f_Table_back) = true) (l_Table_back : K.lookup f_Table_back = some ⟨oc_Table_back, od_Table_back, .func (PySem.W.fnOf "back" "Table.back" (defArgs s_Table_back) (defBody s_Table_back) (defScope s_Table_back) .none kV_Table_back dc_Table_back pm_Table_back an_Table_back cd_Table_back ct_Table_back), sl_Table_back⟩) (c_Table_back : PySem.W.codeIn K cd_Table_back "Table.back" = true) (k_Table_back : PySem.W.keepIn K (.ref f_Table_back) = true)
    (a_Table_again : PySem.W.findIn K (.ref A_Table) "again" = some (some (.ref f_Table_again))) (i_Table_again : PySem.W.isFn K (.ref f_Table_again) = true) (l_Table_again : K.lookup f_Table_again = some ⟨oc_Table_again, od_Table_again, .func (PySem.W.fnOf "again" "Table.again" (defArgs s_Table_again) (defBody s_Table_again) (defScope s_Table_again) .none kV_Table_again dc_Table_again pm_Table_again an_Table_again cd_Table_again ct_Table_again), sl_Table_again⟩) (c_Table_again : PySem.W.codeIn K cd_Table_again "Table.again" = true) (k_Table_again : PySem.W.keepIn K (.ref f_Table_again) = true)
    (a_law_word : PySem.W.nsIn K mainGlobals "_law_word" = some (some (.ref f_law_word))) (l_law_word : K.lookup f_law_word = some ⟨oc_law_word, od_law_word, .func (PySem.W.fnOf "_law_word" "_law_word" (defArgs s_law_word) (defBody s_law_word) (defScope s_law_word) .none kV_law_word dc_law_word pm_law_word an_law_word cd_law_word ct_law_word), sl_law_word⟩) (c_law_word : PySem.W.codeIn K cd_law_word "_law_word" = true) (k_law_word : PySem.W.keepIn K (.ref f_law_word) = true)
    (a_law_acted : PySem.W.nsIn K mainGlobals "_law_acted" = some (some (.ref f_law_acted))) (l_law_acted : K.lookup f_law_acted = some ⟨oc_law_acted, od_law_acted, .func (PySem.W.fnOf "_law_acted" "_law_acted" (defArgs s_law_acted) (defBody s_law_acted) (defScope s_law_acted) .none kV_law_acted dc_law_acted pm_law_acted an_law_acted cd_law_acted ct_law_acted), sl_law_acted⟩) (c_law_acted : PySem.W.codeIn K cd_law_acted "_law_acted" = true) (k_law_acted : PySem.W.keepIn K (.ref f_law_acted) = true)
    (a_law_draw : PySem.W.nsIn K mainGlobals "_law_draw" = some (some (.ref f_law_draw))) (l_law_draw : K.lookup f_law_draw = some ⟨oc_law_draw, od_law_draw, .func (PySem.W.fnOf "_law_draw" "_law_draw" (defArgs s_law_draw) (defBody s_law_draw) (defScope s_law_draw) .none kV_law_draw dc_law_draw pm_law_draw an_law_draw cd_law_draw ct_law_draw), sl_law_draw⟩) (c_law_draw : PySem.W.codeIn K cd_law_draw "_law_draw" = true) (k_law_draw : PySem.W.keepIn K (.ref f_law_draw) = true)
    (a_law_pick : PySem.W.nsIn K mainGlobals "_law_pick" = some (some (.ref f_law_pick))) (l_law_pick : K.lookup f_law_pick = some ⟨oc_law_pick, od_law_pick, .func (PySem.W.fnOf "_law_pick" "_law_pick" (defArgs s_law_pick) (defBody s_law_pick) (defScope s_law_pick) .none kV_law_pick dc_law_pick pm_law_pick an_law_pick cd_law_pick ct_law_pick), sl_law_pick⟩) (c_law_pick : PySem.W.codeIn K cd_law_pick "_law_pick" = true) (k_law_pick : PySem.W.keepIn K (.ref f_law_pick) = true)
    (a_law_drawn_deed : PySem.W.nsIn K mainGlobals "_law_drawn_deed" = some (some (.ref f_law_drawn_deed))) (l_law_drawn_deed : K.lookup f_law_drawn_deed = some ⟨oc_law_drawn_deed, od_law_drawn_deed, .func (PySem.W.fnOf "_law_drawn_deed" "_law_drawn_deed" (defArgs s_law_drawn_deed) (defBody s_law_drawn_deed) (defScope s_law_drawn_deed) .none kV_law_drawn_deed dc_law_drawn_deed pm_law_drawn_deed an_law_drawn_deed cd_law_drawn_deed ct_law_drawn_deed), sl_law_drawn_deed⟩) (c_law_drawn_deed : PySem.W.codeIn K cd_law_drawn_deed "_law_drawn_deed" = true) (k_law_drawn_deed : PySem.W.keepIn K (.ref f_law_drawn_deed) = true)
    (a_Table___init__ : PySem.W.findIn K (.ref A_Table) "__init__" = some (some (.ref f_Table___init__))) (i_Table___init__ : PySem.W.isFn K (.ref f_Table___init__) = true) (l_Table___init__ : K.lookup f_Table___init__ = some ⟨oc_Table___init__, od_Table___init__, .func (PySem.W.fnOf "__init__" "Table.__init__" (defArgs s_Table___init__) (defBody s_Table___init__) (defScope s_Table___init__) (.ref T_D) kV_Table___init__ dc_Table___init__ pm_Table___init__ an_Table___init__ cd_Table___init__ ct_Table___init__), sl_Table___init__⟩) (c_Table___init__ : PySem.W.codeIn K cd_Table___init__ "Table.__init__" = true) (k_Table___init__ : PySem.W.keepIn K (.ref f_Table___init__) = true) (l_T : K.lookup T_D = some ⟨tc_D, td_D, .seq its_D n_D, ts_D⟩) (v_T : dflB its_D.toList = true)
    (a_law_all_cards : PySem.W.nsIn K mainGlobals "_law_all_cards" = some (some (.ref f_law_all_cards))) (l_law_all_cards : K.lookup f_law_all_cards = some ⟨oc_law_all_cards, od_law_all_cards, .func (PySem.W.fnOf "_law_all_cards" "_law_all_cards" (defArgs s_law_all_cards) (defBody s_law_all_cards) (defScope s_law_all_cards) .none kV_law_all_cards dc_law_all_cards pm_law_all_cards an_law_all_cards cd_law_all_cards ct_law_all_cards), sl_law_all_cards⟩) (c_law_all_cards : PySem.W.codeIn K cd_law_all_cards "_law_all_cards" = true) (k_law_all_cards : PySem.W.keepIn K (.ref f_law_all_cards) = true)
    (a_law_mixed : PySem.W.nsIn K mainGlobals "_law_mixed" = some (some (.ref f_law_mixed))) (l_law_mixed : K.lookup f_law_mixed = some ⟨oc_law_mixed, od_law_mixed, .func (PySem.W.fnOf "_law_mixed" "_law_mixed" (defArgs s_law_mixed) (defBody s_law_mixed) (defScope s_law_mixed) .none kV_law_mixed dc_law_mixed pm_law_mixed an_law_mixed cd_law_mixed ct_law_mixed), sl_law_mixed⟩) (c_law_mixed : PySem.W.codeIn K cd_law_mixed "_law_mixed" = true) (k_law_mixed : PySem.W.keepIn K (.ref f_law_mixed) = true)
    (a_law_drawn_deal : PySem.W.nsIn K mainGlobals "_law_drawn_deal" = some (some (.ref f_law_drawn_deal))) (l_law_drawn_deal : K.lookup f_law_drawn_deal = some ⟨oc_law_drawn_deal, od_law_drawn_deal, .func (PySem.W.fnOf "_law_drawn_deal" "_law_drawn_deal" (defArgs s_law_drawn_deal) (defBody s_law_drawn_deal) (defScope s_law_drawn_deal) .none kV_law_drawn_deal dc_law_drawn_deal pm_law_drawn_deal an_law_drawn_deal cd_law_drawn_deal ct_law_drawn_deal), sl_law_drawn_deal⟩) (c_law_drawn_deal : PySem.W.codeIn K cd_law_drawn_deal "_law_drawn_deal" = true) (k_law_drawn_deal : PySem.W.keepIn K (.ref f_law_drawn_deal) = true)
    (a_law_drawn_risk : PySem.W.nsIn K mainGlobals "_law_drawn_risk" = some (some (.ref f_law_drawn_risk))) (l_law_drawn_risk : K.lookup f_law_drawn_risk = some ⟨oc_law_drawn_risk, od_law_drawn_risk, .func (PySem.W.fnOf "_law_drawn_risk" "_law_drawn_risk" (defArgs s_law_drawn_risk) (defBody s_law_drawn_risk) (defScope s_law_drawn_risk) .none kV_law_drawn_risk dc_law_drawn_risk pm_law_drawn_risk an_law_drawn_risk cd_law_drawn_risk ct_law_drawn_risk), sl_law_drawn_risk⟩) (c_law_drawn_risk : PySem.W.codeIn K cd_law_drawn_risk "_law_drawn_risk" = true) (k_law_drawn_risk : PySem.W.keepIn K (.ref f_law_drawn_risk) = true)
    (a_law : PySem.W.nsIn K mainGlobals "law" = some (some (.ref f_law))) (l_law : K.lookup f_law = some ⟨oc_law, od_law, .func (PySem.W.fnOf "law" "law" (defArgs s_law) (defBody s_law) (defScope s_law) .none kV_law dc_law pm_law an_law cd_law ct_law), sl_law⟩) (c_law : PySem.W.codeIn K cd_law "law" = true) (k_law : PySem.W.keepIn K (.ref f_law) = true)
    (a_Over : PySem.W.nsIn K mainGlobals "Over" = some (some (.ref A_Over))) (x_Over : PySem.W.excIn K A_Over [.type "ValueError", .type "Exception", .type "BaseException", .type "object"] "ValueError.__new__" = true) (k_Over : PySem.W.keepIn K (.ref A_Over) = true) (b_Over : PySem.W.subIn K (.ref A_Over) (.type "BaseException") = some true) (t_Over : PySem.W.typeIn K (.ref A_Over) = some (.type "type")) (i_Over : PySem.W.isClsIn K A_Over = true) (s_Over : PySem.W.subIn K (.ref A_Over) (.ref A_Over) = some true)
    (a_NotNow : PySem.W.nsIn K mainGlobals "NotNow" = some (some (.ref A_NotNow))) (x_NotNow : PySem.W.excIn K A_NotNow [.type "ValueError", .type "Exception", .type "BaseException", .type "object"] "ValueError.__new__" = true) (k_NotNow : PySem.W.keepIn K (.ref A_NotNow) = true) (b_NotNow : PySem.W.subIn K (.ref A_NotNow) (.type "BaseException") = some true) (t_NotNow : PySem.W.typeIn K (.ref A_NotNow) = some (.type "type")) (i_NotNow : PySem.W.isClsIn K A_NotNow = true) (s_NotNow : PySem.W.subIn K (.ref A_NotNow) (.ref A_NotNow) = some true)
    (a_BadCall : PySem.W.nsIn K mainGlobals "BadCall" = some (some (.ref A_BadCall))) (x_BadCall : PySem.W.excIn K A_BadCall [.type "ValueError", .type "Exception", .type "BaseException", .type "object"] "ValueError.__new__" = true) (k_BadCall : PySem.W.keepIn K (.ref A_BadCall) = true) (b_BadCall : PySem.W.subIn K (.ref A_BadCall) (.type "BaseException") = some true) (t_BadCall : PySem.W.typeIn K (.ref A_BadCall) = some (.type "type")) (i_BadCall : PySem.W.isClsIn K A_BadCall = true) (s_BadCall : PySem.W.subIn K (.ref A_BadCall) (.ref A_BadCall) = some true)
    (a_BadCard : PySem.W.nsIn K mainGlobals "BadCard" = some (some (.ref A_BadCard))) (x_BadCard : PySem.W.excIn K A_BadCard [.type "ValueError", .type "Exception", .type "BaseException", .type "object"] "ValueError.__new__" = true) (k_BadCard : PySem.W.keepIn K (.ref A_BadCard) = true) (b_BadCard : PySem.W.subIn K (.ref A_BadCard) (.type "BaseException") = some true) (t_BadCard : PySem.W.typeIn K (.ref A_BadCard) = some (.type "type")) (i_BadCard : PySem.W.isClsIn K A_BadCard = true) (s_BadCard : PySem.W.subIn K (.ref A_BadCard) (.ref A_BadCard) = some true)
    (a_BadClaim : PySem.W.nsIn K mainGlobals "BadClaim" = some (some (.ref A_BadClaim))) (x_BadClaim : PySem.W.excIn K A_BadClaim [.type "ValueError", .type "Exception", .type "BaseException", .type "object"] "ValueError.__new__" = true) (k_BadClaim : PySem.W.keepIn K (.ref A_BadClaim) = true) (b_BadClaim : PySem.W.subIn K (.ref A_BadClaim) (.type "BaseException") = some true) (t_BadClaim : PySem.W.typeIn K (.ref A_BadClaim) = some (.type "type")) (i_BadClaim : PySem.W.isClsIn K A_BadClaim = true) (s_BadClaim : PySem.W.subIn K (.ref A_BadClaim) (.ref A_BadClaim) = some true)
    (a_NothingBack : PySem.W.nsIn K mainGlobals "NothingBack" = some (some (.ref A_NothingBack))) (x_NothingBack : PySem.W.excIn K A_NothingBack [.type "ValueError", .type "Exception", .type "BaseException", .type "object"] "ValueError.__new__" = true) (k_NothingBack : PySem.W.keepIn K (.ref A_NothingBack) = true) (b_NothingBack : PySem.W.subIn K (.ref A_NothingBack) (.type "BaseException") = some true) (t_NothingBack : PySem.W.typeIn K (.ref A_NothingBack) = some (.type "type")) (i_NothingBack : PySem.W.isClsIn K A_NothingBack = true) (s_NothingBack : PySem.W.subIn K (.ref A_NothingBack) (.ref A_NothingBack) = some true)
    (a_BoardError : PySem.W.nsIn K mainGlobals "BoardError" = some (some (.ref A_BoardError))) (x_BoardError : PySem.W.excIn K A_BoardError [.type "ValueError", .type "Exception", .type "BaseException", .type "object"] "ValueError.__new__" = true) (k_BoardError : PySem.W.keepIn K (.ref A_BoardError) = true) (b_BoardError : PySem.W.subIn K (.ref A_BoardError) (.type "BaseException") = some true) (t_BoardError : PySem.W.typeIn K (.ref A_BoardError) = some (.type "type")) (i_BoardError : PySem.W.isClsIn K A_BoardError = true) (s_BoardError : PySem.W.subIn K (.ref A_BoardError) (.ref A_BoardError) = some true)
    (nd_W : [A_Over, A_NotNow, A_BadCall, A_BadCard, A_BadClaim, A_NothingBack].Nodup) (en_W : PySem.W.specialIn K (.builtin "object.__class__") "__get__" = some (some (.builtin "getset_descriptor.__get__"))) (et_W : PySem.W.takesIn K (.builtin "object.__class__") = some true)
    (eg_Over : PySem.W.findIn K (.ref A_Over) "__getattribute__" = some (some (.builtin "BaseException.__getattribute__"))) (ek_Over : PySem.W.findIn K (.ref A_Over) "__getattr__" = some none) (ed_Over : PySem.W.hasDictIn K A_Over = true) (ea_Over : PySem.W.findIn K (.ref A_Over) "__class__" = some (some (.builtin "object.__class__"))) (em_Over : PySem.W.mroIn K A_Over (.type "object") = some true) (w_Over_ValueError : PySem.W.kitOne K (.ref A_Over) (.type "ValueError") = some true) (sb_Over : PySem.W.subIn K (.ref A_Over) (.ref A_BoardError) = some true) (w_Over_Over : PySem.W.kitOne K (.ref A_Over) (.ref A_Over) = some true) (w_Over_NotNow : PySem.W.kitOne K (.ref A_Over) (.ref A_NotNow) = some false) (w_Over_BadCall : PySem.W.kitOne K (.ref A_Over) (.ref A_BadCall) = some false) (w_Over_BadCard : PySem.W.kitOne K (.ref A_Over) (.ref A_BadCard) = some false) (w_Over_BadClaim : PySem.W.kitOne K (.ref A_Over) (.ref A_BadClaim) = some false) (w_Over_NothingBack : PySem.W.kitOne K (.ref A_Over) (.ref A_NothingBack) = some false)
    (eg_NotNow : PySem.W.findIn K (.ref A_NotNow) "__getattribute__" = some (some (.builtin "BaseException.__getattribute__"))) (ek_NotNow : PySem.W.findIn K (.ref A_NotNow) "__getattr__" = some none) (ed_NotNow : PySem.W.hasDictIn K A_NotNow = true) (ea_NotNow : PySem.W.findIn K (.ref A_NotNow) "__class__" = some (some (.builtin "object.__class__"))) (em_NotNow : PySem.W.mroIn K A_NotNow (.type "object") = some true) (w_NotNow_ValueError : PySem.W.kitOne K (.ref A_NotNow) (.type "ValueError") = some true) (sb_NotNow : PySem.W.subIn K (.ref A_NotNow) (.ref A_BoardError) = some true) (w_NotNow_Over : PySem.W.kitOne K (.ref A_NotNow) (.ref A_Over) = some false) (w_NotNow_NotNow : PySem.W.kitOne K (.ref A_NotNow) (.ref A_NotNow) = some true) (w_NotNow_BadCall : PySem.W.kitOne K (.ref A_NotNow) (.ref A_BadCall) = some false) (w_NotNow_BadCard : PySem.W.kitOne K (.ref A_NotNow) (.ref A_BadCard) = some false) (w_NotNow_BadClaim : PySem.W.kitOne K (.ref A_NotNow) (.ref A_BadClaim) = some false) (w_NotNow_NothingBack : PySem.W.kitOne K (.ref A_NotNow) (.ref A_NothingBack) = some false)
    (eg_BadCall : PySem.W.findIn K (.ref A_BadCall) "__getattribute__" = some (some (.builtin "BaseException.__getattribute__"))) (ek_BadCall : PySem.W.findIn K (.ref A_BadCall) "__getattr__" = some none) (ed_BadCall : PySem.W.hasDictIn K A_BadCall = true) (ea_BadCall : PySem.W.findIn K (.ref A_BadCall) "__class__" = some (some (.builtin "object.__class__"))) (em_BadCall : PySem.W.mroIn K A_BadCall (.type "object") = some true) (w_BadCall_ValueError : PySem.W.kitOne K (.ref A_BadCall) (.type "ValueError") = some true) (sb_BadCall : PySem.W.subIn K (.ref A_BadCall) (.ref A_BoardError) = some true) (w_BadCall_Over : PySem.W.kitOne K (.ref A_BadCall) (.ref A_Over) = some false) (w_BadCall_NotNow : PySem.W.kitOne K (.ref A_BadCall) (.ref A_NotNow) = some false) (w_BadCall_BadCall : PySem.W.kitOne K (.ref A_BadCall) (.ref A_BadCall) = some true) (w_BadCall_BadCard : PySem.W.kitOne K (.ref A_BadCall) (.ref A_BadCard) = some false) (w_BadCall_BadClaim : PySem.W.kitOne K (.ref A_BadCall) (.ref A_BadClaim) = some false) (w_BadCall_NothingBack : PySem.W.kitOne K (.ref A_BadCall) (.ref A_NothingBack) = some false)
    (eg_BadCard : PySem.W.findIn K (.ref A_BadCard) "__getattribute__" = some (some (.builtin "BaseException.__getattribute__"))) (ek_BadCard : PySem.W.findIn K (.ref A_BadCard) "__getattr__" = some none) (ed_BadCard : PySem.W.hasDictIn K A_BadCard = true) (ea_BadCard : PySem.W.findIn K (.ref A_BadCard) "__class__" = some (some (.builtin "object.__class__"))) (em_BadCard : PySem.W.mroIn K A_BadCard (.type "object") = some true) (w_BadCard_ValueError : PySem.W.kitOne K (.ref A_BadCard) (.type "ValueError") = some true) (sb_BadCard : PySem.W.subIn K (.ref A_BadCard) (.ref A_BoardError) = some true) (w_BadCard_Over : PySem.W.kitOne K (.ref A_BadCard) (.ref A_Over) = some false) (w_BadCard_NotNow : PySem.W.kitOne K (.ref A_BadCard) (.ref A_NotNow) = some false) (w_BadCard_BadCall : PySem.W.kitOne K (.ref A_BadCard) (.ref A_BadCall) = some false) (w_BadCard_BadCard : PySem.W.kitOne K (.ref A_BadCard) (.ref A_BadCard) = some true) (w_BadCard_BadClaim : PySem.W.kitOne K (.ref A_BadCard) (.ref A_BadClaim) = some false) (w_BadCard_NothingBack : PySem.W.kitOne K (.ref A_BadCard) (.ref A_NothingBack) = some false)
    (eg_BadClaim : PySem.W.findIn K (.ref A_BadClaim) "__getattribute__" = some (some (.builtin "BaseException.__getattribute__"))) (ek_BadClaim : PySem.W.findIn K (.ref A_BadClaim) "__getattr__" = some none) (ed_BadClaim : PySem.W.hasDictIn K A_BadClaim = true) (ea_BadClaim : PySem.W.findIn K (.ref A_BadClaim) "__class__" = some (some (.builtin "object.__class__"))) (em_BadClaim : PySem.W.mroIn K A_BadClaim (.type "object") = some true) (w_BadClaim_ValueError : PySem.W.kitOne K (.ref A_BadClaim) (.type "ValueError") = some true) (sb_BadClaim : PySem.W.subIn K (.ref A_BadClaim) (.ref A_BoardError) = some true) (w_BadClaim_Over : PySem.W.kitOne K (.ref A_BadClaim) (.ref A_Over) = some false) (w_BadClaim_NotNow : PySem.W.kitOne K (.ref A_BadClaim) (.ref A_NotNow) = some false) (w_BadClaim_BadCall : PySem.W.kitOne K (.ref A_BadClaim) (.ref A_BadCall) = some false) (w_BadClaim_BadCard : PySem.W.kitOne K (.ref A_BadClaim) (.ref A_BadCard) = some false) (w_BadClaim_BadClaim : PySem.W.kitOne K (.ref A_BadClaim) (.ref A_BadClaim) = some true) (w_BadClaim_NothingBack : PySem.W.kitOne K (.ref A_BadClaim) (.ref A_NothingBack) = some false)
    (eg_NothingBack : PySem.W.findIn K (.ref A_NothingBack) "__getattribute__" = some (some (.builtin "BaseException.__getattribute__"))) (ek_NothingBack : PySem.W.findIn K (.ref A_NothingBack) "__getattr__" = some none) (ed_NothingBack : PySem.W.hasDictIn K A_NothingBack = true) (ea_NothingBack : PySem.W.findIn K (.ref A_NothingBack) "__class__" = some (some (.builtin "object.__class__"))) (em_NothingBack : PySem.W.mroIn K A_NothingBack (.type "object") = some true) (w_NothingBack_ValueError : PySem.W.kitOne K (.ref A_NothingBack) (.type "ValueError") = some true) (sb_NothingBack : PySem.W.subIn K (.ref A_NothingBack) (.ref A_BoardError) = some true) (w_NothingBack_Over : PySem.W.kitOne K (.ref A_NothingBack) (.ref A_Over) = some false) (w_NothingBack_NotNow : PySem.W.kitOne K (.ref A_NothingBack) (.ref A_NotNow) = some false) (w_NothingBack_BadCall : PySem.W.kitOne K (.ref A_NothingBack) (.ref A_BadCall) = some false) (w_NothingBack_BadCard : PySem.W.kitOne K (.ref A_NothingBack) (.ref A_BadCard) = some false) (w_NothingBack_BadClaim : PySem.W.kitOne K (.ref A_NothingBack) (.ref A_BadClaim) = some false) (w_NothingBack_NothingBack : PySem.W.kitOne K (.ref A_NothingBack) (.ref A_NothingBack) = some true)
    (z_isinstance : PySem.W.nsIn K mainGlobals "isinstance" = some none)
    (z_int : PySem.W.nsIn K mainGlobals "int" = some none)
    (z_bool : PySem.W.nsIn K mainGlobals "bool" = some none)
    (z_str : PySem.W.nsIn K mainGlobals "str" = some none)
    (z_tuple : PySem.W.nsIn K mainGlobals "tuple" = some none)
    (z_zip : PySem.W.nsIn K mainGlobals "zip" = some none)
    (z_all : PySem.W.nsIn K mainGlobals "all" = some none)
    (z_len : PySem.W.nsIn K mainGlobals "len" = some none)
    (z_enumerate : PySem.W.nsIn K mainGlobals "enumerate" = some none)
    (z_range : PySem.W.nsIn K mainGlobals "range" = some none)
    (z_ValueError : PySem.W.nsIn K mainGlobals "ValueError" = some none)
    (z_abs : PySem.W.nsIn K mainGlobals "abs" = some none)
    (z_max : PySem.W.nsIn K mainGlobals "max" = some none)
    (z_list : PySem.W.nsIn K mainGlobals "list" = some none)
    (z_sorted : PySem.W.nsIn K mainGlobals "sorted" = some none)
    (z_min : PySem.W.nsIn K mainGlobals "min" = some none) :
    ∃ fd : FuncData, (∀ (s : Shared) (v : Value), BindsTo s fd ⟨[v], []⟩ [("script", v)]) ∧ ∀ base : Heap, K.In base → base.Ns mainGlobals mg → FnOk l.prog w K mg base CX0 8 fa fd ["script"] (spL K spLaw) := by
  cases hfa.symm.trans (PySem.W.mg_of X G a_law)
  have g_Table := PySem.W.mg_of X G a_Table
  have cl : Cls K A_Table := ⟨pg_C, hd_C, po_C, sa_C⟩
  have F_law_same := fun_mk (st := s_law_same) l_law_same c_law_same k_law_same
  have B_law_same := F_law_same.binds (ps := ["got", "due"]) fun _ _ _ _ _ _ us hl => match us, hl with | [_, _], _ => rfl
  have g_law_same := PySem.W.mg_of X G a_law_same
  have F_Table_taken_back := fun_mk (st := s_Table_taken_back) l_Table_taken_back c_Table_taken_back k_Table_taken_back
  have B_Table_taken_back := F_Table_taken_back.binds (ps := ["self"]) fun _ _ _ _ _ _ us hl => match us, hl with | [_], _ => rfl
  have F_Table_deeds := fun_mk (st := s_Table_deeds) l_Table_deeds c_Table_deeds k_Table_deeds
  have B_Table_deeds := F_Table_deeds.binds (ps := ["self"]) fun _ _ _ _ _ _ us hl => match us, hl with | [_], _ => rfl
  have F_Table_cards := fun_mk (st := s_Table_cards) l_Table_cards c_Table_cards k_Table_cards
  have B_Table_cards := F_Table_cards.binds (ps := ["self"]) fun _ _ _ _ _ _ us hl => match us, hl with | [_], _ => rfl
  have F_Table_calls := fun_mk (st := s_Table_calls) l_Table_calls c_Table_calls k_Table_calls
  have B_Table_calls := F_Table_calls.binds (ps := ["self"]) fun _ _ _ _ _ _ us hl => match us, hl with | [_], _ => rfl
  have F_is_over := fun_mk (st := s_is_over) l_is_over c_is_over k_is_over
  have B_is_over := F_is_over.binds (ps := ["calls"]) fun _ _ _ _ _ _ us hl => match us, hl with | [_], _ => rfl
  have g_is_over := PySem.W.mg_of X G a_is_over
  have F_last_bid := fun_mk (st := s_last_bid) l_last_bid c_last_bid k_last_bid
  have B_last_bid := F_last_bid.binds (ps := ["calls"]) fun _ _ _ _ _ _ us hl => match us, hl with | [_], _ => rfl
  have g_last_bid := PySem.W.mg_of X G a_last_bid
  have F_contract_of := fun_mk (st := s_contract_of) l_contract_of c_contract_of k_contract_of
  have B_contract_of := F_contract_of.binds (ps := ["dealer", "calls"]) fun _ _ _ _ _ _ us hl => match us, hl with | [_, _], _ => rfl
  have g_contract_of := PySem.W.mg_of X G a_contract_of
  have F_Table_contract := fun_mk (st := s_Table_contract) l_Table_contract c_Table_contract k_Table_contract
  have B_Table_contract := F_Table_contract.binds (ps := ["self"]) fun _ _ _ _ _ _ us hl => match us, hl with | [_], _ => rfl
  have F_Table_leader := fun_mk (st := s_Table_leader) l_Table_leader c_Table_leader k_Table_leader
  have B_Table_leader := F_Table_leader.binds (ps := ["self"]) fun _ _ _ _ _ _ us hl => match us, hl with | [_], _ => rfl
  have F_winner_of := fun_mk (st := s_winner_of) l_winner_of c_winner_of k_winner_of
  have B_winner_of := F_winner_of.binds (ps := ["strain", "leader", "trick"]) fun _ _ _ _ _ _ us hl => match us, hl with | [_, _, _], _ => rfl
  have g_winner_of := PySem.W.mg_of X G a_winner_of
  have F_walked := fun_mk (st := s_walked) l_walked c_walked k_walked
  have B_walked := F_walked.binds (ps := ["strain", "leader", "cards"]) fun _ _ _ _ _ _ us hl => match us, hl with | [_, _, _], _ => rfl
  have g_walked := PySem.W.mg_of X G a_walked
  have F_left_of := fun_mk (st := s_left_of) l_left_of c_left_of k_left_of
  have B_left_of := F_left_of.binds (ps := ["deal", "cards"]) fun _ _ _ _ _ _ us hl => match us, hl with | [_, _], _ => rfl
  have g_left_of := PySem.W.mg_of X G a_left_of
  have F_turn_of := fun_mk (st := s_turn_of) l_turn_of c_turn_of k_turn_of
  have B_turn_of := F_turn_of.binds (ps := ["deal", "strain", "leader", "cards"]) fun _ _ _ _ _ _ us hl => match us, hl with | [_, _, _, _], _ => rfl
  have g_turn_of := PySem.W.mg_of X G a_turn_of
  have F_may_play := fun_mk (st := s_may_play) l_may_play c_may_play k_may_play
  have B_may_play := F_may_play.binds (ps := ["deal", "strain", "leader", "cards"]) fun _ _ _ _ _ _ us hl => match us, hl with | [_, _, _, _], _ => rfl
  have g_may_play := PySem.W.mg_of X G a_may_play
  have F_book_of := fun_mk (st := s_book_of) l_book_of c_book_of k_book_of
  have B_book_of := F_book_of.binds (ps := ["ranks"]) fun _ _ _ _ _ _ us hl => match us, hl with | [_], _ => rfl
  have g_book_of := PySem.W.mg_of X G a_book_of
  have F_levels_of := fun_mk (st := s_levels_of) l_levels_of c_levels_of k_levels_of
  have B_levels_of := F_levels_of.binds (ps := ["ranks"]) fun _ _ _ _ _ _ us hl => match us, hl with | [_], _ => rfl
  have g_levels_of := PySem.W.mg_of X G a_levels_of
  have F_all_bids := fun_mk (st := s_all_bids) l_all_bids c_all_bids k_all_bids
  have B_all_bids := F_all_bids.binds (ps := ["levels"]) fun _ _ _ _ _ _ us hl => match us, hl with | [_], _ => rfl
  have g_all_bids := PySem.W.mg_of X G a_all_bids
  have F_last_but_pass := fun_mk (st := s_last_but_pass) l_last_but_pass c_last_but_pass k_last_but_pass
  have B_last_but_pass := F_last_but_pass.binds (ps := ["calls"]) fun _ _ _ _ _ _ us hl => match us, hl with | [_], _ => rfl
  have g_last_but_pass := PySem.W.mg_of X G a_last_but_pass
  have F_may_call := fun_mk (st := s_may_call) l_may_call c_may_call k_may_call
  have B_may_call := F_may_call.binds (ps := ["levels", "calls"]) fun _ _ _ _ _ _ us hl => match us, hl with | [_, _], _ => rfl
  have g_may_call := PySem.W.mg_of X G a_may_call
  have F_Table_stage := fun_mk (st := s_Table_stage) l_Table_stage c_Table_stage k_Table_stage
  have B_Table_stage := F_Table_stage.binds (ps := ["self"]) fun _ _ _ _ _ _ us hl => match us, hl with | [_], _ => rfl
  have F_Table_may := fun_mk (st := s_Table_may) l_Table_may c_Table_may k_Table_may
  have B_Table_may := F_Table_may.binds (ps := ["self"]) fun _ _ _ _ _ _ us hl => match us, hl with | [_], _ => rfl
  have F_law_turned := fun_mk (st := s_law_turned) l_law_turned c_law_turned k_law_turned
  have B_law_turned := F_law_turned.binds (ps := ["told", "turn"]) fun _ _ _ _ _ _ us hl => match us, hl with | [_, _], _ => rfl
  have g_law_turned := PySem.W.mg_of X G a_law_turned
  have F_tricks_of := fun_mk (st := s_tricks_of) l_tricks_of c_tricks_of k_tricks_of
  have B_tricks_of := F_tricks_of.binds (ps := ["strain", "leader", "cards"]) fun _ _ _ _ _ _ us hl => match us, hl with | [_, _, _], _ => rfl
  have g_tricks_of := PySem.W.mg_of X G a_tricks_of
  have F_Table_tricks := fun_mk (st := s_Table_tricks) l_Table_tricks c_Table_tricks k_Table_tricks
  have B_Table_tricks := F_Table_tricks.binds (ps := ["self"]) fun _ _ _ _ _ _ us hl => match us, hl with | [_], _ => rfl
  have F_trick_worth := fun_mk (st := s_trick_worth) l_trick_worth c_trick_worth k_trick_worth
  have B_trick_worth := F_trick_worth.binds (ps := ["strain"]) fun _ _ _ _ _ _ us hl => match us, hl with | [_], _ => rfl
  have g_trick_worth := PySem.W.mg_of X G a_trick_worth
  have F_won_by := fun_mk (st := s_won_by) l_won_by c_won_by k_won_by
  have B_won_by := F_won_by.binds (ps := ["ranks", "contract", "risk", "more"]) fun _ _ _ _ _ _ us hl => match us, hl with | [_, _, _, _], _ => rfl
  have g_won_by := PySem.W.mg_of X G a_won_by
  have F_lost_by := fun_mk (st := s_lost_by) l_lost_by c_lost_by k_lost_by
  have B_lost_by := F_lost_by.binds (ps := ["lacking", "times", "risk"]) fun _ _ _ _ _ _ us hl => match us, hl with | [_, _, _], _ => rfl
  have g_lost_by := PySem.W.mg_of X G a_lost_by
  have F_paid := fun_mk (st := s_paid) l_paid c_paid k_paid
  have B_paid := F_paid.binds (ps := ["ranks", "contract", "risk", "tricks"]) fun _ _ _ _ _ _ us hl => match us, hl with | [_, _, _, _], _ => rfl
  have g_paid := PySem.W.mg_of X G a_paid
  have F_Table_score := fun_mk (st := s_Table_score) l_Table_score c_Table_score k_Table_score
  have B_Table_score := F_Table_score.binds (ps := ["self"]) fun _ _ _ _ _ _ us hl => match us, hl with | [_], _ => rfl
  have F_Table_turn := fun_mk (st := s_Table_turn) l_Table_turn c_Table_turn k_Table_turn
  have B_Table_turn := F_Table_turn.binds (ps := ["self"]) fun _ _ _ _ _ _ us hl => match us, hl with | [_], _ => rfl
  have F_Table_become := fun_mk (st := s_Table_become) l_Table_become c_Table_become k_Table_become
  have B_Table_become := F_Table_become.binds (ps := ["self", "state", "deed"]) fun _ _ _ _ _ _ us hl => match us, hl with | [_, _, _], _ => rfl
  have F_is_whole := fun_mk (st := s_is_whole) l_is_whole c_is_whole k_is_whole
  have B_is_whole := F_is_whole.binds (ps := ["thing"]) fun _ _ _ _ _ _ us hl => match us, hl with | [_], _ => rfl
  have g_is_whole := PySem.W.mg_of X G a_is_whole
  have F_is_bid := fun_mk (st := s_is_bid) l_is_bid c_is_bid k_is_bid
  have B_is_bid := F_is_bid.binds (ps := ["levels", "thing"]) fun _ _ _ _ _ _ us hl => match us, hl with | [_, _], _ => rfl
  have g_is_bid := PySem.W.mg_of X G a_is_bid
  have F_is_call := fun_mk (st := s_is_call) l_is_call c_is_call k_is_call
  have B_is_call := F_is_call.binds (ps := ["levels", "thing"]) fun _ _ _ _ _ _ us hl => match us, hl with | [_, _], _ => rfl
  have g_is_call := PySem.W.mg_of X G a_is_call
  have F_Table_call := fun_mk (st := s_Table_call) l_Table_call c_Table_call k_Table_call
  have B_Table_call := F_Table_call.binds (ps := ["self", "call"]) fun _ _ _ _ _ _ us hl => match us, hl with | [_, _], _ => rfl
  have F_Table_must_play := fun_mk (st := s_Table_must_play) l_Table_must_play c_Table_must_play k_Table_must_play
  have B_Table_must_play := F_Table_must_play.binds (ps := ["self"]) fun _ _ _ _ _ _ us hl => match us, hl with | [_], _ => rfl
  have F_Table_play := fun_mk (st := s_Table_play) l_Table_play c_Table_play k_Table_play
  have B_Table_play := F_Table_play.binds (ps := ["self", "card"]) fun _ _ _ _ _ _ us hl => match us, hl with | [_, _], _ => rfl
  have F_Table_claim := fun_mk (st := s_Table_claim) l_Table_claim c_Table_claim k_Table_claim
  have B_Table_claim := F_Table_claim.binds (ps := ["self", "tricks"]) fun _ _ _ _ _ _ us hl => match us, hl with | [_, _], _ => rfl
  have F_Table_back := fun_mk (st := s_Table_back) l_Table_back c_Table_back k_Table_back
  have B_Table_back := F_Table_back.binds (ps := ["self"]) fun _ _ _ _ _ _ us hl => match us, hl with | [_], _ => rfl
  have F_Table_again := fun_mk (st := s_Table_again) l_Table_again c_Table_again k_Table_again
  have B_Table_again := F_Table_again.binds (ps := ["self"]) fun _ _ _ _ _ _ us hl => match us, hl with | [_], _ => rfl
  have F_law_word := fun_mk (st := s_law_word) l_law_word c_law_word k_law_word
  have B_law_word := F_law_word.binds (ps := ["e"]) fun _ _ _ _ _ _ us hl => match us, hl with | [_], _ => rfl
  have g_law_word := PySem.W.mg_of X G a_law_word
  have F_law_acted := fun_mk (st := s_law_acted) l_law_acted c_law_acted k_law_acted
  have B_law_acted := F_law_acted.binds (ps := ["table", "deed"]) fun _ _ _ _ _ _ us hl => match us, hl with | [_, _], _ => rfl
  have g_law_acted := PySem.W.mg_of X G a_law_acted
  have F_law_draw := fun_mk (st := s_law_draw) l_law_draw c_law_draw k_law_draw
  have B_law_draw := F_law_draw.binds (ps := ["script", "town", "many"]) fun _ _ _ _ _ _ us hl => match us, hl with | [_, _, _], _ => rfl
  have g_law_draw := PySem.W.mg_of X G a_law_draw
  have F_law_pick := fun_mk (st := s_law_pick) l_law_pick c_law_pick k_law_pick
  have B_law_pick := F_law_pick.binds (ps := ["script", "town", "some"]) fun _ _ _ _ _ _ us hl => match us, hl with | [_, _, _], _ => rfl
  have g_law_pick := PySem.W.mg_of X G a_law_pick
  have F_law_drawn_deed := fun_mk (st := s_law_drawn_deed) l_law_drawn_deed c_law_drawn_deed k_law_drawn_deed
  have B_law_drawn_deed := F_law_drawn_deed.binds (ps := ["script", "town", "ranks", "stage", "some", "sorts"]) fun _ _ _ _ _ _ us hl => match us, hl with | [_, _, _, _, _, _], _ => rfl
  have g_law_drawn_deed := PySem.W.mg_of X G a_law_drawn_deed
  have F_Table___init__ := funD_mk (st := s_Table___init__) l_Table___init__ c_Table___init__ k_Table___init__ l_T v_T
  obtain ⟨ds0, Vd0, Bd0⟩ := F_Table___init__.binds1 (ps := ["self", "ranks", "deal", "dealer", "risk"]) 5 2 (by simp) rfl (fun _ _ _ _ _ _ _ us its h1 h2 => match us, h1, its, h2 with | [_, _, _, _, _], _, [_, _], _ => ⟨_, rfl, rfl⟩)
  obtain ⟨ds1, Vd1, Bd1⟩ := F_Table___init__.binds1 (ps := ["self", "ranks", "deal", "dealer", "risk"]) 4 1 (by simp) rfl (fun _ _ _ _ _ _ _ us its h1 h2 => match us, h1, its, h2 with | [_, _, _, _], _, [_, _], _ => ⟨_, rfl, rfl⟩)
  obtain ⟨ds2, Vd2, Bd2⟩ := F_Table___init__.binds1 (ps := ["self", "ranks", "deal", "dealer", "risk"]) 3 0 (by simp) rfl (fun _ _ _ _ _ _ _ us its h1 h2 => match us, h1, its, h2 with | [_, _, _], _, [_, _], _ => ⟨_, rfl, rfl⟩)
  have F_law_all_cards := fun_mk (st := s_law_all_cards) l_law_all_cards c_law_all_cards k_law_all_cards
  have B_law_all_cards := F_law_all_cards.binds (ps := ["ranks"]) fun _ _ _ _ _ _ us hl => match us, hl with | [_], _ => rfl
  have g_law_all_cards := PySem.W.mg_of X G a_law_all_cards
  have F_law_mixed := fun_mk (st := s_law_mixed) l_law_mixed c_law_mixed k_law_mixed
  have B_law_mixed := F_law_mixed.binds (ps := ["script", "town", "things"]) fun _ _ _ _ _ _ us hl => match us, hl with | [_, _, _], _ => rfl
  have g_law_mixed := PySem.W.mg_of X G a_law_mixed
  have F_law_drawn_deal := fun_mk (st := s_law_drawn_deal) l_law_drawn_deal c_law_drawn_deal k_law_drawn_deal
  have B_law_drawn_deal := F_law_drawn_deal.binds (ps := ["script", "town", "ranks"]) fun _ _ _ _ _ _ us hl => match us, hl with | [_, _, _], _ => rfl
  have g_law_drawn_deal := PySem.W.mg_of X G a_law_drawn_deal
  have F_law_drawn_risk := fun_mk (st := s_law_drawn_risk) l_law_drawn_risk c_law_drawn_risk k_law_drawn_risk
  have B_law_drawn_risk := F_law_drawn_risk.binds (ps := ["script", "town"]) fun _ _ _ _ _ _ us hl => match us, hl with | [_, _], _ => rfl
  have g_law_drawn_risk := PySem.W.mg_of X G a_law_drawn_risk
  have F_law := fun_mk (st := s_law) l_law c_law k_law
  have g_Over := PySem.W.mg_of X G a_Over
  have e_Over : (fun cls => PySem.W.exmOne K cls (.ref A_Over)) (.ref A_Over) = some true := exm_sub b_Over i_Over t_Over s_Over
  have g_NotNow := PySem.W.mg_of X G a_NotNow
  have e_NotNow : (fun cls => PySem.W.exmOne K cls (.ref A_NotNow)) (.ref A_NotNow) = some true := exm_sub b_NotNow i_NotNow t_NotNow s_NotNow
  have g_BadCall := PySem.W.mg_of X G a_BadCall
  have e_BadCall : (fun cls => PySem.W.exmOne K cls (.ref A_BadCall)) (.ref A_BadCall) = some true := exm_sub b_BadCall i_BadCall t_BadCall s_BadCall
  have g_BadCard := PySem.W.mg_of X G a_BadCard
  have e_BadCard : (fun cls => PySem.W.exmOne K cls (.ref A_BadCard)) (.ref A_BadCard) = some true := exm_sub b_BadCard i_BadCard t_BadCard s_BadCard
  have g_BadClaim := PySem.W.mg_of X G a_BadClaim
  have e_BadClaim : (fun cls => PySem.W.exmOne K cls (.ref A_BadClaim)) (.ref A_BadClaim) = some true := exm_sub b_BadClaim i_BadClaim t_BadClaim s_BadClaim
  have g_NothingBack := PySem.W.mg_of X G a_NothingBack
  have e_NothingBack : (fun cls => PySem.W.exmOne K cls (.ref A_NothingBack)) (.ref A_NothingBack) = some true := exm_sub b_NothingBack i_NothingBack t_NothingBack s_NothingBack
  have g_BoardError := PySem.W.mg_of X G a_BoardError
  have e_BoardError : (fun cls => PySem.W.exmOne K cls (.ref A_BoardError)) (.ref A_BoardError) = some true := exm_sub b_BoardError i_BoardError t_BoardError s_BoardError
  have ec_Over : ExcC K A_Over := ⟨eg_Over, ek_Over, b_Over, ed_Over, ea_Over, en_W, et_W, em_Over⟩
  have ec_NotNow : ExcC K A_NotNow := ⟨eg_NotNow, ek_NotNow, b_NotNow, ed_NotNow, ea_NotNow, en_W, et_W, em_NotNow⟩
  have ec_BadCall : ExcC K A_BadCall := ⟨eg_BadCall, ek_BadCall, b_BadCall, ed_BadCall, ea_BadCall, en_W, et_W, em_BadCall⟩
  have ec_BadCard : ExcC K A_BadCard := ⟨eg_BadCard, ek_BadCard, b_BadCard, ed_BadCard, ea_BadCard, en_W, et_W, em_BadCard⟩
  have ec_BadClaim : ExcC K A_BadClaim := ⟨eg_BadClaim, ek_BadClaim, b_BadClaim, ed_BadClaim, ea_BadClaim, en_W, et_W, em_BadClaim⟩
  have ec_NothingBack : ExcC K A_NothingBack := ⟨eg_NothingBack, ek_NothingBack, b_NothingBack, ed_NothingBack, ea_NothingBack, en_W, et_W, em_NothingBack⟩
  have hmB : ∀ e, PySem.W.exmOne K (ecOf A_Over A_NotNow A_BadCall A_BadCard A_BadClaim A_NothingBack e) (.ref A_BoardError) = some true := fun e => match e with | .over => exm_sub b_BoardError i_BoardError t_BoardError sb_Over | .notNow => exm_sub b_BoardError i_BoardError t_BoardError sb_NotNow | .badCall => exm_sub b_BoardError i_BoardError t_BoardError sb_BadCall | .badCard => exm_sub b_BoardError i_BoardError t_BoardError sb_BadCard | .badClaim => exm_sub b_BoardError i_BoardError t_BoardError sb_BadClaim | .nothing => exm_sub b_BoardError i_BoardError t_BoardError sb_NothingBack
  have b_isinstance := PySem.W.mg_none_of X G z_isinstance
  have b_int := PySem.W.mg_none_of X G z_int
  have b_bool := PySem.W.mg_none_of X G z_bool
  have b_str := PySem.W.mg_none_of X G z_str
  have b_tuple := PySem.W.mg_none_of X G z_tuple
  have b_zip := PySem.W.mg_none_of X G z_zip
  have b_all := PySem.W.mg_none_of X G z_all
  have b_len := PySem.W.mg_none_of X G z_len
  have b_enumerate := PySem.W.mg_none_of X G z_enumerate
  have b_range := PySem.W.mg_none_of X G z_range
  have b_ValueError := PySem.W.mg_none_of X G z_ValueError
  have b_abs := PySem.W.mg_none_of X G z_abs
  have b_max := PySem.W.mg_none_of X G z_max
  have b_list := PySem.W.mg_none_of X G z_list
  have b_sorted := PySem.W.mg_none_of X G z_sorted
  have b_min := PySem.W.mg_none_of X G z_min
  refine ⟨PySem.W.fnOf "law" "law" (defArgs s_law) (defBody s_law) (defScope s_law) .none kV_law dc_law pm_law an_law cd_law ct_law, fun s v => .of_eq rfl, fun base _ _ => ?_⟩
  have ok_law_same_z : FnOk l.prog w K mg base CX0 1 f_law_same _ ["got", "due"] (spL K spNo) := no_ok F_law_same sc_law_same
  have ok_law_same_0 : FnOk l.prog w K mg base CX0 2 f_law_same _ ["got", "due"] (spL K (spSame 0)) := fn_okD F_law_same sc_law_same (sh_law_same 0) (fun cdv A outer s H E hr G hG => dv_law_same b_isinstance b_int b_bool b_str b_tuple b_zip b_all b_len ok_law_same_z (by decide) g_law_same F_law_same.kp B_law_same cdv A outer s H E hr G hG) (rd_law_same 0 spNo (fun m e => nomatch e))
  have ok_law_same_1 : FnOk l.prog w K mg base CX0 3 f_law_same _ ["got", "due"] (spL K (spSame 1)) := fn_okD F_law_same sc_law_same (sh_law_same 1) (fun cdv A outer s H E hr G hG => dv_law_same b_isinstance b_int b_bool b_str b_tuple b_zip b_all b_len ok_law_same_0 (by decide) g_law_same F_law_same.kp B_law_same cdv A outer s H E hr G hG) (rd_law_same 1 (spSame 0) (fun m e => by cases e; rfl))
  have ok_law_same_2 : FnOk l.prog w K mg base CX0 4 f_law_same _ ["got", "due"] (spL K (spSame 2)) := fn_okD F_law_same sc_law_same (sh_law_same 2) (fun cdv A outer s H E hr G hG => dv_law_same b_isinstance b_int b_bool b_str b_tuple b_zip b_all b_len ok_law_same_1 (by decide) g_law_same F_law_same.kp B_law_same cdv A outer s H E hr G hG) (rd_law_same 2 (spSame 1) (fun m e => by cases e; rfl))
  have ok_law_same_3 : FnOk l.prog w K mg base CX0 5 f_law_same _ ["got", "due"] (spL K (spSame 3)) := fn_okD F_law_same sc_law_same (sh_law_same 3) (fun cdv A outer s H E hr G hG => dv_law_same b_isinstance b_int b_bool b_str b_tuple b_zip b_all b_len ok_law_same_2 (by decide) g_law_same F_law_same.kp B_law_same cdv A outer s H E hr G hG) (rd_law_same 3 (spSame 2) (fun m e => by cases e; rfl))
  have ok_law_same : FnOk l.prog w K mg base CX0 6 f_law_same _ ["got", "due"] (spL K (spSame 4)) := fn_okD F_law_same sc_law_same (sh_law_same 4) (fun cdv A outer s H E hr G hG => dv_law_same b_isinstance b_int b_bool b_str b_tuple b_zip b_all b_len ok_law_same_3 (by decide) g_law_same F_law_same.kp B_law_same cdv A outer s H E hr G hG) (rd_law_same 4 (spSame 3) (fun m e => by cases e; rfl))
  have ok_Table_taken_back : FnOk l.prog w K mg base CX0 1 f_Table_taken_back _ ["self"] (spO K (spGet A_Table (fun t => .tuple (t.undone.map fun p => p.2.enc).reverse))) := fn_okO (g := 1) F_Table_taken_back sc_Table_taken_back (by decide) sh_get (fun cdv A outer s H E hr G hG => dv_Table_taken_back b_tuple cl na_undone cdv A outer s H E hr G hG) rd_Table_taken_back
  have ok_Table_deeds : FnOk l.prog w K mg base CX0 1 f_Table_deeds _ ["self"] (spO K (spGet A_Table (fun t => .tuple (t.done.map fun p => p.2.enc)))) := fn_okO (g := 1) F_Table_deeds sc_Table_deeds (by decide) sh_get (fun cdv A outer s H E hr G hG => dv_Table_deeds b_tuple cl na_done cdv A outer s H E hr G hG) rd_Table_deeds
  have ok_Table_cards : FnOk l.prog w K mg base CX0 1 f_Table_cards _ ["self"] (spO K (spGet A_Table (fun t => handD t.st.ps))) := fn_okO (g := 1) F_Table_cards sc_Table_cards (by decide) sh_get (fun cdv A outer s H E hr G hG => dv_Table_cards cl na_state cdv A outer s H E hr G hG) rd_Table_cards
  have ok_Table_calls : FnOk l.prog w K mg base CX0 1 f_Table_calls _ ["self"] (spO K (spGet A_Table (fun t => rowD t.st.cs))) := fn_okO (g := 1) F_Table_calls sc_Table_calls (by decide) sh_get (fun cdv A outer s H E hr G hG => dv_Table_calls cl na_state cdv A outer s H E hr G hG) rd_Table_calls
  have ok_is_over : FnOk l.prog w K mg base CX0 1 f_is_over _ ["calls"] (spL K spOver) := fn_okD F_is_over sc_is_over sh_is_over (fun cdv A outer s H E hr G hG => dv_is_over b_len cdv A outer s H E hr G hG) rd_is_over
  have ok_last_bid : FnOk l.prog w K mg base CX0 1 f_last_bid _ ["calls"] (spL K spLastB) := fn_okD F_last_bid sc_last_bid sh_last_bid (fun cdv A outer s H E hr G hG => dv_last_bid b_enumerate b_isinstance b_tuple cdv A outer s H E hr G hG) rd_last_bid
  have ok_contract_of : FnOk l.prog w K mg base CX0 2 f_contract_of _ ["dealer", "calls"] (spL K spContr) := fn_okD F_contract_of sc_contract_of sh_contract_of (fun cdv A outer s H E hr G hG => dv_contract_of b_enumerate b_isinstance b_tuple ok_is_over (by decide) g_is_over F_is_over.kp B_is_over ok_last_bid (by decide) g_last_bid F_last_bid.kp B_last_bid cdv A outer s H E hr G hG) rd_contract_of
  have ok_Table_contract : FnOk l.prog w K mg base CX0 3 f_Table_contract _ ["self"] (spO K (spCon A_Table)) := fn_okO (g := 1) F_Table_contract sc_Table_contract (by decide) sh_get (fun cdv A outer s H E hr G hG => dv_Table_contract cl na_state na_dealer ok_contract_of (by decide) g_contract_of F_contract_of.kp B_contract_of cdv A outer s H E hr G hG) rd_Table_contract
  have ok_Table_leader : FnOk l.prog w K mg base CX0 4 f_Table_leader _ ["self"] (spO K (spLead A_Table)) := fn_okO (g := 1) F_Table_leader sc_Table_leader (by decide) sh_Table_leader (fun cdv A outer s H E hr G hG => dv_Table_leader cl ok_Table_contract (by decide) ⟨a_Table_contract, i_Table_contract, k_Table_contract⟩ B_Table_contract cdv A outer s H E hr G hG) rd_Table_leader
  have ok_winner_of : FnOk l.prog w K mg base CX0 1 f_winner_of _ ["strain", "leader", "trick"] (spL K spWin) := fn_okD F_winner_of sc_winner_of sh_winner_of (fun cdv A outer s H E hr G hG => dv_winner_of b_range cdv A outer s H E hr G hG) rd_winner_of
  have ok_walked : FnOk l.prog w K mg base CX0 2 f_walked _ ["strain", "leader", "cards"] (spL K spWalked) := fn_okD F_walked sc_walked sh_walked (fun cdv A outer s H E hr G hG => dv_walked b_tuple b_len b_range ok_winner_of (by decide) g_winner_of F_winner_of.kp B_winner_of cdv A outer s H E hr G hG) rd_walked
  have ok_left_of : FnOk l.prog w K mg base CX0 1 f_left_of _ ["deal", "cards"] (spL K spLeft) := fn_okD F_left_of sc_left_of sh_left_of (fun cdv A outer s H E hr G hG => dv_left_of b_tuple cdv A outer s H E hr G hG) rd_left_of
  have ok_turn_of : FnOk l.prog w K mg base CX0 3 f_turn_of _ ["deal", "strain", "leader", "cards"] (spL K spTurn) := fn_okD F_turn_of sc_turn_of sh_turn_of (fun cdv A outer s H E hr G hG => dv_turn_of b_len ok_walked (by decide) g_walked F_walked.kp B_walked cdv A outer s H E hr G hG) rd_turn_of
  have ok_may_play : FnOk l.prog w K mg base CX0 4 f_may_play _ ["deal", "strain", "leader", "cards"] (spL K spMayP) := fn_okD F_may_play sc_may_play sh_may_play (fun cdv A outer s H E hr G hG => dv_may_play b_tuple ok_walked (by decide) g_walked F_walked.kp B_walked ok_left_of (by decide) g_left_of F_left_of.kp B_left_of ok_turn_of (by decide) g_turn_of F_turn_of.kp B_turn_of cdv A outer s H E hr G hG) rd_may_play
  have ok_book_of : FnOk l.prog w K mg base CX0 1 f_book_of _ ["ranks"] (spL K spBook) := fn_okD F_book_of sc_book_of sh_book_of (fun cdv A outer s H E hr G hG => dv_book_of cdv A outer s H E hr G hG) rd_book_of
  have ok_levels_of : FnOk l.prog w K mg base CX0 2 f_levels_of _ ["ranks"] (spL K spLevels) := fn_okD F_levels_of sc_levels_of sh_levels_of (fun cdv A outer s H E hr G hG => dv_levels_of ok_book_of (by decide) g_book_of F_book_of.kp B_book_of cdv A outer s H E hr G hG) rd_levels_of
  have ok_all_bids : FnOk l.prog w K mg base CX0 1 f_all_bids _ ["levels"] (spL K spBids) := fn_okD F_all_bids sc_all_bids sh_all_bids (fun cdv A outer s H E hr G hG => dv_all_bids b_range cdv A outer s H E hr G hG) rd_all_bids
  have ok_last_but_pass : FnOk l.prog w K mg base CX0 1 f_last_but_pass _ ["calls"] (spL K spLastP) := fn_okD F_last_but_pass sc_last_but_pass sh_last_but_pass (fun cdv A outer s H E hr G hG => dv_last_but_pass b_enumerate cdv A outer s H E hr G hG) rd_last_but_pass
  have ok_may_call : FnOk l.prog w K mg base CX0 2 f_may_call _ ["levels", "calls"] (spL K spMay) := fn_okD F_may_call sc_may_call sh_may_call (fun cdv A outer s H E hr G hG => dv_may_call b_tuple b_len b_isinstance ok_all_bids (by decide) g_all_bids F_all_bids.kp B_all_bids ok_last_but_pass (by decide) g_last_but_pass F_last_but_pass.kp B_last_but_pass ok_last_bid (by decide) g_last_bid F_last_bid.kp B_last_bid ok_is_over (by decide) g_is_over F_is_over.kp B_is_over cdv A outer s H E hr G hG) rd_may_call
  have ok_Table_stage : FnOk l.prog w K mg base CX0 4 f_Table_stage _ ["self"] (spO K (spStage A_Table)) := fn_okO (g := 1) F_Table_stage sc_Table_stage (by decide) sh_get (fun cdv A outer s H E hr G hG => dv_Table_stage b_len cl na_ranks na_state ok_Table_contract (by decide) ⟨a_Table_contract, i_Table_contract, k_Table_contract⟩ B_Table_contract ok_is_over (by decide) g_is_over F_is_over.kp B_is_over cdv A outer s H E hr G hG) rd_Table_stage
  have ok_Table_may : FnOk l.prog w K mg base CX0 5 f_Table_may _ ["self"] (spO K (spGet A_Table (Tab.may))) := fn_okO (g := 1) F_Table_may sc_Table_may (by decide) sh_get (fun cdv A outer s H E hr G hG => dv_Table_may cl na_deal na_ranks na_state ok_Table_leader (by decide) ⟨a_Table_leader, i_Table_leader, k_Table_leader⟩ B_Table_leader ok_Table_contract (by decide) ⟨a_Table_contract, i_Table_contract, k_Table_contract⟩ B_Table_contract ok_may_play (by decide) g_may_play F_may_play.kp B_may_play ok_levels_of (by decide) g_levels_of F_levels_of.kp B_levels_of ok_may_call (by decide) g_may_call F_may_call.kp B_may_call ok_Table_stage (by decide) ⟨a_Table_stage, i_Table_stage, k_Table_stage⟩ B_Table_stage cdv A outer s H E hr G hG) rd_Table_may
  have ok_law_turned : FnOk l.prog w K mg base CX0 1 f_law_turned _ ["told", "turn"] (spL K spTurnedT) := fn_okD F_law_turned sc_law_turned sh_law_turned (fun cdv A outer s H E hr G hG => dv_law_turned cdv A outer s H E hr G hG) rd_law_turned_k30
  have ok_tricks_of : FnOk l.prog w K mg base CX0 3 f_tricks_of _ ["strain", "leader", "cards"] (spL K spTricks) := fn_okD F_tricks_of sc_tricks_of sh_tricks_of (fun cdv A outer s H E hr G hG => dv_tricks_of ok_walked (by decide) g_walked F_walked.kp B_walked cdv A outer s H E hr G hG) rd_tricks_of
  have ok_Table_tricks : FnOk l.prog w K mg base CX0 5 f_Table_tricks _ ["self"] (spO K (spGet A_Table (Tab.tricks))) := fn_okO (g := 1) F_Table_tricks sc_Table_tricks (by decide) sh_get (fun cdv A outer s H E hr G hG => dv_Table_tricks cl na_ranks na_state ok_Table_leader (by decide) ⟨a_Table_leader, i_Table_leader, k_Table_leader⟩ B_Table_leader ok_tricks_of (by decide) g_tricks_of F_tricks_of.kp B_tricks_of ok_Table_contract (by decide) ⟨a_Table_contract, i_Table_contract, k_Table_contract⟩ B_Table_contract cdv A outer s H E hr G hG) rd_Table_tricks
  have ok_trick_worth : FnOk l.prog w K mg base CX0 1 f_trick_worth _ ["strain"] (spL K spWorth) := fn_okD F_trick_worth sc_trick_worth sh_trick_worth (fun cdv A outer s H E hr G hG => dv_trick_worth cdv A outer s H E hr G hG) rd_trick_worth
  have ok_won_by : FnOk l.prog w K mg base CX0 2 f_won_by _ ["ranks", "contract", "risk", "more"] (spL K spWon) := fn_okD F_won_by sc_won_by sh_won_by (fun cdv A outer s H E hr G hG => dv_won_by ok_trick_worth (by decide) g_trick_worth F_trick_worth.kp B_trick_worth ok_book_of (by decide) g_book_of F_book_of.kp B_book_of cdv A outer s H E hr G hG) rd_won_by
  have ok_lost_by : FnOk l.prog w K mg base CX0 1 f_lost_by _ ["lacking", "times", "risk"] (spL K spLost) := fn_okD F_lost_by sc_lost_by sh_lost_by (fun cdv A outer s H E hr G hG => dv_lost_by b_range cdv A outer s H E hr G hG) rd_lost_by
  have ok_paid : FnOk l.prog w K mg base CX0 3 f_paid _ ["ranks", "contract", "risk", "tricks"] (spL K spPaid) := fn_okD F_paid sc_paid sh_paid (fun cdv A outer s H E hr G hG => dv_paid ok_won_by (by decide) g_won_by F_won_by.kp B_won_by ok_lost_by (by decide) g_lost_by F_lost_by.kp B_lost_by ok_book_of (by decide) g_book_of F_book_of.kp B_book_of cdv A outer s H E hr G hG) rd_paid
  have ok_Table_score : FnOk l.prog w K mg base CX0 6 f_Table_score _ ["self"] (spO K (spGet A_Table (Tab.score))) := fn_okO (g := 1) F_Table_score sc_Table_score (by decide) sh_get (fun cdv A outer s H E hr G hG => dv_Table_score cl na_risk na_ranks ok_Table_tricks (by decide) ⟨a_Table_tricks, i_Table_tricks, k_Table_tricks⟩ B_Table_tricks ok_paid (by decide) g_paid F_paid.kp B_paid ok_Table_contract (by decide) ⟨a_Table_contract, i_Table_contract, k_Table_contract⟩ B_Table_contract ok_Table_stage (by decide) ⟨a_Table_stage, i_Table_stage, k_Table_stage⟩ B_Table_stage cdv A outer s H E hr G hG) rd_Table_score
  have ok_Table_turn : FnOk l.prog w K mg base CX0 5 f_Table_turn _ ["self"] (spO K (spGet A_Table (Tab.turn))) := fn_okO (g := 1) F_Table_turn sc_Table_turn (by decide) sh_get (fun cdv A outer s H E hr G hG => dv_Table_turn b_len cl na_deal na_dealer na_state ok_Table_leader (by decide) ⟨a_Table_leader, i_Table_leader, k_Table_leader⟩ B_Table_leader ok_Table_contract (by decide) ⟨a_Table_contract, i_Table_contract, k_Table_contract⟩ B_Table_contract ok_turn_of (by decide) g_turn_of F_turn_of.kp B_turn_of ok_Table_stage (by decide) ⟨a_Table_stage, i_Table_stage, k_Table_stage⟩ B_Table_stage cdv A outer s H E hr G hG) rd_Table_turn
  have ok_Table_become : FnOk l.prog w K mg base CX0 1 f_Table_become _ ["self", "state", "deed"] (spO K (spBecome A_Table)) := fn_okO (g := 1) F_Table_become sc_Table_become (by decide) sh_Table_become (fun cdv A outer s H E hr G hG => dv_Table_become cl na_undone na_state na_done cdv A outer s H E hr G hG) rd_Table_become
  have ok_is_whole : FnOk l.prog w K mg base CX0 1 f_is_whole _ ["thing"] (spL K spWhole) := fn_okD F_is_whole sc_is_whole sh_is_whole (fun cdv A outer s H E hr G hG => dv_is_whole b_isinstance b_int b_bool cdv A outer s H E hr G hG) rd_is_whole
  have ok_is_bid : FnOk l.prog w K mg base CX0 2 f_is_bid _ ["levels", "thing"] (spL K spIsBid) := fn_okD F_is_bid sc_is_bid sh_is_bid (fun cdv A outer s H E hr G hG => dv_is_bid b_isinstance b_tuple b_len ok_is_whole (by decide) g_is_whole F_is_whole.kp B_is_whole cdv A outer s H E hr G hG) rd_is_bid
  have ok_is_call : FnOk l.prog w K mg base CX0 3 f_is_call _ ["levels", "thing"] (spL K spIsCall) := fn_okD F_is_call sc_is_call sh_is_call (fun cdv A outer s H E hr G hG => dv_is_call b_isinstance b_str ok_is_bid (by decide) g_is_bid F_is_bid.kp B_is_bid cdv A outer s H E hr G hG) rd_is_call
  have ok_Table_call : FnOk l.prog w K mg base (L2.CX l.prog w) 6 f_Table_call _ ["self", "call"] (spO K (spDeed A_Table (ecOf A_Over A_NotNow A_BadCall A_BadCard A_BadClaim A_NothingBack) argCall)) := fn_okOX (g := 1) F_Table_call sc_Table_call (by decide) sh_deed (fun cdv A outer s H E hr G hG WD hW => dv_Table_call cl na_ranks na_state ok_Table_become (by decide) ⟨a_Table_become, i_Table_become, k_Table_become⟩ B_Table_become ok_levels_of (by decide) g_levels_of F_levels_of.kp B_levels_of ok_is_call (by decide) g_is_call F_is_call.kp B_is_call ok_Table_may (by decide) ⟨a_Table_may, i_Table_may, k_Table_may⟩ B_Table_may ok_is_over (by decide) g_is_over F_is_over.kp B_is_over x_BadCall g_BadCall k_BadCall b_BadCall t_BadCall x_Over g_Over k_Over b_Over t_Over cdv A outer s H E hr G hG WD hW) (rd_Table_call (ec := (ecOf A_Over A_NotNow A_BadCall A_BadCard A_BadClaim A_NothingBack)))
  have ok_Table_must_play : FnOk l.prog w K mg base (L2.CX l.prog w) 5 f_Table_must_play _ ["self"] (spO K (spMust A_Table (ecOf A_Over A_NotNow A_BadCall A_BadCard A_BadClaim A_NothingBack))) := fn_okOX (g := 1) F_Table_must_play sc_Table_must_play (by decide) sh_Table_must_play (fun cdv A outer s H E hr G hG WD hW => dv_Table_must_play cl ok_Table_stage (by decide) ⟨a_Table_stage, i_Table_stage, k_Table_stage⟩ B_Table_stage ok_Table_contract (by decide) ⟨a_Table_contract, i_Table_contract, k_Table_contract⟩ B_Table_contract x_Over g_Over k_Over b_Over t_Over x_NotNow g_NotNow k_NotNow b_NotNow t_NotNow cdv A outer s H E hr G hG WD hW) (rd_Table_must_play (ec := (ecOf A_Over A_NotNow A_BadCall A_BadCard A_BadClaim A_NothingBack)))
  have ok_Table_play : FnOk l.prog w K mg base (L2.CX l.prog w) 6 f_Table_play _ ["self", "card"] (spO K (spDeed A_Table (ecOf A_Over A_NotNow A_BadCall A_BadCard A_BadClaim A_NothingBack) argPlay)) := fn_okOX (g := 1) F_Table_play sc_Table_play (by decide) sh_deed (fun cdv A outer s H E hr G hG WD hW => dv_Table_play cl na_state ok_Table_become (by decide) ⟨a_Table_become, i_Table_become, k_Table_become⟩ B_Table_become ok_Table_may (by decide) ⟨a_Table_may, i_Table_may, k_Table_may⟩ B_Table_may ok_Table_must_play (by decide) ⟨a_Table_must_play, i_Table_must_play, k_Table_must_play⟩ B_Table_must_play x_BadCard g_BadCard k_BadCard b_BadCard t_BadCard cdv A outer s H E hr G hG WD hW) (rd_Table_play (ec := (ecOf A_Over A_NotNow A_BadCall A_BadCard A_BadClaim A_NothingBack)))
  have ok_Table_claim : FnOk l.prog w K mg base (L2.CX l.prog w) 6 f_Table_claim _ ["self", "tricks"] (spO K (spDeed A_Table (ecOf A_Over A_NotNow A_BadCall A_BadCard A_BadClaim A_NothingBack) argClaim)) := fn_okOX (g := 1) F_Table_claim sc_Table_claim (by decide) sh_deed (fun cdv A outer s H E hr G hG WD hW => dv_Table_claim cl na_ranks na_state ok_Table_become (by decide) ⟨a_Table_become, i_Table_become, k_Table_become⟩ B_Table_become ok_Table_tricks (by decide) ⟨a_Table_tricks, i_Table_tricks, k_Table_tricks⟩ B_Table_tricks ok_Table_contract (by decide) ⟨a_Table_contract, i_Table_contract, k_Table_contract⟩ B_Table_contract ok_Table_must_play (by decide) ⟨a_Table_must_play, i_Table_must_play, k_Table_must_play⟩ B_Table_must_play x_BadClaim g_BadClaim k_BadClaim b_BadClaim t_BadClaim cdv A outer s H E hr G hG WD hW) (rd_Table_claim (ec := (ecOf A_Over A_NotNow A_BadCall A_BadCard A_BadClaim A_NothingBack)))
  have ok_Table_back : FnOk l.prog w K mg base (L2.CX l.prog w) 1 f_Table_back _ ["self"] (spO K (spBack A_Table (ecOf A_Over A_NotNow A_BadCall A_BadCard A_BadClaim A_NothingBack) Tab.back)) := fn_okOX (g := 1) F_Table_back sc_Table_back (by decide) sh_back (fun cdv A outer s H E hr G hG WD hW => dv_Table_back cl na_state na_undone na_done x_NothingBack g_NothingBack k_NothingBack b_NothingBack t_NothingBack cdv A outer s H E hr G hG WD hW) (rd_Table_back (ec := (ecOf A_Over A_NotNow A_BadCall A_BadCard A_BadClaim A_NothingBack)))
  have ok_Table_again : FnOk l.prog w K mg base (L2.CX l.prog w) 1 f_Table_again _ ["self"] (spO K (spBack A_Table (ecOf A_Over A_NotNow A_BadCall A_BadCard A_BadClaim A_NothingBack) Tab.again)) := fn_okOX (g := 1) F_Table_again sc_Table_again (by decide) sh_back (fun cdv A outer s H E hr G hG WD hW => dv_Table_again cl na_state na_done na_undone x_NothingBack g_NothingBack k_NothingBack b_NothingBack t_NothingBack cdv A outer s H E hr G hG WD hW) (rd_Table_again (ec := (ecOf A_Over A_NotNow A_BadCall A_BadCard A_BadClaim A_NothingBack)))
  have W_law_word : ∀ e, FnW l.prog w K mg base 1 f_law_word _ "e" (ecOf A_Over A_NotNow A_BadCall A_BadCard A_BadClaim A_NothingBack e) (errW e) := fun e => match e with
    | .over => fnW_ok F_law_word sc_law_word (fun cdv A outer s H a oe hr hz hf G hG => dv_law_word b_ValueError b_isinstance ec_Over hz hf w_Over_ValueError g_NothingBack w_Over_NothingBack g_BadClaim w_Over_BadClaim g_BadCard w_Over_BadCard g_BadCall w_Over_BadCall g_NotNow w_Over_NotNow g_Over w_Over_Over cdv A outer s H hr G hG) (rd_law_word .over)
    | .notNow => fnW_ok F_law_word sc_law_word (fun cdv A outer s H a oe hr hz hf G hG => dv_law_word b_ValueError b_isinstance ec_NotNow hz hf w_NotNow_ValueError g_NothingBack w_NotNow_NothingBack g_BadClaim w_NotNow_BadClaim g_BadCard w_NotNow_BadCard g_BadCall w_NotNow_BadCall g_NotNow w_NotNow_NotNow g_Over w_NotNow_Over cdv A outer s H hr G hG) (rd_law_word .notNow)
    | .badCall => fnW_ok F_law_word sc_law_word (fun cdv A outer s H a oe hr hz hf G hG => dv_law_word b_ValueError b_isinstance ec_BadCall hz hf w_BadCall_ValueError g_NothingBack w_BadCall_NothingBack g_BadClaim w_BadCall_BadClaim g_BadCard w_BadCall_BadCard g_BadCall w_BadCall_BadCall g_NotNow w_BadCall_NotNow g_Over w_BadCall_Over cdv A outer s H hr G hG) (rd_law_word .badCall)
    | .badCard => fnW_ok F_law_word sc_law_word (fun cdv A outer s H a oe hr hz hf G hG => dv_law_word b_ValueError b_isinstance ec_BadCard hz hf w_BadCard_ValueError g_NothingBack w_BadCard_NothingBack g_BadClaim w_BadCard_BadClaim g_BadCard w_BadCard_BadCard g_BadCall w_BadCard_BadCall g_NotNow w_BadCard_NotNow g_Over w_BadCard_Over cdv A outer s H hr G hG) (rd_law_word .badCard)
    | .badClaim => fnW_ok F_law_word sc_law_word (fun cdv A outer s H a oe hr hz hf G hG => dv_law_word b_ValueError b_isinstance ec_BadClaim hz hf w_BadClaim_ValueError g_NothingBack w_BadClaim_NothingBack g_BadClaim w_BadClaim_BadClaim g_BadCard w_BadClaim_BadCard g_BadCall w_BadClaim_BadCall g_NotNow w_BadClaim_NotNow g_Over w_BadClaim_Over cdv A outer s H hr G hG) (rd_law_word .badClaim)
    | .nothing => fnW_ok F_law_word sc_law_word (fun cdv A outer s H a oe hr hz hf G hG => dv_law_word b_ValueError b_isinstance ec_NothingBack hz hf w_NothingBack_ValueError g_NothingBack w_NothingBack_NothingBack g_BadClaim w_NothingBack_BadClaim g_BadCard w_NothingBack_BadCard g_BadCall w_NothingBack_BadCall g_NotNow w_NothingBack_NotNow g_Over w_NothingBack_Over cdv A outer s H hr G hG) (rd_law_word .nothing)
  have ok_law_acted : FnOk l.prog w K mg base CX0 7 f_law_acted _ ["table", "deed"] (spO K (spActed A_Table)) := fn_okO (g := 1) F_law_acted sc_law_acted (by decide) sh_law_acted (fun cdv A outer s H E hr G hG => dv_law_acted cl ok_Table_call (by decide) ⟨a_Table_call, i_Table_call, k_Table_call⟩ B_Table_call ok_Table_play (by decide) ⟨a_Table_play, i_Table_play, k_Table_play⟩ B_Table_play ok_Table_claim (by decide) ⟨a_Table_claim, i_Table_claim, k_Table_claim⟩ B_Table_claim ok_Table_back (by decide) ⟨a_Table_back, i_Table_back, k_Table_back⟩ B_Table_back ok_Table_again (by decide) ⟨a_Table_again, i_Table_again, k_Table_again⟩ B_Table_again g_BoardError (m_BoardError := fun cls => PySem.W.exmOne K cls (.ref A_BoardError)) (fun _ _ h => h) (wd := wdOf A_Over A_NotNow A_BadCall A_BadCard A_BadClaim A_NothingBack) (fun cls y h => by obtain ⟨e, rfl, rfl⟩ := wd_inv h; exact W_law_word e) (by decide) g_law_word F_law_word.kp B_law_word cdv A outer s H E hr G hG) (rd_law_acted hmB (wd_ec nd_W))
  have ok_law_draw : FnOk l.prog w K mg base CX0 1 f_law_draw _ ["script", "town", "many"] (spL K spDraw) := fn_okD F_law_draw sc_law_draw sh_law_draw (fun cdv A outer s H E hr G hG => dv_law_draw b_len b_abs b_max cdv A outer s H E hr G hG) rd_law_draw
  have ok_law_pick : FnOk l.prog w K mg base CX0 2 f_law_pick _ ["script", "town", "some"] (spL K spPick) := fn_okD F_law_pick sc_law_pick sh_law_pick (fun cdv A outer s H E hr G hG => dv_law_pick b_len ok_law_draw (by decide) g_law_draw F_law_draw.kp B_law_draw cdv A outer s H E hr G hG) rd_law_pick
  have ok_law_drawn_deed : FnOk l.prog w K mg base CX0 3 f_law_drawn_deed _ ["script", "town", "ranks", "stage", "some", "sorts"] (spL K spDrawnM) := fn_okD F_law_drawn_deed sc_law_drawn_deed sh_law_drawn_deed (fun cdv A outer s H E hr G hG => dv_law_drawn_deed ok_law_pick (by decide) g_law_pick F_law_pick.kp B_law_pick ok_law_draw (by decide) g_law_draw F_law_draw.kp B_law_draw cdv A outer s H E hr G hG) rd_law_drawn_deed
  have ok_Table___init__ : FnOk l.prog w K mg base CX0 1 f_Table___init__ _ ["self", "ranks", "deal", "dealer", "risk"] (spO K (spInit A_Table)) := fn_okOD (g := 1) F_Table___init__ sc_Table___init__ (by decide) sh_Table___init__ (fun cdv A outer s H E hr G hG => dv_Table___init__ cl na_undone na_done na_state na_risk na_dealer na_deal na_ranks cdv A outer s H E hr G hG) rd_Table___init__
  have ok_law_all_cards : FnOk l.prog w K mg base CX0 1 f_law_all_cards _ ["ranks"] (spL K spAllC) := fn_okD F_law_all_cards sc_law_all_cards sh_law_all_cards (fun cdv A outer s H E hr G hG => dv_law_all_cards b_range cdv A outer s H E hr G hG) rd_law_all_cards
  have ok_law_mixed : FnOk l.prog w K mg base CX0 2 f_law_mixed _ ["script", "town", "things"] (spL K spMixed) := fn_okD F_law_mixed sc_law_mixed sh_law_mixed (fun cdv A outer s H E hr G hG => dv_law_mixed b_len b_list ok_law_draw (by decide) g_law_draw F_law_draw.kp B_law_draw cdv A outer s H E hr G hG) rd_law_mixed
  have ok_law_drawn_deal : FnOk l.prog w K mg base CX0 3 f_law_drawn_deal _ ["script", "town", "ranks"] (spL K spDeal) := fn_okD F_law_drawn_deal sc_law_drawn_deal sh_law_drawn_deal (fun cdv A outer s H E hr G hG => dv_law_drawn_deal b_range b_sorted b_tuple ok_law_all_cards (by decide) g_law_all_cards F_law_all_cards.kp B_law_all_cards ok_law_mixed (by decide) g_law_mixed F_law_mixed.kp B_law_mixed cdv A outer s H E hr G hG) rd_law_drawn_deal
  have ok_law_drawn_risk : FnOk l.prog w K mg base CX0 2 f_law_drawn_risk _ ["script", "town"] (spL K spRisk) := fn_okD F_law_drawn_risk sc_law_drawn_risk sh_law_drawn_risk (fun cdv A outer s H E hr G hG => dv_law_drawn_risk ok_law_draw (by decide) g_law_draw F_law_draw.kp B_law_draw cdv A outer s H E hr G hG) rd_law_drawn_risk
  have ok_law : FnOk l.prog w K mg base CX0 8 _ _ ["script"] (spL K spLaw) := fn_okD F_law sc_law sh_law (fun cdv A outer s H E hr G hG => dv_law b_range b_min cl ok_law_same (by decide) g_law_same F_law_same.kp B_law_same ok_Table_taken_back (by decide) ⟨a_Table_taken_back, i_Table_taken_back, k_Table_taken_back⟩ B_Table_taken_back ok_Table_deeds (by decide) ⟨a_Table_deeds, i_Table_deeds, k_Table_deeds⟩ B_Table_deeds ok_Table_cards (by decide) ⟨a_Table_cards, i_Table_cards, k_Table_cards⟩ B_Table_cards ok_Table_calls (by decide) ⟨a_Table_calls, i_Table_calls, k_Table_calls⟩ B_Table_calls ok_Table_may (by decide) ⟨a_Table_may, i_Table_may, k_Table_may⟩ B_Table_may ok_Table_stage (by decide) ⟨a_Table_stage, i_Table_stage, k_Table_stage⟩ B_Table_stage ok_law_turned (by decide) g_law_turned F_law_turned.kp B_law_turned ok_Table_score (by decide) ⟨a_Table_score, i_Table_score, k_Table_score⟩ B_Table_score ok_Table_tricks (by decide) ⟨a_Table_tricks, i_Table_tricks, k_Table_tricks⟩ B_Table_tricks ok_Table_contract (by decide) ⟨a_Table_contract, i_Table_contract, k_Table_contract⟩ B_Table_contract ok_Table_turn (by decide) ⟨a_Table_turn, i_Table_turn, k_Table_turn⟩ B_Table_turn ok_law_acted (by decide) g_law_acted F_law_acted.kp B_law_acted ok_law_drawn_deed (by decide) g_law_drawn_deed F_law_drawn_deed.kp B_law_drawn_deed ok_Table___init__ (by decide) ⟨mk_C, a_Table___init__, i_Table___init__, kc_C⟩ g_Table Bd0 Vd0 (fun _ => .nil) ok_law_drawn_deal (by decide) g_law_drawn_deal F_law_drawn_deal.kp B_law_drawn_deal ok_law_drawn_risk (by decide) g_law_drawn_risk F_law_drawn_risk.kp B_law_drawn_risk ok_law_pick (by decide) g_law_pick F_law_pick.kp B_law_pick ok_law_draw (by decide) g_law_draw F_law_draw.kp B_law_draw cdv A outer s H E hr G hG) rd_law_k30
  exact ok_law
end LW
open PySem PySem.W PyProof.Rows
set_option maxHeartbeats 0 in
theorem PySem.Challenge.cw_boardcalls_k30_whole_tables_turned_holds : PySem.Challenge.rw_boardcalls_k30_whole_tables_turned.Holds := by
  w_on; o_law; k_head; (case hw => w_witness2)
  k_fill
  refine DL.law_walk (l := PySem.Challenge.rw_boardcalls_k30_whole_tables_turned) (n := 63) (k := 8) (x := "script") (sp := DL.spLaw) rfl (by decide) rfl ⟨rfl, by decide, by decide⟩ (fun w h Y => PySem.W.kIn_of Y) ?F (fun ns Q hl _ q => ⟨ns, rfl, hl, q⟩)
  case F =>
    intro w mg fa h KX G hmg
    refine' LW.all_mk KX G hmg ?a_Table ?pg_C ?hd_C ?po_C ?sa_C ?mk_C ?kc_C ?na_undone ?na_done ?na_state ?na_dealer ?na_ranks ?na_deal ?na_risk ?a_law_same ?l_law_same ?c_law_same ?k_law_same ?a_Table_taken_back ?i_Table_taken_back ?l_Table_taken_back ?c_Table_taken_back ?k_Table_taken_back ?a_Table_deeds ?i_Table_deeds ?l_Table_deeds ?c_Table_deeds ?k_Table_deeds ?a_Table_cards ?i_Table_cards ?l_Table_cards ?c_Table_cards ?k_Table_cards ?a_Table_calls ?i_Table_calls ?l_Table_calls ?c_Table_calls ?k_Table_calls ?a_is_over ?l_is_over ?c_is_over ?k_is_over ?a_last_bid ?l_last_bid ?c_last_bid ?k_last_bid ?a_contract_of ?l_contract_of ?c_contract_of ?k_contract_of ?a_Table_contract ?i_Table_contract ?l_Table_contract ?c_Table_contract ?k_Table_contract ?a_Table_leader ?i_Table_leader ?l_Table_leader ?c_Table_leader ?k_Table_leader ?a_winner_of ?l_winner_of ?c_winner_of ?k_winner_of ?a_walked ?l_walked ?c_walked ?k_walked ?a_left_of ?l_left_of ?c_left_of ?k_left_of ?a_turn_of ?l_turn_of ?c_turn_of ?k_turn_of ?a_may_play ?l_may_play ?c_may_play ?k_may_play ?a_book_of ?l_book_of ?c_book_of ?k_book_of ?a_levels_of ?l_levels_of ?c_levels_of ?k_levels_of ?a_all_bids ?l_all_bids ?c_all_bids ?k_all_bids ?a_last_but_pass ?l_last_but_pass ?c_last_but_pass ?k_last_but_pass ?a_may_call ?l_may_call ?c_may_call ?k_may_call ?a_Table_stage ?i_Table_stage ?l_Table_stage ?c_Table_stage ?k_Table_stage ?a_Table_may ?i_Table_may ?l_Table_may ?c_Table_may ?k_Table_may ?a_law_turned ?l_law_turned ?c_law_turned ?k_law_turned ?a_tricks_of ?l_tricks_of ?c_tricks_of ?k_tricks_of ?a_Table_tricks ?i_Table_tricks ?l_Table_tricks ?c_Table_tricks ?k_Table_tricks ?a_trick_worth ?l_trick_worth ?c_trick_worth ?k_trick_worth ?a_won_by ?l_won_by ?c_won_by ?k_won_by ?a_lost_by ?l_lost_by ?c_lost_by ?k_lost_by ?a_paid ?l_paid ?c_paid ?k_paid ?a_Table_score ?i_Table_score ?l_Table_score ?c_Table_score ?k_Table_score ?a_Table_turn ?i_Table_turn ?l_Table_turn ?c_Table_turn ?k_Table_turn ?a_Table_become ?i_Table_become ?l_Table_become ?c_Table_become ?k_Table_become ?a_is_whole ?l_is_whole ?c_is_whole ?k_is_whole ?a_is_bid ?l_is_bid ?c_is_bid ?k_is_bid ?a_is_call ?l_is_call ?c_is_call ?k_is_call ?a_Table_call ?i_Table_call ?l_Table_call ?c_Table_call ?k_Table_call ?a_Table_must_play ?i_Table_must_play ?l_Table_must_play ?c_Table_must_play ?k_Table_must_play ?a_Table_play ?i_Table_play ?l_Table_play ?c_Table_play ?k_Table_play ?a_Table_claim ?i_Table_claim ?l_Table_claim ?c_Table_claim ?k_Table_claim ?a_Table_back ?i_Table_back ?l_Table_back ?c_Table_back ?k_Table_back ?a_Table_again ?i_Table_again ?l_Table_again ?c_Table_again ?k_Table_again ?a_law_word ?l_law_word ?c_law_word ?k_law_word ?a_law_acted ?l_law_acted ?c_law_acted ?k_law_acted ?a_law_draw ?l_law_draw ?c_law_draw ?k_law_draw ?a_law_pick ?l_law_pick ?c_law_pick ?k_law_pick ?a_law_drawn_deed ?l_law_drawn_deed ?c_law_drawn_deed ?k_law_drawn_deed ?a_Table___init__ ?i_Table___init__ ?l_Table___init__ ?c_Table___init__ ?k_Table___init__ ?l_T ?v_T ?a_law_all_cards ?l_law_all_cards ?c_law_all_cards ?k_law_all_cards ?a_law_mixed ?l_law_mixed ?c_law_mixed ?k_law_mixed ?a_law_drawn_deal ?l_law_drawn_deal ?c_law_drawn_deal ?k_law_drawn_deal ?a_law_drawn_risk ?l_law_drawn_risk ?c_law_drawn_risk ?k_law_drawn_risk ?a_law ?l_law ?c_law ?k_law ?a_Over ?x_Over ?k_Over ?b_Over ?t_Over ?i_Over ?s_Over ?a_NotNow ?x_NotNow ?k_NotNow ?b_NotNow ?t_NotNow ?i_NotNow ?s_NotNow ?a_BadCall ?x_BadCall ?k_BadCall ?b_BadCall ?t_BadCall ?i_BadCall ?s_BadCall ?a_BadCard ?x_BadCard ?k_BadCard ?b_BadCard ?t_BadCard ?i_BadCard ?s_BadCard ?a_BadClaim ?x_BadClaim ?k_BadClaim ?b_BadClaim ?t_BadClaim ?i_BadClaim ?s_BadClaim ?a_NothingBack ?x_NothingBack ?k_NothingBack ?b_NothingBack ?t_NothingBack ?i_NothingBack ?s_NothingBack ?a_BoardError ?x_BoardError ?k_BoardError ?b_BoardError ?t_BoardError ?i_BoardError ?s_BoardError ?nd_W ?en_W ?et_W ?eg_Over ?ek_Over ?ed_Over ?ea_Over ?em_Over ?w_Over_ValueError ?sb_Over ?w_Over_Over ?w_Over_NotNow ?w_Over_BadCall ?w_Over_BadCard ?w_Over_BadClaim ?w_Over_NothingBack ?eg_NotNow ?ek_NotNow ?ed_NotNow ?ea_NotNow ?em_NotNow ?w_NotNow_ValueError ?sb_NotNow ?w_NotNow_Over ?w_NotNow_NotNow ?w_NotNow_BadCall ?w_NotNow_BadCard ?w_NotNow_BadClaim ?w_NotNow_NothingBack ?eg_BadCall ?ek_BadCall ?ed_BadCall ?ea_BadCall ?em_BadCall ?w_BadCall_ValueError ?sb_BadCall ?w_BadCall_Over ?w_BadCall_NotNow ?w_BadCall_BadCall ?w_BadCall_BadCard ?w_BadCall_BadClaim ?w_BadCall_NothingBack ?eg_BadCard ?ek_BadCard ?ed_BadCard ?ea_BadCard ?em_BadCard ?w_BadCard_ValueError ?sb_BadCard ?w_BadCard_Over ?w_BadCard_NotNow ?w_BadCard_BadCall ?w_BadCard_BadCard ?w_BadCard_BadClaim ?w_BadCard_NothingBack ?eg_BadClaim ?ek_BadClaim ?ed_BadClaim ?ea_BadClaim ?em_BadClaim ?w_BadClaim_ValueError ?sb_BadClaim ?w_BadClaim_Over ?w_BadClaim_NotNow ?w_BadClaim_BadCall ?w_BadClaim_BadCard ?w_BadClaim_BadClaim ?w_BadClaim_NothingBack ?eg_NothingBack ?ek_NothingBack ?ed_NothingBack ?ea_NothingBack ?em_NothingBack ?w_NothingBack_ValueError ?sb_NothingBack ?w_NothingBack_Over ?w_NothingBack_NotNow ?w_NothingBack_BadCall ?w_NothingBack_BadCard ?w_NothingBack_BadClaim ?w_NothingBack_NothingBack ?z_isinstance ?z_int ?z_bool ?z_str ?z_tuple ?z_zip ?z_all ?z_len ?z_enumerate ?z_range ?z_ValueError ?z_abs ?z_max ?z_list ?z_sorted ?z_min
    (case a_Table => k_is); (case pg_C => k_is); (case hd_C => k_is); (case po_C => k_is); (case sa_C => k_is); (case mk_C => k_is); (case kc_C => k_is); (case na_undone => k_is); (case na_done => k_is); (case na_state => k_is); (case na_dealer => k_is); (case na_ranks => k_is); (case na_deal => k_is); (case na_risk => k_is); (case a_law_same => k_is); (case l_law_same => k_is); (case c_law_same => k_is); (case k_law_same => k_is); (case a_Table_taken_back => k_is); (case i_Table_taken_back => k_is); (case l_Table_taken_back => k_is); (case c_Table_taken_back => k_is); (case k_Table_taken_back => k_is); (case a_Table_deeds => k_is); (case i_Table_deeds => k_is); (case l_Table_deeds => k_is); (case c_Table_deeds => k_is); (case k_Table_deeds => k_is); (case a_Table_cards => k_is); (case i_Table_cards => k_is); (case l_Table_cards => k_is); (case c_Table_cards => k_is); (case k_Table_cards => k_is); (case a_Table_calls => k_is); (case i_Table_calls => k_is); (case l_Table_calls => k_is); (case c_Table_calls => k_is); (case k_Table_calls => k_is); (case a_is_over => k_is); (case l_is_over => k_is); (case c_is_over => k_is); (case k_is_over => k_is); (case a_last_bid => k_is); (case l_last_bid => k_is); (case c_last_bid => k_is); (case k_last_bid => k_is); (case a_contract_of => k_is); (case l_contract_of => k_is); (case c_contract_of => k_is); (case k_contract_of => k_is); (case a_Table_contract => k_is); (case i_Table_contract => k_is); (case l_Table_contract => k_is); (case c_Table_contract => k_is); (case k_Table_contract => k_is); (case a_Table_leader => k_is); (case i_Table_leader => k_is); (case l_Table_leader => k_is); (case c_Table_leader => k_is); (case k_Table_leader => k_is); (case a_winner_of => k_is); (case l_winner_of => k_is); (case c_winner_of => k_is); (case k_winner_of => k_is); (case a_walked => k_is); (case l_walked => k_is); (case c_walked => k_is); (case k_walked => k_is); (case a_left_of => k_is); (case l_left_of => k_is); (case c_left_of => k_is); (case k_left_of => k_is); (case a_turn_of => k_is); (case l_turn_of => k_is); (case c_turn_of => k_is); (case k_turn_of => k_is); (case a_may_play => k_is); (case l_may_play => k_is); (case c_may_play => k_is); (case k_may_play => k_is); (case a_book_of => k_is); (case l_book_of => k_is); (case c_book_of => k_is); (case k_book_of => k_is); (case a_levels_of => k_is); (case l_levels_of => k_is); (case c_levels_of => k_is); (case k_levels_of => k_is); (case a_all_bids => k_is); (case l_all_bids => k_is); (case c_all_bids => k_is); (case k_all_bids => k_is); (case a_last_but_pass => k_is); (case l_last_but_pass => k_is); (case c_last_but_pass => k_is); (case k_last_but_pass => k_is); (case a_may_call => k_is); (case l_may_call => k_is); (case c_may_call => k_is); (case k_may_call => k_is); (case a_Table_stage => k_is); (case i_Table_stage => k_is); (case l_Table_stage => k_is); (case c_Table_stage => k_is); (case k_Table_stage => k_is); (case a_Table_may => k_is); (case i_Table_may => k_is); (case l_Table_may => k_is); (case c_Table_may => k_is); (case k_Table_may => k_is); (case a_law_turned => k_is); (case l_law_turned => k_is); (case c_law_turned => k_is); (case k_law_turned => k_is); (case a_tricks_of => k_is); (case l_tricks_of => k_is); (case c_tricks_of => k_is); (case k_tricks_of => k_is); (case a_Table_tricks => k_is); (case i_Table_tricks => k_is); (case l_Table_tricks => k_is); (case c_Table_tricks => k_is); (case k_Table_tricks => k_is); (case a_trick_worth => k_is); (case l_trick_worth => k_is); (case c_trick_worth => k_is); (case k_trick_worth => k_is); (case a_won_by => k_is); (case l_won_by => k_is); (case c_won_by => k_is); (case k_won_by => k_is); (case a_lost_by => k_is); (case l_lost_by => k_is); (case c_lost_by => k_is); (case k_lost_by => k_is); (case a_paid => k_is); (case l_paid => k_is); (case c_paid => k_is); (case k_paid => k_is); (case a_Table_score => k_is); (case i_Table_score => k_is); (case l_Table_score => k_is); (case c_Table_score => k_is); (case k_Table_score => k_is); (case a_Table_turn => k_is); (case i_Table_turn => k_is); (case l_Table_turn => k_is); (case c_Table_turn => k_is); (case k_Table_turn => k_is); (case a_Table_become => k_is); (case i_Table_become => k_is); (case l_Table_become => k_is); (case c_Table_become => k_is); (case k_Table_become => k_is); (case a_is_whole => k_is); (case l_is_whole => k_is); (case c_is_whole => k_is); (case k_is_whole => k_is); (case a_is_bid => k_is); (case l_is_bid => k_is); (case c_is_bid => k_is); (case k_is_bid => k_is); (case a_is_call => k_is); (case l_is_call => k_is); (case c_is_call => k_is); (case k_is_call => k_is); (case a_Table_call => k_is); (case i_Table_call => k_is); (case l_Table_call => k_is); (case c_Table_call => k_is); (case k_Table_call => k_is); (case a_Table_must_play => k_is); (case i_Table_must_play => k_is); (case l_Table_must_play => k_is); (case c_Table_must_play => k_is); (case k_Table_must_play => k_is); (case a_Table_play => k_is); (case i_Table_play => k_is); (case l_Table_play => k_is); (case c_Table_play => k_is); (case k_Table_play => k_is); (case a_Table_claim => k_is); (case i_Table_claim => k_is); (case l_Table_claim => k_is); (case c_Table_claim => k_is); (case k_Table_claim => k_is); (case a_Table_back => k_is); (case i_Table_back => k_is); (case l_Table_back => k_is); (case c_Table_back => k_is); (case k_Table_back => k_is); (case a_Table_again => k_is); (case i_Table_again => k_is); (case l_Table_again => k_is); (case c_Table_again => k_is); (case k_Table_again => k_is); (case a_law_word => k_is); (case l_law_word => k_is); (case c_law_word => k_is); (case k_law_word => k_is); (case a_law_acted => k_is); (case l_law_acted => k_is); (case c_law_acted => k_is); (case k_law_acted => k_is); (case a_law_draw => k_is); (case l_law_draw => k_is); (case c_law_draw => k_is); (case k_law_draw => k_is); (case a_law_pick => k_is); (case l_law_pick => k_is); (case c_law_pick => k_is); (case k_law_pick => k_is); (case a_law_drawn_deed => k_is); (case l_law_drawn_deed => k_is); (case c_law_drawn_deed => k_is); (case k_law_drawn_deed => k_is); (case a_Table___init__ => k_is); (case i_Table___init__ => k_is); (case l_Table___init__ => k_is); (case c_Table___init__ => k_is); (case k_Table___init__ => k_is); (case l_T => k_is); (case a_law_all_cards => k_is); (case l_law_all_cards => k_is); (case c_law_all_cards => k_is); (case k_law_all_cards => k_is); (case a_law_mixed => k_is); (case l_law_mixed => k_is); (case c_law_mixed => k_is); (case k_law_mixed => k_is); (case a_law_drawn_deal => k_is); (case l_law_drawn_deal => k_is); (case c_law_drawn_deal => k_is); (case k_law_drawn_deal => k_is); (case a_law_drawn_risk => k_is); (case l_law_drawn_risk => k_is); (case c_law_drawn_risk => k_is); (case k_law_drawn_risk => k_is); (case a_law => k_is); (case l_law => k_is); (case c_law => k_is); (case k_law => k_is); (case a_Over => k_is); (case k_Over => k_is); (case b_Over => k_is); (case t_Over => k_is); (case i_Over => k_is); (case a_NotNow => k_is); (case k_NotNow => k_is); (case b_NotNow => k_is); (case t_NotNow => k_is); (case i_NotNow => k_is); (case a_BadCall => k_is); (case k_BadCall => k_is); (case b_BadCall => k_is); (case t_BadCall => k_is); (case i_BadCall => k_is); (case a_BadCard => k_is); (case k_BadCard => k_is); (case b_BadCard => k_is); (case t_BadCard => k_is); (case i_BadCard => k_is); (case a_BadClaim => k_is); (case k_BadClaim => k_is); (case b_BadClaim => k_is); (case t_BadClaim => k_is); (case i_BadClaim => k_is); (case a_NothingBack => k_is); (case k_NothingBack => k_is); (case b_NothingBack => k_is); (case t_NothingBack => k_is); (case i_NothingBack => k_is); (case a_BoardError => k_is); (case k_BoardError => k_is); (case b_BoardError => k_is); (case t_BoardError => k_is); (case i_BoardError => k_is); (case en_W => k_is); (case et_W => k_is); (case eg_Over => k_is); (case ek_Over => k_is); (case ed_Over => k_is); (case ea_Over => k_is); (case em_Over => k_is); (case eg_NotNow => k_is); (case ek_NotNow => k_is); (case ed_NotNow => k_is); (case ea_NotNow => k_is); (case em_NotNow => k_is); (case eg_BadCall => k_is); (case ek_BadCall => k_is); (case ed_BadCall => k_is); (case ea_BadCall => k_is); (case em_BadCall => k_is); (case eg_BadCard => k_is); (case ek_BadCard => k_is); (case ed_BadCard => k_is); (case ea_BadCard => k_is); (case em_BadCard => k_is); (case eg_BadClaim => k_is); (case ek_BadClaim => k_is); (case ed_BadClaim => k_is); (case ea_BadClaim => k_is); (case em_BadClaim => k_is); (case eg_NothingBack => k_is); (case ek_NothingBack => k_is); (case ed_NothingBack => k_is); (case ea_NothingBack => k_is); (case em_NothingBack => k_is); (case z_isinstance => k_is); (case z_int => k_is); (case z_bool => k_is); (case z_str => k_is); (case z_tuple => k_is); (case z_zip => k_is); (case z_all => k_is); (case z_len => k_is); (case z_enumerate => k_is); (case z_range => k_is); (case z_ValueError => k_is); (case z_abs => k_is); (case z_max => k_is); (case z_list => k_is); (case z_sorted => k_is); (case z_min => k_is); (case v_T => decide +kernel); (case nd_W => decide +kernel); (case x_Over => k_exc); (case s_Over => (first | rfl | k_is)); (case x_NotNow => k_exc); (case s_NotNow => (first | rfl | k_is)); (case x_BadCall => k_exc); (case s_BadCall => (first | rfl | k_is)); (case x_BadCard => k_exc); (case s_BadCard => (first | rfl | k_is)); (case x_BadClaim => k_exc); (case s_BadClaim => (first | rfl | k_is)); (case x_NothingBack => k_exc); (case s_NothingBack => (first | rfl | k_is)); (case x_BoardError => k_exc); (case s_BoardError => (first | rfl | k_is)); (case w_Over_ValueError => (first | rfl | k_is)); (case sb_Over => (first | rfl | k_is)); (case w_Over_Over => (first | rfl | k_is)); (case w_Over_NotNow => (first | rfl | k_is)); (case w_Over_BadCall => (first | rfl | k_is)); (case w_Over_BadCard => (first | rfl | k_is)); (case w_Over_BadClaim => (first | rfl | k_is)); (case w_Over_NothingBack => (first | rfl | k_is)); (case w_NotNow_ValueError => (first | rfl | k_is)); (case sb_NotNow => (first | rfl | k_is)); (case w_NotNow_Over => (first | rfl | k_is)); (case w_NotNow_NotNow => (first | rfl | k_is)); (case w_NotNow_BadCall => (first | rfl | k_is)); (case w_NotNow_BadCard => (first | rfl | k_is)); (case w_NotNow_BadClaim => (first | rfl | k_is)); (case w_NotNow_NothingBack => (first | rfl | k_is)); (case w_BadCall_ValueError => (first | rfl | k_is)); (case sb_BadCall => (first | rfl | k_is)); (case w_BadCall_Over => (first | rfl | k_is)); (case w_BadCall_NotNow => (first | rfl | k_is)); (case w_BadCall_BadCall => (first | rfl | k_is)); (case w_BadCall_BadCard => (first | rfl | k_is)); (case w_BadCall_BadClaim => (first | rfl | k_is)); (case w_BadCall_NothingBack => (first | rfl | k_is)); (case w_BadCard_ValueError => (first | rfl | k_is)); (case sb_BadCard => (first | rfl | k_is)); (case w_BadCard_Over => (first | rfl | k_is)); (case w_BadCard_NotNow => (first | rfl | k_is)); (case w_BadCard_BadCall => (first | rfl | k_is)); (case w_BadCard_BadCard => (first | rfl | k_is)); (case w_BadCard_BadClaim => (first | rfl | k_is)); (case w_BadCard_NothingBack => (first | rfl | k_is)); (case w_BadClaim_ValueError => (first | rfl | k_is)); (case sb_BadClaim => (first | rfl | k_is)); (case w_BadClaim_Over => (first | rfl | k_is)); (case w_BadClaim_NotNow => (first | rfl | k_is)); (case w_BadClaim_BadCall => (first | rfl | k_is)); (case w_BadClaim_BadCard => (first | rfl | k_is)); (case w_BadClaim_BadClaim => (first | rfl | k_is)); (case w_BadClaim_NothingBack => (first | rfl | k_is)); (case w_NothingBack_ValueError => (first | rfl | k_is)); (case sb_NothingBack => (first | rfl | k_is)); (case w_NothingBack_Over => (first | rfl | k_is)); (case w_NothingBack_NotNow => (first | rfl | k_is)); (case w_NothingBack_BadCall => (first | rfl | k_is)); (case w_NothingBack_BadCard => (first | rfl | k_is)); (case w_NothingBack_BadClaim => (first | rfl | k_is)); (case w_NothingBack_NothingBack => (first | rfl | k_is))
