import PyProof.Rows.All
import Wide.All
import OpenK.AllK
import Wide.FinOn
import HandS.ForMost
import HandS.Deep
import HandS.Flow
import HandS.IsInst
import HandS.EndBits
import KE.KDictKeyed
import HandS.DictTup
import HandS.Style
import HandS.Wide
import HandS.Zip
import HandS.Walk
import HandS.Ends
import HandS.Set
import HandS.SetFor
import HandS.Strs
import KE.SortData
import HandS.SortKw
import KE.GoesMore
import KE.DataFind
import KE.DataCmp
import KE.GoesZip
import KE.GoesEnum
import HandS.TupMul
import KE.DataMinMax
import HandS.TupSets
import KE.KDictDisplayH
import HandS.WordsExc
import HandS.TryOnly
import HandS.ExcOwn
import HandS.Conv
import HandS.NoneIn
import KE.KDictCopyH
import KE.KDictSum
import HandS.Records
import HandS.CallSlots
import HandS.Defaults
import HandS.MakeKw
import HandS.MakeKwOnly
import HandS.HotCalls
import HandS.ExcIs
import HandS.OwnEq
import HandS.FStr
import KE.KCallOwn
import HandS.Codes
import KE.KFmtOwn
import PySem.Challenge.RW_boardcalls_k23_whole_rounds
set_option Elab.async false
set_option linter.all false
set_option maxRecDepth 100000
/-! DL1: deep data over the hand layer: relations, judgements, names, constants, statements. -/
namespace DL
open PySem PySem.Spec PyProof.Rows L2
abbrev D := PyData
abbrev St := L2.St
/-- a list that nobody writes: frozen, or one of the module's own -/
def LsF (K : PySem.W.Frag) (H : Hp) (a : Addr) (vs : List V) : Prop :=
  (∃ o, H a = some (.frz o (.lst vs))) ∨ ∃ (its : Array Value) (n : Nat), K.lookup a = some { cls := .type "list", data := .seq its n } ∧ its.size ≤ sizeLine ∧ Vals vs its.toList
theorem LsF.sq {K : PySem.W.Frag} {H : Hp} {a : Addr} {vs : List V} (h : LsF K H a vs) : SqL K H a vs := by
  rcases h with h | ⟨its, n, e, z, r⟩
  · exact .inl (.inr h)
  · exact .inr ⟨_, its, n, e, rfl, rfl, rfl, z, r⟩
theorem LsF.of {K : PySem.W.Frag} {H : Hp} {a : Addr} {vs : List V} {o : Obj} (h : H a = some (.frz o (.lst vs))) : LsF K H a vs := .inl ⟨o, h⟩
/-- the object at a has no dict of its own -/
def DNo (K : PySem.W.Frag) (H : Hp) (a : Addr) : Prop := (∃ (o : Obj) (u : HO), H a = some (.frz o u) ∧ o.dict = none) ∨ ∃ o, K.lookup a = some o ∧ o.dict = none
def SqD (K : PySem.W.Frag) (H : Hp) (a : Addr) (vs : List V) : Prop := SqT K H a vs ∧ DNo K H a
/-! ### dicts whose keys are tuples (of ints, nested): the object by its entries -/
mutual
/-- the key of a dict that a tuple of ints (nested) is -/
def nkOf : D → Option NestedKey
  | .int i => some (.num i)
  | .tuple xs => (nksOf xs).map .tup
  | _ => none
def nksOf : List D → Option (List NestedKey)
  | [] => some []
  | x :: xs => match nkOf x, nksOf xs with
    | some k, some ks => some (k :: ks)
    | _, _ => none
end
/-- at a stands a dict with these entries -/
def dO (a : Addr) (es : List DictEntry) : HO := .ext fun h => ∃ (o : Obj) (ep : Nat), h.get? a = some o ∧ o.ExactDict ∧ o.data = .dict es.toArray ep
/-- a key (an int, a text) as data -/
def keyDt : Key → D
  | .inl i => .int i
  | .inr x => .str x
/-- an object's name as data -/
def hdl (a : Addr) : D := .dict [(.none, .int a)]
mutual
/-- the value v stands for the data d; lists within data are frozen -/
inductive Rp (K : PySem.W.Frag) (H : Hp) : D → V → Prop
  | non : Rp K H .none .non
  | bl (b : Bool) : Rp K H (.bool b) (.bl b)
  | int (i : Int) : Rp K H (.int i) (.int i)
  | str (x : Str) : Rp K H (.str x) (.str x)
  | tup {a : Addr} {vs : List V} {ds : List D} : SqD K H a vs → RpL K H ds vs → Rp K H (.tuple ds) (.ref a)
  | lst {a : Addr} {vs : List V} {ds : List D} : LsF K H a vs → RpL K H ds vs → Rp K H (.list ds) (.ref a)
  | dct {a : Addr} {o : Obj} {es : List DictEntry} {kvs : List (D × D)} : H a = some (.frz o (dO a es)) → RpD K H kvs es → (kvs.map fun p => nkOf p.1).Nodup → (a == sysModules) = false → Rp K H (.dict kvs) (.ref a)
  | hdl (a : Addr) : Rp K H (hdl a) (.ref a)
  | dck {a : Addr} {o : Obj} {us : List (Key × V)} {kvs : List (D × D)} : H a = some (.frz o (.dK us)) → kvs.map (·.1) = us.map (fun u => keyDt u.1) → RpL K H (kvs.map (·.2)) (us.map (·.2)) → kvs ≠ [] → Rp K H (.dict kvs) (.ref a)
inductive RpL (K : PySem.W.Frag) (H : Hp) : List D → List V → Prop
  | nil : RpL K H [] []
  | cons {d : D} {v : V} {ds : List D} {vs : List V} : Rp K H d v → RpL K H ds vs → RpL K H (d :: ds) (v :: vs)
/-- the entries of a dict -/
inductive RpD (K : PySem.W.Frag) (H : Hp) : List (D × D) → List DictEntry → Prop
  | nil : RpD K H [] []
  | cons {k d : D} {nk : NestedKey} {b : Addr} {v : V} {e : DictEntry} {kvs : List (D × D)} {es : List DictEntry} : (∃ xs, k = .tuple xs) → nkOf k = some nk → nk.depth ≤ 8 → (∀ w, e.hash = nk.hash w) → e.key = .ref b → Rp K H k (.ref b) → Rp K H d v → RelV v e.val → RpD K H kvs es → RpD K H ((k, d) :: kvs) (e :: es)
end
/-- what never changes stays -/
structure Ext (H H' : Hp) : Prop where
  tup : ∀ a xs, H a = some (.tup xs) → H' a = some (.tup xs)
  frz : ∀ a o u, H a = some (.frz o u) → H' a = some (.frz o u)
/-- all stays -/
def PExt (H H' : Hp) : Prop := ∀ a o, H a = some o → H' a = some o
theorem PExt.ext {H H' : Hp} (p : PExt H H') : Ext H H' := ⟨fun a xs h => p a _ h, fun a o u h => p a _ h⟩
theorem PExt.refl (H : Hp) : PExt H H := fun _ _ h => h
theorem PExt.trans {H H1 H2 : Hp} (a : PExt H H1) (b : PExt H1 H2) : PExt H H2 := fun p o h => b p o (a p o h)
theorem Ext.refl (H : Hp) : Ext H H := ⟨fun _ _ h => h, fun _ _ _ h => h⟩
theorem Ext.trans {H H1 H2 : Hp} (a : Ext H H1) (b : Ext H1 H2) : Ext H H2 := ⟨fun p xs h => b.tup p xs (a.tup p xs h), fun p o u h => b.frz p o u (a.frz p o u h)⟩
theorem PExt.new {H : Hp} {p : Addr} {o : HO} (h : H p = none) : PExt H (upd H p o) := fun a u e => by
  rw [upd_ne (ne_of_none e h)]; exact e
/-- something soft is changed -/
theorem Ext.putS {H : Hp} {p : Addr} {u o : HO} (h : H p = some u) (h1 : ∀ xs, u ≠ .tup xs) (h2 : ∀ q v, u ≠ .frz q v) : Ext H (upd H p o) :=
  ⟨fun a ys e => by rw [upd_ne (ne_of e h (Ne.symm (h1 ys)))]; exact e, fun a q v e => by rw [upd_ne (ne_of e h (Ne.symm (h2 q v)))]; exact e⟩
/-- a list is changed -/
theorem Ext.put {H : Hp} {p : Addr} {xs : List V} {o : HO} (h : H p = some (.lst xs)) : Ext H (upd H p o) :=
  ⟨fun a ys e => by rw [upd_ne (ne_of e h (by intro z; cases z))]; exact e, fun a q u e => by rw [upd_ne (ne_of e h (by intro z; cases z))]; exact e⟩
section
variable {K : PySem.W.Frag} {H H' : Hp}
theorem SqT.ext {a : Addr} {xs : List V} (x : Ext H H') (h : SqT K H a xs) : SqT K H' a xs := by
  rcases h with (h | ⟨o, h⟩) | h
  · exact .inl (.inl (x.tup _ _ h))
  · exact .inl (.inr ⟨o, x.frz _ _ _ h⟩)
  · exact .inr h
theorem SqD.ext {a : Addr} {xs : List V} (x : Ext H H') (h : SqD K H a xs) : SqD K H' a xs := by
  refine ⟨SqT.ext x h.1, ?_⟩
  rcases h.2 with ⟨o, u, e, d⟩ | h
  · exact .inl ⟨o, u, x.frz _ _ _ e, d⟩
  · exact .inr h
theorem SqD.new {p : Addr} {o : Obj} {vs : List V} (d : o.dict = none) : SqD K (upd H p (.frz o (.tup vs))) p vs := ⟨.inl (.inr ⟨o, upd_same⟩), .inl ⟨o, _, upd_same, d⟩⟩
theorem LsF.ext {a : Addr} {xs : List V} (x : Ext H H') (h : LsF K H a xs) : LsF K H' a xs := by
  rcases h with ⟨o, h⟩ | h
  · exact .inl ⟨o, x.frz _ _ _ h⟩
  · exact .inr h
mutual
theorem Rp.ext (x : Ext H H') : ∀ {d : D} {v : V}, Rp K H d v → Rp K H' d v
  | _, _, .non => .non
  | _, _, .bl b => .bl b
  | _, _, .int i => .int i
  | _, _, .str s => .str s
  | _, _, .tup h l => .tup (SqD.ext x h) (RpL.ext x l)
  | _, _, .lst h l => .lst (LsF.ext x h) (RpL.ext x l)
  | _, _, .dct h l n m => .dct (x.frz _ _ _ h) (RpD.ext x l) n m
  | _, _, .hdl a => .hdl a
  | _, _, .dck h e l n => .dck (x.frz _ _ _ h) e (RpL.ext x l) n
theorem RpL.ext (x : Ext H H') : ∀ {ds : List D} {vs : List V}, RpL K H ds vs → RpL K H' ds vs
  | _, _, .nil => .nil
  | _, _, .cons h l => .cons (Rp.ext x h) (RpL.ext x l)
theorem RpD.ext (x : Ext H H') : ∀ {kvs : List (D × D)} {es : List DictEntry}, RpD K H kvs es → RpD K H' kvs es
  | _, _, .nil => .nil
  | _, _, .cons t n1 n2 n3 e h g r l => .cons t n1 n2 n3 e (Rp.ext x h) (Rp.ext x g) r (RpD.ext x l)
end
theorem RpD.length : ∀ {kvs : List (D × D)} {es : List DictEntry}, RpD K H kvs es → kvs.length = es.length
  | _, _, .nil => rfl
  | _, _, .cons _ _ _ _ _ _ _ _ l => by rw [List.length_cons, List.length_cons, RpD.length l]
theorem RpL.length : ∀ {ds : List D} {vs : List V}, RpL K H ds vs → ds.length = vs.length
  | _, _, .nil => rfl
  | _, _, .cons _ l => by rw [List.length_cons, List.length_cons, RpL.length l]
theorem RpL.get : ∀ {ds : List D} {vs : List V} {i : Nat} {d : D}, RpL K H ds vs → ds[i]? = some d → ∃ v, vs[i]? = some v ∧ Rp K H d v
  | _, _, _, _, .nil, e => by simp at e
  | _, _, 0, _, .cons r _, e => by simp at e; subst e; exact ⟨_, rfl, r⟩
  | _, _, i + 1, d, .cons _ t, e => by
    obtain ⟨u, h1, h2⟩ := RpL.get (i := i) (d := d) t (by simpa using e)
    exact ⟨u, by simpa using h1, h2⟩
theorem RpL.getV : ∀ {ds : List D} {vs : List V} {i : Nat} {v : V}, RpL K H ds vs → vs[i]? = some v → ∃ d, ds[i]? = some d ∧ Rp K H d v
  | _, _, _, _, .nil, e => by simp at e
  | _, _, 0, _, .cons r _, e => by simp at e; subst e; exact ⟨_, rfl, r⟩
  | _, _, i + 1, d, .cons _ t, e => by
    obtain ⟨u, h1, h2⟩ := RpL.getV (i := i) (v := d) t (by simpa using e)
    exact ⟨u, by simpa using h1, h2⟩
theorem RpL.append : ∀ {ds es : List D} {vs us : List V}, RpL K H ds vs → RpL K H es us → RpL K H (ds ++ es) (vs ++ us)
  | _, _, _, _, .nil, s => s
  | _, _, _, _, .cons r t, s => .cons r (RpL.append t s)
theorem RpL.take : ∀ {ds : List D} {vs : List V} (n : Nat), RpL K H ds vs → RpL K H (ds.take n) (vs.take n)
  | _, _, 0, _ => .nil
  | _, _, _ + 1, .nil => .nil
  | _, _, n + 1, .cons r t => .cons r (RpL.take n t)
theorem RpL.drop : ∀ {ds : List D} {vs : List V} (n : Nat), RpL K H ds vs → RpL K H (ds.drop n) (vs.drop n)
  | _, _, 0, r => r
  | _, _, _ + 1, .nil => .nil
  | _, _, n + 1, .cons _ t => RpL.drop n t
theorem RpL.set {d : D} {v : V} (r : Rp K H d v) : ∀ {ds : List D} {vs : List V} (i : Nat), RpL K H ds vs → RpL K H (ds.set i d) (vs.set i v)
  | _, _, _, .nil => .nil
  | _, _, 0, .cons _ t => .cons r t
  | _, _, i + 1, .cons q t => .cons q (RpL.set r i t)
theorem RpL.eraseIdx : ∀ {ds : List D} {vs : List V} (i : Nat), RpL K H ds vs → RpL K H (ds.eraseIdx i) (vs.eraseIdx i)
  | _, _, _, .nil => .nil
  | _, _, 0, .cons _ t => t
  | _, _, i + 1, .cons q t => .cons q (RpL.eraseIdx i t)
theorem RpL.reverse : ∀ {ds : List D} {vs : List V}, RpL K H ds vs → RpL K H ds.reverse vs.reverse
  | _, _, .nil => .nil
  | _, _, .cons q t => by rw [List.reverse_cons, List.reverse_cons]; exact RpL.append (RpL.reverse t) (.cons q .nil)
theorem RpL.ints : ∀ {ns : List Int} {vs : List V}, RpL K H (ns.map PyData.int) vs → vs = ns.map V.int
  | [], _, .nil => rfl
  | _ :: _, _, .cons (.int _) t => by rw [RpL.ints t]; rfl
theorem RpL.ofInts : ∀ (ns : List Int), RpL K H (ns.map PyData.int) (ns.map V.int)
  | [] => .nil
  | n :: ns => .cons (.int n) (RpL.ofInts ns)
mutual
theorem Rp.dp : ∀ {d : D} {v : V}, Rp K H d v → d.canLay0 = true → Dp K H v d
  | _, _, .non, _ => .non
  | _, _, .bl b, _ => .bl b
  | _, _, .int i, _ => .int i
  | _, _, .str s, _ => .str s
  | _, _, .tup h l, z => .tup h.1 (RpL.dp l (by simpa [PyData.canLay0] using z))
  | _, _, .lst h l, z => .lst h.sq (RpL.dp l (by simpa [PyData.canLay0] using z))
  | _, _, .dct _ _ _ _, z => by simp [PyData.canLay0] at z
  | _, _, .hdl a, z => by simp [DL.hdl, PyData.canLay0] at z
  | _, _, .dck _ _ _ _, z => by simp [PyData.canLay0] at z
theorem RpL.dp : ∀ {ds : List D} {vs : List V}, RpL K H ds vs → PyData.canLayAll0 ds = true → DpAll K H vs ds
  | _, _, .nil, _ => .nil
  | _, _, .cons h l, z => by
    simp only [PyData.canLayAll0, Bool.and_eq_true] at z
    exact .cons (Rp.dp h z.1) (RpL.dp l z.2)
end
end
/-- readable now: as Rp, the outermost list may be one that can change -/
def RpR (K : PySem.W.Frag) (H : Hp) (d : D) (v : V) : Prop :=
  Rp K H d v ∨ ∃ (ds : List D) (a : Addr) (vs : List V), d = .list ds ∧ v = .ref a ∧ H a = some (.lst vs) ∧ RpL K H ds vs
theorem RpR.dp {K : PySem.W.Frag} {H : Hp} {d : D} {v : V} (h : RpR K H d v) (z : d.canLay0 = true) : Dp K H v d := by
  rcases h with h | ⟨ds, a, vs, rfl, rfl, h, l⟩
  · exact h.dp z
  · exact .lst (.inl (.inl h)) (l.dp (by simpa [PyData.canLay0] using z))
/-- what an iterator hands out: a pair of its own may be there, of which less is known -/
def RpB (W : Bool) (K : PySem.W.Frag) (H : Hp) (d : D) (v : V) : Prop :=
  if W = true then Rp K H d v ∨ ∃ (ds : List D) (a : Addr) (vs : List V), d = .tuple ds ∧ v = .ref a ∧ SqT K H a vs ∧ RpL K H ds vs else Rp K H d v
theorem RpB.of {W : Bool} {K : PySem.W.Frag} {H : Hp} {d : D} {v : V} (h : Rp K H d v) : RpB W K H d v := by unfold RpB; split; exact .inl h; exact h
theorem RpB.pair {K : PySem.W.Frag} {H : Hp} {ds : List D} {a : Addr} {vs : List V} (h : SqT K H a vs) (l : RpL K H ds vs) : RpB true K H (.tuple ds) (.ref a) := .inr ⟨_, _, _, rfl, rfl, h, l⟩
/-- a list or a tuple that is read: its items -/
theorem RpR.list {K : PySem.W.Frag} {H : Hp} {ds : List D} {v : V} (h : RpR K H (.list ds) v) : ∃ a vs, v = .ref a ∧ SqL K H a vs ∧ RpL K H ds vs := by
  rcases h with h | ⟨ds, a, vs, e, rfl, h, l⟩
  · cases h with
    | lst h l => exact ⟨_, _, rfl, h.sq, l⟩
  · cases e
    exact ⟨_, _, rfl, .inl (.inl h), l⟩
theorem RpR.tupD {K : PySem.W.Frag} {H : Hp} {ds : List D} {v : V} (h : RpR K H (.tuple ds) v) : ∃ a vs, v = .ref a ∧ SqD K H a vs ∧ RpL K H ds vs := by
  rcases h with h | ⟨ds, a, vs, e, _⟩
  · cases h with
    | tup h l => exact ⟨_, _, rfl, h, l⟩
  · cases e
theorem RpR.tuple {K : PySem.W.Frag} {H : Hp} {ds : List D} {v : V} (h : RpR K H (.tuple ds) v) : ∃ a vs, v = .ref a ∧ SqT K H a vs ∧ RpL K H ds vs := by
  rcases h with h | ⟨ds, a, vs, e, rfl, h, l⟩
  · cases h with
    | tup h l => exact ⟨_, _, rfl, h.1, l⟩
  · cases e
theorem RpR.int {K : PySem.W.Frag} {H : Hp} {i : Int} {v : V} (h : RpR K H (.int i) v) : v = .int i := by
  rcases h with h | ⟨_, _, _, e, _⟩
  · cases h; rfl
  · cases e
theorem RpR.str {K : PySem.W.Frag} {H : Hp} {i : Str} {v : V} (h : RpR K H (.str i) v) : v = .str i := by
  rcases h with h | ⟨_, _, _, e, _⟩
  · cases h; rfl
  · cases e
theorem RpR.bool {K : PySem.W.Frag} {H : Hp} {i : Bool} {v : V} (h : RpR K H (.bool i) v) : v = .bl i := by
  rcases h with h | ⟨_, _, _, e, _⟩
  · cases h; rfl
  · cases e
theorem RpR.none {K : PySem.W.Frag} {H : Hp} {v : V} (h : RpR K H .none v) : v = .non := by
  rcases h with h | ⟨_, _, _, e, _⟩
  · cases h; rfl
  · cases e
theorem RpR.pext {K : PySem.W.Frag} {H H' : Hp} {d : D} {v : V} (p : PExt H H') (h : RpR K H d v) : RpR K H' d v := by
  rcases h with h | ⟨ds, a, vs, rfl, rfl, h, l⟩
  · exact .inl (h.ext p.ext)
  · exact .inr ⟨ds, a, vs, rfl, rfl, p _ _ h, l.ext p.ext⟩
/-! ### the environment -/
inductive FS where
  | d (x : D)
  | l (xs : List D)
inductive S where
  /-- not known -/
  | un
  /-- data -/
  | d (x : D)
  /-- a list of one's own that may change -/
  | ol (xs : List D)
  /-- a dict of one's own, keys tuples of ints -/
  | dt (kvs : List (D × D))
  /-- a dict of one's own, keys ints and texts -/
  | dk (kvs : List (Key × D))
  /-- no name's: the object at a, of the class at C -/
  | ob (a C : Addr) (fs : List (Str × FS))
  /-- no name's: the list at a, that may change -/
  | gl (a : Addr) (xs : List D)
  /-- no name's: the object at a stands for data -/
  | al (a : Addr) (x : D)
abbrev Env := List S
def S.isMut : S → Bool
  | .ol _ => true
  | .dt _ => true
  | .dk _ => true
  | _ => false
structure Gh where
  H0 : Hp
  own : List (Nat × Addr)
  X0 : Hp := fun _ => none
  more : List Addr := []
def Gh.slots (G : Gh) : List Nat := G.own.map (·.1)
def Gh.addrs (G : Gh) : List Addr := G.own.map (·.2) ++ G.more
/-- a mutable thing at an address -/
def RelM (K : PySem.W.Frag) (H : Hp) : S → Addr → Prop
  | .ol xs, a => ∃ vs, H a = some (.lst vs) ∧ RpL K H xs vs
  | .dt kvs, a => ∃ es, H a = some (dO a es) ∧ RpD K H kvs es ∧ (kvs.map fun p => nkOf p.1).Nodup ∧ (a == sysModules) = false
  | .dk kvs, a => ∃ us, H a = some (.dK us) ∧ us.map (·.1) = kvs.map (·.1) ∧ RpL K H (kvs.map (·.2)) (us.map (·.2))
  | _, _ => False
/-- the fields of an object: data, lists of its own -/
inductive FsR (K : PySem.W.Frag) (H : Hp) : List (Str × FS) → List (Str × V) → List Addr → Prop
  | nil : FsR K H [] [] []
  | d {f : Str} {x : D} {v : V} {fs : List (Str × FS)} {vs : List (Str × V)} {ls : List Addr} : Rp K H x v → FsR K H fs vs ls → FsR K H ((f, .d x) :: fs) ((f, v) :: vs) ls
  | l {f : Str} {xs : List D} {a : Addr} {us : List V} {fs : List (Str × FS)} {vs : List (Str × V)} {ls : List Addr} : H a = some (.lst us) → RpL K H xs us → FsR K H fs vs ls → FsR K H ((f, .l xs) :: fs) ((f, .ref a) :: vs) (a :: ls)
def RelOb (K : PySem.W.Frag) (H : Hp) (a C : Addr) (fs : List (Str × FS)) (fp : List Addr) : Prop :=
  ∃ dx vs ls, fp = a :: dx :: ls ∧ fp.Nodup ∧ H a = some (.ins C dx vs) ∧ H dx = some (.own a) ∧ FsR K H fs vs ls
def RelS (K : PySem.W.Frag) (H : Hp) (s : S) (o : Option (Option V)) (fp : List Addr) : Prop :=
  match s with
  | .un => fp = []
  | .d x => fp = [] ∧ ∃ v, o = some (some v) ∧ Rp K H x v
  | .ob a C fs => RelOb K H a C fs fp
  | .ol xs => ∃ a, fp = [a] ∧ o = some (some (.ref a)) ∧ RelM K H (.ol xs) a
  | .dt xs => ∃ a, fp = [a] ∧ o = some (some (.ref a)) ∧ RelM K H (.dt xs) a
  | .dk xs => ∃ a, fp = [a] ∧ o = some (some (.ref a)) ∧ RelM K H (.dk xs) a
  | .gl a xs => fp = [a] ∧ RelM K H (.ol xs) a
  | .al a x => fp = [] ∧ Rp K H x (.ref a)
theorem RelS.mut {K : PySem.W.Frag} {H : Hp} {s : S} {o : Option (Option V)} {fp : List Addr} (h : RelS K H s o fp) (m : s.isMut = true) : ∃ a, fp = [a] ∧ o = some (some (.ref a)) ∧ RelM K H s a := by
  cases s with
  | ol _ => exact h
  | dt _ => exact h
  | dk _ => exact h
  | _ => cases m
theorem RelS.ofMut {K : PySem.W.Frag} {H : Hp} {s : S} {o : Option (Option V)} {a : Addr} (m : s.isMut = true) (e : o = some (some (.ref a))) (h : RelM K H s a) : RelS K H s o [a] := by
  cases s with
  | ol _ => exact ⟨a, rfl, e, h⟩
  | dt _ => exact ⟨a, rfl, e, h⟩
  | dk _ => exact ⟨a, rfl, e, h⟩
  | _ => cases m
/-- what can change: no tuple, nothing frozen -/
def Soft (H : Hp) (a : Addr) : Prop := ∃ u, H a = some u ∧ (∀ xs, u ≠ .tup xs) ∧ ∀ o v, u ≠ .frz o v
theorem RelM.soft {K : PySem.W.Frag} {H : Hp} {s : S} {a : Addr} (h : RelM K H s a) : Soft H a := by
  cases s with
  | ol xs => obtain ⟨vs, e, _⟩ := h; exact ⟨_, e, (fun _ z => by cases z), fun _ _ z => by cases z⟩
  | dt xs => obtain ⟨vs, e, _⟩ := h; exact ⟨_, e, (fun _ z => by cases z), fun _ _ z => by cases z⟩
  | dk xs => obtain ⟨vs, e, _⟩ := h; exact ⟨_, e, (fun _ z => by cases z), fun _ _ z => by cases z⟩
  | _ => exact h.elim
theorem RelM.isMut {K : PySem.W.Frag} {H : Hp} {s : S} {a : Addr} (h : RelM K H s a) : s.isMut = true := by
  cases s with
  | ol xs => rfl
  | dt xs => rfl
  | dk xs => rfl
  | _ => exact h.elim
theorem RelM.move {K : PySem.W.Frag} {H H' : Hp} {s : S} {a : Addr} (h : RelM K H s a) (x : Ext H H') (k : H' a = H a) : RelM K H' s a := by
  cases s with
  | ol xs => obtain ⟨vs, e, l⟩ := h; exact ⟨vs, by rw [k]; exact e, l.ext x⟩
  | dt xs => obtain ⟨es, e, l, n, m⟩ := h; exact ⟨es, by rw [k]; exact e, l.ext x, n, m⟩
  | dk xs => obtain ⟨us, e, n, l⟩ := h; exact ⟨us, by rw [k]; exact e, n, l.ext x⟩
  | _ => exact h.elim
theorem FsR.move {K : PySem.W.Frag} {H H' : Hp} (x : Ext H H') : ∀ {fs : List (Str × FS)} {vs : List (Str × V)} {ls : List Addr}, FsR K H fs vs ls → (∀ p ∈ ls, H' p = H p) → FsR K H' fs vs ls
  | _, _, _, .nil, _ => .nil
  | _, _, _, FsR.d h r, k => FsR.d (h.ext x) (FsR.move x r k)
  | _, _, _, FsR.l h q r, k => FsR.l (by rw [k _ (List.mem_cons_self ..)]; exact h) (q.ext x) (FsR.move x r fun p hp => k p (List.mem_cons_of_mem _ hp))
theorem FsR.soft {K : PySem.W.Frag} {H : Hp} : ∀ {fs : List (Str × FS)} {vs : List (Str × V)} {ls : List Addr}, FsR K H fs vs ls → ∀ p ∈ ls, Soft H p
  | _, _, _, .nil, p, hp => by cases hp
  | _, _, _, FsR.d h r, p, hp => FsR.soft r p hp
  | _, _, _, FsR.l h q r, p, hp => by
    rcases List.mem_cons.mp hp with z | z
    · subst z; exact ⟨_, h, (fun _ z => by cases z), fun _ _ z => by cases z⟩
    · exact FsR.soft r p z
/-- what a slot holds stays, if its footprint does -/
theorem RelS.move {K : PySem.W.Frag} {H H' : Hp} {s : S} {o : Option (Option V)} {fp : List Addr} (h : RelS K H s o fp) (x : Ext H H') (k : ∀ p ∈ fp, H' p = H p) : RelS K H' s o fp := by
  cases s with
  | un => exact h
  | d y => obtain ⟨h1, v, h2, h3⟩ := h; exact ⟨h1, v, h2, h3.ext x⟩
  | ob a C fs =>
    obtain ⟨dx, vs, ls, e, nd, h1, h2, h3⟩ := h
    subst e
    exact ⟨dx, vs, ls, rfl, nd, by rw [k a (by simp)]; exact h1, by rw [k dx (by simp)]; exact h2, h3.move x fun p hp => k p (by simp [hp])⟩
  | ol xs => obtain ⟨a, e, e2, h⟩ := h; subst e; exact ⟨a, rfl, e2, h.move x (k a (by simp))⟩
  | dt xs => obtain ⟨a, e, e2, h⟩ := h; subst e; exact ⟨a, rfl, e2, h.move x (k a (by simp))⟩
  | dk xs => obtain ⟨a, e, e2, h⟩ := h; subst e; exact ⟨a, rfl, e2, h.move x (k a (by simp))⟩
  | gl a xs => obtain ⟨e, h⟩ := h; subst e; exact ⟨rfl, h.move x (k a (by simp))⟩
  | al a y => exact ⟨h.1, h.2.ext x⟩
/-- ex: addresses apart from all footprints -/
structure RelX (K : PySem.W.Frag) (G : Gh) (ex : List Addr) (H : Hp) (E : Env) (σ : St) : Prop where
  len : E.length = σ.length
  keep : ∀ p o, G.H0 p = some o → p ∉ G.addrs → H p = some o
  pin : ∀ i a, (i, a) ∈ G.own → σ[i]? = some (some (V.ref a))
  dom : ∀ a ∈ G.addrs, H a ≠ none
  ext : Ext G.X0 H
  fp : ∃ A : Nat → List Addr, (∀ i j a, a ∈ A i → a ∈ A j → i = j) ∧ (∀ i a, a ∈ A i → (a ∈ G.addrs ∨ G.H0 a = none) ∧ a ∉ ex) ∧ ∀ i s, E[i]? = some s → RelS K H s σ[i]? (A i)
abbrev RelE (K : PySem.W.Frag) (G : Gh) (H : Hp) (E : Env) (σ : St) : Prop := RelX K G [] H E σ
section
variable {K : PySem.W.Frag} {G : Gh} {H H' : Hp} {E : Env} {σ : St} {ex : List Addr}
/-- a footprint lies in the heap -/
theorem RelS.indom {s : S} {o : Option (Option V)} {fp : List Addr} (h : RelS K H s o fp) : ∀ a ∈ fp, Soft H a := by
  cases s with
  | un => intro a ha; rw [show fp = [] from h] at ha; cases ha
  | d x => intro a ha; rw [h.1] at ha; cases ha
  | ob a C fs =>
    obtain ⟨dx, vs, ls, e, nd, h1, h2, h3⟩ := h
    subst e
    intro p hp
    rcases List.mem_cons.mp hp with z | z
    · subst z; exact ⟨_, h1, (fun _ z => by cases z), fun _ _ z => by cases z⟩
    · rcases List.mem_cons.mp z with z | z
      · subst z; exact ⟨_, h2, (fun _ z => by cases z), fun _ _ z => by cases z⟩
      · exact h3.soft p z
  | ol xs => obtain ⟨a, e, e2, h⟩ := h; subst e; intro p hp; rw [List.mem_singleton.mp hp]; exact h.soft
  | dt xs => obtain ⟨a, e, e2, h⟩ := h; subst e; intro p hp; rw [List.mem_singleton.mp hp]; exact h.soft
  | dk xs => obtain ⟨a, e, e2, h⟩ := h; subst e; intro p hp; rw [List.mem_singleton.mp hp]; exact h.soft
  | gl a xs => obtain ⟨e, h⟩ := h; subst e; intro p hp; rw [List.mem_singleton.mp hp]; exact h.soft
  | al a y => intro p hp; rw [h.1] at hp; cases hp
theorem RelS.pext {s : S} {o : Option (Option V)} {fp : List Addr} (p : PExt H H') (h : RelS K H s o fp) : RelS K H' s o fp :=
  h.move p.ext fun a ha => by
    obtain ⟨u, e, _⟩ := h.indom a ha
    rw [e, p _ _ e]
theorem RelX.pext (p : PExt H H') (h : RelX K G ex H E σ) : RelX K G ex H' E σ := by
  obtain ⟨l, k, pn, dm, x0, A, h1, h2, h3⟩ := h
  refine ⟨l, fun q o e ne => p _ _ (k q o e ne), pn, fun a ha z => ?_, x0.trans p.ext, A, h1, h2, fun i s e => (h3 i s e).pext p⟩
  cases q : H a with
  | none => exact dm a ha q
  | some o => have := p _ _ q; rw [z] at this; cases this
theorem RelX.weak (h : RelX K G ex H E σ) : RelE K G H E σ := by
  obtain ⟨l, k, pn, dm, x0, A, h1, h2, h3⟩ := h
  exact ⟨l, k, pn, dm, x0, A, h1, fun i a e => ⟨(h2 i a e).1, by simp⟩, h3⟩
end
end DL
set_option Elab.async false
set_option linter.all false
set_option maxRecDepth 100000
namespace DL
open PySem PySem.Spec PyProof.Rows L2
/-! ### judgements -/
abbrev TD := Env → (D → Env → Prop) → Prop
abbrev TLd := Env → (List D → Env → Prop) → Prop
abbrev TTd := Env → (Bool → Env → Prop) → Prop
structure EndsD where
  nx : Env → Prop
  rt : D → Env → Prop
  bk : Env → Prop := fun _ => False
  ct : Env → Prop := fun _ => False
abbrev TSd := EndsD → Env → Prop
/-- an argument: data, or a name of a mutable thing -/
inductive Arg where
  | v (x : D)
  | o (i : Nat)
abbrev TAd := Env → (List Arg → Env → Prop) → Prop
def liftE (K : PySem.W.Frag) (G : Gh) (t : TD) : TE := fun σ H Q => ∃ (E : Env) (QE : D → Env → Prop), RelE K G H E σ ∧ t E QE ∧ ∀ d E' v H', QE d E' → Ext H H' → RelE K G H' E' σ → Rp K H' d v → Q v H'
/-- a new list: nobody else has it -/
def liftL (K : PySem.W.Frag) (G : Gh) (t : TLd) : TE := fun σ H Q => ∃ (E : Env) (QE : List D → Env → Prop), RelE K G H E σ ∧ t E QE ∧
  ∀ xs E' a vs H', QE xs E' → Ext H H' → RelX K G [a] H' E' σ → G.H0 a = none → a ∉ G.addrs → H' a = some (.lst vs) → RpL K H' xs vs → Q (.ref a) H'
/-- readable now -/
def liftR (K : PySem.W.Frag) (G : Gh) (t : TD) : TE := fun σ H Q => ∃ (E : Env) (QE : D → Env → Prop), RelE K G H E σ ∧ t E QE ∧ ∀ d E' v H', QE d E' → Ext H H' → RelE K G H' E' σ → RpR K H' d v → Q v H'
def liftT (K : PySem.W.Frag) (G : Gh) (t : TTd) : TT := fun σ H Q => ∃ (E : Env) (QE : Bool → Env → Prop), RelE K G H E σ ∧ t E QE ∧ ∀ b E' H', QE b E' → Ext H H' → RelE K G H' E' σ → Q b H'
/-- the values of arguments at a heap -/
inductive RelA (K : PySem.W.Frag) (H : Hp) (σ : St) : List Arg → List V → Prop
  | nil : RelA K H σ [] []
  | v {x : D} {v : V} {as : List Arg} {vs : List V} : Rp K H x v → RelA K H σ as vs → RelA K H σ (.v x :: as) (v :: vs)
  | o {i : Nat} {v : V} {as : List Arg} {vs : List V} : σ[i]? = some (some v) → RelA K H σ as vs → RelA K H σ (.o i :: as) (v :: vs)
def liftA (K : PySem.W.Frag) (G : Gh) (t : TAd) : TA := fun σ H Q => ∃ (E : Env) (QE : List Arg → Env → Prop), RelE K G H E σ ∧ t E QE ∧ ∀ as E' vs H', QE as E' → Ext H H' → RelE K G H' E' σ → RelA K H' σ as vs → Q vs H'
def liftS (K : PySem.W.Frag) (G : Gh) (t : TSd) : TS := fun F σ H => ∃ (E : Env) (DE : EndsD), RelE K G H E σ ∧ t DE E ∧
  (∀ E' σ' H', DE.nx E' → Ext H H' → RelE K G H' E' σ' → F.nx σ' H') ∧
  (∀ d E' v σ' H', DE.rt d E' → Ext H H' → RelE K G H' E' σ' → Rp K H' d v → F.rt v H') ∧
  (∀ E' σ' H', DE.bk E' → Ext H H' → RelE K G H' E' σ' → F.bk σ' H') ∧
  (∀ E' σ' H', DE.ct E' → Ext H H' → RelE K G H' E' σ' → F.ct σ' H')
structure ED (X : Cx) (G : Gh) (e : Expr) (t : TD) : Prop where
  pe : PE X e (liftE X.K G t)
structure EL (X : Cx) (G : Gh) (e : Expr) (t : TLd) : Prop where
  pe : PE X e (liftL X.K G t)
structure ER (X : Cx) (G : Gh) (e : Expr) (t : TD) : Prop where
  pe : PE X e (liftR X.K G t)
structure EB (X : Cx) (G : Gh) (e : Expr) (t : TTd) : Prop where
  pt : PT X e (liftT X.K G t)
structure EW (X : Cx) (G : Gh) (e : Expr) (t : TTd) : Prop where
  pw : PW X e (liftT X.K G t)
structure EA (X : Cx) (G : Gh) (es : List Expr) (t : TAd) : Prop where
  pa : PA X es (liftA X.K G t)
structure SD (X : Cx) (G : Gh) (st : Stmt) (t : TSd) : Prop where
  ps : PS X st (liftS X.K G t)
structure SDs (X : Cx) (G : Gh) (st : List Stmt) (t : TSd) : Prop where
  pss : PSs X st (liftS X.K G t)
theorem PE.weak {X : Cx} {e : Expr} {t u : TE} (h : PE X e t) (w : ∀ σ H Q, u σ H Q → t σ H Q) : PE X e u := ⟨fun pins s σ H Q I q => h.run pins s σ H Q I (w σ H Q q)⟩
theorem PT.weak {X : Cx} {e : Expr} {t u : TT} (h : PT X e t) (w : ∀ σ H Q, u σ H Q → t σ H Q) : PT X e u := ⟨fun pins s σ H Q I q => h.run pins s σ H Q I (w σ H Q q)⟩
theorem PW.weak {X : Cx} {e : Expr} {t u : TT} (h : PW X e t) (w : ∀ σ H Q, u σ H Q → t σ H Q) : PW X e u := ⟨fun wh pins s σ H Q I q => h.run wh pins s σ H Q I (w σ H Q q)⟩
theorem PA.weak {X : Cx} {es : List Expr} {t u : TA} (h : PA X es t) (w : ∀ σ H Q, u σ H Q → t σ H Q) : PA X es u := ⟨fun pos pins s σ H Q I q => h.run pos pins s σ H Q I (w σ H Q q)⟩
theorem PS.weak {X : Cx} {st : Stmt} {t u : TS} (h : PS X st t) (w : ∀ F σ H, u F σ H → t F σ H) : PS X st u := ⟨fun pins s σ H F I q => h.run pins s σ H F I (w F σ H q)⟩
theorem PSs.weak {X : Cx} {st : List Stmt} {t u : TS} (h : PSs X st t) (w : ∀ F σ H, u F σ H → t F σ H) : PSs X st u := ⟨fun pins s σ H F I q => h.run pins s σ H F I (w F σ H q)⟩
section
variable {X : Cx} {G : Gh} {a b c e : Expr} {es : List Expr} {pos : Pos}
/-- data may be read -/
theorem ED.er {t : TD} (h : ED X G e t) : ER X G e t := ⟨PE.weak h.pe fun σ H Q ⟨E, QE, r, q, k⟩ => ⟨E, QE, r, q, fun d E' v H' z x r' p => k d E' v H' z x r' (.inl p)⟩⟩
/-! ### names, constants -/
def tV (i : Nat) : TD := fun E Q => match E[i]? with
  | some (.d x) => Q x E
  | _ => False
/-- a name that may hold a list that can change, read now -/
def tVr (i : Nat) : TD := fun E Q => match E[i]? with
  | some (.d x) => Q x E
  | some (.ol xs) => Q (.list xs) E
  | _ => False
def tK (d : D) : TD := fun E Q => Q d E
theorem RelX.data {K : PySem.W.Frag} {ex : List Addr} {H : Hp} {E : Env} {σ : St} {i : Nat} {x : D} (r : RelX K G ex H E σ) (e : E[i]? = some (.d x)) : ∃ v, σ[i]? = some (some v) ∧ Rp K H x v := by
  obtain ⟨l, k, pn, dm, x0, A, h1, h2, h3⟩ := r
  exact (h3 i _ e).2
theorem RelX.ol {K : PySem.W.Frag} {ex : List Addr} {H : Hp} {E : Env} {σ : St} {i : Nat} {xs : List D} (r : RelX K G ex H E σ) (e : E[i]? = some (.ol xs)) : ∃ a vs, σ[i]? = some (some (.ref a)) ∧ H a = some (.lst vs) ∧ RpL K H xs vs := by
  obtain ⟨l, k, pn, dm, x0, A, h1, h2, h3⟩ := r
  obtain ⟨a, e1, e2, vs, e3, e4⟩ := h3 i _ e
  exact ⟨a, vs, e2, e3, e4⟩
theorem RelX.mutAt {K : PySem.W.Frag} {ex : List Addr} {H : Hp} {E : Env} {σ : St} {i : Nat} {s : S} (r : RelX K G ex H E σ) (e : E[i]? = some s) (m : s.isMut = true) : ∃ a, σ[i]? = some (some (.ref a)) ∧ RelM K H s a := by
  obtain ⟨l, k, pn, dm, x0, A, h1, h2, h3⟩ := r
  obtain ⟨a, e1, e2, e3⟩ := (h3 i _ e).mut m
  exact ⟨a, e2, e3⟩
theorem ed_var (i : Nat) {x : Str} (hN : X.N[i]? = some x := by rfl) (hv : Vis X.env.scope x := by first | exact Or.inl rfl | exact Or.inr (Or.inl rfl) | exact Or.inr (Or.inr rfl)) (hd : (x == ("__debug__" : Str)) = false := by decide)
    (hcd : (x == ("__classdict__" : Str)) = false := by decide) : ED X G (.Name x pos) (tV i) := ⟨PE.weak (pe_var hN hv hd hcd) fun σ H Q ⟨E, QE, r, q, k⟩ => by
  unfold tV at q
  split at q
  · rename_i x he
    obtain ⟨v, e, p⟩ := r.data he
    exact ⟨v, e, k _ _ _ _ q (Ext.refl _) r p⟩
  · exact q.elim⟩
theorem er_var (i : Nat) {x : Str} (hN : X.N[i]? = some x := by rfl) (hv : Vis X.env.scope x := by first | exact Or.inl rfl | exact Or.inr (Or.inl rfl) | exact Or.inr (Or.inr rfl)) (hd : (x == ("__debug__" : Str)) = false := by decide)
    (hcd : (x == ("__classdict__" : Str)) = false := by decide) : ER X G (.Name x pos) (tVr i) := ⟨PE.weak (pe_var hN hv hd hcd) fun σ H Q ⟨E, QE, r, q, k⟩ => by
  unfold tVr at q
  split at q
  · rename_i x he
    obtain ⟨v, e, p⟩ := r.data he
    exact ⟨v, e, k _ _ _ _ q (Ext.refl _) r (.inl p)⟩
  · rename_i xs he
    obtain ⟨a, vs, e, h, p⟩ := r.ol he
    exact ⟨_, e, k _ _ _ _ q (Ext.refl _) r (.inr ⟨_, _, _, rfl, rfl, h, p⟩)⟩
  · exact q.elim⟩
theorem ed_int {i j} : ED X G (.Constant (.int i) j pos) (tK (.int i)) := ⟨PE.weak pe_int fun σ H Q ⟨E, QE, r, q, k⟩ => k _ _ _ _ q (Ext.refl _) r (.int i)⟩
theorem ed_bl {i j} : ED X G (.Constant (.bool i) j pos) (tK (.bool i)) := ⟨PE.weak pe_bl fun σ H Q ⟨E, QE, r, q, k⟩ => k _ _ _ _ q (Ext.refl _) r (.bl i)⟩
theorem ed_non {j} : ED X G (.Constant .none j pos) (tK .none) := ⟨PE.weak pe_non fun σ H Q ⟨E, QE, r, q, k⟩ => k _ _ _ _ q (Ext.refl _) r .non⟩
theorem ed_str {i j} : ED X G (.Constant (.str i) j pos) (tK (.str i)) := ⟨PE.weak pe_str fun σ H Q ⟨E, QE, r, q, k⟩ => k _ _ _ _ q (Ext.refl _) r (.str i)⟩
/-! ### operators -/
/-- what an operator gives of data -/
abbrev OpT := D → D → (D → Prop) → Prop
/-- by values: the heap only grows -/
def OpD (X : Cx) (f : Value → Value → Sem Value) (op : OpT) : Prop := ∃ r : R2, OpR X f r ∧
  ∀ x y v u H (QD : D → Prop) (Q : VK), RpR X.K H x v → RpR X.K H y u → op x y QD → (∀ z w H', QD z → PExt H H' → Rp X.K H' z w → Q w H') → r v u H Q
theorem OpD.or {f : Value → Value → Sem Value} {op op' : OpT} (h : OpD X f op) (h' : OpD X f op') : OpD X f (fun x y Q => op x y Q ∨ op' x y Q) := by
  obtain ⟨r, hr, hq⟩ := h
  obtain ⟨r', hr', hq'⟩ := h'
  refine ⟨_, hr.or hr', fun x y v u H QD Q hx hy q k => ?_⟩
  rcases q with q | q
  · exact .inl (hq x y v u H QD Q hx hy q k)
  · exact .inr (hq' x y v u H QD Q hx hy q k)
theorem OpD.weak {f : Value → Value → Sem Value} {op op' : OpT} (h : OpD X f op) (w : ∀ x y Q, op' x y Q → op x y Q) : OpD X f op' := by
  obtain ⟨r, hr, hq⟩ := h
  exact ⟨r, hr, fun x y v u H QD Q hx hy q k => hq x y v u H QD Q hx hy (w _ _ _ q) k⟩
def tOpD (op : OpT) (ta tb : TD) : TD := fun E Q => ta E fun x E1 => tb E1 fun y E2 => op x y fun z => Q z E2
/-- two parts: the left is data -/
theorem lift_bin {K : PySem.W.Frag} {op : OpT} {ta tb : TD} {r : R2} (hr : ∀ x y v u H (QD : D → Prop) (Q : VK), RpR K H x v → RpR K H y u → op x y QD → (∀ z w H', QD z → PExt H H' → Rp K H' z w → Q w H') → r v u H Q)
    (σ : St) (H : Hp) (Q : VK) (h : liftE K G (tOpD op ta tb) σ H Q) : tOp r (liftE K G ta) (liftR K G tb) σ H Q := by
  obtain ⟨E, QE, rel, q, k⟩ := h
  refine ⟨E, _, rel, q, fun x E1 v H1 q1 x1 rel1 p1 => ⟨E1, _, rel1, q1, fun y E2 u H2 q2 x2 rel2 p2 => ?_⟩⟩
  exact hr x y v u H2 _ Q (.inl (p1.ext x2)) p2 q2 fun z w H3 q3 p3 rz => k z E2 w H3 q3 ((x1.trans x2).trans p3.ext) (rel2.pext p3) rz
theorem ed_op {op : Operator} {o : OpT} {ta tb : TD} (ho : OpD X (binaryOp op) o) (ha : ED X G a ta) (hb : ER X G b tb) : ED X G (.BinOp a op b pos) (tOpD o ta tb) := by
  obtain ⟨r, hr, hq⟩ := ho
  exact ⟨PE.weak (pe_op hr ha.pe hb.pe) fun σ H Q h => lift_bin hq σ H Q h⟩
theorem ed_cmp {op : CmpOp} {o : OpT} {ta tb : TD} (ho : OpD X (compareOp op) o) (ha : ED X G a ta) (hb : ER X G b tb) (hm : behindInMarks op b = false) : ED X G (.Compare a [op] [b] pos) (tOpD o ta tb) := by
  obtain ⟨r, hr, hq⟩ := ho
  exact ⟨PE.weak (pe_cmpR hr ha.pe hb.pe hm) fun σ H Q h => lift_bin hq σ H Q h⟩
def UnT := D → (D → Prop) → Prop
def UnD (X : Cx) (f : Value → Sem Value) (op : UnT) : Prop := ∃ r : V → Hp → VK → Prop, UnR X f r ∧
  ∀ x v H (QD : D → Prop) (Q : VK), RpR X.K H x v → op x QD → (∀ z w H', QD z → PExt H H' → Rp X.K H' z w → Q w H') → r v H Q
def tUnD (op : UnT) (ta : TD) : TD := fun E Q => ta E fun x E1 => op x fun z => Q z E1
theorem ed_un {op : UnaryOp} {o : UnT} {ta : TD} (ho : UnD X (unaryOp op) o) (ha : ER X G a ta) : ED X G (.UnaryOp op a pos) (tUnD o ta) := by
  obtain ⟨r, hr, hq⟩ := ho
  refine ⟨PE.weak (pe_un hr ha.pe) fun σ H Q ⟨E, QE, rel, q, k⟩ => ⟨E, _, rel, q, fun x E1 v H1 q1 x1 rel1 p1 => ?_⟩⟩
  exact hq x v H1 _ Q p1 q1 fun z w H3 q3 p3 rz => k z E1 w H3 q3 (x1.trans p3.ext) (rel1.pext p3) rz
/-! ### tests -/
/-- an expression that gives a truth -/
def tBo (t : TD) : TTd := fun E Q => t E fun x E1 => match x with
  | .bool b => Q b E1
  | _ => False
theorem eb_cmp {op : CmpOp} {o : OpT} {ta tb : TD} (ho : OpD X (compareOp op) o) (ha : ED X G a ta) (hb : ER X G b tb) (hm : behindInMarks op b = false) : EB X G (.Compare a [op] [b] pos) (tBo (tOpD o ta tb)) := by
  obtain ⟨r, hr, hq⟩ := ho
  refine ⟨PT.weak (pt_cmpR hr ha.pe hb.pe hm) fun σ H Q ⟨E, QE, rel, q, k⟩ => ?_⟩
  have h : liftE X.K G (tOpD o ta tb) σ H fun x H' => ∃ k, x = .bl k ∧ Q k H' := ⟨E, _, rel, q, fun d E' v H' q1 x1 r1 p1 => by
    cases p1 with
    | bl b => exact ⟨b, rfl, k b E' H' q1 x1 r1⟩
    | _ => exact q1.elim⟩
  exact lift_bin hq σ H _ h
def tAndD (t u : TTd) : TTd := fun E Q => t E fun c E1 => if c = true then u E1 Q else Q false E1
def tOrD (t u : TTd) : TTd := fun E Q => t E fun c E1 => if c = true then Q true E1 else u E1 Q
def tNotD (t : TTd) : TTd := fun E Q => t E fun c E1 => Q (!c) E1
theorem ew_and1 {t : TTd} (h : EB X G a t) : EW X G (.BoolOp .And [a] pos) t := ⟨pw_and1 h.pt⟩
theorem ew_or1 {t : TTd} (h : EB X G a t) : EW X G (.BoolOp .Or [a] pos) t := ⟨pw_or1 h.pt⟩
theorem ew_and {t u : TTd} (h : EB X G a t) (hb : EW X G (.BoolOp .And (b :: es) pos) u) : EW X G (.BoolOp .And (a :: b :: es) pos) (tAndD t u) :=
  ⟨PW.weak (pw_and h.pt hb.pw) fun σ H Q ⟨E, QE, r, q, k⟩ => ⟨E, _, r, q, fun c E1 H1 q1 x1 r1 => by
    cases c with
    | true => exact ⟨E1, QE, r1, q1, fun b E2 H2 q2 x2 r2 => k b E2 H2 q2 (x1.trans x2) r2⟩
    | false => exact k false E1 H1 q1 x1 r1⟩⟩
theorem ew_or {t u : TTd} (h : EB X G a t) (hb : EW X G (.BoolOp .Or (b :: es) pos) u) : EW X G (.BoolOp .Or (a :: b :: es) pos) (tOrD t u) :=
  ⟨PW.weak (pw_or h.pt hb.pw) fun σ H Q ⟨E, QE, r, q, k⟩ => ⟨E, _, r, q, fun c E1 H1 q1 x1 r1 => by
    cases c with
    | false => exact ⟨E1, QE, r1, q1, fun b E2 H2 q2 x2 r2 => k b E2 H2 q2 (x1.trans x2) r2⟩
    | true => exact k true E1 H1 q1 x1 r1⟩⟩
theorem EW.eb {t : TTd} (h : EW X G e t) : EB X G e t := ⟨h.pw.pt⟩
theorem eb_not {t : TTd} (h : EB X G a t) : EB X G (.UnaryOp .Not a pos) (tNotD t) :=
  ⟨PT.weak (pt_not h.pt) fun σ H Q ⟨E, QE, r, q, k⟩ => ⟨E, _, r, q, fun c E1 H1 q1 x1 r1 => k _ E1 H1 q1 x1 r1⟩⟩
/-- a if c else b -/
def tIfE (c : TTd) (t u : TD) : TD := fun E Q => c E fun k E1 => if k = true then t E1 Q else u E1 Q
theorem ed_if {tc : TTd} {t u : TD} (hc : EB X G c tc) (ha : ED X G a t) (hb : ED X G b u) : ED X G (.IfExp c a b pos) (tIfE tc t u) :=
  ⟨PE.weak (pe_ifExp hc.pt ha.pe hb.pe) fun σ H Q ⟨E, QE, r, q, k⟩ => ⟨E, _, r, q, fun c E1 H1 q1 x1 r1 => by
    cases c with
    | true => exact ⟨E1, QE, r1, q1, fun d E2 v H2 q2 x2 r2 => k d E2 v H2 q2 (x1.trans x2) r2⟩
    | false => exact ⟨E1, QE, r1, q1, fun d E2 v H2 q2 x2 r2 => k d E2 v H2 q2 (x1.trans x2) r2⟩⟩⟩
/-! as values -/
def tAndV (t u : TD) : TD := fun E Q => t E fun x E1 => match x with
  | .bool true => u E1 Q
  | .bool false => Q (.bool false) E1
  | _ => False
def tOrV (t u : TD) : TD := fun E Q => t E fun x E1 => match x with
  | .bool true => Q (.bool true) E1
  | .bool false => u E1 Q
  | _ => False
def tNotV (t : TD) : TD := fun E Q => t E fun x E1 => match x with
  | .bool b => Q (.bool (!b)) E1
  | _ => False
theorem ed_one {op} {t : TD} (h : ED X G a t) : ED X G (.BoolOp op [a] pos) t := ⟨pe_one h.pe⟩
theorem ed_and {t u : TD} (h : ED X G a t) (hb : ED X G (.BoolOp .And (b :: es) pos) u) : ED X G (.BoolOp .And (a :: b :: es) pos) (tAndV t u) :=
  ⟨PE.weak (pe_and h.pe hb.pe) fun σ H Q ⟨E, QE, r, q, k⟩ => ⟨E, _, r, q, fun d E1 v H1 q1 x1 r1 p1 => by
    cases p1 with
    | bl c =>
      refine ⟨c, rfl, ?_⟩
      cases c with
      | true => exact ⟨E1, QE, r1, q1, fun d E2 v H2 q2 x2 r2 => k d E2 v H2 q2 (x1.trans x2) r2⟩
      | false => exact k _ E1 _ H1 q1 x1 r1 (.bl false)
    | _ => exact q1.elim⟩⟩
theorem ed_not {t : TD} (h : ED X G a t) : ED X G (.UnaryOp .Not a pos) (tNotV t) :=
  ⟨PE.weak (pe_not h.pe) fun σ H Q ⟨E, QE, r, q, k⟩ => ⟨E, _, r, q, fun d E1 v H1 q1 x1 r1 p1 => by
    cases p1 with
    | bl c => exact ⟨c, rfl, k _ E1 _ H1 q1 x1 r1 (.bl _)⟩
    | _ => exact q1.elim⟩⟩
/-! ### truth of any data -/
def truD : D → Option Bool
  | .none => some false
  | .bool b => some b
  | .int i => some (i != 0)
  | .str x => some ((x.length : Int) != 0)
  | .list xs => some (!xs.isEmpty)
  | .tuple xs => some (!xs.isEmpty)
  | .dict _ => none
def okLen : D → Prop
  | .str x => x.length ≤ sizeLine
  | _ => True
def tTru (t : TD) : TTd := fun E Q => t E fun x E1 => match truD x with
  | some b => okLen x ∧ Q b E1
  | none => False
theorem isEmpty_RpL {K : PySem.W.Frag} {H : Hp} {ds : List D} {vs : List V} (l : RpL K H ds vs) : ds.isEmpty = vs.isEmpty := by cases l <;> rfl
theorem eb_tru {t : TD} (h : ER X G e t) (he : ∀ whole, isTrue e X.env whole = (do let v ← whole; standAt e.pos; holding [v] (truthy v)) := by intro _; rfl) : EB X G e (tTru t) :=
  ⟨PT.weak (pt_truth h.pe he) fun σ H Q ⟨E, QE, r, q, k⟩ => ⟨E, _, r, q, fun d E' v H' q1 x1 r1 p1 => by
    cases d with
    | none => rw [p1.none]; exact ⟨false, rfl, k _ _ _ q1.2 x1 r1⟩
    | bool b => rw [p1.bool]; exact ⟨b, rfl, k _ _ _ q1.2 x1 r1⟩
    | int b => rw [p1.int]; exact ⟨_, rfl, k _ _ _ q1.2 x1 r1⟩
    | str b => rw [p1.str]; exact ⟨_, ⟨q1.1, rfl⟩, k _ _ _ q1.2 x1 r1⟩
    | list b =>
      obtain ⟨a, vs, rfl, hs, l⟩ := p1.list
      exact ⟨!vs.isEmpty, .inl ⟨vs, hs, rfl⟩, by have := k _ _ _ q1.2 x1 r1; rw [isEmpty_RpL l] at this; exact this⟩
    | tuple b =>
      obtain ⟨a, vs, rfl, hs, l⟩ := p1.tuple
      exact ⟨!vs.isEmpty, .inr (.inl ⟨vs, hs, rfl⟩), by have := k _ _ _ q1.2 x1 r1; rw [isEmpty_RpL l] at this; exact this⟩
    | dict b => exact q1.elim⟩⟩
/-! ### arguments -/
def aNil : TAd := fun E Q => Q [] E
def aV (t : TD) (u : TAd) : TAd := fun E Q => t E fun x E1 => u E1 fun as E2 => Q (.v x :: as) E2
def aO (i : Nat) (u : TAd) : TAd := fun E Q => match E[i]? with
  | some (.ol _) => u E fun as E2 => Q (.o i :: as) E2
  | some (.dt _) => u E fun as E2 => Q (.o i :: as) E2
  | some (.dk _) => u E fun as E2 => Q (.o i :: as) E2
  | _ => False
theorem ea_nil : EA X G [] aNil := ⟨PA.weak pa_nil fun σ H Q ⟨E, QE, r, q, k⟩ => k _ _ _ _ q (Ext.refl _) r .nil⟩
theorem ea_v {t : TD} {u : TAd} (h : ED X G e t) (hr : EA X G es u) (hs : starEach (e :: es) X.env = (false, eval e X.env) :: starEach es X.env := by rfl) : EA X G (e :: es) (aV t u) :=
  ⟨PA.weak (pa_cons h.pe hr.pa hs) fun σ H Q ⟨E, QE, r, q, k⟩ => ⟨E, _, r, q, fun x E1 v H1 q1 x1 r1 p1 => ⟨E1, _, r1, q1, fun as E2 vs H2 q2 x2 r2 p2 => k _ _ _ _ q2 (x1.trans x2) r2 (.v (p1.ext x2) p2)⟩⟩⟩
theorem ea_o (i : Nat) {x : Str} {u : TAd} {p : Pos} (hr : EA X G es u) (hN : X.N[i]? = some x := by rfl) (hv : Vis X.env.scope x := by first | exact Or.inl rfl | exact Or.inr (Or.inl rfl) | exact Or.inr (Or.inr rfl)) (hd : (x == ("__debug__" : Str)) = false := by decide)
    (hcd : (x == ("__classdict__" : Str)) = false := by decide) (hs : starEach (Expr.Name x p :: es) X.env = (false, eval (Expr.Name x p) X.env) :: starEach es X.env := by rfl) : EA X G (Expr.Name x p :: es) (aO i u) :=
  ⟨PA.weak (pa_cons (pe_var hN hv hd hcd) hr.pa hs) fun σ H Q ⟨E, QE, r, q, k⟩ => by
    unfold aO at q
    split at q
    · rename_i xs he
      obtain ⟨a, e, _⟩ := r.mutAt he rfl
      exact ⟨_, e, E, _, r, q, fun as E2 vs H2 q2 x2 r2 p2 => k _ _ _ _ q2 x2 r2 (.o e p2)⟩
    · rename_i xs he
      obtain ⟨a, e, _⟩ := r.mutAt he rfl
      exact ⟨_, e, E, _, r, q, fun as E2 vs H2 q2 x2 r2 p2 => k _ _ _ _ q2 x2 r2 (.o e p2)⟩
    · rename_i xs he
      obtain ⟨a, e, _⟩ := r.mutAt he rfl
      exact ⟨_, e, E, _, r, q, fun as E2 vs H2 q2 x2 r2 p2 => k _ _ _ _ q2 x2 r2 (.o e p2)⟩
    · exact q.elim⟩
/-! ### statements -/
section
variable {st : Stmt} {rest : List Stmt}
def sNx : TSd := fun DE E => DE.nx E
def sSeq (t u : TSd) : TSd := fun DE E => t { DE with nx := u DE } E
theorem sds_nil : SDs X G [] sNx := ⟨PSs.weak pss_nil fun F σ H ⟨E, DE, r, q, k1, _⟩ => k1 _ _ _ q (Ext.refl _) r⟩
theorem lift_more {K : PySem.W.Frag} {F : Ends} {σ : St} {H H1 : Hp} {E E1 : Env} {DE : EndsD} {u : TSd} {σ1 : St} (x1 : Ext H H1) (r1 : RelE K G H1 E1 σ1) (q : u DE E1)
    (k1 : ∀ E' σ' H', DE.nx E' → Ext H H' → RelE K G H' E' σ' → F.nx σ' H') (k2 : ∀ d E' v σ' H', DE.rt d E' → Ext H H' → RelE K G H' E' σ' → Rp K H' d v → F.rt v H')
    (k3 : ∀ E' σ' H', DE.bk E' → Ext H H' → RelE K G H' E' σ' → F.bk σ' H') (k4 : ∀ E' σ' H', DE.ct E' → Ext H H' → RelE K G H' E' σ' → F.ct σ' H') : liftS K G u F σ1 H1 :=
  ⟨E1, DE, r1, q, fun E' σ' H' z x r => k1 E' σ' H' z (x1.trans x) r, fun d E' v σ' H' z x r => k2 d E' v σ' H' z (x1.trans x) r, fun E' σ' H' z x r => k3 E' σ' H' z (x1.trans x) r, fun E' σ' H' z x r => k4 E' σ' H' z (x1.trans x) r⟩
theorem sds_cons {t u : TSd} (h : SD X G st t) (hr : SDs X G rest u) : SDs X G (st :: rest) (sSeq t u) :=
  ⟨PSs.weak (pss_cons h.ps hr.pss) fun F σ H ⟨E, DE, r, q, k1, k2, k3, k4⟩ => ⟨E, { DE with nx := u DE }, r, q, fun E' σ' H' z x r => lift_more (σ := σ) (E := E) x r z k1 k2 k3 k4, k2, k3, k4⟩⟩
theorem sds_one {t : TSd} (h : SD X G st t) : SDs X G [st] t := ⟨pss_one h.ps⟩
def sRet (t : TD) : TSd := fun DE E => t E DE.rt
theorem sd_ret {t : TD} (h : ED X G e t) : SD X G (.Return (some e) pos) (sRet t) :=
  ⟨PS.weak (ps_ret h.pe) fun F σ H ⟨E, DE, r, q, k1, k2, k3, k4⟩ => ⟨E, _, r, q, fun d E' v H' z x r p => k2 d E' v σ H' z x r p⟩⟩
def sIf (c : TTd) (t u : TSd) : TSd := fun DE E => c E fun b E1 => if b = true then t DE E1 else u DE E1
theorem sd_if {sa sb : List Stmt} {tc : TTd} {t u : TSd} (hc : EB X G c tc) (ha : SDs X G sa t) (hb : SDs X G sb u) : SD X G (.If c sa sb pos) (sIf tc t u) :=
  ⟨PS.weak (ps_if hc.pt ha.pss hb.pss) fun F σ H ⟨E, DE, r, q, k1, k2, k3, k4⟩ => ⟨E, _, r, q, fun c E1 H1 q1 x1 r1 => by
    cases c with
    | true => exact lift_more (σ := σ) (E := E) x1 r1 q1 k1 k2 k3 k4
    | false => exact lift_more (σ := σ) (E := E) x1 r1 q1 k1 k2 k3 k4⟩⟩
def sExpr (t : TD) : TSd := fun DE E => t E fun _ E1 => DE.nx E1
theorem sd_expr {t : TD} (h : ED X G e t) (hs : swapsWith e none pos.line X.env = pure false := by rfl) : SD X G (.Expr e pos) (sExpr t) :=
  ⟨PS.weak (ps_expr h.pe hs) fun F σ H ⟨E, DE, r, q, k1, k2, k3, k4⟩ => ⟨E, _, r, q, fun d E1 v H1 q1 x1 r1 p1 => k1 _ _ _ q1 x1 r1⟩⟩
end
end
end DL
set_option Elab.async false
set_option linter.all false
set_option maxRecDepth 100000
namespace DL
open PySem PySem.Spec PyProof.Rows L2
section
variable {K : PySem.W.Frag} {G : Gh} {H H' : Hp} {E : Env} {σ : St} {ex : List Addr}
theorem notin_slots {i : Nat} (hi : i ∉ G.slots) (a : Addr) : (i, a) ∉ G.own := fun h => hi (List.mem_map.mpr ⟨(i, a), h, rfl⟩)
/-- a slot gets data -/
theorem RelX.setD {i : Nat} {x : D} {v : V} (r : RelX K G ex H E σ) (hi : i ∉ G.slots) (p : Rp K H x v) : RelX K G ex H (E.set i (.d x)) (σ.set i (some v)) := by
  obtain ⟨l, k, pn, dm, x0, A, h1, h2, h3⟩ := r
  refine ⟨by simp [l], k, fun j a hj => ?_, dm, x0, fun j => if j = i then [] else A j, fun j m a e1 e2 => ?_, fun j a e1 => ?_, fun j s e => ?_⟩
  · have : i ≠ j := fun z => notin_slots hi a (z ▸ hj)
    rw [List.getElem?_set_ne this]; exact pn j a hj
  · by_cases z : j = i
    · simp [z] at e1
    · by_cases z2 : m = i
      · simp [z2] at e2
      · simp only [z, z2, if_false] at e1 e2; exact h1 j m a e1 e2
  · by_cases z : j = i
    · simp [z] at e1
    · simp only [z, if_false] at e1; exact h2 j a e1
  · by_cases z : j = i
    · subst z
      by_cases hl : j < E.length
      · rw [List.getElem?_set_self hl] at e
        cases e
        exact ⟨by simp, v, by rw [List.getElem?_set_self (l ▸ hl)], p⟩
      · rw [List.getElem?_eq_none (by simpa using hl)] at e; cases e
    · rw [List.getElem?_set_ne (Ne.symm z)] at e
      rw [List.getElem?_set_ne (Ne.symm z)]
      simp only [z, if_false]; exact h3 j s e
/-- a slot gets a new mutable thing of one's own -/
theorem RelX.setM {i : Nat} {s0 : S} {a : Addr} (r : RelX K G (a :: ex) H E σ) (hx : a ∉ ex) (hi : i ∉ G.slots) (h0 : G.H0 a = none) (p : RelM K H s0 a) : RelX K G ex H (E.set i s0) (σ.set i (some (.ref a))) := by
  obtain ⟨l, k, pn, dm, x0, A, h1, h2, h3⟩ := r
  refine ⟨by simp [l], k, fun j a hj => ?_, dm, x0, fun j => if j = i then [a] else A j, fun j m b e1 e2 => ?_, fun j b e1 => ?_, fun j s e => ?_⟩
  · have : i ≠ j := fun z => notin_slots hi a (z ▸ hj)
    rw [List.getElem?_set_ne this]; exact pn j a hj
  · by_cases z : j = i
    · by_cases z2 : m = i
      · rw [z, z2]
      · simp only [z, if_true, z2, if_false, List.mem_cons, List.not_mem_nil, or_false] at e1 e2
        exact absurd e1 fun z => (h2 m b e2).2 (by simp [z])
    · by_cases z2 : m = i
      · simp only [z, if_false, z2, if_true, List.mem_cons, List.not_mem_nil, or_false] at e1 e2
        exact absurd e2 fun z => (h2 j b e1).2 (by simp [z])
      · simp only [z, z2, if_false] at e1 e2; exact h1 j m b e1 e2
  · by_cases z : j = i
    · simp only [z, if_true, List.mem_cons, List.not_mem_nil, or_false] at e1
      subst e1; exact ⟨.inr h0, hx⟩
    · simp only [z, if_false] at e1; exact ⟨(h2 j b e1).1, fun q => (h2 j b e1).2 (List.mem_cons_of_mem _ q)⟩
  · by_cases z : j = i
    · subst z
      by_cases hl : j < E.length
      · rw [List.getElem?_set_self hl] at e
        cases e
        simp only [if_true]
        exact RelS.ofMut p.isMut (by rw [List.getElem?_set_self (l ▸ hl)]) p
      · rw [List.getElem?_eq_none (by simpa using hl)] at e; cases e
    · rw [List.getElem?_set_ne (Ne.symm z)] at e
      rw [List.getElem?_set_ne (Ne.symm z)]
      simp only [z, if_false]; exact h3 j s e
theorem RelX.setL {i : Nat} {xs : List D} {a : Addr} {vs : List V} (r : RelX K G (a :: ex) H E σ) (hx : a ∉ ex) (hi : i ∉ G.slots) (h0 : G.H0 a = none) (ha : H a = some (.lst vs)) (p : RpL K H xs vs) : RelX K G ex H (E.set i (.ol xs)) (σ.set i (some (.ref a))) :=
  r.setM hx hi h0 (s0 := .ol xs) ⟨vs, ha, p⟩
/-- a mutable thing of one's own changes -/
theorem RelX.putM {i : Nat} {s0 s1 : S} {a : Addr} {u : HO} (r : RelX K G ex H E σ) (e : E[i]? = some s0) (m0 : s0.isMut = true) (hs : σ[i]? = some (some (.ref a))) (p : RelM K (upd H a u) s1 a) : RelX K G ex (upd H a u) (E.set i s1) σ := by
  obtain ⟨l, k, pn, dm, x0, A, h1, h2, h3⟩ := r
  obtain ⟨b, e1, e2, e3⟩ := (h3 i _ e).mut m0
  rw [hs] at e2
  have e2' : a = b := by injection e2 with z; injection z with z; injection z
  subst e2'
  obtain ⟨u0, g1, g2, g3⟩ := e3.soft
  have x : Ext H (upd H a u) := Ext.putS g1 g2 g3
  have own := h2 i a (by rw [e1]; simp)
  have hl : i < E.length := by
    rcases Nat.lt_or_ge i E.length with z | z
    · exact z
    · rw [List.getElem?_eq_none z] at e; cases e
  refine ⟨by simpa using l, fun q o he ne => ?_, pn, fun q hq => ?_, x0.trans x, A, h1, h2, fun j s he => ?_⟩
  · have : q ≠ a := by
      rintro rfl
      rcases own.1 with z | z
      · exact ne z
      · rw [z] at he; cases he
    rw [upd_ne this]; exact k q o he ne
  · by_cases z : q = a
    · subst z; rw [upd_same]; simp
    · rw [upd_ne z]; exact dm q hq
  · by_cases z : j = i
    · subst z
      rw [List.getElem?_set_self hl] at he
      cases he
      rw [e1]
      exact RelS.ofMut p.isMut hs p
    · rw [List.getElem?_set_ne (Ne.symm z)] at he
      exact (h3 j s he).move x fun c hc => upd_ne fun zz => z (h1 j i c hc (by rw [e1, zz]; simp))
/-- a list of one's own changes -/
theorem RelX.putL {i : Nat} {xs ys : List D} {a : Addr} {us : List V} (r : RelX K G ex H E σ) (e : E[i]? = some (.ol xs)) (hs : σ[i]? = some (some (.ref a))) (p : RpL K H ys us) : RelX K G ex (upd H a (.lst us)) (E.set i (.ol ys)) σ := by
  have x : Ext H (upd H a (.lst us)) := by
    obtain ⟨l, k, pn, dm, x0, A, h1, h2, h3⟩ := r
    obtain ⟨b, e1, e2, vs, e3, e4⟩ := h3 i _ e
    rw [hs] at e2
    have e2' : a = b := by injection e2 with z; injection z with z; injection z
    subst e2'; exact Ext.put e3
  exact r.putM e rfl hs (s1 := .ol ys) ⟨us, upd_same, p.ext x⟩
/-- a new object is apart from all -/
theorem RelX.fresh {p : Addr} {o : HO} (r : RelE K G H E σ) (hp : H p = none) : RelX K G [p] (upd H p o) E σ ∧ G.H0 p = none ∧ p ∉ G.addrs := by
  have px : PExt H (upd H p o) := PExt.new hp
  have r' := r.pext px
  obtain ⟨l, k, pn, dm, x0, A, h1, h2, h3⟩ := r'
  obtain ⟨_, k0, _, dm0, _, A0, g1, g2, g3⟩ := r
  have na : p ∉ G.addrs := fun z => dm0 p z hp
  refine ⟨⟨l, k, pn, dm, x0, fun i => if E[i]? = none then [] else A0 i, fun i j a e1 e2 => ?_, fun i a e => ?_, fun i s e => ?_⟩, ?_, na⟩
  · dsimp only at e1 e2
    split at e1
    · cases e1
    · split at e2
      · cases e2
      · exact g1 i j a e1 e2
  · dsimp only at e
    split at e
    · cases e
    · rename_i hE
      refine ⟨(g2 i a e).1, ?_⟩
      cases q : E[i]? with
      | none => exact absurd q hE
      | some s =>
        obtain ⟨u, hvs, _⟩ := (g3 i s q).indom a e
        simp only [List.mem_cons, List.not_mem_nil, or_false]
        rintro rfl
        rw [hp] at hvs; cases hvs
  · have : E[i]? ≠ none := by rw [e]; simp
    simp only [this, if_false]
    exact (g3 i s e).pext px
  · cases q : G.H0 p with
    | none => rfl
    | some o' => have := k0 p o' q na; rw [hp] at this; cases this
/-- a thing that nobody else has is frozen -/
theorem RelX.freezeS {a : Addr} {u u' : HO} (r : RelX K G [a] H E σ) (h0 : G.H0 a = none) (na : a ∉ G.addrs) (ha : H a = some u) (s1 : ∀ xs, u ≠ .tup xs) (s2 : ∀ o v, u ≠ .frz o v) : RelE K G (upd H a u') E σ := by
  have x : Ext H (upd H a u') := Ext.putS ha s1 s2
  obtain ⟨l, k, pn, dm, x0, A, h1, h2, h3⟩ := r
  refine ⟨l, fun q u he ne => ?_, pn, fun q hq => ?_, x0.trans x, fun i => if E[i]? = none then [] else A i, fun i j b e1 e2 => ?_, fun i b e => ?_, fun i s e => ?_⟩
  · have : q ≠ a := by rintro rfl; rw [h0] at he; cases he
    rw [upd_ne this]; exact k q u he ne
  · have : q ≠ a := by rintro rfl; exact na hq
    rw [upd_ne this]; exact dm q hq
  · dsimp only at e1 e2
    split at e1
    · cases e1
    · split at e2
      · cases e2
      · exact h1 i j b e1 e2
  · dsimp only at e
    split at e
    · cases e
    · exact ⟨(h2 i b e).1, by simp⟩
  · have : E[i]? ≠ none := by rw [e]; simp
    simp only [this, if_false]
    exact (h3 i s e).move x fun p hp => upd_ne (by rintro rfl; exact (h2 i p hp).2 (by simp))
/-- a list that nobody else has is frozen -/
theorem RelX.freeze {a : Addr} {vs : List V} {o : Obj} (r : RelX K G [a] H E σ) (h0 : G.H0 a = none) (na : a ∉ G.addrs) (ha : H a = some (.lst vs)) : RelE K G (upd H a (.frz o (.lst vs))) E σ :=
  r.freezeS h0 na ha (fun _ z => by cases z) (fun _ _ z => by cases z)
end
section
variable {X : Cx} {G : Gh} {a b c e : Expr} {es : List Expr} {pos : Pos}
/-! ### a new list is frozen: data -/
def tFz (t : TE) : TE := fun σ H Q => t σ H fun v H1 => ∃ a xs, v = .ref a ∧ H1 a = some (.lst xs) ∧ ∀ o, Q v (upd H1 a (.frz o (.lst xs)))
theorem PE.fz {t : TE} (h : PE X e t) : PE X e (tFz t) := ⟨fun pins s σ H Q I q => thn (h.run pins s σ H _ I q) fun u s1 ⟨v, H1, I1, r1, a, xs, e1, e2, q1⟩ => by
  obtain ⟨o, I2⟩ := I1.lock e2 trivial
  exact ⟨v, _, I2, r1, q1 o⟩⟩
def tFzD (t : TLd) : TD := fun E Q => t E fun xs E1 => Q (.list xs) E1
theorem EL.ed {t : TLd} (h : EL X G e t) : ED X G e (tFzD t) :=
  ⟨PE.weak (PE.fz h.pe) fun σ H Q ⟨E, QE, r, q, k⟩ => ⟨E, _, r, q, fun xs E1 a vs H1 q1 x1 r1 h0 na ha p1 => ⟨a, vs, rfl, ha, fun o =>
    k _ _ _ _ q1 (x1.trans (Ext.put ha)) (r1.freeze h0 na ha) (.lst (.of upd_same) (p1.ext (Ext.put ha)))⟩⟩⟩
/-- a list that is read now -/
theorem EL.er {t : TLd} (h : EL X G e t) : ER X G e (tFzD t) := h.ed.er
/-! ### displays -/
abbrev TDs := Env → (List D → Env → Prop) → Prop
def liftDs (K : PySem.W.Frag) (G : Gh) (t : TDs) : TA := fun σ H Q => ∃ (E : Env) (QE : List D → Env → Prop), RelE K G H E σ ∧ t E QE ∧ ∀ ds E' vs H', QE ds E' → Ext H H' → RelE K G H' E' σ → RpL K H' ds vs → Q vs H'
structure EDs (X : Cx) (G : Gh) (es : List Expr) (t : TDs) : Prop where
  pa : PA X es (liftDs X.K G t)
def dNil : TDs := fun E Q => Q [] E
def dCons (t : TD) (u : TDs) : TDs := fun E Q => t E fun x E1 => u E1 fun ds E2 => Q (x :: ds) E2
theorem eds_nil : EDs X G [] dNil := ⟨PA.weak pa_nil fun σ H Q ⟨E, QE, r, q, k⟩ => k _ _ _ _ q (Ext.refl _) r .nil⟩
theorem eds_cons {t : TD} {u : TDs} (h : ED X G e t) (hr : EDs X G es u) (hs : starEach (e :: es) X.env = (false, eval e X.env) :: starEach es X.env := by rfl) : EDs X G (e :: es) (dCons t u) :=
  ⟨PA.weak (pa_cons h.pe hr.pa hs) fun σ H Q ⟨E, QE, r, q, k⟩ => ⟨E, _, r, q, fun x E1 v H1 q1 x1 r1 p1 => ⟨E1, _, r1, q1, fun as E2 vs H2 q2 x2 r2 p2 => k _ _ _ _ q2 (x1.trans x2) r2 (.cons (p1.ext x2) p2)⟩⟩⟩
/-- a tuple of written items: the new object is plain -/
theorem pe_tupF {x1 : Nat} {t : TA} (h : PA X es t) : PE X (.Tuple es x1 pos) (fun σ H Q => t σ H fun xs H1 => xs.length ≤ sizeLine ∧ ∀ p o, H1 p = none → o.dict = none → Q (.ref p) (upd H1 p (.frz o (.tup xs)))) :=
  ⟨fun pins s σ H Q I hq => wpAny_Tuple_spliced (thn (h.run pos pins s σ H _ I hq) fun us s1 ⟨xs, H1, I1, r, z, q⟩ => ⟨by rw [← r.length]; exact z,
    ⟨.ref s1.heap.objs.size, upd H1 s1.heap.objs.size (.frz { cls := .type "tuple", data := .seq us.toArray } (.tup xs)), I1.laid (t' := s1.toks) (fun b u e => Heap.get?_push_of_some _ e) (Nat.le_refl _) ⟨Heap.get?_push_size _ rfl, z, us, r, ⟨_, Heap.get?_push_size _ rfl, rfl, _, rfl⟩⟩, rfl, q _ _ (I1.hok.fresh (Nat.le_refl _)) rfl⟩⟩)⟩
def tTupD (t : TDs) : TD := fun E Q => t E fun ds E1 => ds.length ≤ sizeLine ∧ Q (.tuple ds) E1
theorem ed_tup {x1} {t : TDs} (h : EDs X G es t) : ED X G (.Tuple es x1 pos) (tTupD t) :=
  ⟨PE.weak (pe_tupF h.pa) fun σ H Q ⟨E, QE, r, q, k⟩ => ⟨E, _, r, q, fun ds E1 vs H1 q1 x1 r1 p1 => ⟨by rw [← p1.length]; exact q1.1, fun p o hp ho =>
    k _ _ _ _ q1.2 (x1.trans (PExt.new hp).ext) (r1.pext (PExt.new hp)) (.tup (.new ho) (p1.ext (PExt.new hp).ext))⟩⟩⟩
def tLstD (t : TDs) : TLd := fun E Q => t E fun ds E1 => ds.length ≤ sizeLine ∧ Q ds E1
theorem el_lst {t : TDs} (h : EDs X G es t) : EL X G (.List es pos) (tLstD t) :=
  ⟨PE.weak (pe_lst h.pa) fun σ H Q ⟨E, QE, r, q, k⟩ => ⟨E, _, r, q, fun ds E1 vs H1 q1 x1 r1 p1 => ⟨by rw [← p1.length]; exact q1.1, fun p hp => by
    obtain ⟨r2, h0, na⟩ := r1.fresh (o := .lst vs) hp
    exact k _ _ _ _ _ q1.2 (x1.trans (PExt.new hp).ext) r2 h0 na upd_same (p1.ext (PExt.new hp).ext)⟩⟩⟩
/-! ### assignments -/
def sSet (i : Nat) (t : TD) : TSd := fun DE E => t E fun d E1 => DE.nx (E1.set i (.d d))
theorem sd_set {i : Nat} {x : Str} {pos' : Pos} {t : TD} (hi : i ∉ G.slots) (hN : X.N.Nodup) (hx : X.N[i]? = some x) (hl : Loc X.env.scope x) (h : ED X G e t) (hs : swapsWith e (some (.Name x pos')) pos.line X.env = pure false := by rfl)
    (hf : X.fn x = true ∨ X.env.scope.names.lookup x = some .local := by first | exact .inl rfl | exact .inr rfl | assumption) : SD X G (.Assign [.Name x pos'] e pos) (sSet i t) :=
  ⟨PS.weak (ps_set hN hx hl h.pe hs hf) fun F σ H ⟨E, DE, r, q, k1, k2, k3, k4⟩ => ⟨E, _, r, q, fun d E1 v H1 q1 x1 r1 p1 => k1 _ _ _ q1 x1 (r1.setD hi p1)⟩⟩
def sSetL (i : Nat) (t : TLd) : TSd := fun DE E => t E fun d E1 => DE.nx (E1.set i (.ol d))
theorem sd_setL {i : Nat} {x : Str} {pos' : Pos} {t : TLd} (hi : i ∉ G.slots) (hN : X.N.Nodup) (hx : X.N[i]? = some x) (hl : Loc X.env.scope x) (h : EL X G e t) (hs : swapsWith e (some (.Name x pos')) pos.line X.env = pure false := by rfl)
    (hf : X.fn x = true ∨ X.env.scope.names.lookup x = some .local := by first | exact .inl rfl | exact .inr rfl | assumption) : SD X G (.Assign [.Name x pos'] e pos) (sSetL i t) :=
  ⟨PS.weak (ps_set hN hx hl h.pe hs hf) fun F σ H ⟨E, DE, r, q, k1, k2, k3, k4⟩ => ⟨E, _, r, q, fun d E1 a vs H1 q1 x1 r1 h0 na ha p1 => k1 _ _ _ q1 x1 (r1.setL (by simp) hi h0 ha p1)⟩⟩
/-! targets: ms the slots that they change -/
theorem wipe_setIn {σ : St} {i : Nat} {o : Option V} : ∀ {ms : List Nat}, i ∈ ms → wipe (σ.set i o) ms = wipe σ ms
  | m :: ms, h => by
    show (wipe (σ.set i o) ms).set m none = (wipe σ ms).set m none
    by_cases hi : i ∈ ms
    · rw [wipe_setIn hi]
    · have hm : i = m := by rcases List.mem_cons.mp h with z | z; exact z; exact absurd z hi
      subst hm
      have : ∀ (l : List Nat), i ∉ l → wipe (σ.set i o) l = (wipe σ l).set i o := by
        intro l
        induction l with
        | nil => intro _; rfl
        | cons k l ih =>
          intro hk
          show (wipe (σ.set i o) l).set k none = ((wipe σ l).set k none).set i o
          rw [ih (fun z => hk (List.mem_cons_of_mem _ z)), List.set_comm _ _ (fun z => hk (by simp [z]))]
      rw [this ms hi, List.set_set]
abbrev TGd := D → Env → (Env → Prop) → Prop
def liftG (W : Bool) (K : PySem.W.Frag) (G : Gh) (ms : List Nat) (t : TGd) : TG := fun v σ H Q => ∃ (E : Env) (d : D) (QE : Env → Prop), RelE K G H E σ ∧ RpB W K H d v ∧ t d E QE ∧ ∀ E' σ' H', QE E' → Ext H H' → RelE K G H' E' σ' → wipe σ' ms = wipe σ ms → Q σ' H'
structure GD (X : Cx) (G : Gh) (W : Bool) (ms : List Nat) (tg : Expr) (t : TGd) : Prop where
  pg : PG X tg (liftG W X.K G ms t)
theorem PG.weak {tg : Expr} {t u : TG} (h : PG X tg t) (w : ∀ v σ H Q, u v σ H Q → t v σ H Q) : PG X tg u := ⟨fun pins s σ H v x Q I r q => h.run pins s σ H v x Q I r (w v σ H Q q)⟩
def gSet (i : Nat) : TGd := fun d E Q => Q (E.set i (.d d))
theorem gd_name {i : Nat} {x : Str} {ms : List Nat} (hi : i ∉ G.slots) (hm : i ∈ ms) (hN : X.N.Nodup) (hx : X.N[i]? = some x) (hl : Loc X.env.scope x) (hf : X.fn x = true ∨ X.env.scope.names.lookup x = some .local := by first | exact .inl rfl | exact .inr rfl | assumption) : GD X G false ms (.Name x pos) (gSet i) :=
  ⟨PG.weak (pg_name hN hx hl hf) fun v σ H Q ⟨E, d, QE, r, p, q, k⟩ => k _ _ _ q (Ext.refl _) (r.setD hi p) (wipe_setIn hm)⟩
abbrev TGsd := List D → Env → (Env → Prop) → Prop
def liftGs (K : PySem.W.Frag) (G : Gh) (ms : List Nat) (t : TGsd) : TGs := fun vs σ H Q => ∃ (E : Env) (ds : List D) (QE : Env → Prop), RelE K G H E σ ∧ RpL K H ds vs ∧ t ds E QE ∧ ∀ E' σ' H', QE E' → Ext H H' → RelE K G H' E' σ' → wipe σ' ms = wipe σ ms → Q σ' H'
structure GDs (X : Cx) (G : Gh) (ms : List Nat) (tgs : List Expr) (t : TGsd) : Prop where
  pg : PGs X tgs (liftGs X.K G ms t)
theorem PGs.weak {tgs : List Expr} {t u : TGs} (h : PGs X tgs t) (w : ∀ v σ H Q, u v σ H Q → t v σ H Q) : PGs X tgs u := ⟨fun pins s σ H v x Q I r q => h.run pins s σ H v x Q I r (w v σ H Q q)⟩
def gsNil : TGsd := fun ds E Q => match ds with
  | [] => Q E
  | _ => False
def gsCons (t : TGd) (u : TGsd) : TGsd := fun ds E Q => match ds with
  | d :: r => t d E fun E1 => u r E1 Q
  | _ => False
theorem gds_nil {ms : List Nat} : GDs X G ms [] gsNil := ⟨PGs.weak pgs_nil fun vs σ H Q ⟨E, ds, QE, r, p, q, k⟩ => by
  cases p with
  | nil => exact ⟨rfl, k _ _ _ q (Ext.refl _) r rfl⟩
  | cons _ _ => exact q.elim⟩
theorem gds_cons {ms : List Nat} {t : TGd} {u : TGsd} (h1 : GD X G false ms e t) (h2 : GDs X G ms es u) (hs : (assignEach (e :: es) X.env).map (·.2) = assign e X.env :: (assignEach es X.env).map (·.2) := by rfl) : GDs X G ms (e :: es) (gsCons t u) := ⟨PGs.weak (pgs_cons h1.pg h2.pg hs) fun vs σ H Q ⟨E, ds, QE, r, p, q, k⟩ => by
  cases p with
  | nil => exact q.elim
  | cons p1 p2 => exact ⟨_, _, rfl, E, _, _, r, .of p1, q, fun E1 σ1 H1 q1 x1 r1 w1 => ⟨E1, _, QE, r1, p2.ext x1, q1, fun E2 σ2 H2 q2 x2 r2 w2 => k _ _ _ q2 (x1.trans x2) r2 (w2.trans w1)⟩⟩⟩
/-- a tuple of targets: n of them -/
def gTupD (n : Nat) (u : TGsd) : TGd := fun d E Q => match d with
  | .tuple ds => ds.length = n ∧ u ds E Q
  | _ => False
theorem gd_tup {W : Bool} {ms : List Nat} {k n : Nat} {u : TGsd} (hc : X.calm = true) (h : GDs X G ms es u) (hn : (assignEach es X.env).length = n := by rfl) (hst : (assignEach es X.env).findIdx? (·.1) = none := by rfl) : GD X G W ms (.Tuple es k pos) (gTupD n u) :=
  ⟨PG.weak (pg_tup hc h.pg hn hst) fun v σ H Q ⟨E, d, QE, r, p, q, k⟩ => by
    have strong : Rp X.K H d v → gTup X.K n (liftGs X.K G ms u) v σ H Q := fun p => by
      cases p with
      | tup hs l => exact ⟨_, _, rfl, hs.1, by rw [← l.length]; exact q.1, E, _, QE, r, l, q.2, k⟩
      | _ => exact q.elim
    unfold RpB at p
    split at p
    · rcases p with p | ⟨ds, a, vs, rfl, rfl, hs, l⟩
      · exact strong p
      · exact ⟨_, _, rfl, hs, by rw [← l.length]; exact q.1, E, _, QE, r, l, q.2, k⟩
    · exact strong p⟩
/-- targets = e -/
def sAsg (t : TD) (g : TGd) : TSd := fun DE E => t E fun d E1 => g d E1 DE.nx
end
end DL
set_option Elab.async false
set_option linter.all false
set_option maxRecDepth 100000
namespace DL
open PySem PySem.Spec PyProof.Rows L2
/-! ### a thing that nobody else has, kept while something else runs -/
def pend (G : Gh) (a : Addr) (o : HO) : Gh := { H0 := upd G.H0 a o, own := G.own, X0 := G.X0, more := G.more }
section
variable {K : PySem.W.Frag} {G : Gh} {H H' : Hp} {E : Env} {σ : St} {ex : List Addr}
theorem RelX.toPend {a : Addr} {o : HO} (r : RelX K G (a :: ex) H E σ) (ha : H a = some o) (na : a ∉ G.addrs) : RelX K (pend G a o) ex H E σ := by
  obtain ⟨l, k, pn, dm, x0, A, h1, h2, h3⟩ := r
  refine ⟨l, fun p u e ne => ?_, pn, dm, x0, A, h1, fun i b e => ⟨?_, fun q => (h2 i b e).2 (List.mem_cons_of_mem _ q)⟩, h3⟩
  · by_cases z : p = a
    · subst z
      have : (pend G p o).H0 p = some o := upd_same
      rw [this] at e; cases e; exact ha
    · have e' : G.H0 p = some u := by
        have : (pend G a o).H0 p = G.H0 p := upd_ne z
        rw [this] at e; exact e
      exact k p u e' ne
  · have hb := h2 i b e
    have z : b ≠ a := by intro z; exact hb.2 (by simp [z])
    rcases hb.1 with q | q
    · exact .inl q
    · exact .inr (by show upd G.H0 a o b = none; rw [upd_ne z]; exact q)
theorem RelX.ofPend {a : Addr} {o : HO} (r : RelX K (pend G a o) ex H E σ) (h0 : G.H0 a = none) (na : a ∉ G.addrs) : RelX K G (a :: ex) H E σ ∧ H a = some o := by
  obtain ⟨l, k, pn, dm, x0, A, h1, h2, h3⟩ := r
  refine ⟨⟨l, fun p u e ne => ?_, pn, dm, x0, A, h1, fun i b e => ?_, h3⟩, ?_⟩
  · have z : p ≠ a := by rintro rfl; rw [h0] at e; cases e
    exact k p u (by show upd G.H0 a o p = some u; rw [upd_ne z]; exact e) ne
  · have hb := (h2 i b e).1
    have z : b ≠ a := by
      rintro rfl
      rcases hb with q | q
      · exact na q
      · have : upd G.H0 b o b = none := q
        rw [upd_same] at this; cases this
    refine ⟨?_, fun q => by
      rcases List.mem_cons.mp q with q | q
      · exact z q
      · exact (h2 i b e).2 q⟩
    rcases hb with q | q
    · exact .inl q
    · exact .inr (by have : upd G.H0 a o b = none := q; rw [upd_ne z] at this; exact this)
  · exact k a o upd_same na
end
/-! ### what is walked -/
structure WalkD (W : Bool) (K : PySem.W.Frag) (J : It) (H0 : Hp) (ds : List D) : Prop where
  goes : ∀ i H, Ext H0 H → i < ds.length → J.go i H
  yld : ∀ i H x H', Ext H0 H → i < ds.length → J.yld i H x H' → PExt H H' ∧ ∃ d, ds[i]? = some d ∧ RpB W K H' d x
  stops : ∀ H, Ext H0 H → J.stop ds.length H
def liftI (W : Bool) (K : PySem.W.Frag) (G : Gh) (t : TDs) : TI := fun σ H R => ∃ (E : Env) (QE : List D → Env → Prop), RelE K G H E σ ∧ t E QE ∧ ∀ ds E' J H', QE ds E' → Ext H H' → RelE K G H' E' σ → WalkD W K J H' ds → R J H'
structure ID (X : Cx) (G : Gh) (W : Bool) (tg iter : Expr) (t : TDs) : Prop where
  pi : PI X tg iter (liftI W X.K G t)
theorem PI.weak {X : Cx} {tg iter : Expr} {t u : TI} (h : PI X tg iter t) (w : ∀ σ H R, u σ H R → t σ H R) : PI X tg iter u := ⟨fun pins s σ H R I q => h.run pins s σ H R I (w σ H R q)⟩
section
variable {X : Cx} {G : Gh} {tg iter e : Expr} {pos : Pos}
/-- over data that is a tuple -/
def iTupD (t : TD) : TDs := fun E Q => t E fun d E1 => match d with
  | .tuple ds => Q ds E1
  | _ => False
def iLstD (t : TD) : TDs := fun E Q => t E fun d E1 => match d with
  | .list ds => Q ds E1
  | _ => False
theorem walkD_tup {K : PySem.W.Frag} {H : Hp} {a : Addr} {vs : List V} {ds : List D} (h : SqT K H a vs) (l : RpL K H ds vs) : WalkD false K (Itt K a) H ds where
  goes := fun i H' x hi => by
    rw [l.length] at hi
    exact ⟨vs, vs[i], SqT.ext x h, List.getElem?_eq_getElem hi⟩
  yld := fun i H' v H2 x hi hy => by
    obtain ⟨e1, e2⟩ := hy
    subst e1
    have hv := e2 vs (SqT.ext x h)
    obtain ⟨d, hd, p⟩ := l.getV hv
    exact ⟨PExt.refl _, d, hd, p.ext x⟩
  stops := fun H' x => ⟨vs, SqT.ext x h, by rw [l.length]; exact Nat.le_refl _⟩
theorem walkD_lst {K : PySem.W.Frag} {H : Hp} {a : Addr} {vs : List V} {ds : List D} (h : LsF K H a vs) (l : RpL K H ds vs) : WalkD false K (Itl K a) H ds where
  goes := fun i H' x hi => by
    rw [l.length] at hi
    exact ⟨vs, vs[i], (LsF.ext x h).sq, List.getElem?_eq_getElem hi⟩
  yld := fun i H' v H2 x hi hy => by
    obtain ⟨e1, e2⟩ := hy
    subst e1
    have hv := e2 vs ((LsF.ext x h).sq)
    obtain ⟨d, hd, p⟩ := l.getV hv
    exact ⟨PExt.refl _, d, hd, p.ext x⟩
  stops := fun H' x => ⟨vs, (LsF.ext x h).sq, by rw [l.length]; exact Nat.le_refl _⟩
theorem id_tup {t : TD} (h : ED X G iter t) : ID X G false tg iter (iTupD t) :=
  ⟨PI.weak (pi_tup h.pe) fun σ H R ⟨E, QE, r, q, k⟩ => ⟨E, _, r, q, fun d E1 v H1 q1 x1 r1 p1 => by
    cases p1 with
    | tup hs l => exact ⟨_, rfl, ⟨_, hs.1⟩, k _ _ _ _ q1 x1 r1 (walkD_tup hs.1 l)⟩
    | _ => exact q1.elim⟩⟩
theorem id_lst {t : TD} (h : ED X G iter t) : ID X G false tg iter (iLstD t) :=
  ⟨PI.weak (pi_list h.pe) fun σ H R ⟨E, QE, r, q, k⟩ => ⟨E, _, r, q, fun d E1 v H1 q1 x1 r1 p1 => by
    cases p1 with
    | lst hs l => exact ⟨_, rfl, ⟨_, hs.sq⟩, k _ _ _ _ q1 x1 r1 (walkD_lst hs l)⟩
    | _ => exact q1.elim⟩⟩
/-! ranges -/
def rangeD (lo : Int) (n : Nat) : List D := (List.range n).map fun i : Nat => PyData.int (lo + (i : Int))
theorem rangeD_length (lo : Int) (n : Nat) : (rangeD lo n).length = n := by simp [rangeD]
theorem rangeD_get {lo : Int} {n i : Nat} (h : i < n) : (rangeD lo n)[i]? = some (.int (lo + (i : Int))) := by
  simp [rangeD, h]
theorem walkD_range {K : PySem.W.Frag} {H : Hp} {lo : Int} {n : Nat} : WalkD false K (Itr lo n) H (rangeD lo n) where
  goes := fun i H' x hi => by rw [rangeD_length] at hi; exact hi
  yld := fun i H' v H2 x hi hy => by
    obtain ⟨rfl, rfl⟩ := hy
    rw [rangeD_length] at hi
    exact ⟨PExt.refl _, _, rangeD_get hi, .int _⟩
  stops := fun H' x => by rw [rangeD_length]; exact Nat.le_refl _
def iRange1 (t : TD) : TDs := fun E Q => t E fun d E1 => match d with
  | .int j => (-(2 ^ 62) ≤ j ∧ j < 2 ^ 62) ∧ Q (rangeD 0 j.toNat) E1
  | _ => False
theorem id_range1 {a : Expr} {t : TD} {p : Pos} (hg : Gl X "range") (hm : X.mg "range" = none) (h : ED X G a t) (hs : starEach [a] X.env = [(false, eval a X.env)] := by rfl) : ID X G false tg (.Call (.Name "range" p) [a] [] pos) (iRange1 t) :=
  ⟨PI.weak (pi_range1 hg hm (pa_cons h.pe pa_nil hs) hs) fun σ H R ⟨E, QE, r, q, k⟩ => ⟨E, _, r, q, fun d E1 v H1 q1 x1 r1 p1 => by
    cases p1 with
    | int i => exact ⟨i, rfl, q1.1.1, q1.1.2, k _ _ _ _ q1.2 x1 r1 walkD_range⟩
    | _ => exact q1.elim⟩⟩
def iRange2 (t u : TD) : TDs := fun E Q => t E fun d E1 => u E1 fun f E2 => match d, f with
  | .int i, .int j => (-(2 ^ 62) ≤ i ∧ i < 2 ^ 62 ∧ -(2 ^ 62) ≤ j ∧ j < 2 ^ 62) ∧ Q (rangeD i (j - i).toNat) E2
  | _, _ => False
theorem id_range2 {a b : Expr} {t u : TD} {p : Pos} (hg : Gl X "range") (hm : X.mg "range" = none) (h : ED X G a t) (hb : ED X G b u) (hs : starEach [a, b] X.env = [(false, eval a X.env), (false, eval b X.env)] := by rfl) (hs2 : starEach [b] X.env = [(false, eval b X.env)] := by rfl) :
    ID X G false tg (.Call (.Name "range" p) [a, b] [] pos) (iRange2 t u) :=
  ⟨PI.weak (pi_range2 hg hm (pa_cons h.pe (pa_cons hb.pe pa_nil hs2) (by rw [hs, hs2])) hs hs2) fun σ H R ⟨E, QE, r, q, k⟩ => ⟨E, _, r, q, fun d E1 v H1 q1 x1 r1 p1 => ⟨E1, _, r1, q1, fun f E2 u H2 q2 x2 r2 p2 => by
    cases p1 with
    | int i =>
      cases p2 with
      | int j => exact ⟨i, j, rfl, q2.1, k _ _ _ _ q2.2 (x1.trans x2) r2 walkD_range⟩
      | _ => exact q2.elim
    | _ => cases p2 <;> exact q2.elim⟩⟩⟩
/-! ### for -/
def forD (g : TGd) (tb : TSd) : List D → TSd
  | [] => fun DE E => DE.nx E
  | d :: ds => fun DE E => g d E fun E1 => tb { DE with nx := forD g tb ds DE, ct := forD g tb ds DE, bk := DE.nx } E1
def sFor (ti : TDs) (g : TGd) (tb : TSd) : TSd := fun DE E => ti E fun ds E1 => forD g tb ds DE E1
theorem sd_for {W : Bool} {body : List Stmt} {ti : TDs} {g : TGd} {tb : TSd} (hp : PassesOwn (model X.prog X.w) X.A X.env X.xe) (hc : X.calm = true) (hi : ID X G W tg iter ti) {ms : List Nat} (hg : GD X G W ms tg g) (hb : SDs X G body tb)
    (hs : ∀ x, foldedSetIterable iter X.env x = pure x := by intro _; rfl) : SD X G (.For tg iter body [] pos) (sFor ti g tb) := by
  refine ⟨PS.weak (ps_for hp hc hi.pi hg.pg hb.pss hs) fun F σ H ⟨E, DE, r, q, k1, k2, k3, k4⟩ => ⟨E, _, r, q, fun ds E1 J H1 q1 x1 r1 wk => ?_⟩⟩
  refine ⟨fun i m σ' H' => ∃ E', i + m = ds.length ∧ Ext H1 H' ∧ RelE X.K G H' E' σ' ∧ forD g tb (ds.drop i) DE E', ⟨ds.length, E1, by omega, Ext.refl _, r1, q1⟩, fun i m σ2 H2 hW => ?_⟩
  obtain ⟨E2, hm, x2, r2, q2⟩ := hW
  by_cases hi : i < ds.length
  · obtain ⟨d, hd⟩ : ∃ d, ds[i]? = some d := ⟨ds[i], List.getElem?_eq_getElem hi⟩
    have hdr : ds.drop i = d :: ds.drop (i + 1) := by
      rw [List.drop_eq_getElem_cons hi]
      rw [List.getElem?_eq_getElem hi] at hd
      rw [Option.some.inj hd]
    rw [hdr] at q2
    refine .inr ⟨wk.goes i H2 x2 hi, fun σ' H' => ∃ E', Ext H1 H' ∧ RelE X.K G H' E' σ' ∧ forD g tb (ds.drop (i + 1)) DE E', fun σ' H' ⟨E', a1, a2, a3⟩ => ⟨m - 1, by omega, E', by omega, a1, a2, a3⟩, fun x H3 hy => ?_⟩
    obtain ⟨px, d', hd', p⟩ := wk.yld i H2 x H3 x2 hi hy
    rw [hd] at hd'; cases hd'
    refine ⟨E2, d, _, r2.pext px, p, q2, fun E4 σ4 H4 q4 x4 r4 _ => ?_⟩
    have xx : Ext H1 H4 := (x2.trans px.ext).trans x4
    refine ⟨E4, _, r4, q4, fun E5 σ5 H5 z x5 r5 => ⟨E5, xx.trans x5, r5, z⟩, fun d E5 v σ5 H5 z x5 r5 p5 => k2 d E5 v σ5 H5 z ((x1.trans xx).trans x5) r5 p5, fun E5 σ5 H5 z x5 r5 => k1 E5 σ5 H5 z ((x1.trans xx).trans x5) r5, fun E5 σ5 H5 z x5 r5 => ⟨E5, xx.trans x5, r5, z⟩⟩
  · have e0 : ds.drop i = [] := List.drop_eq_nil_of_le (by omega)
    have ei : i = ds.length := by omega
    rw [e0] at q2
    refine .inl ⟨by rw [ei]; exact wk.stops H2 x2, k1 _ _ _ q2 (x1.trans x2) r2⟩
/-! ### while -/
/-! ### comprehensions -/
def wipeE (E : Env) : List Nat → Env
  | [] => E
  | v :: vs => (wipeE E vs).set v .un
def datOf : Option S → S
  | some (.d x) => .d x
  | _ => .un
/-- behind a comprehension: its own names are as they were -/
def restE (E0 E : Env) : List Nat → Env
  | [] => E
  | v :: vs => (restE E0 E vs).set v (datOf E0[v]?)
/-- one turn: an item, or none -/
def turnD (g : TGd) (tt : TTd) (te : TD) (d : D) (E : Env) (Q : Option D → Env → Prop) : Prop :=
  g d E fun E1 => tt E1 fun b E2 => if b = true then te E2 fun y E3 => Q (some y) E3 else Q none E2
def compD (g : TGd) (tt : TTd) (te : TD) (ms : List Nat) : List D → List D → Env → (List D → Env → Prop) → Prop
  | [], acc, E, Q => Q acc E
  | d :: ds, acc, E, Q => turnD g tt te d (wipeE E ms) fun o E' => match o with
    | some y => acc.length < sizeLine ∧ compD g tt te ms ds (acc ++ [y]) E' Q
    | none => compD g tt te ms ds acc E' Q
def tComp (ti : TDs) (g : TGd) (tt : TTd) (te : TD) (ms : List Nat) : TLd := fun E Q => ti E fun ds E1 => compD g tt te ms ds [] E1 fun xs E2 => Q xs (restE E1 E2 ms)
def tTrue : TTd := fun E Q => Q true E
structure EBs (X : Cx) (G : Gh) (ifs : List Expr) (t : TTd) : Prop where
  pt : PTs X ifs (liftT X.K G t)
theorem PTs.weak {ifs : List Expr} {t u : TT} (h : PTs X ifs t) (w : ∀ σ H Q, u σ H Q → t σ H Q) : PTs X ifs u := ⟨fun pins s σ H Q I q => h.run pins s σ H Q I (w σ H Q q)⟩
theorem ebs_nil : EBs X G [] tTrue := ⟨PTs.weak pts_nil fun σ H Q ⟨E, QE, r, q, k⟩ => k _ _ _ q (Ext.refl _) r⟩
theorem RelX.wipe1 {K : PySem.W.Frag} {ex : List Addr} {H : Hp} {E : Env} {σ : St} {i : Nat} (r : RelX K G ex H E σ) (hi : i ∉ G.slots) : RelX K G ex H (E.set i .un) (σ.set i none) := by
  obtain ⟨l, k, pn, dm, x0, A, h1, h2, h3⟩ := r
  refine ⟨by simp [l], k, fun j a hj => ?_, dm, x0, fun j => if j = i then [] else A j, fun j m a e1 e2 => ?_, fun j a e1 => ?_, fun j s e => ?_⟩
  · have : i ≠ j := fun z => notin_slots hi a (z ▸ hj)
    rw [List.getElem?_set_ne this]; exact pn j a hj
  · by_cases z : j = i
    · simp [z] at e1
    · by_cases z2 : m = i
      · simp [z2] at e2
      · simp only [z, z2, if_false] at e1 e2; exact h1 j m a e1 e2
  · by_cases z : j = i
    · simp [z] at e1
    · simp only [z, if_false] at e1; exact h2 j a e1
  · by_cases z : j = i
    · subst z
      by_cases hl : j < E.length
      · rw [List.getElem?_set_self hl] at e
        cases e
        simp [RelS]
      · rw [List.getElem?_eq_none (by simpa using hl)] at e; cases e
    · rw [List.getElem?_set_ne (Ne.symm z)] at e
      rw [List.getElem?_set_ne (Ne.symm z)]
      simp only [z, if_false]; exact h3 j s e
theorem RelX.wipe {K : PySem.W.Frag} {ex : List Addr} {H : Hp} {E : Env} {σ : St} (r : RelX K G ex H E σ) : ∀ {ms : List Nat}, (∀ i ∈ ms, i ∉ G.slots) → RelX K G ex H (wipeE E ms) (wipe σ ms)
  | [], _ => r
  | i :: ms, h => (RelX.wipe r fun j hj => h j (List.mem_cons_of_mem _ hj)).wipe1 (h i (List.mem_cons_self ..))
theorem wipe_get {σ : St} {i : Nat} : ∀ {ms : List Nat}, i ∉ ms → (L2.wipe σ ms)[i]? = σ[i]?
  | [], _ => rfl
  | v :: vs, h => by
    show ((L2.wipe σ vs).set v none)[i]? = _
    rw [List.getElem?_set_ne (fun z => h (by simp [z])), wipe_get fun z => h (List.mem_cons_of_mem _ z)]
/-- behind a comprehension: the slots of before -/
theorem RelX.rest {K : PySem.W.Frag} {ex : List Addr} {H1 H : Hp} {E1 E : Env} {σ σ2 : St} {ms : List Nat} (r1 : RelE K G H1 E1 σ) (x : Ext H1 H) (r : RelX K G ex H E σ2) (hw : L2.wipe σ2 ms = L2.wipe σ ms) (hm : ∀ i ∈ ms, i ∉ G.slots) : RelX K G ex H (restE E1 E ms) σ := by
  have hl : σ2.length = σ.length := by rw [← wipe_length σ2 ms, hw, wipe_length]
  have rl : ∀ (l : List Nat), (restE E1 E l).length = E.length := by
    intro l
    induction l with
    | nil => rfl
    | cons v vs ih => show ((restE E1 E vs).set v _).length = _; rw [List.length_set, ih]
  have rg : ∀ (l : List Nat) (i : Nat), i ∉ l → (restE E1 E l)[i]? = E[i]? := by
    intro l
    induction l with
    | nil => intro i _; rfl
    | cons v vs ih => intro i h; show ((restE E1 E vs).set v _)[i]? = _; rw [List.getElem?_set_ne (fun z => h (by simp [z])), ih i fun z => h (List.mem_cons_of_mem _ z)]
  have rin : ∀ (l : List Nat) (i : Nat) (s : S), i ∈ l → (restE E1 E l)[i]? = some s → s = datOf E1[i]? := by
    intro l
    induction l with
    | nil => intro i s h; cases h
    | cons v vs ih =>
      intro i s h e
      have e : ((restE E1 E vs).set v (datOf E1[v]?))[i]? = some s := e
      by_cases z : v = i
      · subst z
        by_cases hv : v < (restE E1 E vs).length
        · rw [List.getElem?_set_self hv] at e; exact (Option.some.inj e).symm
        · rw [List.getElem?_eq_none (by simpa using hv)] at e; cases e
      · rw [List.getElem?_set_ne z] at e
        exact ih i s (by rcases List.mem_cons.mp h with q | q; exact absurd q.symm z; exact q) e
  obtain ⟨l, k, pn, dm, x0, A, h1, h2, h3⟩ := r
  have same : ∀ i, i ∉ ms → σ2[i]? = σ[i]? := fun i hi => by rw [← wipe_get (σ := σ2) hi, hw, wipe_get hi]
  refine ⟨by rw [rl, l, hl], k, fun i a ha => ?_, dm, x0, fun i => if i ∈ ms then [] else A i, fun i j a e1 e2 => ?_, fun i a e => ?_, fun i s e => ?_⟩
  · have : i ∉ ms := fun z => notin_slots (hm i z) a ha
    rw [← same i this]; exact pn i a ha
  · dsimp only at e1 e2
    split at e1
    · cases e1
    · split at e2
      · cases e2
      · exact h1 i j a e1 e2
  · dsimp only at e
    split at e
    · cases e
    · exact h2 i a e
  · by_cases hi : i ∈ ms
    · simp only [hi, if_true]
      have es := rin ms i s hi e
      subst es
      cases q : E1[i]? with
      | none => exact rfl
      | some s =>
        cases s with
        | d y =>
          obtain ⟨v, e1, p⟩ := r1.data q
          exact ⟨rfl, v, e1, p.ext x⟩
        | _ => exact rfl
    · simp only [hi, if_false]
      rw [rg ms i hi] at e
      rw [← same i hi]
      exact h3 i s e
abbrev anyG (W : Bool) (K : PySem.W.Frag) (G : Gh) (ms : List Nat) (g : TGd) : TG := fun v σ H Q => ∃ G' : Gh, G'.slots = G.slots ∧ liftG W K G' ms g v σ H Q
abbrev anyT (K : PySem.W.Frag) (G : Gh) (tt : TTd) : TT := fun σ H Q => ∃ G' : Gh, G'.slots = G.slots ∧ liftT K G' tt σ H Q
abbrev anyE (K : PySem.W.Frag) (G : Gh) (te : TD) : TE := fun σ H Q => ∃ G' : Gh, G'.slots = G.slots ∧ liftE K G' te σ H Q
theorem lift_comp {W : Bool} {ti : TDs} {g : TGd} {tt : TTd} {te : TD} {ms : List Nat} (hm : ∀ i ∈ ms, i ∉ G.slots) (σ : St) (H : Hp) (Q : VK) (h : liftL X.K G (tComp ti g tt te ms) σ H Q) : tLc (liftI W X.K G ti) (anyG W X.K G ms g) (anyT X.K G tt) (anyE X.K G te) ms σ H Q := by
  obtain ⟨E, QE, r, q, k⟩ := h
  refine ⟨E, _, r, q, fun ds E1 J H1 q1 x1 r1 wk L hL => ?_⟩
  obtain ⟨rL, h0, na⟩ := r1.fresh (o := .lst []) hL
  refine ⟨fun i m H' => ∃ (E' : Env) (σ' : St) (acc : List D) (vs : List V), i + m = ds.length ∧ Ext (upd H1 L (.lst [])) H' ∧ RelX X.K G [L] H' E' σ' ∧ L2.wipe σ' ms = L2.wipe σ ms ∧ H' L = some (.lst vs) ∧ RpL X.K H' acc vs ∧
    compD g tt te ms (ds.drop i) acc E' fun xs E2 => QE xs (restE E1 E2 ms), ⟨ds.length, E1, σ, [], [], by omega, Ext.refl _, rL, rfl, upd_same, .nil, q1⟩, fun i m H2 hW => ?_⟩
  obtain ⟨E2, σ2, acc, vs, hm2, x2, r2, w2, a2, p2, q2⟩ := hW
  have xL : Ext H1 H2 := (PExt.new hL).ext.trans x2
  by_cases hi : i < ds.length
  · obtain ⟨d, hd⟩ : ∃ d, ds[i]? = some d := ⟨ds[i], List.getElem?_eq_getElem hi⟩
    have hdr : ds.drop i = d :: ds.drop (i + 1) := by
      rw [List.drop_eq_getElem_cons hi]
      rw [List.getElem?_eq_getElem hi] at hd
      rw [Option.some.inj hd]
    rw [hdr] at q2
    refine .inr ⟨wk.goes i H2 xL hi, fun H' => ∃ (E' : Env) (σ' : St) (acc : List D) (vs : List V), Ext (upd H1 L (.lst [])) H' ∧ RelX X.K G [L] H' E' σ' ∧ L2.wipe σ' ms = L2.wipe σ ms ∧ H' L = some (.lst vs) ∧ RpL X.K H' acc vs ∧
      compD g tt te ms (ds.drop (i + 1)) acc E' fun xs E2 => QE xs (restE E1 E2 ms), fun H' ⟨E', σ', acc, vs, b1, b2, b3, b4, b5, b6⟩ => ⟨m - 1, by omega, E', σ', acc, vs, by omega, b1, b2, b3, b4, b5, b6⟩, fun x H3 hy => ?_⟩
    obtain ⟨px, d', hd', p⟩ := wk.yld i H2 x H3 xL hi hy
    rw [hd] at hd'; cases hd'
    have hs0 : (pend G L (.lst vs)).slots = G.slots := rfl
    have r3 : RelE X.K (pend G L (.lst vs)) H3 (wipeE E2 ms) (L2.wipe σ ms) := by
      have := ((r2.pext px).wipe hm).toPend (px _ _ a2) na
      rw [w2] at this; exact this
    refine ⟨pend G L (.lst vs), hs0, _, d, _, r3, p, q2, fun E4 σ4 H4 q4 x4 r4 w4 => ?_⟩
    have ww : ∀ (l : List Nat), L2.wipe (L2.wipe σ l) l = L2.wipe σ l := by
      intro l
      have : ∀ (τ : St) (l k : List Nat), (∀ j ∈ l, j ∈ k) → (∀ j ∈ k, ∀ v, τ[j]? = some v → v = none) → L2.wipe τ l = τ := by
        intro τ l
        induction l with
        | nil => intro _ _ _; rfl
        | cons v vs ih =>
          intro k hk hn
          show (L2.wipe τ vs).set v none = τ
          rw [ih k (fun j hj => hk j (List.mem_cons_of_mem _ hj)) hn]
          refine List.ext_getElem? fun j => ?_
          by_cases hv : v = j
          · subst hv
            by_cases hl : v < τ.length
            · rw [List.getElem?_set_self hl]
              have := hn v (hk v (List.mem_cons_self ..)) _ (List.getElem?_eq_getElem hl)
              rw [List.getElem?_eq_getElem hl, this]
            · rw [List.getElem?_eq_none (by simpa using hl), List.getElem?_eq_none (by simpa using hl)]
          · rw [List.getElem?_set_ne hv]
      refine this _ l l (fun j hj => hj) fun j hj v e => ?_
      cases v with
      | none => rfl
      | some y => exact absurd hj (wipe_some e).2
    refine ⟨by rw [w4]; exact ww ms, pend G L (.lst vs), hs0, E4, _, r4, q4, fun b E5 H5 q5 x5 r5 => ?_⟩
    have w45 : L2.wipe σ4 ms = L2.wipe σ ms := by rw [w4]; exact ww ms
    have x5' : Ext (upd H1 L (.lst [])) H5 := ((x2.trans px.ext).trans x4).trans x5
    cases b with
    | false =>
      rw [if_neg Bool.false_ne_true] at q5
      refine iteF ?_
      obtain ⟨r6, a6⟩ := RelX.ofPend r5 h0 na
      exact ⟨E5, σ4, acc, vs, x5', r6, w45, a6, p2.ext ((px.ext.trans x4).trans x5), q5⟩
    | true =>
      rw [if_pos rfl] at q5
      refine iteT ?_
      refine ⟨pend G L (.lst vs), hs0, E5, _, r5, q5, fun y E6 u H6 q6 x6 r6 p6 => ?_⟩
      obtain ⟨r7, a7⟩ := RelX.ofPend r6 h0 na
      have pv := p2.ext (((px.ext.trans x4).trans x5).trans x6)
      have xp : Ext H6 (upd H6 L (.lst (vs ++ [u]))) := Ext.put a7
      refine ⟨vs, a7, by rw [← pv.length]; exact q6.1, E6, σ4, acc ++ [y], vs ++ [u], (x5'.trans x6).trans xp, ?_, w45, upd_same, (RpL.append pv (.cons p6 .nil)).ext xp, q6.2⟩
      -- the list L grows: apart from all footprints
      obtain ⟨l, kk, pn, dm, x0, A, h1, h2, h3⟩ := r7
      refine ⟨l, fun p o e ne => ?_, pn, fun p hp => ?_, x0.trans xp, fun j => if E6[j]? = none then [] else A j, fun i j b e1 e2 => ?_, fun i b e => ?_, fun j s e => ?_⟩
      · have : p ≠ L := by rintro rfl; rw [h0] at e; cases e
        rw [upd_ne this]; exact kk p o e ne
      · have : p ≠ L := by rintro rfl; exact na hp
        rw [upd_ne this]; exact dm p hp
      · dsimp only at e1 e2
        split at e1
        · cases e1
        · split at e2
          · cases e2
          · exact h1 i j b e1 e2
      · dsimp only at e
        split at e
        · cases e
        · exact h2 i b e
      · have : E6[j]? ≠ none := by rw [e]; simp
        simp only [this, if_false]
        exact (h3 j s e).move xp fun p hp => upd_ne (by rintro rfl; exact (h2 j p hp).2 (by simp))
  · have e0 : ds.drop i = [] := List.drop_eq_nil_of_le (by omega)
    have ei : i = ds.length := by omega
    rw [e0] at q2
    exact .inl ⟨by rw [ei]; exact wk.stops H2 xL, k _ _ _ _ _ q2 (x1.trans xL) (RelX.rest r1 xL r2 w2 hm) h0 na a2 p2⟩
theorem comp_parts {W : Bool} {elt tg : Expr} {ifs : List Expr} {scope : Scope} {g : TGd} {tt : TTd} {te : TD} {ms : List Nat}
    (hg : ∀ (G' : Gh), G'.slots = G.slots → ∀ (s : Shared) (H : Hp) (C : Addr) (cl : List (Str × Addr)) (fp : List Addr), GD (X.blk s H scope (compEnvC scope cl C X.env) fp) G' W ms tg g)
    (ht : ∀ (G' : Gh), G'.slots = G.slots → ∀ (s : Shared) (H : Hp) (C : Addr) (cl : List (Str × Addr)) (fp : List Addr), EBs (X.blk s H scope (compEnvC scope cl C X.env) fp) G' ifs tt)
    (he : ∀ (G' : Gh), G'.slots = G.slots → ∀ (s : Shared) (H : Hp) (C : Addr) (cl : List (Str × Addr)) (fp : List Addr), ED (X.blk s H scope (compEnvC scope cl C X.env) fp) G' elt te) :
    (∀ (s : Shared) (H : Hp) (C : Addr) (cl : List (Str × Addr)) (fp : List Addr), PG (X.blk s H scope (compEnvC scope cl C X.env) fp) tg (anyG W X.K G ms g)) ∧
    (∀ (s : Shared) (H : Hp) (C : Addr) (cl : List (Str × Addr)) (fp : List Addr), PTs (X.blk s H scope (compEnvC scope cl C X.env) fp) ifs (anyT X.K G tt)) ∧
    (∀ (s : Shared) (H : Hp) (C : Addr) (cl : List (Str × Addr)) (fp : List Addr), PE (X.blk s H scope (compEnvC scope cl C X.env) fp) elt (anyE X.K G te)) :=
  ⟨fun s H C cl fp => ⟨fun pins s' σ H' v x Q I r ⟨G', hG', q⟩ => (hg G' hG' s H C cl fp).pg.run pins s' σ H' v x Q I r q⟩,
   fun s H C cl fp => ⟨fun pins s' σ H' Q I ⟨G', hG', q⟩ => (ht G' hG' s H C cl fp).pt.run pins s' σ H' Q I q⟩,
   fun s H C cl fp => ⟨fun pins s' σ H' Q I ⟨G', hG', q⟩ => (he G' hG' s H C cl fp).pe.run pins s' σ H' Q I q⟩⟩
section
variable {elt : Expr} {ifs : List Expr} {scope : Scope} {ti : TDs} {g : TGd} {tt : TTd} {te : TD} {ms : List Nat}
theorem el_comp {W : Bool} (own : List (Str × Nat)) (hc : X.calm = true) (hN : X.N.Nodup) (hms : own.map (·.2) = ms) (hm : ∀ i ∈ ms, i ∉ G.slots) (hi : ID X G W tg iter ti) (ok : BlkOk X.N X.env.scope scope own)
    (hg : ∀ (G' : Gh), G'.slots = G.slots → ∀ (s : Shared) (H : Hp) (C : Addr) (cl : List (Str × Addr)) (fp : List Addr), GD (X.blk s H scope (compEnvC scope cl C X.env) fp) G' W ms tg g)
    (ht : ∀ (G' : Gh), G'.slots = G.slots → ∀ (s : Shared) (H : Hp) (C : Addr) (cl : List (Str × Addr)) (fp : List Addr), EBs (X.blk s H scope (compEnvC scope cl C X.env) fp) G' ifs tt)
    (he : ∀ (G' : Gh), G'.slots = G.slots → ∀ (s : Shared) (H : Hp) (C : Addr) (cl : List (Str × Addr)) (fp : List Addr), ED (X.blk s H scope (compEnvC scope cl C X.env) fp) G' elt te) (hs : ∀ x, foldedSetIterable iter X.env x = pure x := by intro _; rfl) :
    EL X G (.ListComp elt [⟨tg, iter, ifs, 0⟩] scope pos) (tComp ti g tt te ms) := by
  obtain ⟨Pg, Pt, Pe⟩ := comp_parts hg ht he
  refine ⟨PE.weak (pe_lc hc hN hi.pi ok Pg Pt Pe hs) fun σ H Q h => ?_⟩
  rw [hms]; exact lift_comp hm σ H Q h
/-- behind a statement the list at slot i is frozen -/
theorem PS.fz {st : Stmt} {t : TS} (h : PS X st t) : PS X st (fun F σ H => t { F with nx := fun σ' H' => ∃ a xs, H' a = some (.lst xs) ∧ ∀ o, F.nx σ' (upd H' a (.frz o (.lst xs))) } σ H) :=
  ⟨fun pins s σ H F I q => thn (h.run pins s σ H _ I q) fun f s1 q1 => by
    cases f with
    | next =>
      obtain ⟨σ', H', I1, a, xs, e2, q2⟩ := q1
      obtain ⟨o, I2⟩ := I1.lock e2 trivial
      exact ⟨σ', _, I2, q2 o⟩
    | brk => exact q1
    | cont => exact q1
    | ret u => exact q1⟩
/-- .. data -/
theorem sd_setC {W : Bool} {i : Nat} {y : Str} {py spos : Pos} (own : List (Str × Nat)) (hsl : i ∉ G.slots) (hc : X.calm = true) (hN : X.N.Nodup) (hy : X.N[i]? = some y) (hyl : X.env.scope.names.lookup y = some .local)
    (hsw : swapsWith (.ListComp elt [⟨tg, iter, ifs, 0⟩] scope pos) (some (.Name y py)) spos.line X.env = pure true) (hms : own.map (·.2) = ms) (hm : ∀ i ∈ ms, i ∉ G.slots) (hi : ID X G W tg iter ti) (ok : BlkOk X.N X.env.scope scope own)
    (hg : ∀ (G' : Gh), G'.slots = G.slots → ∀ (s : Shared) (H : Hp) (C : Addr) (cl : List (Str × Addr)) (fp : List Addr), GD (X.blk s H scope (compEnvC scope cl C X.env) fp) G' W ms tg g)
    (ht : ∀ (G' : Gh), G'.slots = G.slots → ∀ (s : Shared) (H : Hp) (C : Addr) (cl : List (Str × Addr)) (fp : List Addr), EBs (X.blk s H scope (compEnvC scope cl C X.env) fp) G' ifs tt)
    (he : ∀ (G' : Gh), G'.slots = G.slots → ∀ (s : Shared) (H : Hp) (C : Addr) (cl : List (Str × Addr)) (fp : List Addr), ED (X.blk s H scope (compEnvC scope cl C X.env) fp) G' elt te) (hs : ∀ x, foldedSetIterable iter X.env x = pure x := by intro _; rfl) :
    SD X G (.Assign [.Name y py] (.ListComp elt [⟨tg, iter, ifs, 0⟩] scope pos) spos) (sSet i (tFzD (tComp ti g tt te ms))) := by
  obtain ⟨Pg, Pt, Pe⟩ := comp_parts hg ht he
  refine ⟨PS.weak (PS.fz (ps_setLc hc hN hy hyl hsw hi.pi ok Pg Pt Pe hs)) fun F σ H ⟨E, DE, r, q, k1, k2, k3, k4⟩ => ?_⟩
  show tLc _ _ _ _ (own.map (·.2)) σ H fun x H1 => ∃ a xs, H1 a = some (.lst xs) ∧ ∀ o, F.nx (σ.set i (some x)) (upd H1 a (.frz o (.lst xs)))
  rw [hms]
  refine lift_comp hm σ H _ ⟨E, _, r, q, fun xs E1 a vs H1 q1 x1 r1 h0 na ha p1 => ?_⟩
  refine ⟨a, vs, ha, fun o => k1 _ _ _ q1 (x1.trans (Ext.put ha)) ?_⟩
  exact (r1.freeze h0 na ha).setD hsl (.lst (.of upd_same) (p1.ext (Ext.put ha)))
end
end
end DL
set_option Elab.async false
set_option linter.all false
set_option maxRecDepth 100000
namespace DL
open PySem PySem.Spec PyProof.Rows L2
/-! ### a def's promise over data -/
abbrev SpD := List S → (D → List S → Prop) → Prop
inductive AR (K : PySem.W.Frag) (H : Hp) : List S → List V → List Addr → Prop
  | nil : AR K H [] [] []
  | d {x : D} {v : V} {ss : List S} {vs : List V} {as : List Addr} : Rp K H x v → AR K H ss vs as → AR K H (.d x :: ss) (v :: vs) as
  | o {s : S} {a : Addr} {ss : List S} {vs : List V} {as : List Addr} : s.isMut = true → RelM K H s a → AR K H ss vs as → AR K H (s :: ss) (.ref a :: vs) (a :: as)
def spL (K : PySem.W.Frag) (sp : SpD) : Sp := fun vs H Q _ => ∃ (ss : List S) (as : List Addr) (QD : D → List S → Prop), sp ss QD ∧ AR K H ss vs as ∧ as.Nodup ∧
  ∀ d outs v H', QD d outs → (∀ p o, H p = some o → p ∉ as → H' p = some o) → Paired (RelM K H') outs as → Rp K H' d v → Q v H'
/-- the places of the mutable ones -/
def mpos : Nat → List S → List Nat
  | _, [] => []
  | k, s :: ss => if s.isMut = true then k :: mpos (k + 1) ss else mpos (k + 1) ss
theorem AR.length {K : PySem.W.Frag} {H : Hp} : ∀ {ss : List S} {vs : List V} {as : List Addr}, AR K H ss vs as → ss.length = vs.length
  | _, _, _, .nil => rfl
  | _, _, _, .d _ r => by rw [List.length_cons, List.length_cons, AR.length r]
  | _, _, _, .o _ _ r => by rw [List.length_cons, List.length_cons, AR.length r]
theorem AR.mlen {K : PySem.W.Frag} {H : Hp} : ∀ {ss : List S} {vs : List V} {as : List Addr} (k : Nat), AR K H ss vs as → (mpos k ss).length = as.length
  | _, _, _, _, .nil => rfl
  | _, _, _, k, .d _ r => by show (mpos (k + 1) _).length = _; exact AR.mlen (k + 1) r
  | _, _, _, k, .o h _ r => by unfold mpos; rw [if_pos h, List.length_cons, List.length_cons, AR.mlen (k + 1) r]
/-- what an argument place holds -/
theorem AR.get {K : PySem.W.Frag} {H : Hp} : ∀ {ss : List S} {vs : List V} {as : List Addr} (k : Nat) {i : Nat} {s : S}, AR K H ss vs as → ss[i]? = some s →
    (∃ x v, s = .d x ∧ vs[i]? = some v ∧ Rp K H x v) ∨ (s.isMut = true ∧ ∃ a, vs[i]? = some (.ref a) ∧ RelM K H s a ∧ (k + i, a) ∈ (mpos k ss).zip as)
  | _, _, _, _, i, _, .nil, e => by simp at e
  | _, _, _, k, 0, s, .d (x := x) (v := v) p r, e => by
    simp at e; exact .inl ⟨x, v, e.symm, rfl, p⟩
  | _, _, _, k, i + 1, s, .d p r, e => by
    rcases AR.get (k + 1) (i := i) r (by simpa using e) with ⟨x, v, e1, e2, e3⟩ | ⟨h, a, e1, e2, e3⟩
    · exact .inl ⟨x, v, e1, by simpa using e2, e3⟩
    · refine .inr ⟨h, a, by simpa using e1, e2, ?_⟩
      show (k + (i + 1), a) ∈ (mpos (k + 1) _).zip _
      rw [show k + (i + 1) = k + 1 + i by omega]; exact e3
  | _, _, _, k, 0, s, .o (a := a) h m r, e => by
    simp at e; subst e
    refine .inr ⟨h, a, rfl, m, ?_⟩
    unfold mpos; rw [if_pos h]; simp
  | _, _, _, k, i + 1, s, .o h m r, e => by
    rcases AR.get (k + 1) (i := i) r (by simpa using e) with ⟨x, v, e1, e2, e3⟩ | ⟨h', a, e1, e2, e3⟩
    · exact .inl ⟨x, v, e1, by simpa using e2, e3⟩
    · refine .inr ⟨h', a, by simpa using e1, e2, ?_⟩
      unfold mpos; rw [if_pos h, List.zip_cons_cons]
      refine List.mem_cons_of_mem _ ?_
      rw [show k + (i + 1) = k + 1 + i by omega]; exact e3
theorem AR.back {K : PySem.W.Frag} {H : Hp} : ∀ {ss : List S} {vs : List V} {as : List Addr} (k : Nat) {j : Nat} {a : Addr}, AR K H ss vs as → (j, a) ∈ (mpos k ss).zip as → ∃ i s, j = k + i ∧ ss[i]? = some s ∧ vs[i]? = some (.ref a) ∧ RelM K H s a
  | _, _, _, _, _, _, .nil, e => by simp [mpos] at e
  | _, _, _, k, j, a, .d p r, e => by
    obtain ⟨i, s, e1, e2, e3, e4⟩ := AR.back (k + 1) (j := j) (a := a) r e
    exact ⟨i + 1, s, by omega, by simpa using e2, by simpa using e3, e4⟩
  | _, _, _, k, j, a, .o h m r, e => by
    unfold mpos at e; rw [if_pos h, List.zip_cons_cons] at e
    rcases List.mem_cons.mp e with z | z
    · cases z; exact ⟨0, _, by omega, rfl, rfl, m⟩
    · obtain ⟨i, s, e1, e2, e3, e4⟩ := AR.back (k + 1) r z
      exact ⟨i + 1, s, by omega, by simpa using e2, by simpa using e3, e4⟩
theorem zip_inj2 {α β : Type} : ∀ {xs : List α} {ys : List β} {i j : α} {a : β}, ys.Nodup → (i, a) ∈ xs.zip ys → (j, a) ∈ xs.zip ys → i = j
  | x :: xs, y :: ys, i, j, a, nd, h1, h2 => by
    rw [List.zip_cons_cons] at h1 h2
    have ⟨n1, n2⟩ := List.nodup_cons.mp nd
    rcases List.mem_cons.mp h1 with z1 | z1
    · rcases List.mem_cons.mp h2 with z2 | z2
      · cases z1; cases z2; rfl
      · cases z1; exact absurd (List.of_mem_zip z2).2 n1
    · rcases List.mem_cons.mp h2 with z2 | z2
      · cases z2; exact absurd (List.of_mem_zip z1).2 n1
      · exact zip_inj2 n2 z1 z2
  | [], _, _, _, _, _, h1, _ => by simp at h1
  | _ :: _, [], _, _, _, _, h1, _ => by simp at h1
theorem zip_fst {α β : Type} : ∀ {xs : List α} {ys : List β}, xs.length = ys.length → (xs.zip ys).map (·.1) = xs
  | [], _, _ => by simp
  | x :: xs, y :: ys, h => by rw [List.zip_cons_cons, List.map_cons, zip_fst (by simpa using h)]
  | _ :: _, [], h => by simp at h
theorem zip_snd {α β : Type} : ∀ {xs : List α} {ys : List β}, xs.length = ys.length → (xs.zip ys).map (·.2) = ys
  | [], [], _ => by simp
  | [], _ :: _, h => by simp at h
  | x :: xs, y :: ys, h => by rw [List.zip_cons_cons, List.map_cons, zip_snd (by simpa using h)]
  | _ :: _, [], h => by simp at h
/-- the start of a def's body -/
theorem AR.start {K : PySem.W.Frag} {H : Hp} {ss : List S} {vs : List V} {as : List Addr} {n : Nat} (r : AR K H ss vs as) (nd : as.Nodup) :
    RelE K ⟨H, (mpos 0 ss).zip as, fun _ => none, []⟩ H (ss ++ List.replicate n .un) (vs.map some ++ List.replicate n none) := by
  have hl := r.length
  have own : ∀ i a, (i, a) ∈ (mpos 0 ss).zip as → ∃ s, ss[i]? = some s ∧ vs[i]? = some (.ref a) ∧ RelM K H s a := fun i a h => by
    obtain ⟨j, s, e1, e2, e3, e4⟩ := r.back 0 h
    have : i = j := by omega
    subst this; exact ⟨s, e2, e3, e4⟩
  have key : ∀ i a, ((mpos 0 ss).zip as).lookup i = some a → (i, a) ∈ (mpos 0 ss).zip as := by
    intro i a
    generalize (mpos 0 ss).zip as = l
    induction l with
    | nil => intro h; cases h
    | cons p l ih =>
      obtain ⟨j, b⟩ := p
      intro h
      rw [List.lookup_cons] at h
      split at h
      · rename_i q; have : i = j := by simpa using q
        subst this; cases h; exact List.mem_cons_self ..
      · exact List.mem_cons_of_mem _ (ih h)
  have key2 : ∀ i a, (i, a) ∈ (mpos 0 ss).zip as → ∃ b, ((mpos 0 ss).zip as).lookup i = some b := by
    intro i a
    generalize (mpos 0 ss).zip as = l
    induction l with
    | nil => intro h; cases h
    | cons p l ih =>
      obtain ⟨j, b⟩ := p
      intro h
      rw [List.lookup_cons]
      split
      · exact ⟨b, rfl⟩
      · rename_i q
        rcases List.mem_cons.mp h with z | z
        · cases z; simp at q
        · exact ih z
  refine ⟨by simp [hl], fun p o h _ => h, fun i a h => ?_, fun a h => ?_, ⟨(fun _ _ z => by cases z), (fun _ _ _ z => by cases z)⟩, fun i => match ((mpos 0 ss).zip as).lookup i with | some a => [a] | none => [], fun i j a h1 h2 => ?_, fun i a h => ?_, fun i s h => ?_⟩
  · obtain ⟨s, e1, e2, e3⟩ := own i a h
    have hi : i < vs.length := by
      rcases Nat.lt_or_ge i vs.length with z | z
      · exact z
      · rw [List.getElem?_eq_none z] at e2; cases e2
    rw [List.getElem?_append_left (by simpa using hi), List.getElem?_map, e2]; rfl
  · have h : a ∈ ((mpos 0 ss).zip as).map (·.2) ++ [] := h
    rw [List.append_nil] at h
    obtain ⟨p, hp, rfl⟩ := List.mem_map.mp h
    obtain ⟨s, e1, e2, e3⟩ := own p.1 p.2 hp
    obtain ⟨u, e, _⟩ := e3.soft
    rw [e]; simp
  · dsimp only at h1 h2
    split at h1
    · rename_i b hb
      split at h2
      · rename_i c hc
        simp only [List.mem_cons, List.not_mem_nil, or_false] at h1 h2
        subst h1; subst h2
        exact zip_inj2 nd (key _ _ hb) (key _ _ hc)
      · cases h2
    · cases h1
  · dsimp only at h
    split at h
    · rename_i b hb
      simp only [List.mem_cons, List.not_mem_nil, or_false] at h
      subst h
      exact ⟨.inl (List.mem_append_left _ (List.mem_map.mpr ⟨_, key _ _ hb, rfl⟩)), by simp⟩
    · cases h
  · by_cases hi : i < ss.length
    · rw [List.getElem?_append_left hi] at h
      rw [List.getElem?_append_left (by simpa [← hl] using hi), List.getElem?_map]
      rcases r.get 0 h with ⟨x, v, rfl, e2, e3⟩ | ⟨hm, a, e1, e2, e3⟩
      · have no : ((mpos 0 ss).zip as).lookup i = none := by
          cases q : ((mpos 0 ss).zip as).lookup i with
          | none => rfl
          | some b =>
            obtain ⟨s', f1, f2, f3⟩ := own i b (key _ _ q)
            rw [h] at f1; cases f1
            exact f3.elim
        dsimp only
        rw [no, e2]
        exact ⟨rfl, v, rfl, e3⟩
      · rw [Nat.zero_add] at e3
        obtain ⟨b, hb⟩ := key2 i a e3
        obtain ⟨s', f1, f2, f3⟩ := own i b (key _ _ hb)
        rw [e1] at f2; cases f2
        dsimp only
        rw [hb, e1]
        exact RelS.ofMut hm rfl e2
    · have hi' : ss.length ≤ i := Nat.le_of_not_lt hi
      rw [List.getElem?_append_right hi'] at h
      have hs : s = .un := by
        have := List.mem_of_getElem? h
        exact (List.mem_replicate.mp this).2
      subst hs
      have no : ((mpos 0 ss).zip as).lookup i = none := by
        cases q : ((mpos 0 ss).zip as).lookup i with
        | none => rfl
        | some b =>
          obtain ⟨s', f1, f2, f3⟩ := own i b (key _ _ q)
          rw [List.getElem?_eq_none hi'] at f1; cases f1
      dsimp only
      rw [no]; rfl
/-- the mutable arguments at the end -/
def finO : List Nat → Env → (List S → Prop) → Prop
  | [], _, Q => Q []
  | i :: is, E, Q => match E[i]? with
    | some (.ol xs) => finO is E fun outs => Q (.ol xs :: outs)
    | some (.dt xs) => finO is E fun outs => Q (.dt xs :: outs)
    | some (.dk xs) => finO is E fun outs => Q (.dk xs :: outs)
    | _ => False
theorem finO_rel {K : PySem.W.Frag} {G : Gh} {H : Hp} {E : Env} {σ : St} (r : RelE K G H E σ) : ∀ {slots : List Nat} {as : List Addr} {Q : List S → Prop}, slots.length = as.length → (∀ p ∈ slots.zip as, p ∈ G.own) → finO slots E Q → ∃ outs, Q outs ∧ Paired (RelM K H) outs as
  | [], [], Q, _, _, h => ⟨[], h, .nil⟩
  | i :: is, a :: as, Q, hl, hs, h => by
    have key : ∀ s : S, E[i]? = some s → s.isMut = true → finO is E (fun outs => Q (s :: outs)) → ∃ outs, Q outs ∧ Paired (RelM K H) outs (a :: as) := fun s he hm h => by
      have hp := r.pin i a (hs (i, a) (by simp))
      obtain ⟨b, e1, e2⟩ := r.mutAt he hm
      rw [hp] at e1
      have : a = b := by injection e1 with z; injection z with z; injection z
      subst this
      obtain ⟨outs, q, p⟩ := finO_rel r (slots := is) (as := as) (by simpa using hl) (fun p hp => hs p (by rw [List.zip_cons_cons]; exact List.mem_cons_of_mem _ hp)) h
      exact ⟨_, q, .cons e2 p⟩
    unfold finO at h
    split at h
    · rename_i xs he; exact key _ he rfl h
    · rename_i xs he; exact key _ he rfl h
    · rename_i xs he; exact key _ he rfl h
    · exact h.elim
  | [], _ :: _, _, hl, _, _ => by simp at hl
  | _ :: _, [], _, hl, _, _ => by simp at hl
/-- THE RULE for a def -/
theorem fn_okD {P : Program} {w : World} {K : PySem.W.Frag} {mg : Str → Option Value} {base : Heap} {x qual : Str} {st : Stmt} {f : Addr} {fd : FuncData} {N ps : List Str} {k : Nat} {sp : SpD} {slots : List Nat} {tb : TSd}
    (F : Fun K x qual st f fd) (Sc : FnScope N ps (defScope st)) (shape : ∀ ss QD, sp ss QD → ss.length = ps.length ∧ mpos 0 ss = slots)
    (body : ∀ (cdv : Value) (A : Around) (outer : List PySem.Env) (s : Shared) (H : Hp) (E : XK), Room k (A.deeper (envOfC qual (defScope st) s.heap.objs.size f cdv)) → ∀ G : Gh, G.slots = slots →
      SDs (cxOf CX0 P w K mg base N qual (defScope st) f cdv A outer s H E).nox G (defBody st) tb)
    (read : ∀ ss QD, sp ss QD → tb { nx := fun E' => finO slots E' (QD .none), rt := fun d E' => finO slots E' (QD d) } (ss ++ List.replicate (N.length - ps.length) .un)) :
    FnOk P w K mg base CX0 (k + 1) f fd ps (spL K sp) := by
  refine F.ok Sc (fun vs H Q E h => ?_) (fun cdv A outer s H vs Q E hr h => ?_)
  · obtain ⟨ss, as, QD, h1, h2, _⟩ := h
    rw [← h2.length]; exact (shape ss QD h1).1
  · obtain ⟨ss, as, QD, h1, h2, nd, h4⟩ := h
    obtain ⟨hl, hm⟩ := shape ss QD h1
    have ml := h2.mlen 0
    have hG : (⟨H, (mpos 0 ss).zip as, fun _ => none, []⟩ : Gh).slots = slots := by show ((mpos 0 ss).zip as).map (·.1) = slots; rw [zip_fst ml, hm]
    have hA : (⟨H, (mpos 0 ss).zip as, fun _ => none, []⟩ : Gh).addrs = as := by show ((mpos 0 ss).zip as).map (·.2) ++ [] = as; rw [zip_snd ml, List.append_nil]
    refine ⟨_, (body cdv A outer s H E hr ⟨H, (mpos 0 ss).zip as, fun _ => none, []⟩ hG).pss, ?_⟩
    have hst : L2.start N vs = vs.map some ++ List.replicate (N.length - ps.length) none := by unfold L2.start; rw [← h2.length, hl]
    refine ⟨ss ++ List.replicate (N.length - ps.length) .un, { nx := fun E' => finO slots E' (QD .none), rt := fun d E' => finO slots E' (QD d) }, by rw [hst]; exact h2.start nd, read ss QD h1, fun E' σ' H' q x r => ?_, fun d E' v σ' H' q x r p => ?_, fun _ _ _ q => False.elim q, fun _ _ _ q => False.elim q⟩
    · obtain ⟨outs, q1, p1⟩ := finO_rel r (as := as) (by rw [← hm]; exact ml) (by rw [← hm]; exact fun p hp => hp) q
      exact h4 .none outs .non H' q1 (fun p o e ne => r.keep p o e (by rw [hA]; exact ne)) p1 .non
    · obtain ⟨outs, q1, p1⟩ := finO_rel r (as := as) (by rw [← hm]; exact ml) (by rw [← hm]; exact fun p hp => hp) q
      exact h4 d outs v H' q1 (fun p o e ne => r.keep p o e (by rw [hA]; exact ne)) p1 p
/-! ### a call of a def -/
def oixs : List Arg → List Nat
  | [] => []
  | .v _ :: as => oixs as
  | .o i :: as => i :: oixs as
def argS (E : Env) : List Arg → Option (List S)
  | [] => some []
  | .v x :: as => (argS E as).map (.d x :: ·)
  | .o i :: as => match E[i]? with
    | some (.ol xs) => (argS E as).map (.ol xs :: ·)
    | some (.dt xs) => (argS E as).map (.dt xs :: ·)
    | some (.dk xs) => (argS E as).map (.dk xs :: ·)
    | _ => none
def putO : List Arg → List S → Env → Env
  | .v _ :: as, outs, E => putO as outs E
  | .o i :: as, s :: outs, E => putO as outs (E.set i s)
  | _, _, E => E
def ndp : List Nat → Bool
  | [] => true
  | i :: is => !is.contains i && ndp is
def tCallD (sp : SpD) (ta : TAd) : TD := fun E Q => ta E fun as E1 => match argS E1 as with
  | some ss => ndp (oixs as) = true ∧ sp ss fun r outs => Q r (putO as outs E1)
  | none => False
section
variable {K : PySem.W.Frag} {G : Gh} {H H' : Hp} {E : Env} {σ : St}
abbrev MutAt (σ : St) (E : Env) : Nat → Addr → Prop := fun i a => σ[i]? = some (some (.ref a)) ∧ ∃ s : S, E[i]? = some s ∧ s.isMut = true
theorem RelA.args (r : RelE K G H E σ) : ∀ {as : List Arg} {ss : List S} {vs : List V}, RelA K H σ as vs → argS E as = some ss → ∃ addrs, AR K H ss vs addrs ∧ Paired (MutAt σ E) (oixs as) addrs
  | _, _, _, .nil, e => by cases e; exact ⟨[], .nil, .nil⟩
  | _, _, _, .v (as := as) p t, e => by
    unfold argS at e
    cases q : argS E as with
    | none => rw [q] at e; cases e
    | some ss' =>
      rw [q] at e; cases e
      obtain ⟨ad, a1, a2⟩ := RelA.args r t q
      exact ⟨ad, .d p a1, a2⟩
  | _, ss, _, .o (i := i) (v := v0) (as := as) (vs := vs0) hs t, e => by
    have key : ∀ s : S, E[i]? = some s → s.isMut = true → (argS E as).map (s :: ·) = some ss → ∃ addrs, AR K H ss (v0 :: vs0) addrs ∧ Paired (MutAt σ E) (oixs (.o i :: as)) addrs := fun s he hm e => by
      cases q : argS E as with
      | none => rw [q] at e; cases e
      | some ss' =>
        rw [q] at e; cases e
        obtain ⟨ad, a1, a2⟩ := RelA.args r t q
        obtain ⟨a, e1, e2⟩ := r.mutAt he hm
        rw [hs] at e1; cases e1
        exact ⟨a :: ad, .o hm e2 a1, .cons ⟨hs, s, he, hm⟩ a2⟩
    unfold argS at e
    split at e
    · rename_i xs he; exact key _ he rfl e
    · rename_i xs he; exact key _ he rfl e
    · rename_i xs he; exact key _ he rfl e
    · cases e
theorem Paired.mem2 {α β : Type} {F : α → β → Prop} : ∀ {xs : List α} {ys : List β} {y : β}, Paired F xs ys → y ∈ ys → ∃ x ∈ xs, F x y
  | _, _, _, .cons r t, h => by
    rcases List.mem_cons.mp h with rfl | z
    · exact ⟨_, List.mem_cons_self .., r⟩
    · obtain ⟨x, hx, f⟩ := Paired.mem2 t z; exact ⟨x, List.mem_cons_of_mem _ hx, f⟩
  | _, _, _, .nil, h => by cases h
theorem addrs_nodup (r : RelE K G H E σ) : ∀ {is : List Nat} {ad : List Addr}, ndp is = true → Paired (MutAt σ E) is ad → ad.Nodup
  | [], [], _, _ => List.nodup_nil
  | i :: is, a :: ad, h, .cons p t => by
    unfold ndp at h
    simp only [Bool.and_eq_true, Bool.not_eq_true'] at h
    refine List.nodup_cons.mpr ⟨fun z => ?_, addrs_nodup r h.2 t⟩
    obtain ⟨j, hj, e1, s2, e2, m2⟩ := Paired.mem2 t z
    obtain ⟨l, k, pn, dm, x0, A, h1, h2, h3⟩ := r
    obtain ⟨p1, s1, p2, m1⟩ := p
    obtain ⟨b, f1, f2, _⟩ := (h3 i _ p2).mut m1
    obtain ⟨c, g1, g2, _⟩ := (h3 j _ e2).mut m2
    rw [p1] at f2; cases f2
    rw [e1] at g2; cases g2
    have : i = j := h1 i j a (by rw [f1]; simp) (by rw [g1]; simp)
    subst this
    have := h.1
    simp at this
    exact this hj
/-- what is soft is no tuple, nothing frozen -/
theorem Ext.ofSoft {ad : List Addr} (keep : ∀ p o, H p = some o → p ∉ ad → H' p = some o) (soft : ∀ a ∈ ad, Soft H a) : Ext H H' :=
  ⟨fun a xs e => keep a _ e fun z => (by
      obtain ⟨u, f, g1, g2⟩ := soft a z
      rw [e] at f
      injection f with f
      exact g1 xs f.symm), fun a o v e => keep a _ e fun z => (by
      obtain ⟨u, f, g1, g2⟩ := soft a z
      rw [e] at f
      injection f with f
      exact g2 o v f.symm)⟩
/-- behind a call: the mutable arguments have changed -/
theorem RelX.puts : ∀ {as : List Arg} {outs : List S} {ad : List Addr} {E : Env}, ndp (oixs as) = true → RelE K G H E σ → (∀ p o, H p = some o → p ∉ ad → H' p = some o) → (∀ a ∈ ad, Soft H a) → Paired (RelM K H') outs ad →
    Paired (MutAt σ E) (oixs as) ad → RelE K G H' (putO as outs E) σ := by
  -- all at once: the environment with new contents
  intro as outs ad E nd r keep islst pr po
  have adn := addrs_nodup r nd po
  have ext : Ext H H' := Ext.ofSoft keep islst
  obtain ⟨l, k, pn, dm, x0, A, h1, h2, h3⟩ := r
  have own : ∀ a ∈ ad, a ∈ G.addrs ∨ G.H0 a = none := fun a ha => by
    obtain ⟨i, hi, e1, s, e2, m⟩ := Paired.mem2 po ha
    obtain ⟨b, f1, f2, _⟩ := (h3 i _ e2).mut m
    rw [e1] at f2; cases f2
    exact (h2 i a (by rw [f1]; simp)).1
  have there : ∀ (ad : List Addr) (outs : List S), Paired (RelM K H') outs ad → ∀ a ∈ ad, Soft H' a := by
    intro ad outs p
    induction p with
    | nil => intro a h; cases h
    | cons q t ih =>
      intro a h
      rcases List.mem_cons.mp h with rfl | z
      · exact q.soft
      · exact ih a z
  -- the slots that are not put keep their relation, those that are put have the new one
  have step : ∀ (as : List Arg) (outs : List S) (ad : List Addr) (E1 : Env), ndp (oixs as) = true → Paired (RelM K H') outs ad → Paired (MutAt σ E) (oixs as) ad →
      (∀ i, i ∉ oixs as → ∀ s, E1[i]? = some s → RelS K H' s σ[i]? (A i)) → E1.length = E.length →
      (∀ i s, (putO as outs E1)[i]? = some s → RelS K H' s σ[i]? (A i)) ∧ (putO as outs E1).length = E.length := by
    intro as
    induction as with
    | nil =>
      intro outs ad E1 _ _ _ h hl
      have e : DL.putO [] outs E1 = E1 := by cases outs <;> rfl
      rw [e]; exact ⟨fun i s q => h i (by simp [oixs]) s q, hl⟩
    | cons x as ih =>
      intro outs ad E1 nd p q h hl
      cases x with
      | v x =>
        have e : DL.putO (.v x :: as) outs E1 = DL.putO as outs E1 := by cases outs <;> rfl
        rw [e]
        exact ih outs ad E1 nd p q h hl
      | o i =>
        cases q with
        | cons q1 q2 =>
          rename_i a0 ad0
          cases p with
          | cons p1 p2 =>
            rename_i s0 outs0
            have nd' : ndp (i :: oixs as) = true := nd
            unfold ndp at nd'
            simp only [Bool.and_eq_true, Bool.not_eq_true'] at nd'
            have e : DL.putO (.o i :: as) (s0 :: outs0) E1 = DL.putO as outs0 (E1.set i s0) := rfl
            rw [e]
            refine ih outs0 ad0 (E1.set i s0) nd'.2 p2 q2 (fun j hj s e => ?_) (by rw [List.length_set]; exact hl)
            by_cases z : j = i
            · subst z
              by_cases hlj : j < E1.length
              · rw [List.getElem?_set_self hlj] at e
                cases e
                obtain ⟨q3, ys, q4, q5⟩ := q1
                obtain ⟨b, f1, f2, _⟩ := (h3 j _ q4).mut q5
                rw [q3] at f2; cases f2
                rw [f1]
                exact RelS.ofMut p1.isMut q3 p1
              · rw [List.getElem?_eq_none (by simpa using hlj)] at e; cases e
            · rw [List.getElem?_set_ne (Ne.symm z)] at e
              exact h j (by simp [oixs, z, hj]) s e
  have base : ∀ i, i ∉ oixs as → ∀ s, E[i]? = some s → RelS K H' s σ[i]? (A i) := fun i hi s e => by
    have hs := h3 i s e
    refine hs.move ext fun a ha => ?_
    have : a ∉ ad := fun z => by
      obtain ⟨j, hj, e1, s2, e2, m2⟩ := Paired.mem2 po z
      obtain ⟨b, f1, f2, _⟩ := (h3 j _ e2).mut m2
      rw [e1] at f2; cases f2
      have : i = j := h1 i j a ha (by rw [f1]; simp)
      subst this; exact hi hj
    obtain ⟨u, hu, _⟩ := hs.indom a ha
    rw [hu]; exact keep a u hu this
  obtain ⟨s1, s2⟩ := step as outs ad E nd pr po base rfl
  refine ⟨by rw [s2]; exact l, fun p o e ne => ?_, pn, fun a ha => ?_, x0.trans ext, A, h1, h2, s1⟩
  · refine keep p o (k p o e ne) fun z => ?_
    rcases own p z with q | q
    · exact ne q
    · rw [q] at e; cases e
  · by_cases z : a ∈ ad
    · obtain ⟨u, e, _⟩ := there ad outs pr a z; rw [e]; simp
    · cases q : H a with
      | none => exact absurd q (dm a ha)
      | some o => rw [keep a o q z]; simp
theorem Paired.keys {α β : Type} {F : α → β → Prop} : ∀ {xs : List α} {ys : List β}, Paired F xs ys → ∀ y ∈ ys, ∃ x, F x y
  | _, _, .cons r t, y, h => by
    rcases List.mem_cons.mp h with rfl | z
    · exact ⟨_, r⟩
    · exact Paired.keys t y z
  | _, _, .nil, _, h => by cases h
end
section
variable {X : Cx} {G : Gh} {e : Expr} {es : List Expr} {pos p : Pos} {x : Str} {f : Addr} {fd : FuncData} {ps : List Str} {k : Nat} {sp : SpD} {ta : TAd} {CX : CXT}
theorem lift_call (σ : St) (H : Hp) (Q : VK) (E : XK) (h : liftE X.K G (tCallD sp ta) σ H Q) : tCall (spL X.K sp) [] E (liftA X.K G ta) σ H Q := by
  obtain ⟨E0, QE, r, q, kk⟩ := h
  refine ⟨E0, _, r, q, fun as E1 vs H1 q1 x1 r1 p1 => ?_⟩
  show spL X.K sp (vs ++ []) H1 Q E
  rw [List.append_nil]
  split at q1
  · rename_i ss hs
    obtain ⟨nd, q1⟩ := q1
    obtain ⟨ad, ar, po⟩ := RelA.args r1 p1 hs
    have adn := addrs_nodup r1 nd po
    refine ⟨ss, ad, _, q1, ar, adn, fun d outs v H' q2 keep pr pd => ?_⟩
    have islst : ∀ a ∈ ad, Soft H1 a := fun a ha => by
      obtain ⟨i, hi, e1, s, e2, m⟩ := Paired.mem2 po ha
      obtain ⟨b, f1, f2⟩ := r1.mutAt e2 m
      rw [e1] at f1; cases f1; exact f2.soft
    have ext : Ext H1 H' := Ext.ofSoft keep islst
    exact kk d _ v H' q2 (x1.trans ext) (RelX.puts nd r1 keep islst pr po) pd
  · exact q1.elim
theorem ed_call (F : FnOk X.prog X.w X.K X.mg X.base CX0 k f fd ps (spL X.K sp)) (hr : Room k X.A) (hg : Gl X x) (hm : X.mg x = some (.ref f)) (hk : PySem.W.keepIn X.K (.ref f) = true) (hb : Binds X.K fd ps []) (ha : EA X G (e :: es) ta) (hdb : (x == ("__debug__" : Str)) = false := by decide)
    (hs : starEach (e :: es) X.env = (false, eval e X.env) :: starEach es X.env := by rfl) (hplain : (backTo pos (starEach es X.env)).any (·.1) = false := by rfl) : ED X G (.Call (.Name x p) (e :: es) [] pos) (tCallD sp ta) :=
  ⟨PE.weak (pe_call (dvs := []) (E := fun _ _ _ => False) F hr hg hm hk hb .nil pass0 ha.pa (hdb := hdb) (he := hs) (hpl := hplain)) fun σ H Q h => lift_call σ H Q _ h⟩
end
end DL
set_option Elab.async false
set_option linter.all false
set_option maxRecDepth 100000
namespace DL
open PySem PySem.Spec PyProof.Rows L2
/-! ### lists of one's own change -/
section
variable {X : Cx} {G : Gh} {a b c e : Expr} {es : List Expr} {pos apos cpos p0 : Pos} {x : Str}
def tApp (i : Nat) (t : TD) : TD := fun E Q => match E[i]? with
  | some (.ol _) => t E fun d E1 => match E1[i]? with
    | some (.ol xs) => xs.length < sizeLine ∧ Q .none (E1.set i (.ol (xs ++ [d])))
    | _ => False
  | _ => False
theorem ed_app (i : Nat) {t : TD} (h : ED X G e t) (hN : X.N[i]? = some x := by rfl) (hv : Vis X.env.scope x := by first | exact Or.inl rfl | exact Or.inr (Or.inl rfl) | exact Or.inr (Or.inr rfl)) (hd : (x == ("__debug__" : Str)) = false := by decide)
    (hcd : (x == ("__classdict__" : Str)) = false := by decide)
    (hbase : attributeBase (.Name x p0) "append" X.env (eval (.Name x p0) X.env) = eval (.Name x p0) X.env := by rfl)
    (hfew : ((backTo cpos (starEach [e] X.env)).all (fun x => !x.1) && (backToKw cpos (keywordEach [] X.env)).all (fun x => x.1.isSome)
      && decide (([e] : List Expr).length + ([] : List Keyword).length + (if ([] : List Keyword).isEmpty then 0 else 1) < 30)) = true := by rfl)
    (hline : (apos.endLine == cpos.line) = true := by rfl) (hs : starEach [e] X.env = (false, eval e X.env) :: starEach [] X.env := by rfl) (hplain : (backTo cpos (starEach [] X.env)).any (·.1) = false := by rfl) :
    ED X G (.Call (.Attribute (.Name x p0) "append" apos) [e] [] cpos) (tApp i t) :=
  ⟨PE.weak (pe_bm PySem.F.plainAttrs_list PySem.F.slot_list_append PySem.F.type_list_append mt_append (pe_var hN hv hd hcd) (pa_cons h.pe pa_nil hs) hbase hfew hline hs hplain) fun σ H Q ⟨E, QE, r, q, k⟩ => by
    unfold tApp at q
    split at q
    · rename_i xs0 he0
      obtain ⟨l, vs0, e1, e2, e3⟩ := r.ol he0
      refine ⟨_, e1, .inl ⟨rfl, _, SqL.of e2⟩, E, _, r, q, fun d E1 v H1 q1 x1 r1 p1 => ?_⟩
      split at q1
      · rename_i xs he
        obtain ⟨l', vs, f1, f2, f3⟩ := r1.ol he
        rw [e1] at f1; cases f1
        refine ⟨l, vs, v, rfl, rfl, f2, by rw [← f3.length]; exact q1.1, ?_⟩
        exact k _ _ _ _ q1.2 (x1.trans (Ext.put f2)) (r1.putL he e1 (RpL.append f3 (.cons p1 .nil))) .non
      · exact q1.elim
    · exact q.elim⟩
def tExtd (i : Nat) (t : TLd) : TD := fun E Q => match E[i]? with
  | some (.ol _) => t E fun ys E1 => match E1[i]? with
    | some (.ol xs) => xs.length + ys.length ≤ sizeLine ∧ Q .none (E1.set i (.ol (xs ++ ys)))
    | _ => False
  | _ => False
theorem ed_extd (i : Nat) {t : TLd} (h : EL X G e t) (hN : X.N[i]? = some x := by rfl) (hv : Vis X.env.scope x := by first | exact Or.inl rfl | exact Or.inr (Or.inl rfl) | exact Or.inr (Or.inr rfl)) (hd : (x == ("__debug__" : Str)) = false := by decide)
    (hcd : (x == ("__classdict__" : Str)) = false := by decide)
    (hbase : attributeBase (.Name x p0) "extend" X.env (eval (.Name x p0) X.env) = eval (.Name x p0) X.env := by rfl)
    (hfew : ((backTo cpos (starEach [e] X.env)).all (fun x => !x.1) && (backToKw cpos (keywordEach [] X.env)).all (fun x => x.1.isSome)
      && decide (([e] : List Expr).length + ([] : List Keyword).length + (if ([] : List Keyword).isEmpty then 0 else 1) < 30)) = true := by rfl)
    (hline : (apos.endLine == cpos.line) = true := by rfl) (hs : starEach [e] X.env = (false, eval e X.env) :: starEach [] X.env := by rfl) (hplain : (backTo cpos (starEach [] X.env)).any (·.1) = false := by rfl) :
    ED X G (.Call (.Attribute (.Name x p0) "extend" apos) [e] [] cpos) (tExtd i t) :=
  ⟨PE.weak (pe_bm PySem.F.plainAttrs_list PySem.F.slot_list_extend PySem.F.type_list_extend mt_extend (pe_var hN hv hd hcd) (pa_cons h.pe pa_nil hs) hbase hfew hline hs hplain) fun σ H Q ⟨E, QE, r, q, k⟩ => by
    unfold tExtd at q
    split at q
    · rename_i xs0 he0
      obtain ⟨l, vs0, e1, e2, e3⟩ := r.ol he0
      refine ⟨_, e1, .inl ⟨rfl, _, SqL.of e2⟩, E, _, r, q, fun ys E1 b us H1 q1 x1 r1 h0 na hb p1 => ?_⟩
      split at q1
      · rename_i xs he
        obtain ⟨l', vs, f1, f2, f3⟩ := r1.ol he
        rw [e1] at f1; cases f1
        refine ⟨l, b, vs, us, rfl, rfl, f2, hb, by rw [← f3.length, ← p1.length]; exact q1.1, ?_⟩
        exact k _ _ _ _ q1.2 (x1.trans (Ext.put f2)) (r1.weak.putL he e1 (RpL.append f3 p1)) .non
      · exact q1.elim
    · exact q.elim⟩
def tPopAt (i : Nat) (t : TD) : TD := fun E Q => match E[i]? with
  | some (.ol _) => t E fun d E1 => match d, E1[i]? with
    | .int k, some (.ol xs) => (0 ≤ k ∧ k < xs.length ∧ k < 2 ^ 63) ∧ ∀ y, xs[k.toNat]? = some y → Q y (E1.set i (.ol (xs.eraseIdx k.toNat)))
    | _, _ => False
  | _ => False
/-- an item is put -/
def putD (xs : List D) (k : Int) (d : D) (Q : List D → Prop) : Prop := match ixN xs.length k with
  | some n => Q (xs.set n d)
  | none => False
/-- xs[k] = e -/
def sSetIx (i : Nat) (tk te : TD) : TSd := fun DE E => te E fun d E1 => match E1[i]? with
  | some (.ol _) => tk E1 fun j E2 => match j, E2[i]? with
    | .int k, some (.ol xs) => putD xs k d fun ys => DE.nx (E2.set i (.ol ys))
    | _, _ => False
  | _ => False
theorem sd_setIx (i : Nat) {ix : Expr} {tk te : TD} (hk : ED X G ix tk) (he : ED X G e te) (hN : X.N[i]? = some x := by rfl) (hv : Vis X.env.scope x := by first | exact Or.inl rfl | exact Or.inr (Or.inl rfl) | exact Or.inr (Or.inr rfl)) (hd : (x == ("__debug__" : Str)) = false := by decide)
    (hcd : (x == ("__classdict__" : Str)) = false := by decide)
    (ha : ∀ v, assign (.Subscript (.Name x p0) ix apos) X.env v = (do
      let ov ← holding [v] (eval (.Name x p0) X.env)
      let iv ← holding [v, ov] (eval ix X.env)
      standAt apos
      holding [v, ov, iv] (setItem ov iv v)
      release [v, ov, iv] []) := by intro _; rfl)
    (hs : swapsWithSole [.Subscript (.Name x p0) ix apos] e pos.line X.env = pure false := by rfl) (hw : swappedStores [.Subscript (.Name x p0) ix apos] e X.env = pure none := by rfl)
    (hb : (assignEach [.Subscript (.Name x p0) ix apos] X.env).map (·.2) = [assign (.Subscript (.Name x p0) ix apos) X.env] := by rfl) :
    SD X G (.Assign [.Subscript (.Name x p0) ix apos] e pos) (sSetIx i tk te) :=
  ⟨PS.weak (ps_asg he.pe (pg_sub (pe_var hN hv hd hcd) hk.pe set_list ha) hs hw hb) fun F σ H ⟨E, DE, r, q, k1, k2, k3, k4⟩ => ⟨E, _, r, q, fun d E1 v H1 q1 x1 r1 p1 => by
    split at q1
    · rename_i xs0 he0
      obtain ⟨l, vs0, e1, e2, e3⟩ := r1.ol he0
      refine ⟨_, e1, E1, _, r1, q1, fun j E2 u H2 q2 x2 r2 p2 => ?_⟩
      split at q2
      · rename_i d0 o0 k xs he
        cases p2
        unfold putD at q2
        split at q2
        · rename_i n hn
          obtain ⟨l', vs, f1, f2, f3⟩ := r2.ol he
          rw [e1] at f1; cases f1
          refine ⟨l, vs, k, n, rfl, rfl, f2, by rw [← f3.length]; exact hn, ?_⟩
          exact k1 _ _ _ q2 ((x1.trans x2).trans (Ext.put f2)) (r2.putL he e1 (RpL.set (p1.ext x2) n f3))
        · exact q2.elim
      · exact q2.elim
    · exact q1.elim⟩⟩
/-! ### several at once -/
abbrev TPs := Env → (List S → Env → Prop) → Prop
/-- new lists at ex, data -/
inductive PVs (K : PySem.W.Frag) (G : Gh) (H : Hp) : List S → List V → List Addr → Prop
  | nil : PVs K G H [] [] []
  | d {x : D} {v : V} {ss : List S} {vs : List V} {ex : List Addr} : Rp K H x v → PVs K G H ss vs ex → PVs K G H (.d x :: ss) (v :: vs) ex
  | m {s : S} {a : Addr} {ss : List S} {vs : List V} {ex : List Addr} : RelM K H s a → G.H0 a = none → a ∉ G.addrs → a ∉ ex → PVs K G H ss vs ex → PVs K G H (s :: ss) (.ref a :: vs) (a :: ex)
theorem PVs.length {K : PySem.W.Frag} {G : Gh} {H : Hp} : ∀ {ss : List S} {vs : List V} {ex : List Addr}, PVs K G H ss vs ex → ss.length = vs.length
  | _, _, _, .nil => rfl
  | _, _, _, .d _ r => by rw [List.length_cons, List.length_cons, PVs.length r]
  | _, _, _, .m _ _ _ _ r => by rw [List.length_cons, List.length_cons, PVs.length r]
theorem PVs.pext {K : PySem.W.Frag} {G : Gh} {H H' : Hp} (p : PExt H H') : ∀ {ss : List S} {vs : List V} {ex : List Addr}, PVs K G H ss vs ex → PVs K G H' ss vs ex
  | _, _, _, .nil => .nil
  | _, _, _, .d h r => .d (h.ext p.ext) (PVs.pext p r)
  | _, _, _, .m h1 h3 h4 h5 r => .m (h1.move p.ext (by obtain ⟨u, e, _⟩ := h1.soft; rw [e, p _ _ e])) h3 h4 h5 (PVs.pext p r)
theorem PVs.ofPend {K : PySem.W.Frag} {G : Gh} {H : Hp} {a : Addr} {o : HO} : ∀ {ss : List S} {vs : List V} {ex : List Addr}, PVs K (pend G a o) H ss vs ex → PVs K G H ss vs ex ∧ a ∉ ex
  | _, _, _, .nil => ⟨.nil, by simp⟩
  | _, _, _, .d h r => ⟨.d h (PVs.ofPend r).1, (PVs.ofPend r).2⟩
  | _, _, _, .m (a := b) h1 h3 h4 h5 r => by
    have z : b ≠ a := by
      rintro rfl
      have : upd G.H0 b o b = none := h3
      rw [upd_same] at this; cases this
    have h3' : G.H0 b = none := by
      have : upd G.H0 a o b = none := h3
      rw [upd_ne z] at this; exact this
    refine ⟨.m h1 h3' h4 h5 (PVs.ofPend r).1, fun q => ?_⟩
    rcases List.mem_cons.mp q with q | q
    · exact z q.symm
    · exact (PVs.ofPend r).2 q
def liftPs (K : PySem.W.Frag) (G : Gh) (t : TPs) : TA := fun σ H Q => ∃ (E : Env) (QE : List S → Env → Prop), RelE K G H E σ ∧ t E QE ∧ ∀ ss E' vs H' ex, QE ss E' → Ext H H' → RelX K G ex H' E' σ → PVs K G H' ss vs ex → Q vs H'
structure EPs (X : Cx) (G : Gh) (es : List Expr) (t : TPs) : Prop where
  pa : PA X es (liftPs X.K G t)
def pNil : TPs := fun E Q => Q [] E
def pD (t : TD) (u : TPs) : TPs := fun E Q => t E fun x E1 => u E1 fun ss E2 => Q (.d x :: ss) E2
def pL (t : TLd) (u : TPs) : TPs := fun E Q => t E fun xs E1 => u E1 fun ss E2 => Q (.ol xs :: ss) E2
theorem eps_nil : EPs X G [] pNil := ⟨PA.weak pa_nil fun σ H Q ⟨E, QE, r, q, k⟩ => k _ _ _ _ _ q (Ext.refl _) r .nil⟩
theorem eps_d {t : TD} {u : TPs} (h : ED X G e t) (hr : EPs X G es u) (hs : starEach (e :: es) X.env = (false, eval e X.env) :: starEach es X.env := by rfl) : EPs X G (e :: es) (pD t u) :=
  ⟨PA.weak (pa_cons h.pe hr.pa hs) fun σ H Q ⟨E, QE, r, q, k⟩ => ⟨E, _, r, q, fun x E1 v H1 q1 x1 r1 p1 => ⟨E1, _, r1, q1, fun ss E2 vs H2 ex q2 x2 r2 p2 => k _ _ _ _ _ q2 (x1.trans x2) r2 (.d (p1.ext x2) p2)⟩⟩⟩
theorem eps_l {t : TLd} {u : TPs} (h : EL X G e t) (hr : ∀ G' : Gh, G'.slots = G.slots → EPs X G' es u) (hs : starEach (e :: es) X.env = (false, eval e X.env) :: starEach es X.env := by rfl) : EPs X G (e :: es) (pL t u) := by
  have hp : PA X es (fun σ H Q => ∃ G' : Gh, G'.slots = G.slots ∧ liftPs X.K G' u σ H Q) := ⟨fun pos pins s σ H Q I ⟨G', hG', q⟩ => (hr G' hG').pa.run pos pins s σ H Q I q⟩
  refine ⟨PA.weak (pa_cons h.pe hp hs) fun σ H Q ⟨E, QE, r, q, k⟩ => ⟨E, _, r, q, fun xs E1 a us H1 q1 x1 r1 h0 na ha p1 => ?_⟩⟩
  refine ⟨pend G a (.lst us), rfl, E1, _, r1.toPend ha na, q1, fun ss E2 vs H2 ex q2 x2 r2 p2 => ?_⟩
  obtain ⟨r3, ha3⟩ := RelX.ofPend r2 h0 na
  obtain ⟨p3, nx⟩ := PVs.ofPend p2
  exact k _ _ _ _ (a :: ex) q2 (x1.trans x2) r3 (.m (s := .ol xs) ⟨_, ha3, p1.ext x2⟩ h0 na nx p3)
def setAll : Env → List Nat → List S → Env
  | E, i :: is, s :: ss => setAll (E.set i s) is ss
  | E, _, _ => E
def setAllV : St → List Nat → List V → St
  | σ, i :: is, v :: vs => setAllV (σ.set i (some v)) is vs
  | σ, _, _ => σ
theorem RelX.setAll {K : PySem.W.Frag} {G : Gh} {H : Hp} : ∀ {is : List Nat} {ss : List S} {vs : List V} {ex : List Addr} {E : Env} {σ : St}, (∀ i ∈ is, i ∉ G.slots) → is.length = ss.length → RelX K G ex H E σ → PVs K G H ss vs ex → RelE K G H (setAll E is ss) (setAllV σ is vs)
  | [], [], [], _, E, σ, _, _, r, .nil => r
  | i :: is, _, _, _, E, σ, hi, hl, r, .d p t => by
    exact RelX.setAll (is := is) (fun j hj => hi j (List.mem_cons_of_mem _ hj)) (by simpa using hl) (r.setD (hi i (List.mem_cons_self ..)) p) t
  | i :: is, _, _, _, E, σ, hi, hl, r, .m h1 h3 h4 h5 t => by
    exact RelX.setAll (is := is) (fun j hj => hi j (List.mem_cons_of_mem _ hj)) (by simpa using hl) (r.setM h5 (hi i (List.mem_cons_self ..)) h3 h1) t
  | [], _, _, _, _, _, _, hl, _, .d _ _ => by simp at hl
  | [], _, _, _, _, _, _, hl, _, .m _ _ _ _ _ => by simp at hl
  | _ :: _, _, _, _, _, _, _, hl, _, .nil => by simp at hl
def sPar (is : List Nat) (t : TPs) : TSd := fun DE E => t E fun ss E1 => is.length = ss.length ∧ DE.nx (setAll E1 is ss)
/-- x, y = a, b: plain local names -/
theorem sd_par2 {i j : Nat} {x y : Str} {t : TPs} {px py pt : Pos} {kt k2 pt2} (hsl : ∀ n ∈ [i, j], n ∉ G.slots) (hc : X.calm = true) (hN : X.N.Nodup) (hi : X.N[i]? = some x) (hj : X.N[j]? = some y) (hij : i ≠ j)
    (hx : X.env.scope.names.lookup x = some .local) (hy : X.env.scope.names.lookup y = some .local) (ha : EPs X G [a, b] t)
    (hw : swappedStores [.Tuple [.Name x px, .Name y py] kt pt] (.Tuple [a, b] k2 pt2) X.env = pure (some [x, y]) := by rfl)
    (hs : swapsWithSole [.Tuple [.Name x px, .Name y py] kt pt] (.Tuple [a, b] k2 pt2) pos.line X.env = pure false := by rfl) :
    SD X G (.Assign [.Tuple [.Name x px, .Name y py] kt pt] (.Tuple [a, b] k2 pt2) pos) (sPar [i, j] t) :=
  ⟨PS.weak (ps_par hc hN hi hj hij hx hy ha.pa hw hs) fun F σ H ⟨E, DE, r, q, k1, k2, k3, k4⟩ => ⟨E, _, r, q, fun ss E1 vs H1 ex q1 x1 r1 p1 => by
    obtain ⟨hl, q1⟩ := q1
    have hv : vs.length = 2 := by rw [← p1.length, ← hl]; rfl
    match vs, hv, p1 with
    | [v, w], _, p1 => exact ⟨v, w, rfl, k1 _ _ _ q1 x1 (RelX.setAll hsl hl r1 p1)⟩⟩⟩
/-- the targets of names, any; the pair is made -/
theorem sd_parC {tgs : List Expr} {is : List Nat} {t : TPs} {kt k2 : Nat} {pt pt2 : Pos} {n : Nat} (hsl : ∀ i ∈ is, i ∉ G.slots) (hc : X.calm = true) (hz : is.length ≤ sizeLine) (ha : EPs X G es t) (hn : is.length = n)
    (hg : PGs X tgs (fun vs σ H Q => vs.length = n ∧ Q (setAllV σ is vs) H))
    (hn2 : (assignEach tgs X.env).length = n := by rfl) (hst : (assignEach tgs X.env).findIdx? (·.1) = none := by rfl)
    (hs : swapsWithSole [.Tuple tgs kt pt] (.Tuple es k2 pt2) pos.line X.env = pure false := by rfl) (hw : swappedStores [.Tuple tgs kt pt] (.Tuple es k2 pt2) X.env = pure none := by rfl)
    (hb : (assignEach [.Tuple tgs kt pt] X.env).map (·.2) = [assign (.Tuple tgs kt pt) X.env] := by rfl) :
    SD X G (.Assign [.Tuple tgs kt pt] (.Tuple es k2 pt2) pos) (sPar is t) :=
  ⟨PS.weak (ps_asg (pe_tup ha.pa) (pg_tup hc hg hn2 hst) hs hw hb) fun F σ H ⟨E, DE, r, q, k1, k2, k3, k4⟩ => ⟨E, _, r, q, fun ss E1 vs H1 ex q1 x1 r1 p1 => by
    obtain ⟨hl, q1⟩ := q1
    have hv : vs.length = n := by rw [← p1.length, ← hl, hn]
    refine ⟨by rw [hv, ← hn]; exact hz, fun p hp => ⟨p, vs, rfl, SqT.of upd_same, hv, hv, ?_⟩⟩
    have px := PExt.new (o := .tup vs) hp
    exact k1 _ _ _ q1 (x1.trans px.ext) (RelX.setAll hsl hl (r1.pext px) (p1.pext px))⟩⟩
theorem pgs_n0 : PGs X [] (fun vs σ H Q => vs.length = 0 ∧ Q (setAllV σ [] vs) H) := ⟨fun pins s σ H vs us Q I r h => pgs_nil.run pins s σ H vs us Q I r (by
  obtain ⟨h1, h2⟩ := h
  have : vs = [] := List.length_eq_zero_iff.mp h1
  subst this; exact ⟨rfl, h2⟩)⟩
theorem pgs_nS {i n : Nat} {is : List Nat} {tgs : List Expr} {x : Str} {px : Pos} (hN : X.N.Nodup) (hx : X.N[i]? = some x) (hl : Loc X.env.scope x) (h : PGs X tgs (fun vs σ H Q => vs.length = n ∧ Q (setAllV σ is vs) H))
    (hf : X.fn x = true ∨ X.env.scope.names.lookup x = some .local := by first | exact .inl rfl | exact .inr rfl | assumption)
    (hs : (assignEach (.Name x px :: tgs) X.env).map (·.2) = assign (.Name x px) X.env :: (assignEach tgs X.env).map (·.2) := by rfl) :
    PGs X (.Name x px :: tgs) (fun vs σ H Q => vs.length = n + 1 ∧ Q (setAllV σ (i :: is) vs) H) := ⟨fun pins s σ H vs us Q I r h' => (pgs_cons (pg_name hN hx hl hf) h hs).run pins s σ H vs us Q I r (by
  obtain ⟨h1, h2⟩ := h'
  match vs, h1, h2 with
  | v :: vs, h1, h2 => exact ⟨v, vs, rfl, by simpa using h1, h2⟩)⟩
end
end DL
set_option Elab.async false
set_option linter.all false
set_option maxRecDepth 100000
set_option maxHeartbeats 1000000
namespace DL
open PySem PySem.Spec PyProof.Rows L2
section
variable {X : Cx}
/-! ### arithmetic -/
/-- () + t is t -/
theorem op_catT0 : OpR X (binaryOp .Add) (fun x y H Q => ∃ a b ys, x = .ref a ∧ y = .ref b ∧ SqT X.K H a [] ∧ SqT X.K H b ys ∧ Q (.ref b) H) := by
  intro pins s σ H x y v u Q I rx ry h
  obtain ⟨a, b, ys, rfl, rfl, ha, hb, q⟩ := h
  cases rx
  cases ry
  obtain ⟨its, r1, p1, _⟩ := I.tuple ha
  obtain ⟨its2, r2, p2, _⟩ := I.tuple hb
  have e0 : its = [] := r1.nil_iff.mpr rfl
  subst e0
  obtain ⟨⟨cls, dd, data, sl⟩, ho, hc, n, hd⟩ := id p1
  obtain ⟨⟨cls2, dd2, data2, sl2⟩, ho2, hc2, n2, hd2⟩ := id p2
  simp only at hc hd hc2 hd2
  subst hc hd hc2 hd2
  exact concat_meets ⟨_, ho, rfl⟩ ⟨_, ho2, rfl⟩ noFill_tuple_add seq_tuple_add PySem.F.slot_tuple_add PySem.F.entry_tuple_add (PySem.F.args_tuple_add_2 _ _)
      (tuple_addW0 a b [].toArray its2.toArray n n2 dd dd2 sl sl2 rfl) ⟨ho, ho2, ⟨.ref b, H, I, rfl, q⟩⟩
/-- t + u, both with items: a new, plain tuple -/
theorem op_catF : OpR X (binaryOp .Add) (fun x y H Q => ∃ a b xs ys, x = .ref a ∧ y = .ref b ∧ SqT X.K H a xs ∧ SqT X.K H b ys ∧ xs ≠ [] ∧ xs.length + ys.length ≤ sizeLine ∧ (ys = [] → Q (.ref a) H) ∧ (ys ≠ [] → ∀ p o, H p = none → o.dict = none → Q (.ref p) (upd H p (.frz o (.tup (xs ++ ys)))))) := by
  intro pins s σ H x y v u Q I rx ry h
  obtain ⟨a, b, xs, ys, rfl, rfl, ha, hb, hx, hz, q1, q2⟩ := h
  cases rx; cases ry
  obtain ⟨its, r1, p1, _⟩ := I.tuple ha
  obtain ⟨its2, r2, p2, _⟩ := I.tuple hb
  refine HT.cat_tup p1 p2 (fun z => hx (r1.nil_iff.mp z)) (fun z => ⟨.ref a, H, I, rfl, q1 (r2.nil_iff.mp z)⟩) (fun z => ?_) (by rw [← r1.length, ← r2.length]; exact hz)
  refine ⟨.ref s.heap.objs.size, _, I.laid (t' := s.toks) (o := .frz _ (.tup (xs ++ ys))) (fun b ob q => Heap.get?_push_of_some _ q) (Nat.le_refl _) ⟨Heap.get?_push_size _ rfl, ?_⟩, rfl, q2 (fun w => z (r2.nil_iff.mpr w)) _ _ (I.hok.fresh (Nat.le_refl _)) rfl⟩
  exact ⟨by rw [List.length_append]; exact hz, _, r1.append r2, IsTup.new _ _⟩
/-- tuple(xs) of a list: a new, plain tuple -/
theorem call_tupF : CallR X (.type "tuple") (fun xs H Q => ∃ p ys, xs = [.ref p] ∧ ((SqL X.K H p ys ∧ ∀ l o, H l = none → o.dict = none → Q (.ref l) (upd H l (.frz o (.tup ys)))) ∨ (SqT X.K H p ys ∧ Q (.ref p) H))) := by
  intro pins s σ H xs us Q I r h
  obtain ⟨p, ys, rfl, h⟩ := h
  obtain rfl := Vals.ref1 r
  rcases h with ⟨hq, q⟩ | ⟨hq, q⟩
  · obtain ⟨its, r', pl, hz⟩ := I.list hq
    have hlen := r'.length
    refine call_tuple_list pl.isList (fun h' kp => ?_) (by simp only [List.size_toArray] <;> omega)
    have I1 : Inv X pins σ H { s with heap := h' } := I.kept (t' := s.toks) kp
    exact ⟨.ref h'.objs.size, upd H h'.objs.size (.frz { cls := .type "tuple", data := .seq its.toArray } (.tup ys)), I1.laid (t' := s.toks) (fun b o e => Heap.get?_push_of_some _ e) (Nat.le_refl _) ⟨Heap.get?_push_size _ rfl, hz, its, r', IsTup.new _ _⟩, rfl, q _ _ (I1.hok.fresh (Nat.le_refl _)) rfl⟩
  · obtain ⟨its, r', pl, hz⟩ := I.tuple hq
    exact call_tuple_same pl ⟨.ref p, H, I, rfl, q⟩
def opAdd : OpT := fun x y Q => match x, y with
  | .int i, .int j => Q (.int (i + j))
  | .str a, .str b => a.length + b.length ≤ sizeLine ∧ Q (.str (a ++ b))
  | .tuple xs, .tuple ys => xs.length + ys.length ≤ sizeLine ∧ Q (.tuple (xs ++ ys))
  | _, _ => False
theorem od_add : OpD X (binaryOp .Add) opAdd := by
  refine ⟨_, op_add.or (op_add_str.or (op_catF.or op_catT0)), fun x y v u H QD Q hx hy q k => ?_⟩
  cases x with
  | int i =>
    cases y with
    | int j => rw [hx.int, hy.int]; exact .inl ⟨i, j, rfl, rfl, k _ _ _ q (PExt.refl _) (.int _)⟩
    | _ => exact q.elim
  | str i =>
    cases y with
    | str j => rw [hx.str, hy.str]; exact .inr (.inl ⟨i, j, rfl, rfl, q.1, k _ _ _ q.2 (PExt.refl _) (.str _)⟩)
    | _ => exact q.elim
  | tuple xs =>
    cases y with
    | tuple ys =>
      obtain ⟨a, vs, rfl, sa, la⟩ := hx.tupD
      obtain ⟨b, us, rfl, sb, lb⟩ := hy.tupD
      cases la with
      | nil => exact .inr (.inr (.inr ⟨a, b, us, rfl, rfl, sa.1, sb.1, k _ _ _ q.2 (PExt.refl _) (.tup sb lb)⟩))
      | cons p la =>
        rename_i x0 v0 xs0 vs0
        refine .inr (.inr (.inl ⟨a, b, _, us, rfl, rfl, sa.1, sb.1, List.cons_ne_nil _ _, ?_, fun e => ?_, fun _ p0 o hp ho => ?_⟩))
        · have := q.1
          rw [List.length_cons] at this ⊢
          rw [← la.length, ← lb.length]; exact this
        · subst e
          cases lb
          have := q.2
          rw [List.append_nil] at this
          exact k _ _ _ this (PExt.refl _) (.tup sa (.cons p la))
        · have px := PExt.new (o := .frz o (.tup (v0 :: vs0 ++ us))) hp
          exact k _ _ _ q.2 px (.tup (.new ho) ((RpL.append (.cons p la) lb).ext px.ext))
    | _ => exact q.elim
  | _ => exact q.elim
def opI (C : Int → Int → Prop) (g : Int → Int → Int) : OpT := fun x y Q => match x, y with
  | .int i, .int j => C i j ∧ Q (.int (g i j))
  | _, _ => False
def opI0 (g : Int → Int → Int) : OpT := fun x y Q => match x, y with
  | .int i, .int j => Q (.int (g i j))
  | _, _ => False
def opB0 (g : Int → Int → Bool) : OpT := fun x y Q => match x, y with
  | .int i, .int j => Q (.bool (g i j))
  | _, _ => False
theorem od_I {f : Value → Value → Sem Value} {C : Int → Int → Prop} {g : Int → Int → Int} (h : OpR X f (rI C fun i j => .int (g i j))) : OpD X f (opI C g) := ⟨_, h, fun x y v u H QD Q hx hy q k => by
  cases x with
  | int i =>
    cases y with
    | int j => rw [hx.int, hy.int]; exact ⟨i, j, rfl, rfl, q.1, k _ _ _ q.2 (PExt.refl _) (.int _)⟩
    | _ => exact q.elim
  | _ => exact q.elim⟩
theorem od_I0 {f : Value → Value → Sem Value} {g : Int → Int → Int} (h : OpR X f (rI0 fun i j => .int (g i j))) : OpD X f (opI0 g) := ⟨_, h, fun x y v u H QD Q hx hy q k => by
  cases x with
  | int i =>
    cases y with
    | int j => rw [hx.int, hy.int]; exact ⟨i, j, rfl, rfl, k _ _ _ q (PExt.refl _) (.int _)⟩
    | _ => exact q.elim
  | _ => exact q.elim⟩
theorem od_B0 {f : Value → Value → Sem Value} {g : Int → Int → Bool} (h : OpR X f (rI0 fun i j => .bl (g i j))) : OpD X f (opB0 g) := ⟨_, h, fun x y v u H QD Q hx hy q k => by
  cases x with
  | int i =>
    cases y with
    | int j => rw [hx.int, hy.int]; exact ⟨i, j, rfl, rfl, k _ _ _ q (PExt.refl _) (.bl _)⟩
    | _ => exact q.elim
  | _ => exact q.elim⟩
def opSub : OpT := opI0 fun i j => i - j
theorem od_sub : OpD X (binaryOp .Sub) opSub := od_I0 op_sub
def opMul : OpT := opI CMulW fun i j => i * j
theorem od_mul : OpD X (binaryOp .Mult) opMul := od_I op_mulW
def opDiv : OpT := opI CDivW fun i j => i / j
theorem od_div : OpD X (binaryOp .FloorDiv) opDiv := od_I op_fdivW
def opMod : OpT := opI (fun _ j => 0 < j) fun i j => i % j
theorem od_mod : OpD X (binaryOp .Mod) opMod := od_I op_mod
def opPow : OpT := opI CPow fun i j => i ^ j.toNat
def unNeg : UnT := fun x Q => match x with
  | .int i => Q (.int (-i))
  | _ => False
theorem ud_neg : UnD X (unaryOp .USub) unNeg := ⟨_, un_neg, fun x v H QD Q hx q k => by
  cases x with
  | int i => rw [hx.int]; exact ⟨i, rfl, k _ _ _ q (PExt.refl _) (.int _)⟩
  | _ => exact q.elim⟩
/-! ### comparisons -/
def opEq : OpT := fun x y Q => (SeqAt.shaped x = true ∧ SeqAt.shaped y = true) ∧ Q (.bool (PyData.eqv x y))
def opNe : OpT := fun x y Q => (SeqAt.shaped x = true ∧ SeqAt.shaped y = true) ∧ Q (.bool (!PyData.eqv x y))
theorem od_eq (hu : X.A.units + 64 < cLine) : OpD X (compareOp .Eq) opEq := ⟨_, op_eqD hu, fun x y v u H QD Q hx hy q k => ⟨x, y, hx.dp (SeqAt.canLay_of_shaped q.1.1), hy.dp (SeqAt.canLay_of_shaped q.1.2), q.1.1, q.1.2, k _ _ _ q.2 (PExt.refl _) (.bl _)⟩⟩
theorem od_ne (hu : X.A.units + 64 < cLine) : OpD X (compareOp .NotEq) opNe := ⟨_, op_neD hu, fun x y v u H QD Q hx hy q k => ⟨x, y, hx.dp (SeqAt.canLay_of_shaped q.1.1), hy.dp (SeqAt.canLay_of_shaped q.1.2), q.1.1, q.1.2, k _ _ _ q.2 (PExt.refl _) (.bl _)⟩⟩
def opLt : OpT := opB0 fun i j => decide (i < j)
theorem od_lt : OpD X (compareOp .Lt) opLt := od_B0 op_lt
def opLe : OpT := opB0 fun i j => decide (i ≤ j)
theorem od_le : OpD X (compareOp .LtE) opLe := od_B0 op_le
def opGt : OpT := opB0 fun i j => decide (j < i)
theorem od_gt : OpD X (compareOp .Gt) opGt := od_B0 op_gt
def opGe : OpT := opB0 fun i j => decide (j ≤ i)
theorem od_ge : OpD X (compareOp .GtE) opGe := od_B0 op_ge
def isNone : D → Bool
  | .none => true
  | _ => false
def opIs : OpT := fun x y Q => match y with
  | .none => Q (.bool (isNone x))
  | .bool b => match x with
    | .bool a => Q (.bool (decide (a = b)))
    | _ => False
  | _ => False
def opIsN : OpT := fun x y Q => match y with
  | .none => Q (.bool (!isNone x))
  | .bool b => match x with
    | .bool a => Q (.bool (!decide (a = b)))
    | _ => False
  | _ => False
theorem isNone_iff {K : PySem.W.Frag} {H : Hp} {x : D} {v : V} (h : RpR K H x v) : isNone x = decide (v = .non) := by
  rcases h with h | ⟨ds, a, vs, rfl, rfl, _⟩
  · cases h <;> rfl
  · rfl
theorem od_is : OpD X (compareOp .Is) opIs := ⟨_, op_isN.or op_isBl, fun x y v u H QD Q hx hy q k => by
  cases y with
  | none => rw [hy.none]; exact .inl ⟨rfl, by rw [← isNone_iff hx]; exact k _ _ _ q (PExt.refl _) (.bl _)⟩
  | bool b =>
    cases x with
    | bool a => rw [hx.bool, hy.bool]; exact .inr ⟨a, b, rfl, rfl, k _ _ _ q (PExt.refl _) (.bl _)⟩
    | _ => exact q.elim
  | _ => exact q.elim⟩
theorem od_isN : OpD X (compareOp .IsNot) opIsN := ⟨_, op_notN.or op_notBl, fun x y v u H QD Q hx hy q k => by
  cases y with
  | none => rw [hy.none]; exact .inl ⟨rfl, by rw [← isNone_iff hx]; exact k _ _ _ q (PExt.refl _) (.bl _)⟩
  | bool b =>
    cases x with
    | bool a => rw [hx.bool, hy.bool]; exact .inr ⟨a, b, rfl, rfl, k _ _ _ q (PExt.refl _) (.bl _)⟩
    | _ => exact q.elim
  | _ => exact q.elim⟩
/-! x in a list, a tuple -/
theorem op_inT (hu : X.A.units + 65 < cLine) : OpR X (compareOp .In) (fun x y H Q => ∃ d ds, Dp X.K H x d ∧ Dp X.K H y (.tuple ds) ∧ SeqAt.shaped d = true ∧ SeqAt.shaped (.tuple ds) = true ∧ Q (.bl (ds.any fun z => PyData.eqv z d)) H) := by
  intro pins s σ H x y v u Q I rx ry h
  obtain ⟨d, ds, hd, he, sd, se, q⟩ := h
  obtain ⟨as, r1⟩ := Dp.reads I d x v hd rx
  obtain ⟨bs, r2⟩ := Dp.reads I (.tuple ds) y u he ry
  exact SeqAt.in_tuple_reads r2 r1 (SeqAt.canLay_of_shaped se) (SeqAt.canLay_of_shaped sd) (room_in_shaped sd hu) ⟨.bl _, H, I, rfl, q⟩
def opIn : OpT := fun x y Q => match y with
  | .list ds => (SeqAt.shaped x = true ∧ SeqAt.shaped (.list ds) = true) ∧ Q (.bool (ds.any fun z => PyData.eqv z x))
  | .tuple ds => (SeqAt.shaped x = true ∧ SeqAt.shaped (.tuple ds) = true) ∧ Q (.bool (ds.any fun z => PyData.eqv z x))
  | _ => False
def opNotIn : OpT := fun x y Q => match y with
  | .list ds => (SeqAt.shaped x = true ∧ SeqAt.shaped (.list ds) = true) ∧ Q (.bool (!ds.any fun z => PyData.eqv z x))
  | .tuple ds => (SeqAt.shaped x = true ∧ SeqAt.shaped (.tuple ds) = true) ∧ Q (.bool (!ds.any fun z => PyData.eqv z x))
  | _ => False
theorem od_in (hu : X.A.units + 65 < cLine) : OpD X (compareOp .In) opIn := ⟨_, (op_inD hu).or (op_inT hu), fun x y v u H QD Q hx hy q k => by
  cases y with
  | list ds => exact .inl ⟨x, ds, hx.dp (SeqAt.canLay_of_shaped q.1.1), hy.dp (SeqAt.canLay_of_shaped q.1.2), q.1.1, q.1.2, k _ _ _ q.2 (PExt.refl _) (.bl _)⟩
  | tuple ds => exact .inr ⟨x, ds, hx.dp (SeqAt.canLay_of_shaped q.1.1), hy.dp (SeqAt.canLay_of_shaped q.1.2), q.1.1, q.1.2, k _ _ _ q.2 (PExt.refl _) (.bl _)⟩
  | _ => exact q.elim⟩
end
section
variable {X : Cx} {G : Gh} {a b c e : Expr} {es : List Expr} {pos p p2 : Pos} {x : Str}
/-! ### chains -/
def tChainD (o o' : OpT) (ta tb tc : TD) : TD := fun E Q => ta E fun x E1 => tb E1 fun y E2 => o x y fun z => match z with
  | .bool true => tc E2 fun w E3 => o' y w fun r => Q r E3
  | .bool false => Q (.bool false) E2
  | _ => False
/-! ### items -/
def atD (xs : List D) (i : Int) (Q : D → Prop) : Prop := match atI xs i with
  | some d => Q d
  | none => False
def opIx : OpT := fun x y Q => match x, y with
  | .list xs, .int i => atD xs i Q
  | .tuple xs, .int i => atD xs i Q
  | .str z, .int i => match atI z.cps.toList i with
    | some c => z.length ≤ sizeLine ∧ Q (.str ⟨#[c]⟩)
    | none => False
  | _, _ => False
theorem atI_rp {K : PySem.W.Frag} {H : Hp} {ds : List D} {vs : List V} {i : Int} {d : D} (l : RpL K H ds vs) (h : atI ds i = some d) : ∃ v, atI vs i = some v ∧ Rp K H d v := by
  unfold atI at h ⊢
  rw [l.length] at h
  cases q : ixN vs.length i with
  | none => rw [q] at h; cases h
  | some j =>
    rw [q] at h
    exact l.get h
theorem lift_ix {r : R2} {ta tb : TD} (hr : r = rIx X.K) (σ : St) (H : Hp) (Q : VK) (h : liftE X.K G (tOpD opIx ta tb) σ H Q) : tOp r (liftE X.K G ta) (liftR X.K G tb) σ H Q := by
  subst hr
  refine lift_bin (fun x y v u H QD Q hx hy q k => ?_) σ H Q h
  cases y with
  | int i =>
    rw [hy.int]
    cases x with
    | list xs =>
      obtain ⟨a, vs, rfl, hs, l⟩ := hx.list
      have q : atD xs i QD := q
      unfold atD at q
      split at q
      · rename_i d hd
        obtain ⟨v, hv, pv⟩ := atI_rp l hd
        exact .inl ⟨a, vs, i, v, rfl, rfl, hs, hv, k _ _ _ q (PExt.refl _) pv⟩
      · exact q.elim
    | tuple xs =>
      obtain ⟨a, vs, rfl, hs, l⟩ := hx.tuple
      have q : atD xs i QD := q
      unfold atD at q
      split at q
      · rename_i d hd
        obtain ⟨v, hv, pv⟩ := atI_rp l hd
        exact .inr (.inl ⟨a, vs, i, v, rfl, rfl, hs, hv, k _ _ _ q (PExt.refl _) pv⟩)
      · exact q.elim
    | str z =>
      rw [hx.str]
      have q : (match atI z.cps.toList i with
        | some c => z.length ≤ sizeLine ∧ QD (.str ⟨#[c]⟩)
        | none => False) := q
      split at q
      · rename_i c hc
        exact .inr (.inr ⟨z, i, c, rfl, rfl, q.1, hc, k _ _ _ q.2 (PExt.refl _) (.str _)⟩)
      · exact q.elim
    | _ => exact q.elim
  | _ => cases x <;> exact q.elim
theorem ed_ix {ta tb : TD} (ha : ED X G a ta) (hb : ED X G b tb) (hs : PlainIx b := by exact fun _ _ => rfl) : ED X G (.Subscript a b pos) (tOpD opIx ta tb) :=
  ⟨PE.weak (pe_ix ix_seq ha.pe hb.er.pe hs) fun σ H Q h => lift_ix rfl σ H Q h⟩
/-- an item of a list of one's own, at a name -/
def tIxO (i : Nat) (tb : TD) : TD := fun E Q => match E[i]? with
  | some (.ol _) => tb E fun y E1 => match E1[i]?, y with
    | some (.ol xs), .int k => atD xs k fun d => Q d E1
    | _, _ => False
  | _ => False
theorem ed_ixO (i : Nat) {tb : TD} (hb : ED X G b tb) (hN : X.N[i]? = some x := by rfl) (hv : Vis X.env.scope x := by first | exact Or.inl rfl | exact Or.inr (Or.inl rfl) | exact Or.inr (Or.inr rfl)) (hd : (x == ("__debug__" : Str)) = false := by decide)
    (hcd : (x == ("__classdict__" : Str)) = false := by decide) (hs : PlainIx b := by exact fun _ _ => rfl) : ED X G (.Subscript (.Name x p) b pos) (tIxO i tb) :=
  ⟨PE.weak (pe_ix ix_list (pe_var hN hv hd hcd) hb.pe hs) fun σ H Q ⟨E, QE, r, q, k⟩ => by
    unfold tIxO at q
    split at q
    · rename_i xs0 he0
      obtain ⟨l, vs0, e1, e2, e3⟩ := r.ol he0
      refine ⟨_, e1, E, _, r, q, fun d E1 v H1 q1 x1 r1 p1 => ?_⟩
      split at q1
      · rename_i o0 d0 xs j he
        cases p1
        obtain ⟨l', vs, f1, f2, f3⟩ := r1.ol he
        rw [e1] at f1; cases f1
        unfold atD at q1
        split at q1
        · rename_i d hd
          obtain ⟨v, hv, pv⟩ := atI_rp f3 hd
          exact ⟨l, vs, j, v, rfl, rfl, SqL.of f2, hv, k _ _ _ _ q1 x1 r1 pv⟩
        · exact q1.elim
      · exact q1.elim
    · exact q.elim⟩
/-! ### calls of builtins -/
abbrev CaT := List D → (D → Prop) → Prop
abbrev CaL := List D → (List D → Prop) → Prop
inductive RpRs (K : PySem.W.Frag) (H : Hp) : List D → List V → Prop
  | nil : RpRs K H [] []
  | cons {d : D} {v : V} {ds : List D} {vs : List V} : RpR K H d v → RpRs K H ds vs → RpRs K H (d :: ds) (v :: vs)
theorem RpRs.one {K : PySem.W.Frag} {H : Hp} {d : D} {vs : List V} (h : RpRs K H [d] vs) : ∃ v, vs = [v] ∧ RpR K H d v := by
  cases h with
  | cons h t => cases t; exact ⟨_, rfl, h⟩
theorem RpRs.two {K : PySem.W.Frag} {H : Hp} {d e : D} {vs : List V} (h : RpRs K H [d, e] vs) : ∃ v u, vs = [v, u] ∧ RpR K H d v ∧ RpR K H e u := by
  cases h with
  | cons h t => obtain ⟨u, rfl, hu⟩ := t.one; exact ⟨_, u, rfl, h, hu⟩
def CaD (X : Cx) (f : Value) (op : CaT) : Prop := ∃ r, CallR X f r ∧ ∀ ds vs H (QD : D → Prop) (Q : VK), RpRs X.K H ds vs → op ds QD → (∀ z w H', QD z → PExt H H' → Rp X.K H' z w → Q w H') → r vs H Q
/-- a new list is handed back -/
def CaLD (X : Cx) (f : Value) (op : CaL) : Prop := ∃ r, CallR X f r ∧ ∀ ds vs H (QD : List D → Prop) (Q : VK), RpRs X.K H ds vs → op ds QD → (∀ zs us p, QD zs → H p = none → RpL X.K H zs us → Q (.ref p) (upd H p (.lst us))) → r vs H Q
def tCa1 (op : CaT) (ta : TD) : TD := fun E Q => ta E fun x E1 => op [x] fun z => Q z E1
def tCa2 (op : CaT) (ta tb : TD) : TD := fun E Q => ta E fun x E1 => tb E1 fun y E2 => op [x, y] fun z => Q z E2
def tCaL1 (op : CaL) (ta : TD) : TLd := fun E Q => ta E fun x E1 => op [x] fun z => Q z E1
section
variable {id : String} {op : CaT} {opl : CaL} {ta tb : TD}
theorem lift_ca1 {r : List V → Hp → VK → Prop} (hq : ∀ ds vs H (QD : D → Prop) (Q : VK), RpRs X.K H ds vs → op ds QD → (∀ z w H', QD z → PExt H H' → Rp X.K H' z w → Q w H') → r vs H Q)
    (σ : St) (H : Hp) (Q : VK) (h : liftE X.K G (tCa1 op ta) σ H Q) : tCB r (tCons (liftR X.K G ta) tNil) σ H Q := by
  obtain ⟨E, QE, rel, q, k⟩ := h
  refine ⟨E, _, rel, q, fun x E1 v H1 q1 x1 r1 p1 => ?_⟩
  exact hq [x] [v] H1 _ Q (.cons p1 .nil) q1 fun z w H3 q3 p3 rz => k z E1 w H3 q3 (x1.trans p3.ext) (r1.pext p3) rz
theorem ed_ca1 (hc : CaD X (.builtin id) op) (ha : ER X G a ta) (hg : Gl X x) (hm : X.mg x = none) (hv : bootBuiltins x = some (.builtin id)) (hn : x ≠ "__name__" := by decide) (hdb : (x == ("__debug__" : Str)) = false := by decide)
    (hs : starEach [a] X.env = (false, eval a X.env) :: starEach [] X.env := by rfl) (hpl : (backTo pos (starEach [] X.env)).any (·.1) = false := by rfl) : ED X G (.Call (.Name x p) [a] [] pos) (tCa1 op ta) := by
  obtain ⟨r, hr, hq⟩ := hc
  exact ⟨PE.weak (pe_callB hr hg hm hv (pa_cons ha.pe pa_nil hs) hn hdb hs hpl) fun σ H Q h => lift_ca1 hq σ H Q h⟩
theorem ed_caT1 (hc : CaD X (.type id) op) (ha : ER X G a ta) (hg : Gl X x) (hm : X.mg x = none) (hv : bootBuiltins x = some (.type id)) (hn : x ≠ "__name__" := by decide) (hdb : (x == ("__debug__" : Str)) = false := by decide)
    (hs : starEach [a] X.env = (false, eval a X.env) :: starEach [] X.env := by rfl) (hpl : (backTo pos (starEach [] X.env)).any (·.1) = false := by rfl) : ED X G (.Call (.Name x p) [a] [] pos) (tCa1 op ta) := by
  obtain ⟨r, hr, hq⟩ := hc
  exact ⟨PE.weak (pe_callTy hr hg hm hv (pa_cons ha.pe pa_nil hs) hn hdb hs hpl) fun σ H Q h => lift_ca1 hq σ H Q h⟩
theorem ed_ca2 (hc : CaD X (.builtin id) op) (ha : ED X G a ta) (hb : ER X G b tb) (hg : Gl X x) (hm : X.mg x = none) (hv : bootBuiltins x = some (.builtin id)) (hn : x ≠ "__name__" := by decide) (hdb : (x == ("__debug__" : Str)) = false := by decide)
    (hs : starEach [a, b] X.env = (false, eval a X.env) :: starEach [b] X.env := by rfl) (hs2 : starEach [b] X.env = (false, eval b X.env) :: starEach [] X.env := by rfl) (hpl : (backTo pos (starEach [b] X.env)).any (·.1) = false := by rfl) : ED X G (.Call (.Name x p) [a, b] [] pos) (tCa2 op ta tb) := by
  obtain ⟨r, hr, hq⟩ := hc
  refine ⟨PE.weak (pe_callB hr hg hm hv (pa_cons ha.pe (pa_cons hb.pe pa_nil hs2) hs) hn hdb hs hpl) fun σ H Q ⟨E, QE, rel, q, k⟩ => ⟨E, _, rel, q, fun x E1 v H1 q1 x1 r1 p1 => ⟨E1, _, r1, q1, fun y E2 u H2 q2 x2 r2 p2 => ?_⟩⟩⟩
  exact hq [x, y] [v, u] H2 _ Q (.cons (.inl (p1.ext x2)) (.cons p2 .nil)) q2 fun z w H3 q3 p3 rz => k z E2 w H3 q3 ((x1.trans x2).trans p3.ext) (r2.pext p3) rz
theorem lift_caL1 {r : List V → Hp → VK → Prop} (hq : ∀ ds vs H (QD : List D → Prop) (Q : VK), RpRs X.K H ds vs → opl ds QD → (∀ zs us p, QD zs → H p = none → RpL X.K H zs us → Q (.ref p) (upd H p (.lst us))) → r vs H Q)
    (σ : St) (H : Hp) (Q : VK) (h : liftL X.K G (tCaL1 opl ta) σ H Q) : tCB r (tCons (liftR X.K G ta) tNil) σ H Q := by
  obtain ⟨E, QE, rel, q, k⟩ := h
  refine ⟨E, _, rel, q, fun x E1 v H1 q1 x1 r1 p1 => ?_⟩
  refine hq [x] [v] H1 _ Q (.cons p1 .nil) q1 fun zs us p q3 hp rz => ?_
  obtain ⟨r2, h0, na⟩ := r1.fresh (o := .lst us) hp
  exact k zs E1 p us _ q3 (x1.trans (PExt.new hp).ext) r2 h0 na upd_same (rz.ext (PExt.new hp).ext)
theorem el_ca1 (hc : CaLD X (.builtin id) opl) (ha : ER X G a ta) (hg : Gl X x) (hm : X.mg x = none) (hv : bootBuiltins x = some (.builtin id)) (hn : x ≠ "__name__" := by decide) (hdb : (x == ("__debug__" : Str)) = false := by decide)
    (hs : starEach [a] X.env = (false, eval a X.env) :: starEach [] X.env := by rfl) (hpl : (backTo pos (starEach [] X.env)).any (·.1) = false := by rfl) : EL X G (.Call (.Name x p) [a] [] pos) (tCaL1 opl ta) := by
  obtain ⟨r, hr, hq⟩ := hc
  exact ⟨PE.weak (pe_callB hr hg hm hv (pa_cons ha.pe pa_nil hs) hn hdb hs hpl) fun σ H Q h => lift_caL1 hq σ H Q h⟩
theorem el_caT1 (hc : CaLD X (.type id) opl) (ha : ER X G a ta) (hg : Gl X x) (hm : X.mg x = none) (hv : bootBuiltins x = some (.type id)) (hn : x ≠ "__name__" := by decide) (hdb : (x == ("__debug__" : Str)) = false := by decide)
    (hs : starEach [a] X.env = (false, eval a X.env) :: starEach [] X.env := by rfl) (hpl : (backTo pos (starEach [] X.env)).any (·.1) = false := by rfl) : EL X G (.Call (.Name x p) [a] [] pos) (tCaL1 opl ta) := by
  obtain ⟨r, hr, hq⟩ := hc
  exact ⟨PE.weak (pe_callTy hr hg hm hv (pa_cons ha.pe pa_nil hs) hn hdb hs hpl) fun σ H Q h => lift_caL1 hq σ H Q h⟩
end
/-! len, abs, max, min, sum, all, tuple, list, int -/
def caLen : CaT := fun ds Q => match ds with
  | [.list xs] => Q (.int xs.length)
  | [.tuple xs] => Q (.int xs.length)
  | [.str z] => z.length ≤ sizeLine ∧ Q (.int z.length)
  | _ => False
theorem cd_len : CaD X (.builtin "len") caLen := by
  refine ⟨_, (show CallR X (.builtin "len") (fun xs H Q => (∃ p ys, xs = [.ref p] ∧ (SqL X.K H p ys ∨ SqT X.K H p ys) ∧ Q (.int ys.length) H) ∨ ∃ z, xs = [.str z] ∧ z.length ≤ sizeLine ∧ Q (.int z.length) H) from fun pins s σ H vs us Q I r h => by
    rcases h with h | h
    · exact call_len_seq pins s σ H vs us Q I r h
    · exact call_len_str pins s σ H vs us Q I r h), fun ds vs H QD Q hd q k => ?_⟩
  match ds, q, hd with
  | [.list xs], q, hd =>
    obtain ⟨v, rfl, h⟩ := hd.one
    obtain ⟨a, us, rfl, hs, l⟩ := h.list
    exact .inl ⟨a, us, rfl, .inl hs, by rw [← l.length]; exact k _ _ _ q (PExt.refl _) (.int _)⟩
  | [.tuple xs], q, hd =>
    obtain ⟨v, rfl, h⟩ := hd.one
    obtain ⟨a, us, rfl, hs, l⟩ := h.tuple
    exact .inl ⟨a, us, rfl, .inr hs, by rw [← l.length]; exact k _ _ _ q (PExt.refl _) (.int _)⟩
  | [.str z], q, hd =>
    obtain ⟨v, rfl, h⟩ := hd.one
    rw [h.str]
    exact .inr ⟨z, rfl, q.1, k _ _ _ q.2 (PExt.refl _) (.int _)⟩
def caAbs : CaT := fun ds Q => match ds with
  | [.int i] => Q (.int (if i < 0 then -i else i))
  | _ => False
theorem cd_abs : CaD X (.builtin "abs") caAbs := ⟨_, call_abs, fun ds vs H QD Q hd q k => by
  match ds, q, hd with
  | [.int i], q, hd =>
    obtain ⟨v, rfl, h⟩ := hd.one
    rw [h.int]
    exact ⟨i, rfl, k _ _ _ q (PExt.refl _) (.int _)⟩⟩
def caMax2 : CaT := fun ds Q => match ds with
  | [.int i, .int j] => Q (.int (if j > i then j else i))
  | _ => False
theorem cd_max2 (hc : X.calm = true) : CaD X (.builtin "max") caMax2 := ⟨_, call_max2 hc, fun ds vs H QD Q hd q k => by
  match ds, q, hd with
  | [.int i, .int j], q, hd =>
    obtain ⟨v, u, rfl, h, h'⟩ := hd.two
    rw [h.int, h'.int]
    exact ⟨i, j, rfl, k _ _ _ q (PExt.refl _) (.int _)⟩⟩
def caMin2 : CaT := fun ds Q => match ds with
  | [.int i, .int j] => Q (.int (if j < i then j else i))
  | _ => False
theorem cd_min2 (hc : X.calm = true) : CaD X (.builtin "min") caMin2 := ⟨_, call_min2 hc, fun ds vs H QD Q hd q k => by
  match ds, q, hd with
  | [.int i, .int j], q, hd =>
    obtain ⟨v, u, rfl, h, h'⟩ := hd.two
    rw [h.int, h'.int]
    exact ⟨i, j, rfl, k _ _ _ q (PExt.refl _) (.int _)⟩⟩
theorem RpL.bools {K : PySem.W.Frag} {H : Hp} : ∀ {ns : List Bool} {vs : List V}, RpL K H (ns.map PyData.bool) vs → vs = ns.map V.bl
  | [], _, .nil => rfl
  | _ :: _, _, .cons (.bl _) t => by rw [RpL.bools t]; rfl
def caSum : CaT := fun ds Q => match ds with
  | [.list xs] => ∃ ns : List Int, xs = ns.map PyData.int ∧ Q (.int ns.sum)
  | _ => False
def caMax : CaT := fun ds Q => match ds with
  | [.list xs] => ∃ ns : List Int, xs = ns.map PyData.int ∧ 0 < ns.length ∧ ∀ m, m ∈ ns → (∀ y, y ∈ ns → y ≤ m) → Q (.int m)
  | _ => False
theorem cd_max (hc : X.calm = true) : CaD X (.builtin "max") caMax := ⟨_, cr_max hc, fun ds vs H QD Q hd q k => by
  match ds, q, hd with
  | [.list xs], q, hd =>
    obtain ⟨ns, rfl, hl, q⟩ := q
    obtain ⟨v, rfl, h⟩ := hd.one
    obtain ⟨a, us, rfl, hs, l⟩ := h.list
    have := l.ints; subst this
    exact ⟨a, ns, rfl, hs, hl, fun m h1 h2 => k _ _ _ (q m h1 h2) (PExt.refl _) (.int _)⟩⟩
def caMin : CaT := fun ds Q => match ds with
  | [.list xs] => ∃ ns : List Int, xs = ns.map PyData.int ∧ 0 < ns.length ∧ ∀ m, m ∈ ns → (∀ y, y ∈ ns → m ≤ y) → Q (.int m)
  | _ => False
def caAll : CaT := fun ds Q => match ds with
  | [.list xs] => ∃ bs : List Bool, xs = bs.map PyData.bool ∧ Q (.bool (bs.all id))
  | _ => False
theorem cd_all (hc : X.calm = true) : CaD X (.builtin "all") caAll := ⟨_, cr_all hc, fun ds vs H QD Q hd q k => by
  match ds, q, hd with
  | [.list xs], q, hd =>
    obtain ⟨bs, rfl, q⟩ := q
    obtain ⟨v, rfl, h⟩ := hd.one
    obtain ⟨a, us, rfl, hs, l⟩ := h.list
    have := l.bools; subst this
    exact ⟨a, bs, rfl, hs, k _ _ _ q (PExt.refl _) (.bl _)⟩⟩
def caTuple : CaT := fun ds Q => match ds with
  | [.list xs] => Q (.tuple xs)
  | [.tuple xs] => Q (.tuple xs)
  | _ => False
theorem cd_tuple : CaD X (.type "tuple") caTuple := ⟨_, call_tupF, fun ds vs H QD Q hd q k => by
  match ds, q, hd with
  | [.list xs], q, hd =>
    obtain ⟨v, rfl, h⟩ := hd.one
    obtain ⟨a, us, rfl, hs, l⟩ := h.list
    exact ⟨a, us, rfl, .inl ⟨hs, fun p o hp ho => k _ _ _ q (PExt.new hp) (.tup (.new ho) (l.ext (PExt.new hp).ext))⟩⟩
  | [.tuple xs], q, hd =>
    obtain ⟨v, rfl, h⟩ := hd.one
    obtain ⟨a, us, rfl, hs, l⟩ := h.tupD
    exact ⟨a, us, rfl, .inr ⟨hs.1, k _ _ _ q (PExt.refl _) (.tup hs l)⟩⟩⟩
def caList : CaL := fun ds Q => match ds with
  | [.list xs] => Q xs
  | [.tuple xs] => Q xs
  | _ => False
theorem cd_list : CaLD X (.type "list") caList := ⟨_, call_list_of, fun ds vs H QD Q hd q k => by
  match ds, q, hd with
  | [.list xs], q, hd =>
    obtain ⟨v, rfl, h⟩ := hd.one
    obtain ⟨a, us, rfl, hs, l⟩ := h.list
    exact ⟨a, us, rfl, .inl hs, fun p hp => k _ _ _ q hp l⟩
  | [.tuple xs], q, hd =>
    obtain ⟨v, rfl, h⟩ := hd.one
    obtain ⟨a, us, rfl, hs, l⟩ := h.tuple
    exact ⟨a, us, rfl, .inr hs, fun p hp => k _ _ _ q hp l⟩⟩
def caInt : CaT := fun ds Q => match ds with
  | [.int i] => Q (.int i)
  | [.bool b] => Q (.int (if b then 1 else 0))
  | _ => False
theorem cd_int : CaD X (.type "int") caInt := ⟨_, call_int1, fun ds vs H QD Q hd q k => by
  match ds, q, hd with
  | [.int i], q, hd =>
    obtain ⟨v, rfl, h⟩ := hd.one
    rw [h.int]; exact .inl ⟨i, rfl, k _ _ _ q (PExt.refl _) (.int _)⟩
  | [.bool b], q, hd =>
    obtain ⟨v, rfl, h⟩ := hd.one
    rw [h.bool]; exact .inr ⟨b, rfl, k _ _ _ q (PExt.refl _) (.int _)⟩⟩
end
end DL
set_option Elab.async false
set_option linter.all false
set_option maxRecDepth 100000
set_option maxHeartbeats 1000000
namespace DL
open PySem PySem.Spec PyProof.Rows L2
section
variable {X : Cx} {G : Gh} {a b c e : Expr} {es : List Expr} {pos p p1 p2 p3 : Pos} {x : Str}
/-- a list whose object is plain -/
def LsP (K : PySem.W.Frag) (H : Hp) (a : Addr) (vs : List V) : Prop := H a = some (.lst vs) ∨ LsF K H a vs
theorem LsP.at {K : PySem.W.Frag} {H : Hp} {a : Addr} {vs : List V} {P : Program} {w : World} {h : Heap} (l : LsP K H a vs) (hok : HOk P w H h) (KX : K.In h) : vs.length ≤ sizeLine ∧ ∃ (its : List Value) (n : Nat), Vals vs its ∧ h.get? a = some { cls := .type "list", data := .seq its.toArray n } := by
  rcases l with l | ⟨o, l⟩ | ⟨its, n, e, z, r⟩
  · exact Rd.ok (.inl l) hok
  · exact Rd.ok (.inr ⟨o, l⟩) hok
  · refine ⟨?_, its.toList, n, r, by have := KX _ _ e; simpa using this⟩
    have e2 := r.length
    simp only [Array.length_toList] at e2
    omega
theorem RpR.listR {K : PySem.W.Frag} {H : Hp} {ds : List D} {v : V} (h : RpR K H (.list ds) v) : ∃ a vs, v = .ref a ∧ LsP K H a vs ∧ RpL K H ds vs := by
  rcases h with h | ⟨ds, a, vs, e, rfl, h, l⟩
  · cases h with
    | lst h l => exact ⟨_, _, rfl, .inr h, l⟩
  · cases e
    exact ⟨_, _, rfl, .inl h, l⟩
/-! ### list + list, list * int: new lists -/
def OpLD (X : Cx) (f : Value → Value → Sem Value) (op : D → D → (List D → Prop) → Prop) : Prop := ∃ r : R2, OpR X f r ∧
  ∀ x y v u H (QD : List D → Prop) (Q : VK), RpR X.K H x v → RpR X.K H y u → op x y QD → (∀ zs us q, QD zs → H q = none → RpL X.K H zs us → Q (.ref q) (upd H q (.lst us))) → r v u H Q
def tOpL (op : D → D → (List D → Prop) → Prop) (ta tb : TD) : TLd := fun E Q => ta E fun x E1 => tb E1 fun y E2 => op x y fun z => Q z E2
theorem el_op {op : Operator} {o : D → D → (List D → Prop) → Prop} {ta tb : TD} (ho : OpLD X (binaryOp op) o) (ha : ED X G a ta) (hb : ER X G b tb) : EL X G (.BinOp a op b pos) (tOpL o ta tb) := by
  obtain ⟨r, hr, hq⟩ := ho
  refine ⟨PE.weak (pe_op hr ha.pe hb.pe) fun σ H Q ⟨E, QE, rel, q, k⟩ => ⟨E, _, rel, q, fun x E1 v H1 q1 x1 r1 p1 => ⟨E1, _, r1, q1, fun y E2 u H2 q2 x2 r2 p2 => ?_⟩⟩⟩
  refine hq x y v u H2 _ Q (.inl (p1.ext x2)) p2 q2 fun zs us q3 qz hp rz => ?_
  obtain ⟨r3, h0, na⟩ := r2.fresh (o := .lst us) hp
  exact k zs E2 q3 us _ qz ((x1.trans x2).trans (PExt.new hp).ext) r3 h0 na upd_same (rz.ext (PExt.new hp).ext)
theorem op_catR : OpR X (binaryOp .Add) (fun x y H Q => ∃ l b xs zs, x = .ref l ∧ y = .ref b ∧ LsP X.K H l xs ∧ LsP X.K H b zs ∧ xs.length + zs.length ≤ sizeLine ∧ ∀ p, H p = none → Q (.ref p) (upd H p (.lst (xs ++ zs)))) := by
  intro pins s σ H x y v u Q I rx ry h
  obtain ⟨l, b, xs, zs, rfl, rfl, hH, hB, hz, q⟩ := h
  cases rx
  cases ry
  obtain ⟨z, its, n, r, e⟩ := hH.at I.hok I.kIn
  obtain ⟨z2, its2, n2, r2, e2⟩ := hB.at I.hok I.kIn
  have hl := r.length
  have hl2 := r2.length
  refine PySem.P.add_list e e2 ?_ (by rw [List.size_toArray, List.size_toArray]; omega)
  have ea : its.toArray ++ its2.toArray = (its ++ its2).toArray := by simp
  rw [ea]
  exact ⟨.ref _, _, I.lnew (t' := s.toks) (r.append r2) (by rw [List.length_append]; omega), rfl, q _ I.fresh⟩
def opCat : D → D → (List D → Prop) → Prop := fun x y Q => match x, y with
  | .list xs, .list ys => xs.length + ys.length ≤ sizeLine ∧ Q (xs ++ ys)
  | _, _ => False
theorem od_cat : OpLD X (binaryOp .Add) opCat := ⟨_, op_catR, fun x y v u H QD Q hx hy q k => by
  cases x with
  | list xs =>
    cases y with
    | list ys =>
      obtain ⟨a, vs, rfl, sa, la⟩ := hx.listR
      obtain ⟨b, us, rfl, sb, lb⟩ := hy.listR
      exact ⟨a, b, vs, us, rfl, rfl, sa, sb, by rw [← la.length, ← lb.length]; exact q.1, fun p hp => k _ _ _ q.2 hp (la.append lb)⟩
    | _ => exact q.elim
  | _ => exact q.elim⟩
theorem op_repR : OpR X (binaryOp .Mult) (fun x y H Q => ∃ l k xs, x = .ref l ∧ y = .int k ∧ LsP X.K H l xs ∧ -(2 ^ 63) ≤ k ∧ k < 2 ^ 63 ∧ xs.length * k.toNat ≤ sizeLine ∧
  ∀ p, H p = none → Q (.ref p) (upd H p (.lst (List.replicate k.toNat xs).flatten))) := by
  intro pins s σ H x y v u Q I rx ry h
  obtain ⟨l, k, xs, rfl, rfl, hH, h1, h2, hz, q⟩ := h
  cases rx
  obtain ⟨t, rfl⟩ := ry
  obtain ⟨z, its, n, r, e⟩ := hH.at I.hok I.kIn
  have hl := r.length
  have hlen : its.toArray.size * k.toNat ≤ sizeLine := by rw [List.size_toArray, ← hl]; exact hz
  have hcap : ¬ its.toArray.size * k.toNat > (2 ^ 63 - 1) / 8 := by
    have : (sizeLine : Nat) ≤ (2 ^ 63 - 1) / 8 := by decide
    omega
  have hfit : ¬ (!Builtin.List.listFitsIndex k) = true := by
    rw [fitsIndex_both h1 h2]
    exact Bool.false_ne_true
  have hlong : ¬ Builtin.List.listTooLong (its.toArray.size * k.toNat) = true := by
    rw [notLongL hlen]
    exact Bool.false_ne_true
  have hnew : List.foldl (fun x1 x2 => x1 ++ x2) #[] (List.replicate (if its.toArray.isEmpty = true then 0 else k.toNat) its.toArray) = (List.replicate k.toNat its).flatten.toArray := by
    have f0 : ∀ m : Nat, List.foldl (fun x1 x2 => x1 ++ x2) #[] (List.replicate m its.toArray) = (List.replicate m its).flatten.toArray := fun m => by
      have := foldl_rep its m []
      rw [List.nil_append] at this
      exact this
    rw [f0]
    cases its with
    | nil => simp
    | cons a r' => rw [if_neg (by simp)]
  refine wpAny_binaryOp_repeat_ref (T := "list") (U := "int") (by decide) ⟨_, e, rfl⟩ (fun s' => typeIs_int s' k t) noFill_list_mul F.fills_int_mul F.slot_int_rmul repeat_list F.slot_int_index.lookup
    (call_meets F.slot_int_rmul (typeIs_int s k t) F.entry_int_rmul (F.args_int_rmul_2 _ _) (int___rmul___int_list k t l its.toArray n)
      ⟨e, rfl, ⟨_, e, rfl⟩, call_meets F.slot_list_mul ⟨_, e, rfl⟩ F.entry_list_mul (F.args_list_mul_2 _ _) (AutoListH.list___mul___list_int_3 l its.toArray n k t hfit hcap hlong) ⟨e, ?_⟩⟩)
  rw [hnew]
  exact ⟨.ref _, _, I.lnew (t' := s.toks) (r.rep k.toNat) (by rw [PyProof.Rows.lm_len_rep_flat, Nat.mul_comm]; exact hz), rfl, q _ I.fresh⟩
def opRep : D → D → (List D → Prop) → Prop := fun x y Q => match x, y with
  | .list xs, .int k => (-(2 ^ 63) ≤ k ∧ k < 2 ^ 63 ∧ xs.length * k.toNat ≤ sizeLine) ∧ Q (List.replicate k.toNat xs).flatten
  | _, _ => False
theorem RpL.rep {K : PySem.W.Frag} {H : Hp} {ds : List D} {vs : List V} (l : RpL K H ds vs) : ∀ n : Nat, RpL K H (List.replicate n ds).flatten (List.replicate n vs).flatten
  | 0 => .nil
  | n + 1 => by rw [List.replicate_succ, List.replicate_succ, List.flatten_cons, List.flatten_cons]; exact l.append (RpL.rep l n)
theorem od_rep : OpLD X (binaryOp .Mult) opRep := ⟨_, op_repR, fun x y v u H QD Q hx hy q k => by
  cases x with
  | list xs =>
    cases y with
    | int j =>
      obtain ⟨a, vs, rfl, sa, la⟩ := hx.listR
      rw [hy.int]
      exact ⟨a, j, vs, rfl, rfl, sa, q.1.1, q.1.2.1, by rw [← la.length]; exact q.1.2.2, fun p hp => k _ _ _ q.2 hp (la.rep _)⟩
    | _ => exact q.elim
  | _ => exact q.elim⟩
/-! ### slices -/
def cutD (xs : List D) (lo hi : Option Int) : List D := (xs.drop (HT.sIx xs.length 0 lo)).take (HT.sIx xs.length xs.length hi - HT.sIx xs.length 0 lo)
theorem RpL.cut {K : PySem.W.Frag} {H : Hp} {ds : List D} {vs : List V} (l : RpL K H ds vs) (lo hi : Option Int) : RpL K H (cutD ds lo hi) (cutV vs lo hi) := by
  unfold cutD cutV
  rw [l.length]
  exact (l.drop _).take _
abbrev TOd := Env → (Option Int → Env → Prop) → Prop
def liftO (K : PySem.W.Frag) (G : Gh) (t : TOd) : TO := fun σ H Q => ∃ (E : Env) (QE : Option Int → Env → Prop), RelE K G H E σ ∧ t E QE ∧ ∀ o E' H', QE o E' → Ext H H' → RelE K G H' E' σ → Q o H'
structure EO (X : Cx) (G : Gh) (e : Option Expr) (t : TOd) : Prop where
  po : PO X e (liftO X.K G t)
theorem PO.weak {e : Option Expr} {t u : TO} (h : PO X e t) (w : ∀ σ H Q, u σ H Q → t σ H Q) : PO X e u := ⟨fun pins s σ H Q I q => h.run pins s σ H Q I (w σ H Q q)⟩
def oNo : TOd := fun E Q => Q none E
def oE (t : TD) : TOd := fun E Q => t E fun d E1 => match d with
  | .int i => Q (some i) E1
  | _ => False
theorem eo_no : EO X G none oNo := ⟨PO.weak po_none fun σ H Q ⟨E, QE, r, q, k⟩ => k _ _ _ q (Ext.refl _) r⟩
theorem eo_e {t : TD} (h : ED X G e t) : EO X G (some e) (oE t) := ⟨PO.weak (po_some h.pe) fun σ H Q ⟨E, QE, r, q, k⟩ => ⟨E, _, r, q, fun d E1 v H1 q1 x1 r1 p1 => by
  cases p1 with
  | int i => exact ⟨i, rfl, k _ _ _ q1 x1 r1⟩
  | _ => exact q1.elim⟩⟩
def slD (x : D) (lo hi : Option Int) (Q : D → Prop) : Prop := match x with
  | .tuple xs => Q (.tuple (cutD xs lo hi))
  | .str z => z.length ≤ sizeLine ∧ Q (.str (cutS z lo hi))
  | _ => False
def tSlD (ta : TD) (tl th : TOd) : TD := fun E Q => ta E fun x E1 => tl E1 fun l E2 => th E2 fun u E3 => slD x l u fun z => Q z E3
def tSlL (ta : TD) (tl th : TOd) : TLd := fun E Q => ta E fun x E1 => tl E1 fun l E2 => th E2 fun u E3 => match x with
  | .list xs => Q (cutD xs l u) E3
  | _ => False
theorem el_sl {lo hi : Option Expr} {ta : TD} {tl th : TOd} (ha : ED X G a ta) (hl : EO X G lo tl) (hh : EO X G hi th) : EL X G (.Subscript a (.Slice lo hi none p2) pos) (tSlL ta tl th) := by
  refine ⟨PE.weak (pe_slice sl_list ha.pe hl.po hh.po) fun σ H Q ⟨E, QE, rel, q, k⟩ => ⟨E, _, rel, q, fun x E1 v H1 q1 x1 r1 p1 => ⟨E1, _, r1, q1, fun l E2 H2 q2 x2 r2 => ⟨E2, _, r2, q2, fun u E3 H3 q3 x3 r3 => ?_⟩⟩⟩⟩
  have xx := (x1.trans x2).trans x3
  have p3 := (p1.ext x2).ext x3
  cases p3 with
  | lst hs ll =>
    refine ⟨_, _, rfl, hs.sq, fun p hp => ?_⟩
    obtain ⟨r4, h0, na⟩ := r3.fresh (o := .lst (cutV _ l u)) hp
    exact k _ _ _ _ _ q3 (xx.trans (PExt.new hp).ext) r4 h0 na upd_same ((ll.cut l u).ext (PExt.new hp).ext)
  | _ => exact q3.elim
/-- xs[::-1] of a list -/
def tRevD (ta : TD) : TLd := fun E Q => ta E fun x E1 => match x with
  | .list xs => Q xs.reverse E1
  | _ => False
/-! ### isinstance with a built-in class -/
def tyD : D → String
  | .none => "NoneType"
  | .bool _ => "bool"
  | .int _ => "int"
  | .str _ => "str"
  | .list _ => "list"
  | .tuple _ => "tuple"
  | .dict _ => "dict"
theorem call_isiR {T : String} {bf : D → Bool} (hb : ∀ d : D, (match d with | .dict _ => True | _ => kitB (tyD d) T = some (bf d))) : CallR X (.builtin "isinstance") (fun vs H Q => ∃ d v, vs = [v, .ty T] ∧ Rp X.K H d v ∧ (∀ k, d ≠ .dict k) ∧ Q (.bl (bf d)) H) := by
  intro pins s σ H vs us Q I r h
  obtain ⟨d, v, rfl, hd, hn, q⟩ := h
  obtain ⟨u1, u2, rfl, r1, r2⟩ := vals2 r
  cases (show u2 = Value.type T from r2)
  have kit : ∃ P : Heap → Prop, PySem.W.KitX X.K u1 (.type (tyD d)) P ∧ P s.heap ∧ u1 ≠ .builtin "__main__.__loader__#opaque" := by
    cases hd with
    | non => cases (show u1 = Value.none from r1); exact ⟨_, PySem.W.kitx_none, True.intro, fun z => nomatch z⟩
    | bl y => cases (show u1 = Value.bool y from r1); exact ⟨_, PySem.W.kitx_bool, True.intro, fun z => nomatch z⟩
    | int i => obtain ⟨t, q⟩ := (show ∃ t, u1 = Value.int i t from r1); cases q; exact ⟨_, PySem.W.kitx_int, True.intro, fun z => nomatch z⟩
    | str y => obtain ⟨t, q⟩ := (show ∃ t, u1 = Value.str y t from r1); cases q; exact ⟨_, PySem.W.kitx_str, True.intro, fun z => nomatch z⟩
    | dct _ _ _ _ => exact absurd rfl (hn _)
    | hdl a => exact absurd rfl (hn _)
    | dck _ _ _ _ => exact absurd rfl (hn _)
    | lst hs _ =>
      rename_i a xs ds _
      cases (show u1 = Value.ref a from r1)
      obtain ⟨its, rv, hl, _⟩ := I.list hs.sq
      obtain ⟨o, n, ho, hc, _⟩ := hl
      exact ⟨_, PySem.W.kitx_list, ⟨o, ho, hc⟩, fun z => nomatch z⟩
    | tup hs _ =>
      rename_i a xs ds _
      cases (show u1 = Value.ref a from r1)
      obtain ⟨its, rv, ⟨o, ho, hc, _⟩, _⟩ := I.tuple hs.1
      exact ⟨_, PySem.W.kitx_tuple, ⟨o, ho, hc⟩, fun z => nomatch z⟩
  obtain ⟨P, Z, p, hx⟩ := kit
  have e : PySem.W.kitOne X.K (.type (tyD d)) (.type T) = some (bf d) := by
    have := hb d
    cases d with
    | dict k => exact absurd rfl (hn k)
    | _ => exact kit_ty this
  exact PySem.W.kia_one Z I.kIn p e hx fun tk => ⟨.bl _, H, I.tok tk, rfl, q⟩
def isInt : D → Bool
  | .int _ => true
  | .bool _ => true
  | _ => false
def isBool : D → Bool
  | .bool _ => true
  | _ => false
def isStr : D → Bool
  | .str _ => true
  | _ => false
def isTuple : D → Bool
  | .tuple _ => true
  | _ => false
def isList : D → Bool
  | .list _ => true
  | _ => false
def notDict : D → Prop
  | .dict _ => False
  | _ => True
def tIsi (bf : D → Bool) (ta : TD) : TD := fun E Q => ta E fun x E1 => notDict x ∧ Q (.bool (bf x)) E1
theorem ed_isi {T : String} {ty : Str} {bf : D → Bool} {ta : TD} {pt : Pos} (hb : ∀ d : D, (match d with | .dict _ => True | _ => kitB (tyD d) T = some (bf d))) (ha : ED X G a ta) (hg : Gl X "isinstance") (hm : X.mg "isinstance" = none) (hg2 : Gl X ty) (hm2 : X.mg ty = none) (hv2 : bootBuiltins ty = some (.type T))
    (hn2 : ty ≠ "__name__" := by decide) (hd2 : (ty == ("__debug__" : Str)) = false := by decide)
    (hs : starEach [a, .Name ty pt] X.env = (false, eval a X.env) :: starEach [.Name ty pt] X.env := by rfl) (hs2 : starEach [.Name ty pt] X.env = (false, eval (.Name ty pt) X.env) :: starEach [] X.env := by rfl) (hpl : (backTo pos (starEach [.Name ty pt] X.env)).any (·.1) = false := by rfl) :
    ED X G (.Call (.Name "isinstance" p) [a, .Name ty pt] [] pos) (tIsi bf ta) := by
  refine ⟨PE.weak (pe_callB (call_isiR hb) hg hm (by decide +kernel) (pa_cons ha.pe (pa_cons (pe_bltn (v := .ty T) hg2 hm2 hv2 rfl hn2 hd2) pa_nil hs2) hs) (by decide) (by decide) hs hpl) fun σ H Q ⟨E, QE, rel, q, k⟩ => ⟨E, _, rel, q, fun x E1 v H1 q1 x1 r1 p1 => ?_⟩⟩
  refine ⟨x, v, rfl, p1, ?_, k _ _ _ _ q1.2 x1 r1 (.bl _)⟩
  intro z e; subst e; exact q1.1
theorem isi_int : ∀ d : D, (match d with | .dict _ => True | _ => kitB (tyD d) "int" = some (isInt d)) := by intro d; cases d <;> first | trivial | (show kitB _ _ = _; decide +kernel)
theorem isi_bool : ∀ d : D, (match d with | .dict _ => True | _ => kitB (tyD d) "bool" = some (isBool d)) := by intro d; cases d <;> first | trivial | (show kitB _ _ = _; decide +kernel)
theorem isi_str : ∀ d : D, (match d with | .dict _ => True | _ => kitB (tyD d) "str" = some (isStr d)) := by intro d; cases d <;> first | trivial | (show kitB _ _ = _; decide +kernel)
theorem isi_tuple : ∀ d : D, (match d with | .dict _ => True | _ => kitB (tyD d) "tuple" = some (isTuple d)) := by intro d; cases d <;> first | trivial | (show kitB _ _ = _; decide +kernel)
/-! ### zip of two tuples, of two lists -/
def zipD (xs ys : List D) : List D := (xs.zip ys).map fun p => .tuple [p.1, p.2]
def iZipD (ta tb : TD) : TDs := fun E Q => ta E fun x E1 => tb E1 fun y E2 => match x, y with
  | .tuple xs, .tuple ys => Q (zipD xs ys) E2
  | .list xs, .list ys => Q (zipD xs ys) E2
  | _, _ => False
theorem zipD_len (xs ys : List D) : (zipD xs ys).length = min xs.length ys.length := by simp [zipD]
theorem zipD_get {xs ys : List D} {i : Nat} {x y : D} (h1 : xs[i]? = some x) (h2 : ys[i]? = some y) : (zipD xs ys)[i]? = some (.tuple [x, y]) := by
  unfold zipD
  rw [List.getElem?_map, (List.getElem?_zip_eq_some (z := (x, y))).mpr ⟨h1, h2⟩]; rfl
theorem walkD_zipT {K : PySem.W.Frag} {H : Hp} {a b : Addr} {vs us : List V} {ds es : List D} (h : SqT K H a vs) (h' : SqT K H b us) (l : RpL K H ds vs) (l' : RpL K H es us) : WalkD true K (RZ.ItzT K a b) H (zipD ds es) where
  goes := fun i H' x hi => by
    rw [zipD_len, l.length, l'.length] at hi
    exact ⟨vs, us, vs[i], us[i], SqT.ext x h, SqT.ext x h', List.getElem?_eq_getElem _, List.getElem?_eq_getElem _⟩
  yld := fun i H' v H2 x hi hy => by
    obtain ⟨T, v1, v2, rfl, hT, rfl, e1, e2⟩ := hy
    obtain ⟨d, hd, p⟩ := l.getV (e1 vs (SqT.ext x h))
    obtain ⟨d', hd', p'⟩ := l'.getV (e2 us (SqT.ext x h'))
    have px := PExt.new (o := .tup [v1, v2]) hT
    exact ⟨px, _, zipD_get hd hd', .pair (SqT.of upd_same) (.cons ((p.ext x).ext px.ext) (.cons ((p'.ext x).ext px.ext) .nil))⟩
  stops := fun H' x => ⟨vs, us, SqT.ext x h, SqT.ext x h', by rw [zipD_len, l.length, l'.length]; omega⟩
theorem walkD_zipL {K : PySem.W.Frag} {H : Hp} {a b : Addr} {vs us : List V} {ds es : List D} (h : LsF K H a vs) (h' : LsF K H b us) (l : RpL K H ds vs) (l' : RpL K H es us) : WalkD true K (Itz K a b) H (zipD ds es) where
  goes := fun i H' x hi => by
    rw [zipD_len, l.length, l'.length] at hi
    exact ⟨vs, us, vs[i], us[i], (LsF.ext x h).sq, (LsF.ext x h').sq, List.getElem?_eq_getElem _, List.getElem?_eq_getElem _⟩
  yld := fun i H' v H2 x hi hy => by
    obtain ⟨T, v1, v2, rfl, hT, rfl, e1, e2⟩ := hy
    obtain ⟨d, hd, p⟩ := l.getV (e1 vs ((LsF.ext x h).sq))
    obtain ⟨d', hd', p'⟩ := l'.getV (e2 us ((LsF.ext x h').sq))
    have px := PExt.new (o := .tup [v1, v2]) hT
    exact ⟨px, _, zipD_get hd hd', .pair (SqT.of upd_same) (.cons ((p.ext x).ext px.ext) (.cons ((p'.ext x).ext px.ext) .nil))⟩
  stops := fun H' x => ⟨vs, us, (LsF.ext x h).sq, (LsF.ext x h').sq, by rw [zipD_len, l.length, l'.length]; omega⟩
theorem id_zip {elts : List Expr} {kk : Nat} {tpos : Pos} {ta tb : TD} (ha : ED X G a ta) (hb : ED X G b tb) (hg : Gl X "zip") (hm : X.mg "zip" = none)
    (hs : starEach [a, b] X.env = (false, eval a X.env) :: starEach [b] X.env := by rfl) (hs2 : starEach [b] X.env = (false, eval b X.env) :: starEach [] X.env := by rfl) (hpl : (backTo pos (starEach [b] X.env)).any (·.1) = false := by rfl) :
    ID X G true (.Tuple elts kk tpos) (.Call (.Name "zip" p) [a, b] [] pos) (iZipD ta tb) := by
  refine ⟨PI.weak (RZ.pi_zipA hg hm (pa_cons ha.pe (pa_cons hb.pe pa_nil hs2) hs) hs hpl) fun σ H R ⟨E, QE, rel, q, k⟩ => ⟨E, _, rel, q, fun x E1 v H1 q1 x1 r1 p1 => ⟨E1, _, r1, q1, fun y E2 u H2 q2 x2 r2 p2 => ?_⟩⟩⟩
  have p1 := p1.ext x2
  cases p1 with
  | tup h1 l1 =>
    cases p2 with
    | tup h2 l2 => exact ⟨_, _, _, _, rfl, .inr ⟨h1.1, h2.1, k _ _ _ _ q2 (x1.trans x2) r2 (walkD_zipT h1.1 h2.1 l1 l2)⟩⟩
    | _ => exact q2.elim
  | lst h1 l1 =>
    cases p2 with
    | lst h2 l2 => exact ⟨_, _, _, _, rfl,   .inl ⟨h1.sq, h2.sq, k _ _ _ _ q2 (x1.trans x2) r2 (walkD_zipL h1 h2 l1 l2)⟩⟩
    | _ => exact q2.elim
  | _ => cases p2 <;> exact q2.elim
end
end DL
set_option Elab.async false
set_option linter.all false
set_option maxRecDepth 100000
set_option maxHeartbeats 1000000
namespace DL
open PySem PySem.Spec PyProof.Rows L2
theorem ns {G : Gh} {l : List Nat} (h : G.slots = l) {i : Nat} (hd : i ∉ l) : i ∉ G.slots := by rw [h]; exact hd
theorem nsA {G : Gh} {l ms : List Nat} (h : G.slots = l) (hd : ∀ i ∈ ms, i ∉ l) : ∀ i ∈ ms, i ∉ G.slots := by rw [h]; exact hd
theorem u65 {k : Nat} {A : Around} (r : Room k A) : A.units + 65 < cLine := by have := r.un; omega
theorem bb_len : bootBuiltins "len" = some (.builtin "len") := by decide +kernel
theorem bb_abs : bootBuiltins "abs" = some (.builtin "abs") := by decide +kernel
theorem bb_max : bootBuiltins "max" = some (.builtin "max") := by decide +kernel
theorem bb_min : bootBuiltins "min" = some (.builtin "min") := by decide +kernel
theorem bb_all : bootBuiltins "all" = some (.builtin "all") := by decide +kernel
theorem bb_sorted : bootBuiltins "sorted" = some (.builtin "sorted") := by decide +kernel
theorem bb_tuple : bootBuiltins "tuple" = some (.type "tuple") := by decide +kernel
theorem bb_list : bootBuiltins "list" = some (.type "list") := by decide +kernel
theorem bb_int : bootBuiltins "int" = some (.type "int") := by decide +kernel
theorem bb_bool : bootBuiltins "bool" = some (.type "bool") := by decide +kernel
theorem bb_str : bootBuiltins "str" = some (.type "str") := by decide +kernel
end DL
set_option Elab.async false
set_option linter.all false
set_option maxRecDepth 100000
set_option maxHeartbeats 1000000
namespace DL
open PySem PySem.Spec PyProof.Rows L2
/-! ### reading: one statement after another, what follows a letter -/
theorem seq_step {t u : TSd} {DE : EndsD} {E : Env} (h : ∀ R : Env → Prop, (∀ E', u DE E' → R E') → t { DE with nx := R } E) : sSeq t u DE E := h _ fun _ h => h
theorem ifB {b : Bool} {A B : Prop} (h1 : b = true → A) (h2 : b = false → B) : if b = true then A else B := by
  cases b with
  | true => exact if_pos rfl ▸ h1 rfl
  | false => rw [if_neg Bool.false_ne_true]; exact h2 rfl
theorem ifT {b : Bool} {A B : Prop} (hb : b = true) (h1 : A) : if b = true then A else B := by rw [if_pos hb]; exact h1
theorem ifF {b : Bool} {A B : Prop} (hb : b = false) (h1 : B) : if b = true then A else B := by rw [hb, if_neg Bool.false_ne_true]; exact h1
/-! == of numbers, truths -/
theorem eqv_int (i j : Int) : PyData.eqv (.int i) (.int j) = decide (i = j) := by
  show (i == j) = decide (i = j)
  by_cases h : i = j
  · subst h; simp
  · simp [h]
theorem eqv_bool (i j : Bool) : PyData.eqv (.bool i) (.bool j) = (i == j) := rfl
theorem eqv_none : PyData.eqv .none .none = true := rfl
theorem eqv_tup (xs ys : List D) : PyData.eqv (.tuple xs) (.tuple ys) = PyData.eqvAll xs ys := by simp [PyData.eqv]
theorem shaped_int (i : Int) : SeqAt.shaped (.int i) = true := rfl
theorem shaped_bool (i : Bool) : SeqAt.shaped (.bool i) = true := rfl
theorem shaped_none : SeqAt.shaped .none = true := rfl
/-! items -/
theorem atI_at {α : Type} {xs : List α} {i : Int} {d : α} (h0 : 0 ≤ i) (h : xs[i.toNat]? = some d) : atI xs i = some d := by
  obtain ⟨hl, _⟩ := List.getElem?_eq_some_iff.mp h
  unfold atI ixN
  rw [if_pos h0, if_pos (by omega)]
  exact h
theorem atD_at {xs : List D} {i : Int} {d : D} {Q : D → Prop} (h0 : 0 ≤ i) (h : xs[i.toNat]? = some d) (q : Q d) : atD xs i Q := by unfold atD; rw [atI_at h0 h]; exact q
theorem atD_0 {x : D} {xs : List D} {Q : D → Prop} : atD (x :: xs) 0 Q = Q x := by
  unfold atD; rw [atI_at (d := x) (by decide) rfl]
theorem atD_1 {x y : D} {xs : List D} {Q : D → Prop} : atD (x :: y :: xs) 1 Q = Q y := by
  unfold atD; rw [atI_at (d := y) (by decide) rfl]
theorem atD_2 {x y z : D} {xs : List D} {Q : D → Prop} : atD (x :: y :: z :: xs) 2 Q = Q z := by
  unfold atD; rw [atI_at (d := z) (by decide) rfl]
theorem atD_3 {x y z u : D} {xs : List D} {Q : D → Prop} : atD (x :: y :: z :: u :: xs) 3 Q = Q u := by
  unfold atD; rw [atI_at (d := u) (by decide) rfl]
theorem putD_0 {x d : D} {xs : List D} {Q : List D → Prop} : putD (x :: xs) 0 d Q = Q (d :: xs) := by
  unfold putD ixN; rw [if_pos (by decide), if_pos (by rw [List.length_cons]; omega)]; rfl
theorem getElem_map_int {ns : List Int} {i : Nat} (h : i < ns.length) : (ns.map PyData.int)[i]? = some (.int ns[i]) := by
  rw [List.getElem?_map, List.getElem?_eq_getElem h]; rfl
/-- a for by what holds between two turns; R: what follows a turn -/
theorem forD_inv {g : TGd} {tb : TSd} {DE : EndsD} {ds : List D} {E : Env} (I : Nat → Env → Prop) (h0 : I 0 E)
    (hs : ∀ (i : Nat) (d : D) (E : Env), ds[i]? = some d → I i E → ∀ R : Env → Prop, (∀ E', I (i + 1) E' → R E') → g d E fun E1 => tb { DE with nx := R, ct := R, bk := DE.nx } E1)
    (hd : ∀ E, I ds.length E → DE.nx E) : forD g tb ds DE E := by
  induction ds generalizing E I with
  | nil => exact hd E h0
  | cons d ds ih =>
    refine hs 0 d E rfl h0 _ fun E' h' => ?_
    exact ih (fun i => I (i + 1)) h' (fun i d E e q => hs (i + 1) d E (by simpa using e) q) fun E q => hd E (by simpa using q)
theorem for_inv {ti : TDs} {g : TGd} {tb : TSd} {DE : EndsD} {E : Env} {ds : List D} {E1 : Env} (h : ∀ Q : List D → Env → Prop, Q ds E1 → ti E Q) (I : Nat → Env → Prop) (h0 : I 0 E1)
    (hs : ∀ (i : Nat) (d : D) (E : Env), ds[i]? = some d → I i E → ∀ R : Env → Prop, (∀ E', I (i + 1) E' → R E') → g d E fun E1 => tb { DE with nx := R, ct := R, bk := DE.nx } E1)
    (hd : ∀ E, I ds.length E → DE.nx E) : sFor ti g tb DE E := h _ (forD_inv I h0 hs hd)
/-- behind it the environment is the one ahead (its own names were not in use, and hold nothing known) -/
theorem rest_wipe {E E' : Env} : ∀ {ms : List Nat}, wipeE E' ms = wipeE E ms → (∀ i ∈ ms, E[i]? = some .un ∨ (∃ x, E[i]? = some (.d x))) → restE E E' ms = E := by
  intro ms hw hE
  have hl : E'.length = E.length := by
    have : ∀ (F : Env) (l : List Nat), (wipeE F l).length = F.length := by
      intro F l
      induction l with
      | nil => rfl
      | cons v vs ih => show ((wipeE F vs).set v .un).length = _; rw [List.length_set, ih]
    rw [← this E' ms, hw, this]
  have wg : ∀ (F : Env) (l : List Nat) (i : Nat), i ∉ l → (wipeE F l)[i]? = F[i]? := by
    intro F l
    induction l with
    | nil => intro _ _; rfl
    | cons v vs ih => intro i h; show ((wipeE F vs).set v .un)[i]? = _; rw [List.getElem?_set_ne (fun z => h (by simp [z])), ih i fun z => h (List.mem_cons_of_mem _ z)]
  refine List.ext_getElem? fun i => ?_
  by_cases hi : i ∈ ms
  · have key : ∀ (l : List Nat), i ∈ l → (restE E E' l)[i]? = some (datOf E[i]?) := by
      intro l
      induction l with
      | nil => intro h; cases h
      | cons v vs ih =>
        intro h
        show ((restE E E' vs).set v (datOf E[v]?))[i]? = _
        have rl : ∀ (l : List Nat), (restE E E' l).length = E'.length := by
          intro l
          induction l with
          | nil => rfl
          | cons v vs ih => show ((restE E E' vs).set v _).length = _; rw [List.length_set, ih]
        by_cases hv : v = i
        · subst hv
          have : v < E.length := by
            rcases hE v hi with z | ⟨x, z⟩
            · exact (List.getElem?_eq_some_iff.mp z).1
            · exact (List.getElem?_eq_some_iff.mp z).1
          rw [List.getElem?_set_self (by rw [rl, hl]; exact this)]
        · rw [List.getElem?_set_ne hv]
          exact ih (by rcases List.mem_cons.mp h with q | q; exact absurd q.symm hv; exact q)
    rw [key ms hi]
    rcases hE i hi with z | ⟨x, z⟩
    · rw [z]; rfl
    · rw [z]; rfl
  · have rg : ∀ (l : List Nat), i ∉ l → (restE E E' l)[i]? = E'[i]? := by
      intro l
      induction l with
      | nil => intro _; rfl
      | cons v vs ih => intro h; show ((restE E E' vs).set v _)[i]? = _; rw [List.getElem?_set_ne (fun z => h (by simp [z])), ih fun z => h (List.mem_cons_of_mem _ z)]
    rw [rg ms hi, ← wg E' ms i hi, hw, wg E ms i hi]
/-- over typed items -/
theorem compD_map {α : Type} {g : TGd} {tt : TTd} {te : TD} {ms : List Nat} {W : Env} (enc : α → D) (p : α → Bool) (f : α → D) : ∀ (xs : List α) (acc : List D) (E : Env) (Q : List D → Env → Prop), wipeE E ms = W →
    (∀ x ∈ xs, ∀ R : Option D → Env → Prop, (∀ E', wipeE E' ms = W → R (if p x = true then some (f x) else none) E') → turnD g tt te (enc x) W R) → acc.length + xs.length ≤ sizeLine → (∀ E', wipeE E' ms = W → Q (acc ++ (xs.filter p).map f) E') → compD g tt te ms (xs.map enc) acc E Q
  | [], acc, E, Q, hE, _, _, q => by have := q E hE; rw [List.filter_nil, List.map_nil, List.append_nil] at this; exact this
  | x :: xs, acc, E, Q, hE, hf, hl, q => by
    show turnD g tt te (enc x) (wipeE E ms) _
    rw [hE]
    refine hf x (List.mem_cons_self ..) _ fun E' hE' => ?_
    rw [List.length_cons] at hl
    cases hp : p x with
    | false =>
      rw [if_neg Bool.false_ne_true]
      refine compD_map enc p f xs acc E' Q hE' (fun d hd => hf d (List.mem_cons_of_mem _ hd)) (by omega) fun E2 h2 => ?_
      have := q E2 h2
      rw [List.filter_cons_of_neg (by rw [hp]; exact Bool.false_ne_true)] at this; exact this
    | true =>
      rw [if_pos rfl]
      refine ⟨by omega, compD_map enc p f xs (acc ++ [f x]) E' Q hE' (fun d hd => hf d (List.mem_cons_of_mem _ hd)) (by rw [List.length_append]; simp; omega) fun E2 h2 => ?_⟩
      have := q E2 h2
      rw [List.filter_cons_of_pos hp] at this
      rw [List.append_assoc]; exact this
theorem comp_filter {α : Type} {ti : TDs} {g : TGd} {tt : TTd} {te : TD} {ms : List Nat} {E E1 : Env} {Q : List D → Env → Prop} (xs : List α) (enc : α → D) (p : α → Bool) (f : α → D) (hi : ∀ R : List D → Env → Prop, R (xs.map enc) E1 → ti E R)
    (hE : ∀ i ∈ ms, E1[i]? = some .un ∨ (∃ x, E1[i]? = some (.d x))) (hl : xs.length ≤ sizeLine)
    (hf : ∀ x ∈ xs, ∀ R : Option D → Env → Prop, (∀ E', wipeE E' ms = wipeE E1 ms → R (if p x = true then some (f x) else none) E') → turnD g tt te (enc x) (wipeE E1 ms) R) (q : Q ((xs.filter p).map f) E1) : tComp ti g tt te ms E Q :=
  hi _ (compD_map enc p f xs [] E1 _ rfl hf (by simpa using hl) fun E' hE' => by rw [rest_wipe hE' hE]; exact q)
theorem comp_map {α : Type} {ti : TDs} {g : TGd} {te : TD} {ms : List Nat} {E E1 : Env} {Q : List D → Env → Prop} (xs : List α) (enc : α → D) (f : α → D) (hi : ∀ R : List D → Env → Prop, R (xs.map enc) E1 → ti E R)
    (hE : ∀ i ∈ ms, E1[i]? = some .un ∨ (∃ x, E1[i]? = some (.d x))) (hl : xs.length ≤ sizeLine)
    (hf : ∀ x ∈ xs, ∀ R : D → Env → Prop, (∀ E', wipeE E' ms = wipeE E1 ms → R (f x) E') → g (enc x) (wipeE E1 ms) fun E1 => te E1 R) (q : Q (xs.map f) E1) : tComp ti g tTrue te ms E Q := by
  refine comp_filter xs enc (fun _ => true) f hi hE hl (fun x hx R hR => ?_) (by rw [List.filter_eq_self.mpr (fun _ _ => rfl)]; exact q)
  exact hf x hx (fun y E3 => R (some y) E3) hR
theorem un1 {E : Env} {i : Nat} (h : E[i]? = some .un) : ∀ j ∈ [i], E[j]? = some .un ∨ (∃ x, E[j]? = some (.d x)) := fun j hj => by
  rcases List.mem_cons.mp hj with rfl | z
  · exact .inl h
  · cases z
theorem un2 {E : Env} {i k : Nat} (h : E[i]? = some .un) (h' : E[k]? = some .un) : ∀ j ∈ [i, k], E[j]? = some .un ∨ (∃ x, E[j]? = some (.d x)) := fun j hj => by
  rcases List.mem_cons.mp hj with rfl | z
  · exact .inl h
  · exact un1 h' j z
end DL
set_option Elab.async false
set_option linter.all false
set_option maxRecDepth 100000
set_option maxHeartbeats 1000000
namespace DL
open PySem PySem.Spec PyProof.Rows L2
section
variable {X : Cx} {G : Gh} {a b c e : Expr} {es : List Expr} {pos p p1 p2 p3 : Pos} {x : Str}
/-! ### range(a, b, c): as an object, its len -/
def tLenRange (ta tb tc : TD) : TD := fun E Q => ta E fun x E1 => tb E1 fun y E2 => tc E2 fun z E3 => match x, y, z with
  | .int i, .int j, .int k => ∃ n : Nat, (k ≠ 0 ∧ k.natAbs < 1073741824) ∧ Builtin.Range.rangeSize i j k = n ∧ n < 2 ^ 62 ∧ Q (.int n) E3
  | _, _, _ => False
/-! range with a step, walked -/
/-! ### slices by numbers from 0 on -/
theorem sIx_int {n d : Nat} {i : Int} (h : 0 ≤ i) : HT.sIx n d (some i) = min i.toNat n := by
  show (if i < 0 then (i + (n : Int)).toNat else min i.toNat n) = _
  rw [if_neg (by omega)]
theorem cut_to {xs : List D} {i : Int} (h : 0 ≤ i) : cutD xs none (some i) = xs.take i.toNat := by
  unfold cutD
  rw [HT.sIx_none, sIx_int h]
  show xs.take (min i.toNat xs.length - 0) = _
  rw [Nat.sub_zero]
  rcases Nat.le_total i.toNat xs.length with z | z
  · rw [Nat.min_eq_left z]
  · rw [Nat.min_eq_right z, List.take_of_length_le (Nat.le_refl _), List.take_of_length_le z]
theorem cut_from {xs : List D} {i : Int} (h : 0 ≤ i) : cutD xs (some i) none = xs.drop i.toNat := by
  unfold cutD
  rw [HT.sIx_none, sIx_int h]
  rcases Nat.le_total i.toNat xs.length with z | z
  · rw [Nat.min_eq_left z, List.take_of_length_le (by rw [List.length_drop]; omega)]
  · rw [Nat.min_eq_right z, List.drop_eq_nil_of_le (Nat.le_refl _), List.drop_eq_nil_of_le z, List.take_nil]
end
end DL
set_option Elab.async false
set_option linter.all false
set_option maxRecDepth 100000
namespace DL
open PySem PySem.Spec PyProof.Rows L2
/-- a def that nobody calls at this height -/
theorem no_ok {P : Program} {w : World} {K : PySem.W.Frag} {mg : Str → Option Value} {base : Heap} {x qual : Str} {st : Stmt} {f : Addr} {fd : FuncData} {N ps : List Str} {k : Nat} (F : Fun K x qual st f fd) (Sc : FnScope N ps (defScope st)) : FnOk P w K mg base CX0 (k + 1) f fd ps (spL K fun _ _ => False) :=
  F.ok Sc (fun vs H Q E ⟨_, _, _, h, _⟩ => h.elim) (fun cdv A outer s H vs Q E hr ⟨_, _, _, h, _⟩ => h.elim)
/-- the end of a law: the law's def keeps the promise spLaw-like on every script -/
theorem law_walk {l : PySem.W.OpenLaw} {n k : Nat} {q : Program} {loose : List Str} {XP : (Str → Option Value) → Heap → Prop} {YP : World → Heap → Prop} {d : DefRec} {KK : Params → PySem.W.Frag} {sp : SpD} {x : Str} (hm : l.most = some n) (hl : n ≤ sizeLine) (hdf : d.params.defaults = []) (rm : Room k callerA) (hY : ∀ (w : World) (h : Heap), YP w h → (KK w.params).In h)
    (F : ∀ (w : World) (mg : Str → Option Value) (fa : Addr) (h : Heap), (KK w.params).In h → h.Ns mainGlobals mg → mg d.name = some (.ref fa) → ∃ fd : FuncData, (∀ (s : Shared) (u : Value), BindsTo s fd ⟨[u], []⟩ [(x, u)]) ∧ ∀ base : Heap, (KK w.params).In base → base.Ns mainGlobals mg → FnOk l.prog w (KK w.params) mg base L2.CX0 k fa fd [x] (spL (KK w.params) sp))
    (hsp : ∀ (ns : List Int) (Q : D → List S → Prop), ns.length ≤ n → (∀ z ∈ ns, Builtin.Int.intBits z ≤ 1048576) → Q (.bool true) [] → sp [.d (.list (ns.map PyData.int))] Q) :
    PySem.W.WalkO q loose XP YP l.row.toRowW d [] (fun f vs => PySem.call f vs) := by
  refine Att.attach_callB hm hdf fun w s₀ s₁ mg mb fa o pm cd doc a vs ns G Y ho hd hcd hmg hobj hints hlen hbits hg => ?_
  have KX := hY w _ Y
  obtain ⟨fd, hb, hF⟩ := F w mg fa _ KX G.T.g hmg
  refine law_call KX G.T.g G.T.b G.T.builtins G.T.nolimit hg hobj hints (Nat.le_trans hlen hl) rm hF hb (fun H hO hS => ?_) (fun H e s' h => h)
  have hF : LsF (KK w.params) H a (ns.map V.int) := by
    rcases hS with (z | z) | ⟨ob, its, m, e, hc, hdd, hdt, hz, r⟩
    · rcases hO a with y | ⟨ob, xs, y⟩
      · rw [z] at y; cases y
      · rw [z] at y; cases y
    · exact .inl z
    · have e2 := KX _ _ e
      rw [hobj] at e2
      cases e2
      cases hdt
      exact .inr ⟨_, _, e, hz, r⟩
  refine ⟨[.d (.list (ns.map PyData.int))], [], fun d outs => d = .bool true, hsp ns _ hlen hbits rfl, .d (.lst hF (RpL.ofInts ns)) .nil, List.nodup_nil, fun d outs v H' h _ _ r => ?_⟩
  subst h
  cases r
  rfl
end DL
set_option Elab.async false
set_option linter.all false
set_option maxRecDepth 100000
set_option maxHeartbeats 3200000
/-! DL13: set(xs) of a list of ints, sorted(set(xs)), len(set(xs)). -/
namespace DL
open PySem PySem.Spec PyProof.Rows L2
section
variable {P : Program} {w : World} {A : Around} {E : Value → Shared → Prop} {s : Shared}
abbrev nSet (w : World) : Obj := { cls := .type "set", dict := none, data := .set #[] 0 (.fresh 0 0 (!w.params.followText "set-order")) }
end
end DL
namespace DL
open PySem PySem.Spec PyProof.Rows L2
section
variable {X : Cx} {G : Gh} {a : Expr} {pos p p1 p2 p3 : Pos}
/-- sorted(set(xs)), xs a list of fewer than 64 ints -/
def tSortSet (ta : TD) : TLd := fun E Q => ta E fun x E1 => match x with
  | .list xs => ∃ ns : List Int, xs = ns.map PyData.int ∧ ns.length < 64 ∧ ∀ zs : List Int, zs.Pairwise (· < ·) → (∀ k, k ∈ zs ↔ k ∈ ns) → Q (zs.map PyData.int) E1
  | _ => False
/-- len(set(xs)) -/
def tLenSet (ta : TD) : TD := fun E Q => ta E fun x E1 => match x with
  | .list xs => ∃ ns : List Int, xs = ns.map PyData.int ∧ ns.Nodup ∧ ns.length ≤ 4000 ∧ Q (.int (ns.length : Nat)) E1
  | _ => False
theorem ed_lenSet {ta : TD} (ha : ER X G a ta) (hg : Gl X "len") (hm : X.mg "len" = none) (hg2 : Gl X "set") (hm2 : X.mg "set" = none) (hc : X.calm = true := by rfl)
    (hs : starEach [a] X.env = (false, eval a X.env) :: starEach [] X.env := by rfl) : ED X G (.Call (.Name "len" p) [.Call (.Name "set" p1) [a] [] p2] [] pos) (tLenSet ta) := by
  refine ⟨PE.weak (RZ.pe_lenSetI hg hm hg2 hm2 ha.pe hc hs) fun σ H Q ⟨E, QE, rel, q, k⟩ => ⟨E, _, rel, q, fun x E1 v H1 q1 x1 r1 p1 => ?_⟩⟩
  cases x with
  | list xs =>
    obtain ⟨ns, rfl, hn, hl, q1⟩ := q1
    obtain ⟨b, us, rfl, hs, l⟩ := p1.list
    rw [l.ints] at hs
    exact ⟨b, ns, rfl, hs, hn, hl, k _ _ _ _ q1 x1 r1 (.int _)⟩
  | _ => exact q1.elim
end
end DL
set_option Elab.async false
set_option linter.all false
set_option maxRecDepth 100000
/-! DL14: plain laws of data: shaped, == of encoded lists. -/
namespace DL
open PySem PySem.Spec PyProof.Rows L2
/-- n lists or tuples deep at most, no dict -/
def shOk : Nat → D → Bool
  | _, .none => true
  | _, .bool _ => true
  | _, .int _ => true
  | _, .str x => PyData.strOk x
  | n + 1, .tuple ds => ds.all (shOk n)
  | n + 1, .list ds => ds.all (shOk n)
  | _, _ => false
theorem shOk_all {n : Nat} (ih : ∀ d, shOk n d = true → d.canLay0 = true ∧ d.depth ≤ n) : ∀ ds : List D, ds.all (shOk n) = true → PyData.canLayAll0 ds = true ∧ PyData.depthAll ds ≤ n
  | [], _ => ⟨rfl, Nat.zero_le _⟩
  | d :: ds, h => by
    rw [List.all_cons, Bool.and_eq_true] at h
    have ⟨a, b⟩ := ih d h.1
    have ⟨c, e⟩ := shOk_all ih ds h.2
    exact ⟨by rw [PyData.canLayAll0, a, c]; rfl, by rw [PyData.depthAll]; omega⟩
theorem shOk_spec : ∀ (n : Nat) (d : D), shOk n d = true → d.canLay0 = true ∧ d.depth ≤ n
  | n, .none, _ => ⟨rfl, Nat.zero_le _⟩
  | n, .bool _, _ => ⟨rfl, Nat.zero_le _⟩
  | n, .int _, _ => ⟨rfl, Nat.zero_le _⟩
  | n, .str x, h => ⟨by cases n <;> exact h, Nat.zero_le _⟩
  | n + 1, .tuple ds, h => by
    have ⟨a, b⟩ := shOk_all (shOk_spec n) ds h
    exact ⟨by rw [PyData.canLay0]; exact a, by rw [PyData.depth]; omega⟩
  | n + 1, .list ds, h => by
    have ⟨a, b⟩ := shOk_all (shOk_spec n) ds h
    exact ⟨by rw [PyData.canLay0]; exact a, by rw [PyData.depth]; omega⟩
  | 0, .tuple _, h => by cases h
  | 0, .list _, h => by cases h
  | 0, .dict _, h => by cases h
  | n + 1, .dict _, h => by cases h
theorem shaped_of {n : Nat} {d : D} (h : shOk n d = true) (hn : n ≤ 64 := by decide) : SeqAt.shaped d = true := by
  have ⟨a, b⟩ := shOk_spec n d h
  show (d.canLay0 && decide (d.depth ≤ 64)) = true
  rw [a, decide_eq_true (show d.depth ≤ 64 by omega)]; rfl
theorem eqv_self {n : Nat} {d : D} (h : shOk n d = true) : PyData.eqv d d = true := SeqAt.eqv_refl d (shOk_spec n d h).1
theorem shOk_lst {n : Nat} {ds : List D} : shOk (n + 1) (.list ds) = ds.all (shOk n) := rfl
theorem shOk_tup {n : Nat} {ds : List D} : shOk (n + 1) (.tuple ds) = ds.all (shOk n) := rfl
theorem all_enc {α : Type} {n : Nat} {e : α → D} (he : ∀ a, shOk n (e a) = true) (xs : List α) : (xs.map e).all (shOk n) = true := by
  rw [List.all_map]; exact List.all_eq_true.mpr fun a _ => he a
theorem all_ints {n : Nat} (ns : List Int) : (ns.map PyData.int).all (shOk n) = true := all_enc (fun _ => by cases n <;> rfl) ns
theorem shaped_ti (ns : List Int) : SeqAt.shaped (.tuple (ns.map PyData.int)) = true := shaped_of (n := 1) (by rw [shOk_tup]; exact all_ints ns)
theorem eqvAll_enc {α : Type} [DecidableEq α] {e : α → D} (he : ∀ a b, PyData.eqv (e a) (e b) = decide (a = b)) : ∀ xs ys : List α, PyData.eqvAll (xs.map e) (ys.map e) = decide (xs = ys)
  | [], [] => rfl
  | [], _ :: _ => rfl
  | _ :: _, [] => rfl
  | x :: xs, y :: ys => by
    rw [List.map_cons, List.map_cons, PyData.eqvAll, he, eqvAll_enc he xs ys]
    by_cases h1 : x = y <;> by_cases h2 : xs = ys <;> simp [h1, h2]
theorem eqv_ti (ns ms : List Int) : PyData.eqv (.tuple (ns.map PyData.int)) (.tuple (ms.map PyData.int)) = decide (ns = ms) := by rw [eqv_tup, eqvAll_enc eqv_int]
end DL
set_option Elab.async false
set_option linter.all false
set_option maxRecDepth 100000
set_option maxHeartbeats 1000000
/-! DL15: sorted(xs), sorted(xs, reverse=b): lists and tuples of any data that is alike. -/
namespace DL
open PySem PySem.Spec PyProof.Rows L2
section
variable {prog : Program} {w : World} {A : Around} {E : Value → Shared → Prop} {s : Shared} {β : Type} {vs : List Value} {bs : List β} {enc : β → PyData} {R : Value → β → Prop}
/-- what is made of a list's or a tuple's items: a new list, in the very next place -/
theorem collect_one {l : Addr} {T : String} {o : Obj} {n : Nat} {Q : List Value → Shared → Prop} (hT : T = "list" ∨ T = "tuple") (ho : s.heap.get? l = some o) (hc : o.cls = .type T) (hd : o.data = .seq vs.toArray n) (small : vs.length ≤ sizeLine)
    (fin : Q vs { s with heap := (s.heap.push (seqObj "list" #[] 0)).update s.heap.objs.size (Obj.mapSeq (· ++ vs.toArray)) }) : wpAny (model prog w) A (collect (.ref l)) Q E s := by
  have new : (s.heap.push (seqObj "list" #[] 0)).get? s.heap.objs.size = some (seqObj "list" #[] 0) := Heap.get?_push_size _ rfl
  have was : (s.heap.push (seqObj "list" #[] 0)).get? l = some o := Heap.get?_push_of_some _ ho
  unfold collect; refine wpAny_bind (wpAny_runValue (codeAny_builtin entry_proto_collect' ?_))
  show wpAny _ _ (do again (.builtin "list.__iadd__" ⟨[← newList [], Value.ref l], []⟩)) _ _ s
  refine wpAny_bind (wpAny_newList (wpAny_pure ⟨Code.quiet_builtin _ (by decide +kernel), codeAny_builtin entry_list_iadd' ?_⟩) (Nat.zero_le _))
  show wpAny _ _ (Builtin.List.listExtendWith (Value.ref s.heap.objs.size) (Value.ref l) (Value.ref s.heap.objs.size)) _ _ { s with heap := s.heap.push (seqObj "list" #[] 0) }
  unfold Builtin.List.listExtendWith; refine wpAny_bind (wpAny_typeOf (T := T) ⟨o, was, hc⟩ ?_)
  rw [if_pos (by rcases hT with rfl | rfl; · rw [show (Value.type "list" == Value.type "list") = true from rfl, Bool.or_true, Bool.true_or]
                 · rw [show (Value.type "tuple" == Value.type "tuple") = true from rfl, Bool.or_true])]; refine wpAny_bind (listItems_at was hd ?_); refine wpAny_bind (listItems_at (xs := #[]) (n := 0) new rfl ?_)
  rw [if_neg (by simp)]
  refine wpAny_bind (listUpdate_at (xs := #[]) (n := 0) new rfl ?_ (Nat.zero_le _) (by show (#[] ++ vs.toArray).size ≤ sizeLine + 1; simp only [Array.size_append, List.size_toArray, List.length_nil]; omega)); refine wpAny_pure ?_
  show wpAny (model prog w) A (do
      let ob ← load s.heap.objs.size
      match ob.data with | .seq xs _ => pure xs.toList | _ => unsupported "internal:collect") Q E { s with heap := (s.heap.push (seqObj "list" #[] 0)).update s.heap.objs.size (Obj.mapSeq (· ++ vs.toArray)) }
  refine wpAny_bind (wpAny_load (get?_update_seq new _) ?_); show wpAny _ _ (pure ((#[] : Array Value) ++ vs.toArray).toList) Q E _
  have e0 : ((#[] : Array Value) ++ vs.toArray).toList = vs := by simp
  rw [e0]; exact wpAny_pure fin
theorem sorted_seqD {l : Addr} {T : String} {o : Obj} {n : Nat} {rv : Bool} {kw : List (Str × Value)} {Q : Value → Shared → Prop} (hT : T = "list" ∨ T = "tuple") (ho : s.heap.get? l = some o) (hc : o.cls = .type T) (hd : o.data = .seq vs.toArray n)
    (hkw : ∀ p, Builtin.«list.sort» ⟨[.ref p], kw⟩ = Builtin.«list.sort» ⟨[.ref p], [(Str.ofString "reverse", .bool rv)]⟩) (ok1 : argsOk "sorted" ⟨[.ref l], kw⟩) (ok2 : ∀ x, argsOk "list.sort" ⟨[.ref x], kw⟩)
    (e : PySem.W.EachIs R vs bs) (er : PySem.W.EachIs (fun v b => ∃ as, Reads s.heap v (enc b) as) vs bs) (hal : PySem.W.AllAlike (bs.map enc)) (hk : PySem.W.Sortable (bs.map enc)) (hL : vs.length ≤ sizeLine) (hu : ∀ b, b ∈ bs → A.units + 2 + (enc b).depth < cLine)
    (h : ∀ h' p out c, (∀ b o, s.heap.get? b = some o → h'.get? b = some o) → s.heap.objs.size ≤ p → h'.get? p = some { cls := .type "list", data := .seq (List.toArray out) c } → PySem.W.EachIs R out (bs.mergeSort (PySem.W.dataLe rv enc)) → Q (.ref p) { s with heap := h' }) :
    wpAny (model prog w) A (call (.builtin "sorted") [.ref l] kw) Q E s := by
  refine call_function_entry_kw kind_sorted plain_sorted entry_sorted ok1 ?_
  unfold Builtin.«sorted»
  refine wpAny_bind (m := checkCount "sorted" 1 1 _) (wpAny_pure ?_)
  refine wpAny_bind (collect_one hT ho hc hd hL ?_)
  generalize hh1 : (s.heap.push (seqObj "list" #[] 0)).update s.heap.objs.size (Obj.mapSeq (· ++ vs.toArray)) = h1
  have le1 : s.heap.objs.size ≤ h1.objs.size := by rw [← hh1, Heap.size_update, size_push']; exact Nat.le_succ _
  have k1 : ∀ b u, s.heap.get? b = some u → h1.get? b = some u := fun b u q => by
    rw [← hh1, Heap.get?_update_ne _ _ _ _ (Nat.ne_of_lt (Heap.lt_size q))]; exact Heap.get?_push_of_some _ q
  refine wpAny_bind (wpAny_newList ?_ hL)
  have hp : (h1.push (seqObj "list" vs.toArray 0)).get? h1.objs.size = some (seqObj "list" vs.toArray 0) := Heap.get?_push_size _ rfl
  have old : ∀ b u, s.heap.get? b = some u → b ≠ h1.objs.size ∧ (h1.push (seqObj "list" vs.toArray 0)).get? b = some u := fun b u q => ⟨Nat.ne_of_lt (Heap.lt_size (k1 b u q)), Heap.get?_push_of_some _ (k1 b u q)⟩
  refine wpAny_bind (wpAny_holding (wpAny_call_entry_kw slot_list_sort ⟨_, hp, rfl⟩ entry_list_sort ?body (ok2 _)))
  case body =>
    have er' : PySem.W.EachIs (fun v b => ∃ as, Reads (PySem.W.sortingHeap (h1.push (seqObj "list" vs.toArray 0)) h1.objs.size vs) v (enc b) as) vs bs := er.mono fun _ _ ⟨as, r⟩ => ⟨as, PyProof.Rows.Reads.keeps (fun b u q => PySem.W.sortingHeap_old (old b u q).1 (old b u q).2) r⟩
    show wpAny (model prog w) A.in1.in1 (Builtin.«list.sort» ⟨[.ref h1.objs.size], kw⟩) _ _ _
    rw [hkw]
    refine PySem.W.list_sort_rev_vals (κ := PySem.W.dataKind (PySem.W.sortingHeap (h1.push (seqObj "list" vs.toArray 0)) h1.objs.size vs) (bs.map enc)) hp (PySem.W.SortsAt.data (s := { s with heap := PySem.W.sortingHeap (h1.push (seqObj "list" vs.toArray 0)) h1.objs.size vs }) (PySem.W.each_map (R := fun v d => ∃ as, Reads (PySem.W.sortingHeap (h1.push (seqObj "list" vs.toArray 0)) h1.objs.size vs) v d as) enc er') hal hk (PySem.W.bound_map hu)) hL ⟨_, rfl, wpAny_pure ⟨_, rfl, ?_⟩⟩
    obtain ⟨c, hc2⟩ := sortedHeap_at (vs := vs) (out := (PySem.W.sortVals (PySem.W.dataKind (PySem.W.sortingHeap (h1.push (seqObj "list" vs.toArray 0)) h1.objs.size vs) (bs.map enc)) rv vs vs).toArray) hp
    refine h _ _ _ c (fun b u q => ?_) le1 hc2 (PySem.W.sortVals_data rv e er' hal)
    rw [sortedHeap_old (old b u q).1 (Heap.lt_size (old b u q).2)]
    exact (old b u q).2
end
section
variable {X : Cx} {G : Gh}
theorem each_pairs {K : PySem.W.Frag} {H : Hp} : ∀ {ds : List D} {us : List V} {vs : List Value}, RpL K H ds us → Vals us vs → PySem.W.EachIs (fun v (b : V × D) => RelV b.1 v) vs (us.zip ds)
  | _, _, _, .nil, .nil => .nil
  | _, _, _, .cons _ l, .cons r t => .cons r (each_pairs l t)
theorem each_reads {pins : List (Addr × Obj)} {s : Shared} {σ : St} {H : Hp} (I : Inv X pins σ H s) : ∀ {ds : List D} {us : List V} {vs : List Value}, (∀ d ∈ ds, d.canLay0 = true) → RpL X.K H ds us → Vals us vs → PySem.W.EachIs (fun v (b : V × D) => ∃ as, Reads s.heap v b.2 as) vs (us.zip ds)
  | _, _, _, _, .nil, .nil => .nil
  | _, _, _, z, .cons h l, .cons r t => .cons (Dp.reads I _ _ _ (h.dp (z _ (List.mem_cons_self ..))) r) (each_reads I (fun d hd => z d (List.mem_cons_of_mem _ hd)) l t)
theorem each_vals : ∀ {bs : List (V × D)} {vs : List Value}, PySem.W.EachIs (fun v (b : V × D) => RelV b.1 v) vs bs → Vals (bs.map (·.1)) vs
  | _, _, .nil => .nil
  | _, _, .cons r t => .cons r (each_vals t)
theorem zip_rp {K : PySem.W.Frag} {H : Hp} : ∀ {ds : List D} {us : List V}, RpL K H ds us → ∀ b ∈ us.zip ds, Rp K H b.2 b.1
  | _, _, .nil, b, hb => by simp at hb
  | _, _, .cons r l, b, hb => by
    rw [List.zip_cons_cons] at hb
    rcases List.mem_cons.mp hb with e | e
    · subst e; exact r
    · exact zip_rp l b e
theorem rp_zip {K : PySem.W.Frag} {H : Hp} : ∀ {bs : List (V × D)}, (∀ b ∈ bs, Rp K H b.2 b.1) → RpL K H (bs.map (·.2)) (bs.map (·.1))
  | [], _ => .nil
  | b :: bs, h => .cons (h b List.mem_cons_self) (rp_zip fun c hc => h c (List.mem_cons_of_mem _ hc))
theorem zip_snd2 {K : PySem.W.Frag} {H : Hp} {ds : List D} {us : List V} (l : RpL K H ds us) : (us.zip ds).map (·.2) = ds := by
  have := l.length
  rw [List.map_snd_zip (by omega)]
theorem le_snd (rv : Bool) : ∀ a b : V × D, PySem.W.dataLe rv (fun b : V × D => b.2) a b = PySem.W.dataLe rv (fun d : D => d) a.2 b.2 := fun _ _ => rfl
/-- sorted: the data in order -/
def sortD (rv : Bool) (xs : List D) : List D := xs.mergeSort (PySem.W.dataLe rv fun d : D => d)
def sortOk (xs : List D) : Prop := PySem.W.AllAlike xs ∧ PySem.W.Sortable xs ∧ ∀ d ∈ xs, d.depth ≤ 60 ∧ d.canLay0 = true
theorem sorted_run {rv : Bool} {kw : List (Str × Value)} (hu : X.A.units + 65 < cLine) {pins : List (Addr × Obj)} {s : Shared} {σ : St} {H : Hp} {a : Addr} {us : List V} {ds : List D} {Q : VK} (I : Inv X pins σ H s)
    (hs : SqL X.K H a us ∨ SqT X.K H a us) (l : RpL X.K H ds us) (ok : sortOk ds)
    (hkw : ∀ p, Builtin.«list.sort» ⟨[.ref p], kw⟩ = Builtin.«list.sort» ⟨[.ref p], [(Str.ofString "reverse", .bool rv)]⟩) (ok1 : argsOk "sorted" ⟨[.ref a], kw⟩) (ok2 : ∀ x, argsOk "list.sort" ⟨[.ref x], kw⟩)
    (q : ∀ ws p, H p = none → RpL X.K H (sortD rv ds) ws → Q (.ref p) (upd H p (.lst ws))) : wpAny (model X.prog X.w) X.A (call (.builtin "sorted") [.ref a] kw) (EP X pins σ Q) X.xe s := by
  obtain ⟨T, o, n, its, hT, ho, hc, hd, r, hz⟩ : ∃ (T : String) (o : Obj) (n : Nat) (its : List Value), (T = "list" ∨ T = "tuple") ∧ s.heap.get? a = some o ∧ o.cls = .type T ∧ o.data = .seq its.toArray n ∧ Vals us its ∧ us.length ≤ sizeLine := by
    rcases hs with hs | hs
    · obtain ⟨its, r, ⟨o, n, ho, hc, _, hd⟩, hz⟩ := I.list hs
      exact ⟨"list", o, n, its, .inl rfl, ho, hc, hd, r, hz⟩
    · obtain ⟨its, r, ⟨o, ho, hc, n, hd⟩, hz⟩ := I.tuple hs
      exact ⟨"tuple", o, n, its, .inr rfl, ho, hc, hd, r, hz⟩
  have e2 := zip_snd2 l
  refine sorted_seqD (enc := fun b : V × D => b.2) (R := fun v b => RelV b.1 v) (bs := us.zip ds) hT ho hc hd hkw ok1 ok2 (each_pairs l r) (each_reads I (fun d hd => (ok.2.2 d hd).2) l r) (by rw [e2]; exact ok.1) (by rw [e2]; exact ok.2.1) (by rw [← r.length]; exact hz) (fun b hb => ?_) fun h' p out c k1 hp hp2 eo => ?_
  · have := (ok.2.2 b.2 (by rw [← e2]; exact List.mem_map_of_mem hb)).1; omega
  · have rv1 := each_vals eo
    have hn : H p = none := I.hok.fresh hp
    have mem : ∀ b ∈ (us.zip ds).mergeSort (PySem.W.dataLe rv fun b : V × D => b.2), Rp X.K H b.2 b.1 := fun b hb => zip_rp l b ((List.mergeSort_perm _ _).mem_iff.mp hb)
    have e3 : ((us.zip ds).mergeSort (PySem.W.dataLe rv fun b : V × D => b.2)).map (·.2) = sortD rv ds := by
      unfold sortD
      rw [PySem.W.sort_maps (s := PySem.W.dataLe rv fun d : D => d) (fun b : V × D => b.2) (fun a _ b _ => le_snd rv a b), e2]
    have hr := rp_zip mem
    rw [e3] at hr
    have hlen : (((us.zip ds).mergeSort (PySem.W.dataLe rv fun b : V × D => b.2)).map (·.1)).length ≤ sizeLine := by
      rw [List.length_map, (List.mergeSort_perm _ _).length_eq, List.length_zip]; omega
    exact ⟨.ref p, upd H p (.lst _), I.laid (t' := s.toks) k1 hp ⟨hlen, out, c, rv1, hp2⟩, rfl, q _ p hn hr⟩
def caSorted : CaL := fun ds Q => match ds with
  | [.list xs] => sortOk xs ∧ Q (sortD false xs)
  | [.tuple xs] => sortOk xs ∧ Q (sortD false xs)
  | _ => False
theorem cr_sortedD (hu : X.A.units + 65 < cLine) : CallR X (.builtin "sorted") (fun vs H Q => ∃ (a : Addr) (us : List V) (ds : List D), vs = [.ref a] ∧ (SqL X.K H a us ∨ SqT X.K H a us) ∧ RpL X.K H ds us ∧ sortOk ds ∧ ∀ ws p, H p = none → RpL X.K H (sortD false ds) ws → Q (.ref p) (upd H p (.lst ws))) := by
  intro pins s σ H vs us Q I r h
  obtain ⟨a, ws, ds, rfl, hs, l, ok, q⟩ := h
  obtain rfl := Vals.ref1 r
  exact DL.sorted_run hu I hs l ok (fun p => PySem.W.plain_is_rev p) (args_sorted1 _) (fun _ => args_list_sort _) q
theorem cd_sorted (hu : X.A.units + 65 < cLine) : CaLD X (.builtin "sorted") caSorted := ⟨_, cr_sortedD hu, fun ds vs H QD Q hd q k => by
  match ds, q, hd with
  | [.list xs], q, hd =>
    obtain ⟨v, rfl, h⟩ := hd.one
    obtain ⟨a, us, rfl, hs, l⟩ := h.list
    exact ⟨a, us, xs, rfl, .inl hs, l, q.1, fun ws p hp hr => k _ _ _ q.2 hp hr⟩
  | [.tuple xs], q, hd =>
    obtain ⟨v, rfl, h⟩ := hd.one
    obtain ⟨a, us, rfl, hs, l⟩ := h.tuple
    exact ⟨a, us, xs, rfl, .inr hs, l, q.1, fun ws p hp hr => k _ _ _ q.2 hp hr⟩⟩
end
end DL
set_option Elab.async false
set_option linter.all false
set_option maxRecDepth 100000
set_option maxHeartbeats 1000000
/-! DL16: enumerate(t) of a tuple; count, index. -/
namespace DL
open PySem PySem.Spec PyProof.Rows L2 AutoSeq1
section
theorem meets_enumT (l : Addr) (items : Array Value) (n : Nat) (dct : Option Addr) (sl : Array (Option Value)) :
    Meets (Builtin.«enumerate.__new__» ⟨[.type "enumerate", .ref l], []⟩) (fun _ R s => s.heap.get? l = some { cls := .type "tuple", dict := dct, data := .seq items n, slots := sl } ∧
      R (.ok (.ret (.ref (s.heap.push { cls := .type "tuple_iterator", data := .fields #[.ref l, .int 0 0] }).objs.size)))
        { s with heap := (s.heap.push { cls := .type "tuple_iterator", data := .fields #[.ref l, .int 0 0] }).push { cls := .type "enumerate", data := .fields #[.none, .bool false, .ref s.heap.objs.size, rawInt 0, .none, .none] } }) :=
  .of_wp fun prog w A R s h => by
    obtain ⟨hp, g, d, tk, os⟩ := s; obtain ⟨hl, h⟩ := h
    have subE := sub_enumerate; have isT : Heap.IsTuple (Shared.heap ⟨hp, g, d, tk, os⟩) l items := ⟨_, hl, rfl, n, rfl⟩
    wp_walk using wpAny_loadPart' hl
    refine wpAny_stack_any fun st => wpAny_pure ?_
    split
    · rename_i c _ _ _ _ _
      cases (c == Value.type "enumerate") <;> (wp_walk using wpAny_loadPart' hl, wpAny_pyIter_tuple isT; exact ⟨_, rfl, h⟩)
    · wp_walk using wpAny_loadPart' hl, wpAny_pyIter_tuple isT; exact ⟨_, rfl, h⟩
variable {prog : Program} {w : World} {A : Around} {E : Value → Shared → Prop} {s : Shared}
theorem call_enumT {l : Addr} {items : Array Value} {Q : Value → Shared → Prop} (hL : s.heap.IsTuple l items)
    (fin : ∀ h', IsEnum h' (s.heap.objs.size + 1) s.heap.objs.size 0 .none → h'.IsTupleIter s.heap.objs.size l 0 → (∀ b o, s.heap.get? b = some o → h'.get? b = some o) → Q (.ref (s.heap.objs.size + 1)) { s with heap := h' }) :
    wpAny (model prog w) A (call (.type "enumerate") [.ref l]) Q E s := by
  obtain ⟨⟨c, dct, dt, sl⟩, hl, hc, n, hd⟩ := hL
  obtain rfl : c = .type "tuple" := hc
  obtain rfl : dt = .seq items n := hd
  refine callType_new F.called_enumerate (by decide) (F.typeCall_enumerate_1 _) (F.newCall_enumerate_1 _) (fun obj => F.args_object_init_2 obj _) F.entry_enumerate_new (meets_enumT l items n dct sl) ⟨hl, ?_⟩
  have z1 : (s.heap.push { cls := .type "tuple_iterator", data := .fields #[.ref l, .int 0 0] }).objs.size = s.heap.objs.size + 1 := Heap.size_push ..
  show _ ∧ _
  rw [z1]
  have is : IsEnum ((s.heap.push { cls := .type "tuple_iterator", data := .fields #[.ref l, .int 0 0] }).push { cls := .type "enumerate", data := .fields #[.none, .bool false, .ref s.heap.objs.size, rawInt 0, .none, .none] }) (s.heap.objs.size + 1) s.heap.objs.size 0 .none := by
    have q := Heap.get?_push_size (s.heap.push { cls := .type "tuple_iterator", data := .fields #[.ref l, .int 0 0] }) (o := { cls := .type "enumerate", data := .fields #[.none, .bool false, .ref s.heap.objs.size, rawInt 0, .none, .none] }) rfl
    rw [z1] at q; exact q
  exact ⟨⟨_, is, rfl⟩, fin _ is ⟨_, Heap.get?_push_of_some _ (Heap.get?_push_size _ rfl), rfl, rfl⟩ fun b o x => Heap.get?_push_of_some _ (Heap.get?_push_of_some _ x)⟩
end
/-- the tuple at a, each item in a new pair with its number -/
def IteT (K : PySem.W.Frag) (a : Addr) : It :=
  ⟨fun i H => ∃ (xs : List V) (x : V), SqT K H a xs ∧ xs[i]? = some x, fun i H v H' => ∃ T x, v = .ref T ∧ H T = none ∧ H' = upd H T (.tup [.int (i : Nat), x]) ∧ ∀ xs, SqT K H a xs → xs[i]? = some x, fun i H => ∃ xs : List V, SqT K H a xs ∧ xs.length = i⟩
theorem turn_enumT {P : Program} {w : World} {K : PySem.W.Frag} {elts : List Expr} {kk : Nat} {tpos : Pos} (a e it : Addr) :
    Turn P w K (.Tuple elts kk tpos) (IteT K a) [e, it] e (fun i h => (∃ old, IsEnum h e it ((i : Nat) : Int) old) ∧ h.IsTupleIter it a i ∧ e ≠ it ∧ a ≠ it ∧ a ≠ e) where
  mem := by simp
  obj := fun i h st b hb => by
    obtain ⟨⟨old, he⟩, ⟨o, ho, hc, hd⟩, _⟩ := st
    rcases (show b = e ∨ b = it by simpa using hb) with z | z
    · rw [z]; exact ⟨_, he, fun v q => nomatch q⟩
    · rw [z]; exact ⟨o, ho, fun v q => by rw [hd] at q; cases q⟩
  keep := fun i h h' st k => let ⟨⟨old, he⟩, hi, hne⟩ := st; ⟨⟨old, k e (by simp) _ he⟩, hi.at fun o q => k it (by simp) o q, hne⟩
  item := by
    intro X hP hw hK hc i pins s σ H E I hf st hg
    subst hP hw hK
    obtain ⟨⟨old, he⟩, hit, hne, hai, hae⟩ := st
    obtain ⟨xs, x, hq, hx⟩ := hg
    obtain ⟨its, rv, p, hz⟩ := I.tuple hq
    obtain ⟨u, hu, ru⟩ := rv.get hx
    have hel : e < s.heap.objs.size := Heap.lt_size he
    have hil : it < s.heap.objs.size := by obtain ⟨_, q, _⟩ := hit; exact Heap.lt_size q
    have lt : i < its.toArray.size := by simpa using (List.getElem?_eq_some_iff.mp hu).1
    have nf : e ∉ [it, a] := by simp; exact ⟨hne, Ne.symm hae⟩
    refine wpAny_pyNext_enum_itemD (Draws.tuple (A := X.A.in1) (I.ok.hd hc) it a hai its.toArray) he ⟨hit, p⟩ lt hne nf fun u2 h' tk hP2 ho hit' hT hsz hk => ?_
    obtain rfl : u2 = u := by
      have : its[i]? = some u2 := by simpa using hP2
      rw [hu] at this; exact (Option.some.inj this).symm
    refine ⟨_, rfl, wpAny_letOwnedTupleGo_enum (s := { s with heap := h', toks := tk + 1 }) ho fun h'' he' sb => ?_⟩
    have hT2 : h''.get? s.heap.objs.size = some { cls := .type "tuple", data := .seq #[.int i tk, u2] } := (sb.2 _ (Nat.ne_of_gt hel)).trans hT
    have new : ObjOk X.prog X.w (upd H s.heap.objs.size (.tup [.int (i : Nat), x])) h'' s.heap.objs.size (.tup [.int (i : Nat), x]) := ⟨by show 2 ≤ sizeLine; decide, [.int i tk, u2], .cons ⟨_, rfl⟩ (.cons ru .nil), ⟨_, hT2, rfl, _, rfl⟩⟩
    have I1 : Inv X pins σ (upd H s.heap.objs.size (.tup [.int (i : Nat), x])) { s with heap := h'', toks := tk + 1 } :=
      I.turnedNew (ch := [e, it]) (fun b ob hb q => (sb.2 b (fun z => hb (by simp [z]))).trans (hk b ob (fun z => hb (by simp [z])) (fun z => hb (by simp [z])) q)) hf (Nat.le_refl _) new
    refine ⟨.ref s.heap.objs.size, _, I1, rfl, ⟨_, x, rfl, I.hok.fresh (Nat.le_refl _), rfl, fun ys hy => by rw [I.tuple_inj hy hq]; exact hx⟩, ⟨⟨u2, ?_⟩, hit'.1.at fun o q => (sb.2 it (Ne.symm hne)).trans q, hne, hai, hae⟩, fun b hb => ?_⟩
    · rw [show ((i + 1 : Nat) : Int) = (i : Int) + 1 by omega]; exact he'
    · have hb' : b < s.heap.objs.size := by rcases (show b = e ∨ b = it by simpa using hb) with z | z <;> rw [z] <;> assumption
      rw [upd_ne (Nat.ne_of_lt hb')]; exact (hf b hb).1
  done := by
    intro X hP hw hK hc i pins s σ H E I hf st hg
    subst hP hw hK
    obtain ⟨⟨old, he⟩, hit, hne, hai, hae⟩ := st
    obtain ⟨xs, hq, hx⟩ := hg
    obtain ⟨its, rv, p, hz⟩ := I.tuple hq
    obtain ⟨f0, f1, f2, f3, f4, f5⟩ := hf it (by simp)
    have hl := rv.length
    subst hx
    have hit2 : s.heap.IsTupleIter it a its.toArray.size := by rw [List.size_toArray, ← hl]; exact hit
    exact wpAny_pyNext_enum_endD (Draws.tuple (A := X.A.in1) (I.ok.hd hc) it a hai its.toArray) he ⟨hit2, p⟩ fun h' eb => ⟨rfl, I.turned (t' := s.toks) (fun b o hb q => eb b o hb q) f0 f1 f3 f4 f5⟩
  self := fun A i s Q E st h => let ⟨⟨_, he⟩, _⟩ := st; wpAny_pyIter_enum he h
section
variable {X : Cx} {G : Gh} {e : Expr} {p pos tpos : Pos} {elts : List Expr} {kk : Nat}
theorem pi_enumT {ta : TA} (hg : Gl X "enumerate") (hm : X.mg "enumerate" = none) (ha : PA X [e] ta) (hs : starEach [e] X.env = [(false, eval e X.env)] := by rfl) :
    PI X (.Tuple elts kk tpos) (.Call (.Name "enumerate" p) [e] [] pos) (fun σ H R => ta σ H fun vs H1 => ∃ a xs, vs = [.ref a] ∧ SqT X.K H1 a xs ∧ R (IteT X.K a) H1) := by
  refine ⟨fun pins s σ H R I h => Call_ (ld_blt I hg hm boot_enumerate (PyProof.Rows.callWith_type1 (thn (ha.run pos pins s σ H _ I h) fun us s1 ⟨vs, H1, I1, r1, q1⟩ => ?_) hs rfl))⟩
  obtain ⟨a, xs, rfl, hq, q⟩ := q1
  obtain rfl := Vals.ref1 r1
  obtain ⟨its, rv, pt, hz⟩ := I1.tuple hq
  have lta : a < s1.heap.objs.size := by obtain ⟨o, ho, _⟩ := pt; exact Heap.lt_size ho
  refine call_enumT pt fun h' he hit hk => wpAny_pyIter_enum he ?_
  have I2 : Inv X pins σ H1 { s1 with heap := h' } := I1.kept (t' := s1.toks) hk
  refine ⟨s1.heap.objs.size + 1, [s1.heap.objs.size + 1, s1.heap.objs.size], _, _, H1, rfl, I2, turn_enumT a (s1.heap.objs.size + 1) s1.heap.objs.size, ⟨⟨.none, he⟩, hit, Nat.succ_ne_self _, Nat.ne_of_lt lta, Nat.ne_of_lt (Nat.lt_succ_of_lt lta)⟩, fun b hb => ?_, q⟩
  have hle : s1.heap.objs.size ≤ b := by rcases (show b = s1.heap.objs.size + 1 ∨ b = s1.heap.objs.size by simpa using hb) with z | z <;> rw [z]; exact Nat.le_succ _; exact Nat.le_refl _
  exact I1.fpOk hle (I1.hok.fresh hle)
def enumD (xs : List D) : List D := xs.zipIdx.map fun p => .tuple [.int ((p.2 : Nat) : Int), p.1]
theorem enumD_len (xs : List D) : (enumD xs).length = xs.length := by simp [enumD]
theorem enumD_get {xs : List D} {i : Nat} {d : D} (h : xs[i]? = some d) : (enumD xs)[i]? = some (.tuple [.int (i : Int), d]) := by
  unfold enumD
  rw [List.getElem?_map, List.getElem?_zipIdx, h]; simp
def iEnumT (t : TD) : TDs := fun E Q => t E fun d E1 => match d with
  | .tuple ds => Q (enumD ds) E1
  | _ => False
def iEnumL (t : TD) : TDs := fun E Q => t E fun d E1 => match d with
  | .list ds => Q (enumD ds) E1
  | _ => False
theorem walkD_enumT {K : PySem.W.Frag} {H : Hp} {a : Addr} {vs : List V} {ds : List D} (h : SqT K H a vs) (l : RpL K H ds vs) : WalkD true K (IteT K a) H (enumD ds) where
  goes := fun i H' x hi => by
    rw [enumD_len, l.length] at hi
    exact ⟨vs, vs[i], SqT.ext x h, List.getElem?_eq_getElem hi⟩
  yld := fun i H' v H2 x hi hy => by
    obtain ⟨T, v1, rfl, hT, rfl, e1⟩ := hy
    obtain ⟨d, hd, p⟩ := l.getV (e1 vs (SqT.ext x h))
    have px := PExt.new (o := .tup [.int (i : Nat), v1]) hT
    exact ⟨px, _, enumD_get hd, .pair (SqT.of upd_same) (.cons (.int _) (.cons ((p.ext x).ext px.ext) .nil))⟩
  stops := fun H' x => ⟨vs, SqT.ext x h, by rw [enumD_len, l.length]⟩
theorem id_enumT {t : TD} (h : ED X G e t) (hg : Gl X "enumerate") (hm : X.mg "enumerate" = none) (hs : starEach [e] X.env = [(false, eval e X.env)] := by rfl) : ID X G true (.Tuple elts kk tpos) (.Call (.Name "enumerate" p) [e] [] pos) (iEnumT t) :=
  ⟨PI.weak (pi_enumT hg hm (pa_cons h.pe pa_nil hs) hs) fun σ H R ⟨E, QE, r, q, k⟩ => ⟨E, _, r, q, fun d E1 v H1 q1 x1 r1 p1 => by
    cases p1 with
    | tup hs l => exact ⟨_, _, rfl, hs.1, k _ _ _ _ q1 x1 r1 (walkD_enumT hs.1 l)⟩
    | _ => exact q1.elim⟩⟩
end
end DL
set_option Elab.async false
set_option linter.all false
set_option maxRecDepth 100000
set_option maxHeartbeats 1000000
/-! DL17: count, index; x or y, not x by truth; sorted(.., reverse=True). -/
namespace DL
open PySem PySem.Spec PyProof.Rows L2
section
variable {X : Cx} {G : Gh} {a b e o : Expr} {es : List Expr} {pos p apos cpos : Pos}
/-! ### methods of tuples -/
theorem SqD.is {pins : List (Addr × Obj)} {s : Shared} {σ : St} {H : Hp} {p : Addr} {xs : List V} (I : Inv X pins σ H s) (h : SqD X.K H p xs) : s.TypeIs (.ref p) "tuple" ∧ ∃ ob, s.heap.get? p = some ob ∧ ob.dict = none := by
  obtain ⟨its, r, ⟨o, ho, hc, _⟩, hz⟩ := I.tuple h.1
  refine ⟨⟨o, ho, hc⟩, ?_⟩
  rcases h.2 with ⟨o2, u, e2, d2⟩ | ⟨o2, e2, d2⟩
  · exact ⟨o2, (I.hok _ _ e2).1, d2⟩
  · exact ⟨o2, I.kIn _ _ e2, d2⟩
def okAll (xs : List D) (y : D) : Prop := xs.all (shOk 60) = true ∧ shOk 60 y = true
def cntD (xs : List D) (y : D) : Nat := xs.countP fun z => PyData.eqv z y
/-- xs.index(y): the first place of an equal one -/
def idxOk (xs : List D) (y : D) (j : Nat) : Prop := (∃ z, xs[j]? = some z ∧ PyData.eqv z y = true) ∧ ∀ m z, m < j → xs[m]? = some z → PyData.eqv z y = false
def tCountT (ta tb : TD) : TD := fun E Q => ta E fun x E1 => match x with
  | .tuple xs => tb E1 fun y E2 => okAll xs y ∧ Q (.int (cntD xs y : Nat)) E2
  | _ => False
def tCountL (ta tb : TD) : TD := fun E Q => ta E fun x E1 => match x with
  | .list xs => tb E1 fun y E2 => okAll xs y ∧ Q (.int (cntD xs y : Nat)) E2
  | _ => False
def tIndexT (ta tb : TD) : TD := fun E Q => ta E fun x E1 => match x with
  | .tuple xs => tb E1 fun y E2 => ∃ j, okAll xs y ∧ idxOk xs y j ∧ Q (.int (j : Nat)) E2
  | _ => False
def tIndexL (ta tb : TD) : TD := fun E Q => ta E fun x E1 => match x with
  | .list xs => tb E1 fun y E2 => ∃ j, okAll xs y ∧ idxOk xs y j ∧ Q (.int (j : Nat)) E2
  | _ => False
/-! ### truth -/
def tOrT (t u : TD) : TD := fun E Q => t E fun x E1 => match truD x with
  | some c => okLen x ∧ if c = true then Q x E1 else u E1 Q
  | none => False
def tAndT (t u : TD) : TD := fun E Q => t E fun x E1 => match truD x with
  | some c => okLen x ∧ if c = true then u E1 Q else Q x E1
  | none => False
def tNotT (t : TD) : TD := fun E Q => t E fun x E1 => match truD x with
  | some c => okLen x ∧ Q (.bool (!c)) E1
  | none => False
/-! ### sorted(xs, reverse=True) -/
def tSortRev (ta : TD) : TLd := fun E Q => ta E fun x E1 => match x with
  | .list xs => sortOk xs ∧ Q (sortD true xs) E1
  | .tuple xs => sortOk xs ∧ Q (sortD true xs) E1
  | _ => False
end
end DL
set_option Elab.async false
set_option linter.all false
set_option maxRecDepth 100000
set_option maxHeartbeats 1000000
/-! DL18: a list of one's own is frozen where it is handed on; calls without arguments. -/
namespace DL
open PySem PySem.Spec PyProof.Rows L2
section
variable {X : Cx} {G : Gh} {e : Expr} {pos p0 : Pos} {x : Str}
theorem PE.fzIf {t : TE} (h : PE X e t) : PE X e (fun σ H Q => t σ H fun v H1 => Q v H1 ∨ ∃ a u, v = .ref a ∧ H1 a = some u ∧ Mut (some u) ∧ ∀ o, Q v (upd H1 a (.frz o u))) :=
  ⟨fun pins s σ H Q I q => thn (h.run pins s σ H _ I q) fun u s1 ⟨v, H1, I1, r1, q1⟩ => by
    rcases q1 with q1 | ⟨a, xs, e1, e2, mu, q1⟩
    · exact ⟨v, _, I1, r1, q1⟩
    · obtain ⟨o, I2⟩ := I1.lock e2 mu
      exact ⟨v, _, I2, r1, q1 o⟩⟩
def tFzV (i : Nat) : TD := fun E Q => match E[i]? with
  | some (.d x) => Q x E
  | some (.ol xs) => Q (.list xs) (E.set i (.d (.list xs)))
  | some (.dt kvs) => Q (.dict kvs) (E.set i (.d (.dict kvs)))
  | _ => False
end
end DL
set_option Elab.async false
set_option linter.all false
set_option maxRecDepth 100000
set_option maxHeartbeats 1000000
/-! DL19: x > y of any data that is alike. -/
namespace DL
open PySem PySem.Spec PyProof.Rows L2
section
variable {X : Cx}
def opGtD : OpT := fun x y Q => (PySem.W.alike x y = true ∧ x ≠ .none ∧ x.depth ≤ 60 ∧ x.canLay0 = true ∧ y.canLay0 = true) ∧ Q (.bool (PySem.W.dataLt y x))
end
end DL
set_option Elab.async false
set_option linter.all false
set_option maxRecDepth 100000
set_option maxHeartbeats 1000000
/-! DL20: sum, min, max of a tuple of ints. -/
namespace DL
open PySem PySem.Spec PyProof.Rows L2
section
variable {X : Cx}
def caSumT : CaT := fun ds Q => match ds with
  | [.tuple xs] => ∃ ns : List Int, xs = ns.map PyData.int ∧ Q (.int ns.sum)
  | _ => False
def caMaxT : CaT := fun ds Q => match ds with
  | [.tuple xs] => ∃ ns : List Int, xs = ns.map PyData.int ∧ 0 < ns.length ∧ ∀ m, m ∈ ns → (∀ y, y ∈ ns → y ≤ m) → Q (.int m)
  | _ => False
def caMinT : CaT := fun ds Q => match ds with
  | [.tuple xs] => ∃ ns : List Int, xs = ns.map PyData.int ∧ 0 < ns.length ∧ ∀ m, m ∈ ns → (∀ y, y ∈ ns → m ≤ y) → Q (.int m)
  | _ => False
end
end DL
set_option Elab.async false
set_option linter.all false
set_option maxRecDepth 100000
set_option maxHeartbeats 1000000
/-! DL21: zip of a list and a tuple. -/
namespace DL
open PySem PySem.Spec PyProof.Rows L2
section
variable {X : Cx} {G : Gh} {a b : Expr} {p pos tpos : Pos} {elts : List Expr} {kk : Nat}
def iZipM (ta tb : TD) : TDs := fun E Q => ta E fun x E1 => tb E1 fun y E2 => match x, y with
  | .list xs, .tuple ys => Q (zipD xs ys) E2
  | _, _ => False
end
end DL
set_option Elab.async false
set_option linter.all false
set_option maxRecDepth 100000
set_option maxHeartbeats 1000000
/-! DL22: t[::-1] of a tuple, str of an int, tuple * int, a chain of three comparisons, zip of three tuples, a comprehension with effects. -/
namespace DL
open PySem PySem.Spec PyProof.Rows L2
section
variable {X : Cx} {G : Gh} {a b c d e : Expr} {pos p p1 p2 p3 : Pos}
/-- t[::-1] of a tuple -/
def tRevT (ta : TD) : TD := fun E Q => ta E fun x E1 => match x with
  | .tuple xs => Q (.tuple xs.reverse) E1
  | _ => False
/-! ### str of an int -/
def caStr : CaT := fun ds Q => match ds with
  | [.int i] => i.natAbs.log2 < 1920 ∧ Q (.str (toString i))
  | _ => False
/-! ### tuple * int -/
def opRepT : OpT := fun x y Q => match x, y with
  | .tuple xs, .int k => (xs ≠ [] ∧ 2 ≤ k ∧ k ≤ 1000 ∧ xs.length ≤ 1000) ∧ Q (.tuple (List.replicate k.toNat xs).flatten)
  | _, _ => False
/-! ### a op b op' c op'' d -/
def tChain3D (o o' o'' : OpT) (ta tb tc td : TD) : TD := fun E Q => ta E fun x E1 => tb E1 fun y E2 => o x y fun z => match z with
  | .bool true => tc E2 fun w E3 => o' y w fun z' => match z' with
    | .bool true => td E3 fun u E4 => o'' w u fun r => Q r E4
    | .bool false => Q (.bool false) E3
    | _ => False
  | .bool false => Q (.bool false) E2
  | _ => False
end
/-! ### a comprehension with effects: an invariant of what was found and the environment -/
end DL
set_option Elab.async false
set_option linter.all false
set_option maxRecDepth 100000
set_option maxHeartbeats 1000000
/-! DL23: zip of three tuples. -/
namespace DL
open PySem PySem.Spec PyProof.Rows L2
end DL
set_option Elab.async false
set_option linter.all false
set_option maxRecDepth 100000
set_option maxHeartbeats 1000000
/-! DL24: the module's own constants. -/
namespace DL
open PySem PySem.Spec PyProof.Rows L2
end DL
set_option Elab.async false
set_option linter.all false
set_option maxRecDepth 100000
set_option maxHeartbeats 1000000
/-! DL25: max of a list of alike data, x < y of alike data. -/
namespace DL
open PySem PySem.Spec PyProof.Rows L2
section
variable {X : Cx}
def opLtD : OpT := fun x y Q => (PySem.W.alike x y = true ∧ x ≠ .none ∧ x.depth ≤ 60 ∧ x.canLay0 = true ∧ y.canLay0 = true) ∧ Q (.bool (PySem.W.dataLt x y))
end
end DL
set_option Elab.async false
set_option linter.all false
set_option maxRecDepth 100000
set_option maxHeartbeats 3200000
/-! DL26: set(t) of a tuple of pairs of ints, len and sorted of it. -/
namespace DL
open PySem PySem.Spec PyProof.Rows L2
end DL
set_option Elab.async false
set_option linter.all false
set_option maxRecDepth 100000
set_option maxHeartbeats 3200000
/-! DL27: len(set(t)), sorted(set(t)) of a tuple of pairs of ints. -/
namespace DL
open PySem PySem.Spec PyProof.Rows L2
def pE (c : Int × Int) : D := .tuple [.int c.1, .int c.2]
def ltC (a b : Int × Int) : Prop := a.1 < b.1 ∨ (a.1 = b.1 ∧ a.2 < b.2)
theorem Rp.ints_sq {K : PySem.W.Frag} {H : Hp} {ns : List Int} {a : Addr} (h : Rp K H (.tuple (ns.map PyData.int)) (.ref a)) : SqT K H a (ns.map V.int) := by
  generalize e : PyData.tuple (ns.map PyData.int) = d at h
  cases h with
  | tup hs ll =>
    injection e with e
    rw [← e] at ll
    rw [ll.ints] at hs
    exact hs.1
  | lst _ _ => cases e
  | dct _ _ _ _ => cases e
  | hdl _ => cases e
  | dck _ _ _ _ => cases e
section
variable {X : Cx} {G : Gh} {a : Expr} {pos p p1 p2 p3 : Pos}
def tLenSetP (ta : TD) : TD := fun E Q => ta E fun x E1 => match x with
  | .tuple xs => ∃ cs : List (Int × Int), xs = cs.map pE ∧ cs.length < 64 ∧ ∀ zs : List (Int × Int), zs.Nodup → (∀ c, c ∈ zs ↔ c ∈ cs) → Q (.int (zs.length : Nat)) E1
  | _ => False
def tSortSetP (ta : TD) : TLd := fun E Q => ta E fun x E1 => match x with
  | .tuple xs => ∃ cs : List (Int × Int), xs = cs.map pE ∧ cs.length < 64 ∧ (∀ c ∈ cs, (0 ≤ c.1 ∧ c.1 < 64) ∧ (0 ≤ c.2 ∧ c.2 < 64)) ∧ ∀ zs : List (Int × Int), zs.Pairwise ltC → (∀ c, c ∈ zs ↔ c ∈ cs) → Q (zs.map pE) E1
  | _ => False
end
end DL
set_option Elab.async false
set_option linter.all false
set_option maxRecDepth 100000
set_option maxHeartbeats 1000000
/-! DL28: chains of comparisons as tests. -/
namespace DL
open PySem PySem.Spec PyProof.Rows L2
section
variable {X : Cx} {G : Gh} {a b c d e : Expr} {pos p p1 p2 p3 : Pos}
theorem tBo_lift {t : TD} {σ : St} {H : Hp} {Q : Bool → Hp → Prop} (h : liftT X.K G (tBo t) σ H Q) : liftE X.K G t σ H fun x H' => ∃ k, x = .bl k ∧ Q k H' := by
  obtain ⟨E, QE, rel, q, k⟩ := h
  refine ⟨E, _, rel, q, fun d E' v H' q1 x1 r1 p1 => ?_⟩
  cases p1 with
  | bl b => exact ⟨b, rfl, k b E' H' q1 x1 r1⟩
  | _ => exact q1.elim
theorem eb_chain {op op' : CmpOp} {o o' : OpT} {ta tb tc : TD} (ho : OpD X (compareOp op) o) (ho' : OpD X (compareOp op') o') (ha : ED X G a ta) (hb : ED X G b tb) (hc : ED X G c tc)
    (h1 : lastMarks [op, op'] [b, c] = false := by with_unfolding_all rfl) : EB X G (.Compare a [op, op'] [b, c] pos) (tBo (tChainD o o' ta tb tc)) := by
  obtain ⟨r, hr, hq⟩ := ho
  obtain ⟨r', hr', hq'⟩ := ho'
  refine ⟨PT.weak (pt_chain hr hr' ha.pe hb.pe hc.pe h1) fun σ H Q h => ?_⟩
  obtain ⟨E, QE, rel, q, k⟩ := tBo_lift h
  refine ⟨E, _, rel, q, fun x E1 v H1 q1 x1 r1 p1 => ⟨E1, _, r1, q1, fun y E2 u H2 q2 x2 r2 p2 => ?_⟩⟩
  refine hq x y v u H2 _ _ (.inl (p1.ext x2)) (.inl p2) q2 fun z w H3 q3 px rz => ?_
  cases rz with
  | bl b =>
    refine ⟨b, rfl, ?_⟩
    cases b with
    | true =>
      refine iteT ⟨E2, _, r2.pext px, q3, fun c E3 w H4 q4 x4 r4 p4 => ?_⟩
      exact hq' y c u w H4 _ _ (.inl ((p2.ext px.ext).ext x4)) (.inl p4) q4 fun z w H5 q5 px5 rz5 => k _ _ _ _ q5 ((((x1.trans x2).trans px.ext).trans x4).trans px5.ext) (r4.pext px5) rz5
    | false => exact iteF (k _ _ _ _ q3 ((x1.trans x2).trans px.ext) (r2.pext px) (.bl false))
  | _ => exact q3.elim
end
end DL
set_option Elab.async false
set_option linter.all false
set_option maxRecDepth 100000
set_option maxHeartbeats 1000000
/-! DL29: dicts whose keys are tuples of ints (nested): look-up, store, in. -/
namespace DL
open PySem PySem.Spec PyProof.Rows L2
def valN (kvs : List (D × D)) (k : D) : Option D := (kvs.find? fun p => decide (nkOf p.1 = nkOf k)).map (·.2)
def putN (kvs : List (D × D)) (k v : D) : List (D × D) := if (valN kvs k).isSome then kvs.map (fun p => if nkOf p.1 = nkOf k then (p.1, v) else p) else kvs ++ [(k, v)]
theorem valN_cons (p : D × D) (kvs : List (D × D)) (k : D) : valN (p :: kvs) k = if nkOf p.1 = nkOf k then some p.2 else valN kvs k := by
  unfold valN
  rw [List.find?_cons]
  by_cases h : nkOf p.1 = nkOf k
  · simp [h]
  · simp [h]
theorem paired_app {α β : Type} {F : α → β → Prop} : ∀ {a c : List α} {b d : List β}, Paired F a b → Paired F c d → Paired F (a ++ c) (b ++ d)
  | _, _, _, _, .nil, h => h
  | _, _, _, _, .cons r t, h => .cons r (paired_app t h)
abbrev TR (K : PySem.W.Frag) (H : Hp) : List (D × D) → List (NestedKey × Addr × Value) → Prop :=
  Paired fun p x => (∃ l, p.1 = .tuple l) ∧ nkOf p.1 = some x.1 ∧ x.1.depth ≤ 8 ∧ Rp K H p.1 (.ref x.2.1) ∧ ∃ v, Rp K H p.2 v ∧ RelV v x.2.2
section
variable {K : PySem.W.Frag} {H : Hp} {P : Program} {w : World}
theorem RpD.tr (P : Program) (w : World) : ∀ {kvs : List (D × D)} {es : List DictEntry}, RpD K H kvs es → ∃ xs, TR K H kvs xs ∧ es = xs.map (entryOfKey (nestedKind P w))
  | _, _, .nil => ⟨[], .nil, rfl⟩
  | _, _, .cons (nk := nk) (b := b) (v := v) (e := e) t n1 n2 n3 e1 h g r l => by
    obtain ⟨xs, h1, rfl⟩ := RpD.tr P w l
    refine ⟨(nk, b, e.val) :: xs, .cons ⟨t, n1, n2, h, v, g, r⟩ h1, ?_⟩
    rw [List.map_cons]
    congr 1
    obtain ⟨eh, ek, ev⟩ := e
    have hh : eh = nk.hash w := n3 w
    have hk : ek = Value.ref b := e1
    subst hh hk
    rfl
theorem TR.ext {H' : Hp} (x : Ext H H') {kvs : List (D × D)} {xs : List (NestedKey × Addr × Value)} (h : TR K H kvs xs) : TR K H' kvs xs :=
  Paired.mapP h fun _ _ ⟨h1, h2, h3, h4, v, h5, h6⟩ => ⟨h1, h2, h3, h4.ext x, v, h5.ext x, h6⟩
theorem TR.keys {kvs : List (D × D)} {xs : List (NestedKey × Addr × Value)} (h : TR K H kvs xs) (nd : (kvs.map fun p => nkOf p.1).Nodup) : (xs.map (·.1)).Nodup := by
  have e : kvs.map (fun p => nkOf p.1) = (xs.map (·.1)).map some := by
    unfold TR at h
    induction h with
    | nil => rfl
    | cons q t ih => 
      rw [List.map_cons, List.map_cons, List.map_cons, q.2.1, ih (List.nodup_cons.mp (by simpa using nd)).2]
  rw [e] at nd
  exact (List.pairwise_map.mp nd).imp fun h z => h (by rw [z])
/-- what stands at a key -/
theorem TR.val {kvs : List (D × D)} {xs : List (NestedKey × Addr × Value)} (h : TR K H kvs xs) {k : D} {nk : NestedKey} (e : nkOf k = some nk) :
    (∀ d, valN kvs k = some d → ∃ p v, atKey xs nk = some p ∧ Rp K H d v ∧ RelV v p.2) ∧ (valN kvs k = none → atKey xs nk = none) := by
  unfold TR at h
  induction h with
  | nil => exact ⟨fun d hd => by simp [valN] at hd, fun _ => rfl⟩
  | @cons p x ps xs q t ih =>
    obtain ⟨h1, h2, h3, h4, v, h5, h6⟩ := q
    rw [valN_cons]
    by_cases hk : nkOf p.1 = nkOf k
    · have hx : x.1 = nk := by rw [h2, e] at hk; exact Option.some.inj hk
      rw [if_pos hk]
      refine ⟨fun d hd => ?_, fun z => nomatch z⟩
      cases hd
      exact ⟨x.2, v, by simp [atKey, hx], h5, h6⟩
    · have hx : ¬ x.1 = nk := fun z => hk (by rw [h2, e, z])
      rw [if_neg hk]
      have : atKey (x :: xs) nk = atKey xs nk := by simp [atKey, hx]
      rw [this]; exact ih
theorem TR.isSome {kvs : List (D × D)} {xs : List (NestedKey × Addr × Value)} (h : TR K H kvs xs) {k : D} {nk : NestedKey} (e : nkOf k = some nk) : (atKey xs nk).isSome = (valN kvs k).isSome := by
  obtain ⟨h1, h2⟩ := h.val e
  cases q : valN kvs k with
  | none => rw [h2 q]; rfl
  | some d => obtain ⟨p, v, hp, _⟩ := h1 d q; rw [hp]; rfl
theorem TR.put {kvs : List (D × D)} {xs : List (NestedKey × Addr × Value)} (h : TR K H kvs xs) {k d : D} {nk : NestedKey} {b : Addr} {v : V} {u : Value} (t : ∃ l, k = .tuple l) (e : nkOf k = some nk) (dp : nk.depth ≤ 8) (hk : Rp K H k (.ref b)) (hd : Rp K H d v) (r : RelV v u) :
    TR K H (putN kvs k d) (storedH xs nk b u) := by
  unfold putN storedH
  rw [h.isSome e]
  split
  · rename_i hs
    clear hs
    unfold TR at h ⊢
    induction h with
    | nil => exact .nil
    | @cons p x ps xs q tt ih =>
      obtain ⟨h1, h2, h3, h4, v', h5, h6⟩ := q
      rw [List.map_cons, List.map_cons]
      refine .cons ?_ ih
      by_cases hk' : nkOf p.1 = nkOf k
      · have hx : x.1 = nk := by rw [h2, e] at hk'; exact Option.some.inj hk'
        rw [if_pos hk', putAt, if_pos hx]
        exact ⟨h1, h2, h3, h4, v, hd, r⟩
      · have hx : ¬ x.1 = nk := fun z => hk' (by rw [h2, e, z])
        rw [if_neg hk', putAt, if_neg hx]
        exact ⟨h1, h2, h3, h4, v', h5, h6⟩
  · exact paired_app h (.cons ⟨t, e, dp, hk, v, hd, r⟩ .nil)
end
end DL
set_option Elab.async false
set_option linter.all false
set_option maxRecDepth 100000
set_option maxHeartbeats 1000000
/-! DL30: rules for dicts whose keys are tuples of ints. -/
namespace DL
open PySem PySem.Spec PyProof.Rows L2
section
variable {X : Cx} {G : Gh} {pins : List (Addr × Obj)} {σ : St} {H : Hp} {s : Shared}
mutual
theorem nested_of (I : Inv X pins σ H s) : ∀ {d : D} {v : V} {u : Value} {k : NestedKey}, nkOf d = some k → Rp X.K H d v → RelV v u → NestedIs s.heap k u
  | .int i, v, u, k, h, r, q => by
    unfold nkOf at h; cases h; cases r
    obtain ⟨t, rfl⟩ := (show ∃ t, u = Value.int i t from q)
    exact .int i t
  | .tuple xs, v, u, k, h, r, q => by
    unfold nkOf at h
    obtain ⟨ks, h1, rfl⟩ := Option.map_eq_some_iff.mp h
    cases r with
    | tup hs l =>
      rename_i a vs
      obtain rfl : u = Value.ref a := q
      obtain ⟨its, rv, ⟨o, ho, hc, n, hd⟩, hz⟩ := I.tuple hs.1
      exact .tup ho hc hd (by simpa using nested_all I h1 l rv)
  | .none, _, _, k, h, _, _ => by simp [nkOf] at h
  | .bool _, _, _, k, h, _, _ => by simp [nkOf] at h
  | .str _, _, _, k, h, _, _ => by simp [nkOf] at h
  | .list _, _, _, k, h, _, _ => by simp [nkOf] at h
  | .dict _, _, _, k, h, _, _ => by simp [nkOf] at h
theorem nested_all (I : Inv X pins σ H s) : ∀ {ds : List D} {vs : List V} {us : List Value} {ks : List NestedKey}, nksOf ds = some ks → RpL X.K H ds vs → Vals vs us → NestedAll s.heap ks us
  | [], _, _, ks, h, r, q => by unfold nksOf at h; cases h; cases r; cases q; exact .nil
  | d :: ds, _, _, ks, h, r, q => by
    unfold nksOf at h
    split at h
    · rename_i k ks' h1 h2
      cases h
      cases r with
      | cons r1 r2 =>
        cases q with
        | cons q1 q2 => exact .cons (nested_of I h1 r1 q1) (nested_all I h2 r2 q2)
    · cases h
end
/-- a key -/
def keyB (d : D) : Bool := match d with
  | .tuple xs => match nksOf xs with
    | some ks => decide (NestedKey.depthAll ks ≤ 7)
    | none => false
  | _ => false
/-- a dict that is read -/
def DN (K : PySem.W.Frag) (H : Hp) (a : Addr) (kvs : List (D × D)) : Prop := ∃ es, Rd H a (dO a es) ∧ RpD K H kvs es ∧ (kvs.map fun p => nkOf p.1).Nodup ∧ (a == sysModules) = false
theorem DN.at (I : Inv X pins σ H s) {a : Addr} {kvs : List (D × D)} (h : DN X.K H a kvs) : ∃ xs, TR X.K H kvs xs ∧ s.heap.DictOfH (nestedKind X.prog X.w) a xs ∧ (a == sysModules) = false := by
  obtain ⟨es, e, l, nd, sm⟩ := h
  obtain ⟨xs, tr, rfl⟩ := l.tr X.prog X.w
  obtain ⟨⟨o, ep, h1, h2, h3⟩, _⟩ := e.ok I.hok
  refine ⟨xs, tr, ⟨o, _, ep, h1, h2, h3, by simp, ?_, tr.keys nd⟩, sm⟩
  intro x hx
  have : ∀ (kvs : List (D × D)) (xs : List (NestedKey × Addr × Value)), TR X.K H kvs xs → ∀ x ∈ xs, (nestedKind X.prog X.w).is s.heap x.1 x.2.1 := by
    intro kvs xs t
    unfold TR at t
    induction t with
    | nil => intro x hx; cases hx
    | cons q t ih =>
      intro x hx
      rcases List.mem_cons.mp hx with rfl | hx
      · exact ⟨nested_of I q.2.1 q.2.2.2.1 rfl, q.2.2.1⟩
      · exact ih x hx
  exact this kvs xs tr x hx
/-! ### expressions -/
variable {o i e f value : Expr} {pos pos' tpos apos cpos : Pos} {td ty tv tx : TE}
end
end DL
set_option Elab.async false
set_option linter.all false
set_option maxRecDepth 100000
set_option maxHeartbeats 1000000
/-! DL31: dicts over data. -/
namespace DL
open PySem PySem.Spec PyProof.Rows L2
theorem keyB_2 (a b : Int) : keyB (.tuple [.int a, .int b]) = true := rfl
theorem keyB_3 (a b c : Int) : keyB (.tuple [.int a, .int b, .int c]) = true := rfl
theorem keyB_4 (a b c d : Int) : keyB (.tuple [.int a, .int b, .int c, .int d]) = true := rfl
def dictAt (E : Env) (i : Nat) : Option (List (D × D)) := match E[i]? with
  | some (.dt kvs) => some kvs
  | some (.d (.dict kvs)) => some kvs
  | _ => none
def tupKeys (kvs : List (D × D)) : Bool := kvs.all fun p => match p.1 with
  | .tuple _ => true
  | _ => false
def optQ {α : Type} (o : Option α) (Q : α → Prop) : Prop := match o with
  | some d => Q d
  | none => False
section
variable {K : PySem.W.Frag} {G : Gh} {H : Hp} {E : Env} {σ : St} {ex : List Addr}
theorem Rd.pext {H' : Hp} (p : PExt H H') {a : Addr} {u : HO} (h : Rd H a u) : Rd H' a u := by
  rcases h with h | ⟨o, h⟩
  · exact .inl (p _ _ h)
  · exact .inr ⟨o, p _ _ h⟩
end
section
variable {X : Cx} {G : Gh} {a b c e f : Expr} {es : List Expr} {pos pos' p0 apos cpos : Pos} {x : Str} {tk tv tx ta : TD}
/-- d[k], d a name -/
def tDGetV (i : Nat) (tk : TD) : TD := fun E Q => match dictAt E i with
  | some _ => tk E fun k E1 => match dictAt E1 i with
    | some kvs => keyB k = true ∧ optQ (valN kvs k) fun d => Q d E1
    | none => False
  | none => False
/-- d[k], d data -/
def tDGetD (ta tk : TD) : TD := fun E Q => ta E fun x E1 => tk E1 fun k E2 => match x with
  | .dict kvs => keyB k = true ∧ optQ (valN kvs k) fun d => Q d E2
  | _ => False
/-- d.get(k, x), d a name -/
def tDGet2V (i : Nat) (tk tx : TD) : TD := fun E Q => match dictAt E i with
  | some kvs0 => tupKeys kvs0 = true ∧ tk E fun k E1 => tx E1 fun z E2 => match dictAt E2 i with
    | some kvs => keyB k = true ∧ tupKeys kvs = true ∧ Q ((valN kvs k).getD z) E2
    | none => False
  | none => False
/-- k in d, d a name of a dict of one's own -/
def tInN (tk : TD) (i : Nat) : TTd := fun E Q => tk E fun k E1 => match E1[i]? with
  | some (.dt kvs) => keyB k = true ∧ Q (valN kvs k).isSome E1
  | _ => False
def tNotInN (tk : TD) (i : Nat) : TTd := fun E Q => tk E fun k E1 => match E1[i]? with
  | some (.dt kvs) => keyB k = true ∧ Q (!(valN kvs k).isSome) E1
  | _ => False
/-- d[k] = v -/
def sDPutV (i : Nat) (tk tv : TD) : TSd := fun DE E => tv E fun d E1 => match E1[i]? with
  | some (.dt _) => tk E1 fun k E2 => match E2[i]? with
    | some (.dt kvs) => keyB k = true ∧ kvs.length < sizeLine ∧ DE.nx (E2.set i (.dt (putN kvs k d)))
    | _ => False
  | _ => False
/-! ### new mutable things -/
abbrev TM := Env → (S → Env → Prop) → Prop
def liftM (K : PySem.W.Frag) (G : Gh) (t : TM) : TE := fun σ H Q => ∃ (E : Env) (QE : S → Env → Prop), RelE K G H E σ ∧ t E QE ∧
  ∀ s E' a H', QE s E' → Ext H H' → RelX K G [a] H' E' σ → G.H0 a = none → a ∉ G.addrs → RelM K H' s a → Q (.ref a) H'
structure EM (X : Cx) (G : Gh) (e : Expr) (t : TM) : Prop where
  pe : PE X e (liftM X.K G t)
def mDt : TM := fun E Q => Q (.dt []) E
def mDk : TM := fun E Q => Q (.dk []) E
def sSetM (i : Nat) (t : TM) : TSd := fun DE E => t E fun s E1 => DE.nx (E1.set i s)
def pM (t : TM) (u : TPs) : TPs := fun E Q => t E fun s E1 => u E1 fun ss E2 => Q (s :: ss) E2
end
end DL
set_option Elab.async false
set_option linter.all false
set_option maxRecDepth 100000
set_option maxHeartbeats 1000000
/-! DL32: defs that may raise: raise X(), calls of such defs, try .. except X. -/
namespace DL
open PySem PySem.Spec PyProof.Rows L2
/-- X() -/
theorem pmk_own0 {X : Cx} {C : Addr} {bmB : List Value} {B newId initId : String} {x : Str} {p pos : Pos} (F : ExcBaseFacts B newId initId bmB) (q : PySem.W.excIn X.K C bmB newId = true) (gC : X.mg x = some (.ref C)) (kC : PySem.W.keepIn X.K (.ref C) = true) (r : Raises X (.ref C)) (hg : Gl X x)
    (hdb : (x == ("__debug__" : Str)) = false := by decide) : PMk X (.Call (.Name x p) [] [] pos) (fun _ H Q => Q (.ref C) none H) := by
  intro pins s σ H Q I h
  refine wpAny_Call_Name_kw (ld_glob I hg gC ?_ hdb)
  refine PySem.W.callWith_K0 I.kIn kC ?_
  show wpAny _ _ (call (.ref C) []) _ _ _
  obtain ⟨bm, N, nm, qn, bs, hdct, sn, sub, ab, col, dd, k0, k1, k2, k3, k5, mN, hC, hN, hni, T⟩ := exc_obj I.kIn q
  refine wpAny_call_exc_subT F T hC hN hni (fun h' e hm => ?_) (by show 0 ≤ sizeLine; exact Nat.zero_le _)
  exact mk_of I hm r h (I.hok.gone hm.new)
/-- an own class catches itself, and what stands below it -/
theorem exm_sub {K : PySem.W.Frag} {S T : Addr} {b : Bool} (h1 : PySem.W.subIn K (.ref T) (.type "BaseException") = some true) (h2 : PySem.W.isClsIn K T = true) (h3 : PySem.W.typeIn K (.ref T) = some (.type "type")) (h4 : PySem.W.subIn K (.ref S) (.ref T) = some b) : PySem.W.exmOne K (.ref S) (.ref T) = some b := by
  unfold PySem.W.exmOne
  rw [h1, if_pos (by rfl)]
  have e2 : ((PySem.W.clsIn K T).isSome && PySem.W.typeIn K (.ref T) == some (.type "type")) = true := by
    have h2' : (PySem.W.clsIn K T).isSome = true := h2
    rw [h2', h3] <;> rfl
  show (if ((PySem.W.clsIn K T).isSome && PySem.W.typeIn K (.ref T) == some (.type "type")) = true then PySem.W.subIn K (.ref S) (.ref T) else none) = some b
  rw [if_pos e2]
  exact h4
/-- a def's promise: what it gives, what it raises -/
abbrev SpX := List S → (D → List S → Prop) → (Value → List S → Prop) → Prop
def spLX (K : PySem.W.Frag) (sp : SpX) : Sp := fun vs H Q E => ∃ (ss : List S) (as : List Addr) (QD : D → List S → Prop) (QX : Value → List S → Prop), sp ss QD QX ∧ AR K H ss vs as ∧ as.Nodup ∧
  (∀ d outs v H', QD d outs → (∀ p o, H p = some o → p ∉ as → H' p = some o) → Paired (RelM K H') outs as → Rp K H' d v → Q v H') ∧
  ∀ cls outs H', QX cls outs → (∀ p o, H p = some o → p ∉ as → H' p = some o) → Paired (RelM K H') outs as → E cls none H'
/-- what is wished of an exception, over data -/
abbrev WDt := Value → Env → Prop
def Wish (K : PySem.W.Frag) (G : Gh) (WD : WDt) (W : WX) : Prop := ∀ cls E σ H, WD cls E → RelE K G H E σ → W cls none σ H
section
variable {X : Cx} {G : Gh} {e : Expr} {pos : Pos}
def sRaise (WD : WDt) (c : Value) : TSd := fun _ E => WD c E
theorem sd_raise {W : WX} {WD : WDt} {c : Value} (hc : X.calm = true) (tk : Takes X W) (hW : Wish X.K G WD W) (mk : PMk X e (fun _ H Q => Q c none H)) : SD X G (.Raise (some e) none pos) (sRaise WD c) :=
  ⟨PS.weak (ps_raise hc tk mk) fun F σ H ⟨E, DE, r, q, _⟩ => hW c E σ H q r⟩
theorem SDs.nox {st : List Stmt} {t : TSd} (h : SDs X.nox G st t) : SDs X G st t := ⟨PSs.nox h.pss⟩
theorem SD.nox {st : Stmt} {t : TSd} (h : SD X.nox G st t) : SDs X G [st] t := SDs.nox (sds_one h)
end
/-- THE RULE for a def that may raise -/
theorem fn_okX {P : Program} {w : World} {K : PySem.W.Frag} {mg : Str → Option Value} {base : Heap} {x qual : Str} {st : Stmt} {f : Addr} {fd : FuncData} {N ps : List Str} {k : Nat} {sp : SpX} {slots : List Nat} {tb : WDt → TSd}
    (F : Fun K x qual st f fd) (Sc : FnScope N ps (defScope st)) (shape : ∀ ss QD QX, sp ss QD QX → ss.length = ps.length ∧ mpos 0 ss = slots)
    (body : ∀ (cdv : Value) (A : Around) (outer : List PySem.Env) (s : Shared) (H : Hp) (E : XK), Room k (A.deeper (envOfC qual (defScope st) s.heap.objs.size f cdv)) → ∀ G : Gh, G.slots = slots → ∀ WD : WDt, Wish K G WD (fun cls d _ H' => E cls d H') →
      SDs (cxOf (L2.CX P w) P w K mg base N qual (defScope st) f cdv A outer s H E) G (defBody st) (tb WD))
    (read : ∀ ss QD QX, sp ss QD QX → tb (fun cls E' => finO slots E' (QX cls)) { nx := fun E' => finO slots E' (QD .none), rt := fun d E' => finO slots E' (QD d) } (ss ++ List.replicate (N.length - ps.length) .un)) :
    FnOk P w K mg base (L2.CX P w) (k + 1) f fd ps (spLX K sp) := by
  refine F.okX Sc (fun vs H Q E h => ?_) (fun cdv A outer s H vs Q E hr h => ?_)
  · obtain ⟨ss, as, QD, QX, h1, h2, _⟩ := h
    rw [← h2.length]; exact (shape ss QD QX h1).1
  · obtain ⟨ss, as, QD, QX, h1, h2, nd, h4, h5⟩ := h
    obtain ⟨hl, hm⟩ := shape ss QD QX h1
    have ml := h2.mlen 0
    have hG : (⟨H, (mpos 0 ss).zip as, fun _ => none, []⟩ : Gh).slots = slots := by show ((mpos 0 ss).zip as).map (·.1) = slots; rw [zip_fst ml, hm]
    have hA : (⟨H, (mpos 0 ss).zip as, fun _ => none, []⟩ : Gh).addrs = as := by show ((mpos 0 ss).zip as).map (·.2) ++ [] = as; rw [zip_snd ml, List.append_nil]
    have hW : Wish K ⟨H, (mpos 0 ss).zip as, fun _ => none, []⟩ (fun cls E' => finO slots E' (QX cls)) (fun cls d _ H' => E cls d H') := fun cls E' σ H' q r => by
      obtain ⟨outs, q1, p1⟩ := finO_rel r (as := as) (by rw [← hm]; exact ml) (by rw [← hm]; exact fun p hp => hp) q
      exact h5 cls outs H' q1 (fun p o e ne => r.keep p o e (by rw [hA]; exact ne)) p1
    refine ⟨_, (body cdv A outer s H E hr ⟨H, (mpos 0 ss).zip as, fun _ => none, []⟩ hG _ hW).pss, ?_⟩
    have hst : L2.start N vs = vs.map some ++ List.replicate (N.length - ps.length) none := by unfold L2.start; rw [← h2.length, hl]
    refine ⟨ss ++ List.replicate (N.length - ps.length) .un, { nx := fun E' => finO slots E' (QD .none), rt := fun d E' => finO slots E' (QD d) }, by rw [hst]; exact h2.start nd, read ss QD QX h1, fun E' σ' H' q x r => ?_, fun d E' v σ' H' q x r p => ?_, fun _ _ _ q => False.elim q, fun _ _ _ q => False.elim q⟩
    · obtain ⟨outs, q1, p1⟩ := finO_rel r (as := as) (by rw [← hm]; exact ml) (by rw [← hm]; exact fun p hp => hp) q
      exact h4 .none outs .non H' q1 (fun p o e ne => r.keep p o e (by rw [hA]; exact ne)) p1 .non
    · obtain ⟨outs, q1, p1⟩ := finO_rel r (as := as) (by rw [← hm]; exact ml) (by rw [← hm]; exact fun p hp => hp) q
      exact h4 d outs v H' q1 (fun p o e ne => r.keep p o e (by rw [hA]; exact ne)) p1 p
/-! ### a call of such a def -/
def tCallX (sp : SpX) (ta : TAd) (WD : WDt) : TD := fun E Q => ta E fun as E1 => match argS E1 as with
  | some ss => ndp (oixs as) = true ∧ sp ss (fun r outs => Q r (putO as outs E1)) (fun cls outs => WD cls (putO as outs E1))
  | none => False
section
variable {X : Cx} {G : Gh} {e : Expr} {es : List Expr} {pos p : Pos} {x : Str} {f : Addr} {fd : FuncData} {ps : List Str} {k : Nat} {sp : SpX} {ta : TAd}
theorem ed_callX {W : WX} {WD : WDt} (F : FnOk X.prog X.w X.K X.mg X.base (L2.CX X.prog X.w) k f fd ps (spLX X.K sp)) (tk : Takes X W) (hW : Wish X.K G WD W) (hr : Room k X.A) (hg : Gl X x) (hm : X.mg x = some (.ref f)) (hk : PySem.W.keepIn X.K (.ref f) = true) (hb : Binds X.K fd ps []) (ha : EA X G (e :: es) ta) (hdb : (x == ("__debug__" : Str)) = false := by decide)
    (hs : starEach (e :: es) X.env = (false, eval e X.env) :: starEach es X.env := by rfl) (hplain : (backTo pos (starEach es X.env)).any (·.1) = false := by rfl) : ED X G (.Call (.Name x p) (e :: es) [] pos) (tCallX sp ta WD) := by
  refine ⟨PE.weak (pe_callS (E := WE W) F hr hg hm hk hb (fun σ => passAt tk σ) ha.pa (hdb := hdb) (he := hs) (hpl := hplain)) fun σ H Q ⟨E0, QE, r, q, kk⟩ => ?_⟩
  refine ⟨E0, _, r, q, fun as E1 vs H1 q1 x1 r1 p1 => ?_⟩
  show spLX X.K sp vs H1 Q _
  split at q1
  · rename_i ss hs
    obtain ⟨nd, q1⟩ := q1
    obtain ⟨ad, ar, po⟩ := RelA.args r1 p1 hs
    have adn := addrs_nodup r1 nd po
    have islst : ∀ a ∈ ad, Soft H1 a := fun a ha => by
      obtain ⟨i, hi, e1, s, e2, m⟩ := Paired.mem2 po ha
      obtain ⟨b, f1, f2⟩ := r1.mutAt e2 m
      rw [e1] at f1; cases f1; exact f2.soft
    refine ⟨ss, ad, _, _, q1, ar, adn, fun d outs v H' q2 keep pr pd => ?_, fun cls outs H' q2 keep pr => ?_⟩
    · exact kk d _ v H' q2 (x1.trans (Ext.ofSoft keep islst)) (RelX.puts nd r1 keep islst pr po) pd
    · exact hW _ _ _ _ q2 (RelX.puts nd r1 keep islst pr po)
  · exact q1.elim
end
/-! ### try .. except X -/
section
variable {X : Cx} {G : Gh} {x : Str} {c : Value} {body suite : List Stmt} {b₀ : Stmt} {np pos pos' : Pos}
/-- m tells whether a class is caught -/
def sTry (m : Value → Option Bool) (Wo : WDt) (tb : WDt → TSd) (ts : TSd) : TSd := fun DE E => tb (fun cls E1 => match m cls with
  | some true => ts DE E1
  | some false => Wo cls E1
  | none => False) DE E
theorem RelX.mark {K : PySem.W.Frag} {H : Hp} {E : Env} {σ : St} (r : RelE K G H E σ) : RelE K { G with X0 := H } H E σ := by
  obtain ⟨l, k, pn, dm, x0, A, h1, h2, h3⟩ := r
  exact ⟨l, k, pn, dm, Ext.refl _, A, h1, h2, h3⟩
theorem RelX.unmark {K : PySem.W.Frag} {H0 H H1 : Hp} {E E0 : Env} {σ σ0 : St} (r0 : RelE K G H0 E0 σ0) (r : RelE K { G with X0 := H0 } H E σ) : RelE K G H E σ := by
  obtain ⟨l, k, pn, dm, x0, A, h1, h2, h3⟩ := r
  exact ⟨l, k, pn, dm, r0.ext.trans x0, A, h1, h2, h3⟩
theorem sd_try {m : Value → Option Bool} {Wo : WDt} {Wout : WX} {tb : WDt → TSd} {ts : TSd} (hm : ∀ cls b, m cls = some b → PySem.W.exmOne X.K cls c = some b) (hWo : Wish X.K G Wo Wout) (hs : X.stack = X.env :: X.outer) (hf : X.env.frame = some X.env.locals) (hc : Names X x c) (tk : Takes X Wout)
    (hb : ∀ (W : WX) (pn : List (Addr × Obj)) (xe : Value → Shared → Prop), Takes (X.tr pn xe) W → PassesOwn (model X.prog X.w) X.A X.env xe → ∀ G' : Gh, G'.slots = G.slots → ∀ WD : WDt, Wish X.K G' WD W → SDs (X.tr pn xe) G' body (tb WD))
    (hsu : ∀ (a : Addr) (oe : Obj) (pn : List (Addr × Obj)), SDs (X.suite a ((a, oe) :: pn)) G (b₀ :: suite) ts) :
    SD X G (.Try body [.ExceptHandler (some (.Name x np)) none (b₀ :: suite) pos'] [] [] pos) (sTry m Wo tb ts) := by
  let tB : WX → TS := fun W D σ H => ∃ (G' : Gh) (WD : WDt), G'.slots = G.slots ∧ Wish X.K G' WD W ∧ liftS X.K G' (tb WD) D σ H
  have hb' : ∀ (W : WX) (pn : List (Addr × Obj)) (xe : Value → Shared → Prop), Takes (X.tr pn xe) W → PassesOwn (model X.prog X.w) X.A X.env xe → PSs (X.tr pn xe) body (tB W) := fun W pn xe t p =>
    ⟨fun pins s σ H F I ⟨G', WD, hg, hw, q⟩ => (hb W pn xe t p G' hg WD hw).pss.run pins s σ H F I q⟩
  refine ⟨PS.weak (ps_try_only hs hf hc tk hb' (ts := fun _ _ _ => liftS X.K G ts) fun a oe cls d pn _ _ => (hsu a oe pn).pss) fun F σ H ⟨E, DE, r, q, k1, k2, k3, k4⟩ => ?_⟩
  refine ⟨{ G with X0 := H }, _, rfl, fun cls E1 σ1 H1 q1 r1 => ?_, E, DE, r.mark, q, fun E' σ' H' z x r' => k1 E' σ' H' z x (RelX.unmark (H1 := H) r r'), fun d E' v σ' H' z x r' p => k2 d E' v σ' H' z x (RelX.unmark (H1 := H) r r') p, fun E' σ' H' z x r' => k3 E' σ' H' z x (RelX.unmark (H1 := H) r r'), fun E' σ' H' z x r' => k4 E' σ' H' z x (RelX.unmark (H1 := H) r r')⟩
  have ext : Ext H H1 := r1.ext
  have r2 : RelE X.K G H1 E1 σ1 := RelX.unmark (H1 := H) r r1
  show wOnly X.K c _ Wout F cls none σ1 H1
  cases e : m cls with
  | none => rw [e] at q1; exact q1.elim
  | some b =>
    rw [e] at q1
    refine ⟨b, hm cls b e, fun hb a ha => ?_, fun hb => ?_⟩
    · subst hb
      exact ⟨E1, DE, r2, q1, fun E' σ' H' z x r => k1 E' σ' H' z (ext.trans x) r, fun d E' v σ' H' z x r => k2 d E' v σ' H' z (ext.trans x) r, fun E' σ' H' z x r => k3 E' σ' H' z (ext.trans x) r, fun E' σ' H' z x r => k4 E' σ' H' z (ext.trans x) r⟩
    · subst hb
      exact hWo _ _ _ _ q1 r2
end
end DL
set_option Elab.async false
set_option linter.all false
set_option maxRecDepth 100000
set_option maxHeartbeats 1000000
/-! DL33: a call without arguments. -/
namespace DL
open PySem PySem.Spec PyProof.Rows L2
def tCall0D (sp : SpD) : TD := fun E Q => sp [] fun r _ => Q r E
end DL
set_option Elab.async false
set_option linter.all false
set_option maxRecDepth 100000
set_option maxHeartbeats 1000000
/-! DL34: a call whose last argument is a new mutable thing; list(range(n)). -/
namespace DL
open PySem PySem.Spec PyProof.Rows L2
abbrev TAm := Env → (List D → S → Env → Prop) → Prop
def amM (t : TM) : TAm := fun E Q => t E fun s E1 => s.isMut = true ∧ Q [] s E1
def amV (t : TD) (u : TAm) : TAm := fun E Q => t E fun d E1 => u E1 fun ds s E2 => Q (d :: ds) s E2
def tCallM (sp : SpD) (ta : TAm) : TD := fun E Q => ta E fun ds s E1 => sp (ds.map S.d ++ [s]) fun r _ => Q r E1
theorem AR.data {K : PySem.W.Frag} {H : Hp} {s : S} {a : Addr} (hm : s.isMut = true) (h : RelM K H s a) : ∀ {ds : List D} {vs : List V}, RpL K H ds vs → AR K H (ds.map S.d ++ [s]) (vs ++ [.ref a]) [a]
  | _, _, .nil => .o hm h .nil
  | _, _, .cons p t => .d p (AR.data hm h t)
section
variable {X : Cx} {G : Gh} {e : Expr} {es : List Expr} {pos p p1 p2 : Pos} {x : Str} {f : Addr} {fd : FuncData} {ps : List Str} {k : Nat} {sp : SpD} {ta : TAm}
/-- list(range(n)) -/
def tListRg (ta : TD) : TLd := fun E Q => ta E fun d E1 => match d with
  | .int n => (0 ≤ n ∧ n ≤ 10000000) ∧ Q (rangeD 0 n.toNat) E1
  | _ => False
theorem rgV_rp {K : PySem.W.Frag} {H : Hp} (n : Int) : RpL K H (rangeD 0 n.toNat) (rgV 0 n) := by
  unfold rangeD rgV
  rw [Int.sub_zero]
  generalize List.range n.toNat = l
  induction l with
  | nil => exact .nil
  | cons i l ih => exact .cons (.int _) ih
theorem el_listRg {ta : TD} (hg : Gl X "list") (hm : X.mg "list" = none) (hg2 : Gl X "range") (hm2 : X.mg "range" = none) (ha : ED X G e ta) (hc : X.calm = true := by rfl) (na : starEach [e] X.env = (false, eval e X.env) :: starEach [] X.env := by rfl)
    (nb : starEach [Expr.Call (.Name "range" p1) [e] [] p2] X.env = (false, eval (Expr.Call (.Name "range" p1) [e] [] p2) X.env) :: starEach [] X.env := by rfl) : EL X G (.Call (.Name "list" p) [.Call (.Name "range" p1) [e] [] p2] [] pos) (tListRg ta) :=
  ⟨PE.weak (pe_listRg hc hg hm (prg_1 hg2 hm2 ha.pe na) nb) fun σ H Q ⟨E, QE, r, q, k⟩ => ⟨E, _, r, q, fun d E1 v H1 q1 x1 r1 p1 => by
    cases p1 with
    | int n =>
      obtain ⟨hn, q1⟩ := q1
      refine ⟨n, rfl, RgOk.of_le (by decide) (by omega) (by decide) hn.1, fun q hq => ?_⟩
      obtain ⟨r2, h0, na⟩ := r1.fresh (o := .lst (rgV 0 n)) hq
      exact k _ _ _ _ _ q1 (x1.trans (PExt.new hq).ext) r2 h0 na upd_same (rgV_rp n)
    | _ => exact q1.elim⟩⟩
end
end DL
set_option Elab.async false
set_option linter.all false
set_option maxRecDepth 100000
set_option maxHeartbeats 1000000
/-! DL35: a, b = a list -/
namespace DL
open PySem PySem.Spec PyProof.Rows L2
section
variable {X : Cx} {G : Gh} {e : Expr} {es : List Expr} {pos : Pos}
def gLstD (n : Nat) (u : TGsd) : TGd := fun d E Q => match d with
  | .list ds => ds.length = n ∧ u ds E Q
  | _ => False
end
end DL
set_option Elab.async false
set_option linter.all false
set_option maxRecDepth 100000
set_option maxHeartbeats 1000000
/-! DL36: dicts as data, walked: keys, values, pairs; list(d), list(d.values()). -/
namespace DL
open PySem PySem.Spec PyProof.Rows L2
/-- what stands in the entries -/
abbrev KVs (ps : List (V × V)) (es : List DictEntry) : Prop := Paired (fun p e => RelV p.1 e.key ∧ RelV p.2 e.val) ps es
theorem RpD.kvs {K : PySem.W.Frag} {H : Hp} : ∀ {kvs : List (D × D)} {es : List DictEntry}, RpD K H kvs es → ∃ ps, KVs ps es ∧ RpL K H (kvs.map (·.1)) (ps.map (·.1)) ∧ RpL K H (kvs.map (·.2)) (ps.map (·.2))
  | _, _, .nil => ⟨[], .nil, .nil, .nil⟩
  | _, _, .cons (b := b) (v := v) t n1 n2 n3 e1 h g r l => by
    obtain ⟨ps, h1, h2, h3⟩ := RpD.kvs l
    exact ⟨(.ref b, v) :: ps, .cons ⟨by rw [e1]; rfl, r⟩ h1, .cons h h2, .cons g h3⟩
/-! over data -/
section
variable {K : PySem.W.Frag} {H : Hp}
def pairD (p : D × D) : D := .tuple [p.1, p.2]
variable {d : Addr} {o : Obj} {es : List DictEntry} {ps : List (V × V)} {kvs : List (D × D)}
end
section
variable {X : Cx} {G : Gh} {tg e : Expr} {ta : TD} {apos cpos : Pos}
def iDk (ta : TD) : TDs := fun E Q => ta E fun x E1 => match x with
  | .dict kvs => tupKeys kvs = true ∧ Q (kvs.map (·.1)) E1
  | _ => False
def iDv (ta : TD) : TDs := fun E Q => ta E fun x E1 => match x with
  | .dict kvs => tupKeys kvs = true ∧ Q (kvs.map (·.2)) E1
  | _ => False
def iDi (ta : TD) : TDs := fun E Q => ta E fun x E1 => match x with
  | .dict kvs => tupKeys kvs = true ∧ Q (kvs.map pairD) E1
  | _ => False
end
end DL
set_option Elab.async false
set_option linter.all false
set_option maxRecDepth 100000
set_option maxHeartbeats 1000000
/-! DL37: list(d), list(d.values()), if d, {k: v} of dicts with tuple keys; new mutable things frozen. -/
namespace DL
open PySem PySem.Spec PyProof.Rows L2
/-! ### if d -/
section
variable {X : Cx} {G : Gh} {e : Expr} {ta : TD} {p p1 p2 apos cpos pos : Pos}
def tTruDk (ta : TD) : TTd := fun E Q => ta E fun x E1 => match x with
  | .dict kvs => tupKeys kvs = true ∧ kvs.length ≤ sizeLine ∧ Q (!kvs.isEmpty) E1
  | _ => False
/-! ### list(d), list(d.values()) -/
def tLDk (ta : TD) : TLd := fun E Q => ta E fun x E1 => match x with
  | .dict kvs => tupKeys kvs = true ∧ kvs.length ≤ sizeLine ∧ Q (kvs.map (·.1)) E1
  | _ => False
def tLDv (ta : TD) : TLd := fun E Q => ta E fun x E1 => match x with
  | .dict kvs => tupKeys kvs = true ∧ kvs.length ≤ sizeLine ∧ Q (kvs.map (·.2)) E1
  | _ => False
/-! ### new mutable things: one entry; frozen -/
def mDt1 (tk tv : TD) : TM := fun E Q => tk E fun k E1 => tv E1 fun d E2 => keyB k = true ∧ Q (.dt [(k, d)]) E2
def tFzM (t : TM) : TD := fun E Q => t E fun s E1 => match s with
  | .dt kvs => Q (.dict kvs) E1
  | .ol xs => Q (.list xs) E1
  | _ => False
theorem EM.ed {t : TM} (h : EM X G e t) : ED X G e (tFzM t) :=
  ⟨PE.weak (PE.fzIf h.pe) fun σ H Q ⟨E, QE, r, q, k⟩ => ⟨E, _, r, q, fun s E1 a H1 q1 x1 r1 h0 na m => by
    split at q1
    · rename_i kvs
      obtain ⟨es, e2, l, nd, sm⟩ := m
      refine .inr ⟨a, _, rfl, e2, trivial, fun o => ?_⟩
      have x2 : Ext H1 (upd H1 a (.frz o (dO a es))) := Ext.putS e2 (fun _ z => by cases z) (fun _ _ z => by cases z)
      exact k _ _ _ _ q1 (x1.trans x2) (r1.freezeS h0 na e2 (fun _ z => by cases z) (fun _ _ z => by cases z)) (.dct upd_same (l.ext x2) nd sm)
    · rename_i xs
      obtain ⟨vs, e2, l⟩ := m
      refine .inr ⟨a, _, rfl, e2, trivial, fun o => ?_⟩
      exact k _ _ _ _ q1 (x1.trans (Ext.put e2)) (r1.freeze h0 na e2) (.lst (.of upd_same) (l.ext (Ext.put e2)))
    · exact q1.elim⟩⟩
end
end DL
set_option Elab.async false
set_option linter.all false
set_option maxRecDepth 100000
set_option maxHeartbeats 1000000
/-! DL38: objects: where they stand in the environment, and how they change. -/
namespace DL
open PySem PySem.Spec PyProof.Rows L2
def obsAt (E : Env) : List Nat → Option (List S)
  | [] => some []
  | j :: js => match E[j]?, obsAt E js with
    | some (.ob a C fs), some os => some (.ob a C fs :: os)
    | _, _ => none
def putOb : List Nat → List S → Env → Env
  | j :: js, s :: os, E => putOb js os (E.set j s)
  | _, _, E => E
theorem RelOb.soft {K : PySem.W.Frag} {H : Hp} {a C : Addr} {fs : List (Str × FS)} {fp : List Addr} (h : RelOb K H a C fs fp) : ∀ p ∈ fp, Soft H p := RelS.indom (s := .ob a C fs) (o := none) h
end DL
set_option Elab.async false
set_option linter.all false
set_option maxRecDepth 100000
set_option maxHeartbeats 1000000
/-! DL39: defs and methods over objects: promises, calls. -/
namespace DL
open PySem PySem.Spec PyProof.Rows L2
/-- a promise: arguments (data), objects; what it gives, what it raises -/
abbrev SpO := List D → List S → (D → List S → Prop) → (Value → List S → Prop) → Prop
/-! ### calls -/
/-- the objects that go along: js says where they stand -/
def tObs (sp : SpO) (ds : List D) (E : Env) (Q : D → Env → Prop) (WD : WDt) : Prop := ∃ js os, js.Nodup ∧ obsAt E js = some os ∧
  sp ds os (fun d os' => os'.length = js.length ∧ Q d (putOb js os' E)) (fun cls os' => os'.length = js.length ∧ WD cls (putOb js os' E))
end DL
set_option Elab.async false
set_option linter.all false
set_option maxRecDepth 100000
set_option maxHeartbeats 1000000
/-! DL40: objects: fields read and written, their lists, methods. -/
namespace DL
open PySem PySem.Spec PyProof.Rows L2
/-- whose name it is -/
def unH : D → Option Addr
  | .dict [(.none, .int (.ofNat a))] => some a
  | _ => none
theorem unH_hdl (a : Addr) : unH (hdl a) = some a := rfl
def obGet (a : Addr) : Env → Option (Addr × List (Str × FS))
  | [] => none
  | .ob b C fs :: E => if b = a then some (C, fs) else obGet a E
  | _ :: E => obGet a E
def setOb (a : Addr) (fs : List (Str × FS)) : Env → Env
  | [] => []
  | .ob b C gs :: E => if b = a then .ob b C fs :: E else .ob b C gs :: setOb a fs E
  | s :: E => s :: setOb a fs E
/-- the fields of the object that d names, of the class at C -/
def obD (C : Addr) (d : D) (E : Env) : Option (List (Str × FS)) := match unH d with
  | some a => match obGet a E with
    | some (C', fs) => if C' = C then some fs else none
    | none => none
  | none => none
def putOD (d : D) (fs : List (Str × FS)) (E : Env) : Env := match unH d with
  | some a => setOb a fs E
  | none => E
def putFS (f : Str) (x : FS) : List (Str × FS) → List (Str × FS)
  | [] => [(f, x)]
  | (g, y) :: r => if g = f then (g, x) :: r else (g, y) :: putFS f x r
section
variable {K : PySem.W.Frag} {H H' : Hp}
theorem lk_cons {α : Type} {f g : Str} {x : α} {r : List (Str × α)} : ((g, x) :: r).lookup f = if f = g then some x else r.lookup f := by
  by_cases h : f = g
  · subst h; simp [List.lookup]
  · have hb : (f == g) = false := beq_eq_false_iff_ne.mpr h
    rw [if_neg h]; simp only [List.lookup, hb]
theorem FsR.getD {f : Str} {x : D} : ∀ {fs : List (Str × FS)} {vs : List (Str × V)} {ls : List Addr}, FsR K H fs vs ls → fs.lookup f = some (.d x) → ∃ v, vs.lookup f = some v ∧ Rp K H x v
  | _, _, _, .nil, h => by cases h
  | _, _, _, FsR.d r t, h => by
    rw [lk_cons] at h ⊢
    split at h
    · rename_i e; cases h; rw [if_pos e]; exact ⟨_, rfl, r⟩
    · rename_i e; rw [if_neg e]; exact FsR.getD t h
  | _, _, _, FsR.l r q t, h => by
    rw [lk_cons] at h ⊢
    split at h
    · cases h
    · rename_i e; rw [if_neg e]; exact FsR.getD t h
theorem FsR.putL {f : Str} {xs : List D} {l : Addr} {us : List V} (hl : H l = some (.lst us)) (p : RpL K H xs us) : ∀ {fs : List (Str × FS)} {vs : List (Str × V)} {ls : List Addr}, FsR K H fs vs ls → ls.Nodup → l ∉ ls → ∃ ls', FsR K H (putFS f (.l xs) fs) (putF f (.ref l) vs) ls' ∧ ls'.Nodup ∧ ∀ b ∈ ls', b ∈ ls ∨ b = l
  | _, _, _, .nil, _, _ => ⟨[l], FsR.l hl p .nil, by simp, by simp⟩
  | _, _, _, FsR.d (f := g) r t, nd, ni => by
    unfold putFS putF
    by_cases e : g = f
    · rw [if_pos e, if_pos e]; exact ⟨_, FsR.l hl p t, List.nodup_cons.mpr ⟨ni, nd⟩, fun b hb => (List.mem_cons.mp hb).elim .inr .inl⟩
    · rw [if_neg e, if_neg e]
      obtain ⟨ls', h1, h2, h3⟩ := FsR.putL (f := f) hl p t nd ni
      exact ⟨_, FsR.d r h1, h2, h3⟩
  | _, _, _, FsR.l (f := g) (a := b0) r q t, nd, ni => by
    obtain ⟨n1, n2⟩ := List.nodup_cons.mp nd
    have ni2 : l ∉ _ := fun z => ni (List.mem_cons_of_mem _ z)
    unfold putFS putF
    by_cases e : g = f
    · rw [if_pos e, if_pos e]; exact ⟨_, FsR.l hl p t, List.nodup_cons.mpr ⟨ni2, n2⟩, fun b hb => (List.mem_cons.mp hb).elim .inr fun z => .inl (List.mem_cons_of_mem _ z)⟩
    · rw [if_neg e, if_neg e]
      obtain ⟨ls', h1, h2, h3⟩ := FsR.putL (f := f) hl p t n2 ni2
      refine ⟨_, FsR.l r q h1, List.nodup_cons.mpr ⟨fun z => ?_, h2⟩, fun b hb => ?_⟩
      · rcases h3 _ z with w | w
        · exact n1 w
        · exact ni (by rw [w]; exact List.mem_cons_self ..)
      · rcases List.mem_cons.mp hb with w | w
        · exact .inl (by rw [w]; exact List.mem_cons_self ..)
        · exact (h3 b w).elim (fun z => .inl (List.mem_cons_of_mem _ z)) .inr
end
/-! ### rules -/
def fldD (C : Addr) (f : Str) (d : D) (E : Env) : Option D := match obD C d E with
  | some fs => match fs.lookup f with
    | some (.d x) => some x
    | _ => none
  | none => none
def fldL (C : Addr) (f : Str) (d : D) (E : Env) : Option (List D) := match obD C d E with
  | some fs => match fs.lookup f with
    | some (.l x) => some x
    | _ => none
  | none => none
/-- x.f, data -/
def tFldD (C : Addr) (f : Str) (i : Nat) : TD := fun E Q => match E[i]? with
  | some (.d d) => match fldD C f d E with
    | some x => Q x E
    | none => False
  | _ => False
/-- x.f, a list of its own, read now -/
def tFldR (C : Addr) (f : Str) (i : Nat) : TD := fun E Q => match E[i]? with
  | some (.d d) => match fldL C f d E with
    | some xs => Q (.list xs) E
    | none => False
  | _ => False
/-- x.f = e -/
def sFldD (C : Addr) (f : Str) (i : Nat) (tv : TD) : TSd := fun DE E => tv E fun x E1 => match E1[i]? with
  | some (.d d) => match obD C d E1 with
    | some fs => fs.length < 1000 ∧ DE.nx (putOD d (putFS f (.d x) fs) E1)
    | none => False
  | _ => False
/-- x.f = a new list -/
def sFldL (C : Addr) (f : Str) (i : Nat) (tv : TLd) : TSd := fun DE E => tv E fun xs E1 => match E1[i]? with
  | some (.d d) => match obD C d E1 with
    | some fs => fs.length < 1000 ∧ DE.nx (putOD d (putFS f (.l xs) fs) E1)
    | none => False
  | _ => False
/-- x.f.append((x.g, y)) -/
def tAppF (C : Addr) (f g : Str) (i k : Nat) : TD := fun E Q => match E[i]? with
  | some (.d d) => match obD C d E, fldL C f d E, fldD C g d E, E[k]? with
    | some fs, some xs, some x, some (.d y) => xs.length < sizeLine ∧ Q .none (putOD d (putFS f (.l (xs ++ [.tuple [x, y]])) fs) E)
    | _, _, _, _ => False
  | _ => False
/-- x.f.pop() -/
def tPopF (C : Addr) (f : Str) (i : Nat) : TD := fun E Q => match E[i]? with
  | some (.d d) => match obD C d E, fldL C f d E with
    | some fs, some xs => match xs.getLast? with
      | some y => Q y (putOD d (putFS f (.l xs.dropLast) fs) E)
      | none => False
    | _, _ => False
  | _ => False
/-- o.m(..) -/
def tMethO (C : Addr) (m : Str) (sp : SpO) (to : TD) (ta : TDs) (WD : WDt) : TD := fun E Q => to E fun d E1 => (match obD C d E1 with
  | some fs => fs.lookup m = none
  | none => False) ∧ ta E1 fun ds E2 => tObs sp (d :: ds) E2 Q WD
/-! ### methods -/
end DL
set_option Elab.async false
set_option linter.all false
set_option maxRecDepth 100000
set_option maxHeartbeats 1000000
/-! DL41: objects are made; a def with defaults; a comprehension over a field's list. -/
namespace DL
open PySem PySem.Spec PyProof.Rows L2
/-! ### a new object -/
/-! ### a comprehension over a list that stands in the heap and may change later -/
end DL
set_option Elab.async false
set_option linter.all false
set_option maxRecDepth 100000
set_option maxHeartbeats 1000000
/-! DL42: except X as e: got = word(e); a def that tells an exception's class by a text. -/
namespace DL
open PySem PySem.Spec PyProof.Rows L2
/-! ### isinstance of it -/
/-! ### try .. except X as e: got = word(e) -/
end DL
set_option Elab.async false
set_option linter.all false
set_option maxRecDepth 100000
/-! DL43: small things for defs over objects. -/
namespace DL
open PySem PySem.Spec PyProof.Rows L2
end DL
set_option Elab.async false
set_option linter.all false
set_option maxRecDepth 100000
set_option maxHeartbeats 3200000
/-! DL44: tuple * int, any int from 0 on. -/
namespace DL
open PySem PySem.Spec PyProof.Rows L2
end DL
set_option Elab.async false
set_option linter.all false
set_option maxRecDepth 100000
set_option maxHeartbeats 3200000
/-! DL45: len(o), str(o) by own __len__, __str__; f-strings. -/
namespace DL
open PySem PySem.Spec PyProof.Rows L2
/-! ### f-strings -/
end DL
set_option Elab.async false
set_option linter.all false
set_option maxRecDepth 100000
set_option maxHeartbeats 3200000
/-! DL46: own dicts with int and text keys: d[k]. -/
namespace DL
open PySem PySem.Spec PyProof.Rows L2
end DL
set_option Elab.async false
set_option linter.all false
set_option maxRecDepth 100000
set_option maxHeartbeats 3200000
/-! DL47: {k: v, ..}: a new dict with int and text keys. -/
namespace DL
open PySem PySem.Spec PyProof.Rows L2
def putD2 (kvs : List (Key × D)) (k : Key) (v : D) : List (Key × D) :=
  if (kvs.any fun kv => decide (kv.1 = k)) = true then kvs.map (fun kv => if kv.1 = k then (kv.1, v) else kv) else kvs ++ [(k, v)]
/-- keys alike, values stand for data -/
def KR (K : PySem.W.Frag) (H : Hp) (kvs : List (Key × D)) (us : List (Key × V)) : Prop := us.map (·.1) = kvs.map (·.1) ∧ RpL K H (kvs.map (·.2)) (us.map (·.2))
theorem KR.nil {K : PySem.W.Frag} {H : Hp} : KR K H [] [] := ⟨rfl, .nil⟩
theorem KR.cons {K : PySem.W.Frag} {H : Hp} {k : Key} {d : D} {v : V} {kvs : List (Key × D)} {us : List (Key × V)} (h : Rp K H d v) (r : KR K H kvs us) : KR K H ((k, d) :: kvs) ((k, v) :: us) := ⟨by simp [r.1], .cons h r.2⟩
theorem KR.ext {K : PySem.W.Frag} {H H' : Hp} {kvs : List (Key × D)} {us : List (Key × V)} (r : KR K H kvs us) (x : Ext H H') : KR K H' kvs us := ⟨r.1, r.2.ext x⟩
theorem KR.any {K : PySem.W.Frag} {H : Hp} {kvs : List (Key × D)} {us : List (Key × V)} (r : KR K H kvs us) (k : Key) : (us.any fun kv => decide (kv.1 = k)) = kvs.any fun kv => decide (kv.1 = k) := by
  have e1 : (us.any fun kv => decide (kv.1 = k)) = (us.map (·.1)).any fun j => decide (j = k) := by rw [List.any_map]; rfl
  have e2 : (kvs.any fun kv => decide (kv.1 = k)) = (kvs.map (·.1)).any fun j => decide (j = k) := by rw [List.any_map]; rfl
  rw [e1, e2, r.1]
theorem KR.mapPut {K : PySem.W.Frag} {H : Hp} {k : Key} {d : D} {v : V} (h : Rp K H d v) : ∀ {kvs : List (Key × D)} {us : List (Key × V)}, KR K H kvs us → KR K H (kvs.map fun kv => if kv.1 = k then (kv.1, d) else kv) (us.map fun kv => if kv.1 = k then (kv.1, v) else kv)
  | [], [], _ => .nil
  | [], u :: us, r => by have := r.1; simp at this
  | p :: kvs, [], r => by have := r.1; simp at this
  | (a, x) :: kvs, (b, y) :: us, r => by
    obtain ⟨r1, r2⟩ := r
    simp only [List.map_cons, List.cons.injEq] at r1
    obtain ⟨e, r1⟩ := r1
    have e : b = a := e
    subst e
    cases r2 with
    | cons q qs =>
      have ih := KR.mapPut (k := k) h (kvs := kvs) (us := us) ⟨r1, qs⟩
      simp only [List.map_cons]
      split
      · exact .cons h ih
      · exact .cons q ih
theorem KR.put {K : PySem.W.Frag} {H : Hp} {k : Key} {d : D} {v : V} {kvs : List (Key × D)} {us : List (Key × V)} (r : KR K H kvs us) (h : Rp K H d v) : KR K H (putD2 kvs k d) (putK us k v) := by
  unfold putD2 putK
  rw [r.any k]
  split
  · exact r.mapPut h
  · exact ⟨by simp [r.1], by rw [List.map_append, List.map_append]; exact r.2.append (.cons h .nil)⟩
end DL
set_option Elab.async false
set_option linter.all false
set_option maxRecDepth 100000
set_option maxHeartbeats 3200000
/-! DL48: {k: v, ..} as a new dict of one's own; d.update({..}); d[k] = v; d.get(k, x). -/
namespace DL
open PySem PySem.Spec PyProof.Rows L2
theorem KR.length {K : PySem.W.Frag} {H : Hp} {l : List (Key × D)} {us : List (Key × V)} (r : KR K H l us) : us.length = l.length := by
  have := congrArg List.length r.1
  simpa using this
end DL
set_option Elab.async false
set_option linter.all false
set_option maxRecDepth 100000
set_option maxHeartbeats 3200000
/-! DL49: sets of things on the heap that are alike by a key of any kind; up to 76 of them. -/
namespace DL
open PySem PySem.Spec PyProof.Rows L2
/-- what a kind of keys must know beside, to lie in sets -/
structure SetK {P : Program} {w : World} {κ : Type} [DecidableEq κ] (kd : HeapKind P w κ) : Prop where
  cls : ∀ {A : Around} {E : Value → Shared → Prop} {s : Shared} {k : κ} {a : Addr} {Q : Bool → Shared → Prop}, kd.is s.heap k a → Q false s → wpAny (model P w) A (ofAClassStatement 8 (.ref a)) Q E s
  byv : ∀ {A : Around} {E : Value → Shared → Prop} {s : Shared} {k : κ} {a : Addr} {Q : Bool → Shared → Prop}, kd.is s.heap k a → Q true s → wpAny (model P w) A (hashByValue 8 (.ref a)) Q E s
  stay : ∀ {h h' : Heap} {k : κ} {a : Addr}, (∀ b o vs n, h.get? b = some o → o.data = .seq vs n → h'.get? b = some o) → kd.is h k a → kd.is h' k a
section
variable {P : Program} {w : World} {κ : Type} [DecidableEq κ] {kd : HeapKind P w κ} {A : Around} {E : Value → Shared → Prop} {s : Shared}
abbrev Ent (κ : Type) := Addr × κ
def ents (kd : HeapKind P w κ) (M : List (Ent κ)) : List (Int × Value) := M.map fun q => (kd.hash q.2, Value.ref q.1)
def hshs (kd : HeapKind P w κ) (M : List (Ent κ)) : List Int := M.map fun q => kd.hash q.2
/-- at a stands a set with these members -/
structure SetG (kd : HeapKind P w κ) (h : Heap) (a : Addr) (M : List (Ent κ)) (ws : Array (Int × Value)) (g : Nat) (T : SetTable) : Prop where
  at_ : ∃ o, h.get? a = some o ∧ o.ExactSet ∧ o.data = .set ws g T
  ent : ws.toList = ents kd M
  tb : TabOk T (hshs kd M)
  nd : (M.map (·.2)).Nodup
  mem : ∀ q ∈ M, kd.is h q.2 q.1
  pl : T.plain = true
  ld : w.params.followText "set-order" = true ∨ T.led = true
  rm : M.length * 5 < T.mask * 3
variable {a : Addr} {M : List (Ent κ)} {ws : Array (Int × Value)} {g : Nat} {T : SetTable}
theorem SetG.sz {h : Heap} (R : SetG kd h a M ws g T) : ws.size = M.length := by
  have z := congrArg List.length R.ent
  unfold ents at z
  rwa [Array.length_toList, List.length_map] at z
theorem hshs_len : (hshs kd M).length = M.length := List.length_map ..
theorem SetG.fit {h : Heap} (R : SetG kd h a M ws g T) : T.fits ws.size = true := by
  have z1 := R.tb.sz
  rw [hshs_len] at z1
  have z2 := R.sz
  have z3 := R.rm
  unfold SetTable.fits SetTable.fill
  rw [R.tb.dm, Bool.and_eq_true, beq_iff_eq, decide_eq_true_eq]
  exact ⟨by omega, by show T.place.size + 0 ≤ T.mask; omega⟩
theorem SetG.few {h : Heap} (R : SetG kd h a M ws g T) : M.length ≤ 76 := by
  have z := R.rm
  rcases R.tb.mok with e | e | e <;> rw [e] at z <;> omega
theorem SetG.get {h : Heap} (R : SetG kd h a M ws g T) {i : Nat} {q : Ent κ} (z : M[i]? = some q) : ws[i]? = some (kd.hash q.2, Value.ref q.1) := by
  rw [← Array.getElem?_toList, R.ent]
  unfold ents
  rw [List.getElem?_map, z]; rfl
theorem SetG.stands {h : Heap} (R : SetG kd h a M ws g T) : ¬ T.gaveWay = true := by
  unfold SetTable.gaveWay
  rw [mask_odd R.tb.mok]; decide
theorem SetG.moved (sk : SetK kd) {h h' : Heap} (R : SetG kd h a M ws g T) (ha : ∀ o, h.get? a = some o → h'.get? a = some o) (hm : ∀ q ∈ M, kd.is h' q.2 q.1) : SetG kd h' a M ws g T := by
  obtain ⟨o, e, rest⟩ := R.at_
  exact ⟨⟨o, ha o e, rest⟩, R.ent, R.tb, R.nd, hm, R.pl, R.ld, R.rm⟩
/-- members stay, while the set itself is written -/
theorem SetK.but (sk : SetK kd) {h h' : Heap} {k : κ} {b : Addr} {o : Obj} (x : kd.is h k b) (ho : h.get? a = some o) (hd : o.data = .set ws g T) (sb : Heap.SameBut a h h') : kd.is h' k b :=
  sk.stay (fun c oc vs n e ed => (sb.2 c (by
    rintro rfl
    rw [ho] at e; cases e
    rw [hd] at ed; cases ed)).trans e) x
theorem seenG (sk : SetK kd) {k : κ} {x : Addr} {Q : Bool → Shared → Prop} (hx : kd.is s.heap k x) : ∀ {ys : List Value}, (∀ y ∈ ys, ∃ k' c, y = Value.ref c ∧ kd.is s.heap k' c) → Q false s → wpAny (model P w) A (searchCouldBeSeen (.ref x) ys) Q E s := by
  intro ys hy hq
  unfold searchCouldBeSeen
  refine wpAny_bind (wpAny_forIn_list _ (fun more r u => r.1 = none ∧ u = s ∧ ∀ y ∈ more, ∃ k' c, y = Value.ref c ∧ kd.is s.heap k' c) _ ?_ ?_ _ _ ⟨rfl, rfl, hy⟩)
  · rintro y more r u ⟨_, rfl, al⟩
    obtain ⟨k', c, rfl, hc⟩ := al y (List.mem_cons_self ..)
    have al' : ∀ y ∈ more, ∃ k' c, y = Value.ref c ∧ kd.is u.heap k' c := fun z hz => al z (List.mem_cons_of_mem _ hz)
    dsimp only
    by_cases same : (x == c || (carriedByValue (.ref x) && carriedByValue (.ref c))) = true
    · exact wp_if_pos same (wpAny_pure ⟨rfl, rfl, al'⟩)
    · refine wp_if_neg same (wpAny_bind (kd.quiet hx ?_))
      simp only [Bool.not_true, Bool.false_eq_true, if_false]
      refine wpAny_bind (kd.quiet hc ?_)
      simp only [Bool.not_true, Bool.false_eq_true, if_false]
      refine wpAny_bind (sk.cls hx ?_)
      simp only [Bool.false_eq_true, if_false]
      refine wpAny_bind (sk.cls hc ?_)
      simp only [Bool.false_eq_true, if_false]
      exact wpAny_pure ⟨rfl, rfl, al'⟩
  · rintro ⟨r1, r2⟩ u ⟨z, rfl, _⟩
    simp only at z
    subst z
    exact wpAny_pure hq
abbrev step0 (T : SetTable) (H : Int) (c : Nat) : SetTable.Probe := nth T.mask (runAt T.mask (SetTable.bits H % (T.mask + 1)) (SetTable.bits H)) c
theorem dummy0 (T : SetTable) (H : Int) (c : Nat) : (step0 T H c).dummy = none := by
  have all : ∀ (n : Nat) (p : SetTable.Probe), p.dummy = none → (nth T.mask p n).dummy = none := by
    intro n
    induction n with
    | zero => exact fun _ z => z
    | succ n ih =>
      intro p z
      exact ih (adv T.mask p) (by unfold adv; split <;> exact z)
  exact all c _ rfl
/-- the search from the c-th step on -/
theorem searchG (sk : SetK kd) (R : SetG kd s.heap a M ws g T) {x : Addr} {k : κ} (hx : kd.is s.heap k x) (ro : kd.room A) {K : Nat} (big : K < 10 * SetTable.turns T.mask)
    (out : way T.mask (kd.hash k) K ∉ T.place.toList) (inn : ∀ c, c < K → way T.mask (kd.hash k) c ∈ T.place.toList) {Q : SetFound → Shared → Prop}
    (yes : k ∈ M.map (·.2) → Q (.there none) s) (no : k ∉ M.map (·.2) → Q (.free (way T.mask (kd.hash k) K) false) s) :
    ∀ (f c : Nat) (st : Option SetTable.Probe), st.getD (T.probeStart (kd.hash k)) = step0 T (kd.hash k) c → c ≤ K → K - c < f →
      (∀ (i : Nat) q, M[i]? = some q → q.2 = k → ∃ c', c ≤ c' ∧ c' < K ∧ T.place.toList[i]? = some (way T.mask (kd.hash k) c')) →
      wpAny (model P w) A (setSearchFrom a (.ref x) (kd.hash k) true f st) Q E s
  | 0, _, _, _, _, z, _ => absurd z (Nat.not_lt_zero _)
  | f + 1, c, st, e0, le, lt, ahead => by
    obtain ⟨o, ho, hex, hd⟩ := R.at_
    have sh : ∀ n, nth T.mask (step0 T (kd.hash k) c) n = step0 T (kd.hash k) (c + n) := fun n => (nth_add T.mask c _ n).symm
    have shj : ∀ n, (nth T.mask (step0 T (kd.hash k) c) n).j = way T.mask (kd.hash k) (c + n) := fun n => congrArg SetTable.Probe.j (sh n)
    have hashOf : ∀ (i : Nat) q, M[i]? = some q → (ws[i]?.map (·.1)).getD 0 = kd.hash q.2 := fun i q z => by rw [R.get z]; rfl
    have look := go_spec T R.tb.ris R.tb.dm (fun i => (ws[i]?.map (·.1)).getD 0) (kd.hash k) (10 * SetTable.turns T.mask) (K - c) _ (dummy0 T (kd.hash k) c) (by omega) (fun n z => by rw [shj]; exact inn (c + n) (by omega)) (by rw [shj, show c + (K - c) = K by omega]; exact out)
    rw [setSearchFrom_succ]
    refine wpAny_bind (wpAny_setState_of ho hd R.fit ?_)
    dsimp only
    refine wp_if_neg R.stands ?_
    try refine wpAny_bind (wpAny_pure ?_)
    rcases look with ⟨n, i, ln, li, lh, lno, lp⟩ | ⟨lno, lp⟩
    · have lp' : T.probe (fun i => (ws[i]?.map (·.1)).getD 0) (kd.hash k) (st.getD (T.probeStart (kd.hash k))) = some (.candidate (way T.mask (kd.hash k) (c + n)) i (step0 T (kd.hash k) (c + (n + 1)))) := by
        rw [e0, ← shj, ← sh]; exact lp
      rw [lp']
      dsimp only
      rw [shj] at li
      have il : i < M.length := by
        have z1 := (List.getElem?_eq_some_iff.mp li).1
        have z2 := R.tb.sz
        rw [hshs_len] at z2
        rw [Array.length_toList] at z1
        omega
      obtain ⟨q, hq⟩ : ∃ q, M[i]? = some q := ⟨_, List.getElem?_eq_getElem il⟩
      have qm : q ∈ M := List.mem_of_getElem? hq
      have live : T.slot (way T.mask (kd.hash k) (c + n)) = .live i := slot_live R.tb.ris li
      have rest : wpAny (model P w) A (searchRest a (.ref x) (kd.hash k) true f ws T (way T.mask (kd.hash k) (c + n)) i (step0 T (kd.hash k) (c + (n + 1)))) Q E s := by
        unfold searchRest
        rw [R.get hq]
        dsimp only
        refine wpAny_bind (wpAny_holding (kd.eqBool ro (R.mem q qm) hx (wpAny_bind (wpAny_setState_of ho hd R.fit ?_))))
        dsimp only
        by_cases al : q.2 = k
        · exact wp_if_pos (by simp [al]) (wpAny_pure (yes (List.mem_map.mpr ⟨q, qm, al⟩)))
        · refine wp_if_neg (by simp [al]) ?_
          try refine wpAny_bind (wpAny_pure ?_)
          rw [sameMem]
          dsimp only
          simp only [if_true, live, R.get hq]
          refine wpAny_bind (wpAny_isSame_ref_self (wpAny_bind (wpAny_pure ?_)))
          simp only [if_true]
          refine wp_if_neg (by simp [al]) (searchG sk R hx ro big out inn yes no f (c + (n + 1)) _ rfl (by omega) (by omega) fun i1 q1 z1 z2 => ?_)
          obtain ⟨c', y1, y2, y3⟩ := ahead i1 q1 z1 z2
          refine ⟨c', ?_, y2, y3⟩
          rcases Nat.lt_trichotomy c' (c + n) with y | y | y
          · exact (lno (c' - c) i1 (by omega) (by rw [shj, show c + (c' - c) = c' by omega]; exact y3) ((hashOf i1 q1 z1).trans (congrArg kd.hash z2))).elim
          · rw [y] at y3
            have := slot_live R.tb.ris y3
            rw [live] at this
            injection this with this
            rw [← this, hq] at z1
            cases z1
            exact absurd z2 al
          · omega
      by_cases hl : T.led = true
      · refine wp_if_neg (by simp [hl]) ?_
        try refine wpAny_bind (wpAny_pure ?_)
        exact rest
      · refine wp_if_pos (by simp [hl]) (wpAny_bind (seenG sk hx (fun y hy => ?_) ?_))
        · obtain ⟨en, he, rfl⟩ := List.mem_map.mp hy
          have he : en ∈ ws ∧ en.1 = kd.hash k := by simpa using he
          have he : en ∈ ws.toList := by simpa using he.1
          rw [R.ent] at he
          obtain ⟨q2, hq2, rfl⟩ := List.mem_map.mp he
          exact ⟨q2.2, q2.1, rfl, R.mem q2 hq2⟩
        · refine wp_if_neg (by decide) ?_
          try refine wpAny_bind (wpAny_pure ?_)
          exact rest
    · have lp' : T.probe (fun i => (ws[i]?.map (·.1)).getD 0) (kd.hash k) (st.getD (T.probeStart (kd.hash k))) = some (.empty (way T.mask (kd.hash k) K) none) := by
        have z : way T.mask (kd.hash k) K = (nth T.mask (step0 T (kd.hash k) c) (K - c)).j := by rw [shj, show c + (K - c) = K by omega]
        rw [e0, z]; exact lp
      rw [lp']
      dsimp only
      refine wpAny_pure (no fun hm => ?_)
      obtain ⟨q1, m1, z2⟩ := List.mem_map.mp hm
      obtain ⟨i1, b1, e1⟩ := List.getElem_of_mem m1
      have z1 : M[i1]? = some q1 := by rw [List.getElem?_eq_getElem b1, e1]
      obtain ⟨c', y1, y2, y3⟩ := ahead i1 q1 z1 z2
      exact lno (c' - c) i1 (by omega) (by rw [shj, show c + (c' - c) = c' by omega]; exact y3) ((hashOf i1 q1 z1).trans (congrArg kd.hash z2))
theorem searchG0 (sk : SetK kd) (R : SetG kd s.heap a M ws g T) {x : Addr} {k : κ} (hx : kd.is s.heap k x) (ro : kd.room A) {Q : SetFound → Shared → Prop} (yes : k ∈ M.map (·.2) → Q (.there none) s)
    (no : ∀ K, k ∉ M.map (·.2) → way T.mask (kd.hash k) K ∉ T.place.toList → (∀ c, c < K → way T.mask (kd.hash k) c ∈ T.place.toList) → Q (.free (way T.mask (kd.hash k) K) false) s) :
    wpAny (model P w) A (setSearch a (.ref x) (kd.hash k) true) Q E s := by
  have room := R.rm
  obtain ⟨K, big, out, inn⟩ := R.tb.first (by rw [hshs_len]; omega) (kd.hash k)
  have hK : K < 100000 := by
    have : 10 * SetTable.turns T.mask ≤ 1420 := by
      unfold SetTable.turns
      rcases R.tb.mok with z | z | z <;> rw [z] <;> decide
    omega
  unfold setSearch
  refine searchG sk R hx ro big out inn yes (fun z => no K z out inn) 100000 0 none rfl (Nat.zero_le _) (by omega) fun i q z1 z2 => ?_
  have zi : (hshs kd M)[i]? = some (kd.hash k) := by unfold hshs; rw [List.getElem?_map, z1, ← z2]; rfl
  have il : i < T.place.toList.length := by
    have y1 := (List.getElem?_eq_some_iff.mp z1).1
    have y2 := R.tb.sz
    rw [hshs_len] at y2
    rw [Array.length_toList]; omega
  have zj := List.getElem?_eq_getElem il
  obtain ⟨c, y1, y2⟩ := R.tb.before out zi zj
  exact ⟨c, Nat.zero_le _, y1, by rw [zj, y2]⟩
end
end DL
set_option Elab.async false
set_option linter.all false
set_option maxRecDepth 100000
set_option maxHeartbeats 3200000
/-! DL50: adding to sets of any keys; set(xs). -/
namespace DL
open PySem PySem.Spec PyProof.Rows L2
section
variable {P : Program} {w : World} {κ : Type} [DecidableEq κ] {kd : HeapKind P w κ} {A : Around} {E : Value → Shared → Prop} {s : Shared}
variable {a : Addr} {M : List (Ent κ)} {ws : Array (Int × Value)} {g : Nat} {T : SetTable}
theorem filterMap_all {α : Type} (M : List α) : (List.range M.length).filterMap (fun i => M[i]?) = M := by
  have all : ∀ n, n ≤ M.length → (List.range n).filterMap (fun i => M[i]?) = M.take n := by
    intro n
    induction n with
    | zero => exact fun _ => rfl
    | succ n ih =>
      intro z
      rw [List.range_succ, List.filterMap_append, ih (by omega), List.take_add_one, List.getElem?_eq_getElem (by omega), List.filterMap_cons_some (List.getElem?_eq_getElem (by omega))]
      rfl
  rw [all _ (Nat.le_refl _), List.take_length]
/-- entries in another order -/
theorem ents_order (ord : Array Nat) (he : ws.toList = ents kd M) (hp : ord.toList.Perm (List.range M.length)) :
    ∃ M2, (ord.filterMap (ws[·]?)).toList = ents kd M2 ∧ M2.Perm M ∧ hshs kd M2 = ord.toList.map fun i => (ws.map (·.1)).getD i 0 := by
  have at_ : ∀ i (z : i < M.length), ws[i]? = some (kd.hash (M[i]).2, Value.ref (M[i]).1) := fun i z => by
    rw [← Array.getElem?_toList, he]
    unfold ents
    rw [List.getElem?_map, List.getElem?_eq_getElem z]; rfl
  have go : ∀ l : List Nat, (∀ i ∈ l, i < M.length) → l.filterMap (fun i => ws[i]?) = ents kd (l.filterMap fun i => M[i]?) ∧ hshs kd (l.filterMap fun i => M[i]?) = l.map fun i => (ws.map (·.1)).getD i 0 := by
    intro l
    induction l with
    | nil => exact fun _ => ⟨rfl, rfl⟩
    | cons i l ih =>
      intro z
      have zi := z i (List.mem_cons_self ..)
      obtain ⟨e1, e2⟩ := ih fun j hj => z j (List.mem_cons_of_mem _ hj)
      rw [List.filterMap_cons_some (at_ i zi), List.filterMap_cons_some (List.getElem?_eq_getElem zi), e1]
      refine ⟨rfl, ?_⟩
      show kd.hash (M[i]).2 :: hshs kd (l.filterMap fun i => M[i]?) = _
      rw [e2, List.map_cons]
      congr 1
      have : (ws.map (·.1))[i]? = some (kd.hash (M[i]).2) := by rw [Array.getElem?_map, at_ i zi]; rfl
      simp [Array.getD_eq_getD_getElem?, this]
  obtain ⟨e1, e2⟩ := go ord.toList fun i hi => List.mem_range.mp (hp.mem_iff.mp hi)
  refine ⟨ord.toList.filterMap fun i => M[i]?, ?_, ?_, e2⟩
  · first
      | (rw [Array.toList_filterMap]; exact e1)
      | simpa using e1
  · have := hp.filterMap fun i => M[i]?
    rwa [filterMap_all] at this
/-- the table laid anew -/
theorem relayG (sk : SetK kd) {o : Obj} (ho : s.heap.get? a = some o) (hex : o.ExactSet) (hd : o.data = .set ws g T) (he : ws.toList = ents kd M) (tsz : T.place.size = ws.size) (tdm : T.dummies = #[]) (tfl : ws.size ≤ T.mask)
    (nd : (M.map (·.2)).Nodup) (mem : ∀ q ∈ M, kd.is s.heap q.2 q.1) (pl : T.plain = true) (ld : w.params.followText "set-order" = true ∨ T.led = true) {want B : Nat}
    (hw : SetTable.sizeAbove want - 1 = B) (hB : MaskOk B) (hs : SetTable.sizeAbove want ≤ 128) (rm : M.length * 5 < B * 3) {Q : Unit → Shared → Prop}
    (hQ : ∀ h' M' ws' g' T', Heap.SameBut a s.heap h' → SetG kd h' a M' ws' g' T' → M'.Perm M → Q () { s with heap := h' }) : wpAny (model P w) A (setRelay a want) Q E s := by
  have wl : ws.size = M.length := by
    have z := congrArg List.length he
    unfold ents at z
    rwa [Array.length_toList, List.length_map] at z
  have ml : M.length ≤ B := by omega
  have m76 : M.length ≤ 128 := by rcases hB with z | z | z <;> omega
  have fit : T.fits ws.size = true := by
    unfold SetTable.fits SetTable.fill
    rw [tdm, Bool.and_eq_true, beq_iff_eq, decide_eq_true_eq]
    exact ⟨tsz, by show T.place.size + 0 ≤ T.mask; omega⟩
  obtain ⟨T', ord, e, perm, tb, em, el, epl, edm⟩ := relaid_ok T (hs := ws.map (·.1)) (wanted := want) hw hB (by rw [Array.size_map, wl]; exact ml)
  rw [Array.size_map, wl] at perm
  obtain ⟨M2, o1, o2, o3⟩ := ents_order ord he perm
  rw [← o3] at tb
  have osz : (ord.filterMap (ws[·]?)).size = ws.size := by
    have z := congrArg List.length o1
    unfold ents at z
    rw [Array.length_toList, List.length_map, o2.length_eq] at z
    rw [z, wl]
  rw [setRelay_eq]
  refine wpAny_bind (wpAny_setState_of ho hd fit ?_)
  dsimp only
  refine wp_if_neg (by rw [sizeLine_eq]; omega) ?_
  try refine wpAny_bind (wpAny_pure ?_)
  rw [e]
  dsimp only
  refine wpAny_bind (wp_if_neg (by rw [osz]; simp) ?_)
  try refine wpAny_bind (wpAny_pure ?_)
  refine wpAny_pure ?_
  dsimp only
  refine wpAny_storeSet_of ho hd ?_ (by rw [osz, wl, sizeLine_eq]; omega)
  have sb : Heap.SameBut a s.heap (s.heap.update a (Obj.putSet (ord.filterMap (ws[·]?)) T')) := Heap.SameBut.update ..
  refine hQ _ M2 (ord.filterMap (ws[·]?)) (g + 1) T' sb ⟨⟨_, store_at ho hd, ⟨hex.1, hex.2.1, hex.2.2⟩, rfl⟩, o1, tb, (o2.map (·.2)).nodup_iff.mpr nd, fun q hq => sk.but (mem q (o2.mem_iff.mp hq)) ho hd sb, by rw [epl]; exact pl, by rw [el]; exact ld, by rw [o2.length_eq, em]; exact rm⟩ o2
/-- adding -/
theorem addG (sk : SetK kd) (R : SetG kd s.heap a M ws g T) {x : Addr} {k : κ} (hx : kd.is s.heap k x) (ro : kd.room A) (few : M.length + 1 ≤ 76) {Q : Bool → Shared → Prop}
    (hQ : ∀ b h' M' ws' g' T', Heap.SameBut a s.heap h' → SetG kd h' a M' ws' g' T' → (k ∈ M.map (·.2) → M' = M) → (k ∉ M.map (·.2) → M'.Perm ((x, k) :: M)) → Q b { s with heap := h' }) :
    wpAny (model P w) A (setAddHashed a (.ref x) (kd.hash k)) Q E s := by
  obtain ⟨o, ho, hex, hd⟩ := R.at_
  have wl := R.sz
  have room := R.rm
  unfold setAddHashed
  refine wpAny_holding ?_
  rw [show (100000 : Nat) = 99999 + 1 from rfl, setAddHashedIn_succ]
  refine wpAny_bind (wpAny_setState_of ho hd R.fit ?_)
  dsimp only
  refine wp_if_neg (by simp [byScan, Value.scannable]) ?_
  try refine wpAny_bind (wpAny_pure ?_)
  refine wpAny_bind (searchG0 sk R hx ro (fun yes => ?_) fun K no out inn => ?_)
  · dsimp only
    exact wpAny_pure (hQ false s.heap M ws g T (Heap.SameBut.refl a s.heap) R (fun _ => rfl) fun z => absurd yes z)
  dsimp only
  refine wpAny_bind (wpAny_setState_of ho hd R.fit ?_)
  dsimp only
  obtain ⟨p1, p2, p3, p4, p5, p6, p7, p8, p9⟩ := R.tb.put out inn
  have pl1 : (T.put (way T.mask (kd.hash k) K)).1.plain = true := by rw [p6]; exact R.pl
  generalize ept : T.put (way T.mask (kd.hash k) K) = pt at p1 p3 p4 p5 p6 p7 p8 p9 pl1 ⊢
  obtain ⟨T1, j⟩ := pt
  dsimp only at p1 p3 p4 p5 p6 p7 p8 p9 pl1 ⊢
  subst p1
  first
    | (refine wpAny_bind (wp_if_pos pl1 (sk.byv hx ?_)))
    | refine wp_if_pos pl1 (wpAny_bind (sk.byv hx ?_))
  simp only [if_true]
  have ent1 : (SetTable.insertAt ws (SetTable.below T.place (way T.mask (kd.hash k) K)) (kd.hash k, Value.ref x)).toList = ents kd (M.take (SetTable.below T.place (way T.mask (kd.hash k) K)) ++ (x, k) :: M.drop (SetTable.below T.place (way T.mask (kd.hash k) K))) := by
    rw [SetTable.toList_insertAt, R.ent]
    unfold ents
    rw [List.map_append, List.map_cons, List.map_take, List.map_drop]
  generalize SetTable.below T.place (way T.mask (kd.hash k) K) = j at p2 p3 ent1 ⊢
  have pm : (M.take j ++ (x, k) :: M.drop j).Perm ((x, k) :: M) := by
    have z : (M.take j ++ (x, k) :: M.drop j).Perm ((x, k) :: (M.take j ++ M.drop j)) := List.perm_middle
    rwa [List.take_append_drop] at z
  have tb1 : TabOk T1 (hshs kd (M.take j ++ (x, k) :: M.drop j)) := by
    have z : hshs kd (M.take j ++ (x, k) :: M.drop j) = (hshs kd M).take j ++ kd.hash k :: (hshs kd M).drop j := by
      unfold hshs
      rw [List.map_append, List.map_cons, List.map_take, List.map_drop]
    rw [z]; exact p3
  have nd1 : ((M.take j ++ (x, k) :: M.drop j).map (·.2)).Nodup := (pm.map (·.2)).nodup_iff.mpr (List.nodup_cons.mpr ⟨no, R.nd⟩)
  have len1 : (M.take j ++ (x, k) :: M.drop j).length = M.length + 1 := pm.length_eq
  generalize M.take j ++ (x, k) :: M.drop j = M1 at pm tb1 nd1 len1 ent1
  have wl1 : (SetTable.insertAt ws j (kd.hash k, Value.ref x)).size = M.length + 1 := by
    have z := congrArg List.length ent1
    unfold ents at z
    rwa [Array.length_toList, List.length_map, len1] at z
  generalize SetTable.insertAt ws j (kd.hash k, Value.ref x) = ws1 at ent1 wl1 ⊢
  refine wpAny_bind (wpAny_storeSet_of ho hd ?_ (by rw [wl1, sizeLine_eq]; omega))
  have sb : Heap.SameBut a s.heap (s.heap.update a (Obj.putSet ws1 T1)) := Heap.SameBut.update ..
  have ho1 := store_at (es' := ws1) (t' := T1) ho hd
  generalize s.heap.update a (Obj.putSet ws1 T1) = h1 at sb ho1 ⊢
  have mem1 : ∀ q ∈ M1, kd.is h1 q.2 q.1 := fun q hq => by
    rcases List.mem_cons.mp (pm.mem_iff.mp hq) with z | z
    · rw [z]; exact sk.but hx ho hd sb
    · exact sk.but (R.mem q z) ho hd sb
  have ld1 : w.params.followText "set-order" = true ∨ T1.led = true := by rw [p5]; exact R.ld
  rw [hshs_len] at p9
  by_cases full : T1.tooFull = true
  · first
      | refine wpAny_bind (wp_if_pos (by simp [full]) ?_)
      | refine wp_if_pos (by simp [full]) (wpAny_bind ?_)
    have hfull : (M.length + 1) * 5 ≥ T1.mask * 3 := by
      have z := full
      unfold SetTable.tooFull at z
      rwa [decide_eq_true_eq, p9] at z
    rw [wl]
    have tsz : T1.place.size = ws1.size := by
      have z := tb1.sz
      rw [hshs_len, len1] at z
      rw [z, wl1]
    have two : (T.mask = 7 ∧ M.length = 4) ∨ (T.mask = 31 ∧ M.length = 18) := by
      rcases R.tb.mok with z | z | z
      · exact .inl ⟨z, by rw [p4, z] at hfull; rw [z] at room; omega⟩
      · exact .inr ⟨z, by rw [p4, z] at hfull; rw [z] at room; omega⟩
      · rw [p4, z] at hfull; omega
    have go : ∀ B, SetTable.sizeAbove (SetTable.grown (M.length + 1)) - 1 = B → MaskOk B → SetTable.sizeAbove (SetTable.grown (M.length + 1)) ≤ 128 → (M.length + 1) * 5 < B * 3 →
        wpAny (model P w) A (setRelay a (SetTable.grown (M.length + 1))) (fun _ u => wpAny (model P w) A (pure true) Q E u) E { s with heap := h1 } := fun B y1 y2 y3 y4 =>
      relayG sk (s := { s with heap := h1 }) ho1 ⟨hex.1, hex.2.1, hex.2.2⟩ rfl ent1 tsz tb1.dm (by rw [wl1, p4]; rcases two with ⟨z1, z2⟩ | ⟨z1, z2⟩ <;> omega) nd1 mem1 pl1 ld1 y1 y2 y3 (by rw [len1]; exact y4)
        fun h2 M2 ws2 g2 T2 sb2 R2 pm2 => wpAny_pure (hQ true h2 M2 ws2 g2 T2 (sb.trans sb2) R2 (fun z => absurd z no) fun _ => pm2.trans pm)
    rcases two with ⟨_, z⟩ | ⟨_, z⟩
    · exact go 31 (by rw [z, size_20]) (.inr (.inl rfl)) (by rw [z, size_20]; decide) (by omega)
    · exact go 127 (by rw [z, size_76]) (.inr (.inr rfl)) (by rw [z, size_76]; decide) (by omega)
  · first
      | refine wp_if_neg (by simp [full]) ?_
      | refine wpAny_bind (wp_if_neg (by simp [full]) (wpAny_pure ?_))
    refine wpAny_pure (hQ true h1 M1 ws1 (g + 1) T1 sb ⟨⟨_, ho1, ⟨hex.1, hex.2.1, hex.2.2⟩, rfl⟩, ent1, tb1, nd1, mem1, pl1, ld1, ?_⟩ (fun z => absurd z no) fun _ => pm)
    have z := full
    unfold SetTable.tooFull at z
    rw [decide_eq_true_eq, p9] at z
    rw [len1]; omega
end
end DL
set_option Elab.async false
set_option linter.all false
set_option maxRecDepth 100000
set_option maxHeartbeats 3200000
/-! DL51: set(xs) of lists and tuples of things that are alike by keys. -/
namespace DL
open PySem PySem.Spec PyProof.Rows L2
section
variable {P : Program} {w : World} {κ : Type} [DecidableEq κ] {kd : HeapKind P w κ} {A : Around} {E : Value → Shared → Prop} {s : Shared}
/-- what the first i things made -/
structure GotG (ks : List (Ent κ)) (i : Nat) (M : List (Ent κ)) : Prop where
  sub : ∀ q ∈ M, q ∈ ks.take i
  all : ∀ q ∈ ks.take i, q.2 ∈ M.map (·.2)
theorem GotG.zero (ks : List (Ent κ)) : GotG ks 0 [] := ⟨(fun q z => nomatch z), fun q z => by simp at z⟩
theorem GotG.next {ks M M' : List (Ent κ)} {i : Nat} {q : Ent κ} (y : GotG ks i M) (z : ks[i]? = some q) (c1 : q.2 ∈ M.map (·.2) → M' = M) (c2 : q.2 ∉ M.map (·.2) → M'.Perm (q :: M)) : GotG ks (i + 1) M' := by
  have tk : ks.take (i + 1) = ks.take i ++ [q] := by rw [List.take_add_one, z]; rfl
  by_cases c : q.2 ∈ M.map (·.2)
  · rw [c1 c]
    refine ⟨fun r hr => by rw [tk]; exact List.mem_append_left _ (y.sub r hr), fun r hr => ?_⟩
    rw [tk] at hr
    rcases List.mem_append.mp hr with hr | hr
    · exact y.all r hr
    · rw [List.mem_singleton.mp hr]; exact c
  · have pm := c2 c
    refine ⟨fun r hr => ?_, fun r hr => ?_⟩
    · rw [tk]
      rcases List.mem_cons.mp (pm.mem_iff.mp hr) with e | hr
      · rw [e]; exact List.mem_append_right _ (List.mem_singleton.mpr rfl)
      · exact List.mem_append_left _ (y.sub r hr)
    · rw [(pm.map (·.2)).mem_iff, List.map_cons]
      rw [tk] at hr
      rcases List.mem_append.mp hr with hr | hr
      · exact List.mem_cons_of_mem _ (y.all r hr)
      · rw [List.mem_singleton.mp hr]; exact List.mem_cons_self
/-- no more than 75 unlike ones -/
def FewG (ks : List (Ent κ)) : Prop := ∀ M : List (Ent κ), (M.map (·.2)).Nodup → (∀ q ∈ M, q ∈ ks) → M.length ≤ 75
theorem set_loopG (sk : SetK kd) {J : Addr} {fp wr : List Addr} {Gn : Array GenState → Array GenState → Prop} {n : Nat} {Pv : Nat → Value → Prop} {St : Nat → Shared → Prop} {R : Result → Shared → Prop}
    (W : WalksS P w A.in1 J fp wr Gn n Pv St) (S : Addr) (hSf : S ∉ fp) (ks : List (Ent κ)) (hn : n = ks.length) (few : FewG ks) (val : ∀ i v, Pv i v → ∃ q, ks[i]? = some q ∧ v = .ref q.1)
    (h0 : Heap) (hk : ∀ q ∈ ks, kd.is h0 q.2 q.1) (hS0 : h0.get? S = none) (hw0 : ∀ b ∈ wr, h0.get? b = none) (ro : kd.room A.in1) :
    ∀ (m i : Nat) (s : Shared), n - i = m → i ≤ n → St i s → (∀ b o, h0.get? b = some o → s.heap.get? b = some o) → (∃ M ws g T, SetG kd s.heap S M ws g T ∧ GotG ks i M) →
      (∀ s' M ws g T, Moved (S :: wr) Gn s s' → SetG kd s'.heap S M ws g T → GotG ks n M → (∀ b o, h0.get? b = some o → s'.heap.get? b = some o) → R (.ok (.ret .none)) s') →
      codeAny (model P w) A (.builtin "set.update.loop" ⟨[.ref S, .ref J], []⟩) R s := by
  have hSw : S ∉ wr := fun z => hSf (W.sub _ z)
  have wider : ∀ b ∈ wr, b ∈ S :: wr := fun b z => List.mem_cons_of_mem _ z
  have keep : ∀ {s s' : Shared}, Moved wr Gn s s' → (∀ b o, h0.get? b = some o → s.heap.get? b = some o) → ∀ b o, h0.get? b = some o → s'.heap.get? b = some o := fun mv kp b o e =>
    mv.heap b o (fun z => by rw [hw0 b z] at e; cases e) (kp b o e)
  have still : ∀ {h' : Heap}, (∀ b o, h0.get? b = some o → h'.get? b = some o) → ∀ q ∈ ks, kd.is h' q.2 q.1 := fun kp q hq => sk.stay (fun b o vs n e _ => kp b o e) (hk q hq)
  intro m
  induction m with
  | zero =>
    intro i s e le st kp ⟨M, ws, g, T, R0, got⟩ fin
    obtain rfl : i = n := by omega
    refine codeAny_builtin F.entry_set_update_loop ?_
    rw [Around.under_plainId F.plain_set_update_loop _]
    show wpAny _ A.in1 (pyNext (.ref J) >>= _) _ _ s
    refine wpAny_bind (W.done s _ _ st fun s' mv => ?_)
    have kp' := keep mv kp
    show wpAny _ A.in1 (ret Value.none) _ _ s'
    exact wpAny_pure (fin s' M ws g T (mv.mono wider) (R0.moved sk (fun o e => mv.heap S o hSw e) fun q hq => still kp' q (List.mem_of_mem_take (got.sub q hq))) got kp')
  | succ m ih =>
    intro i s e le st kp ⟨M, ws, g, T, R0, got⟩ fin
    have lt : i < n := by omega
    refine codeAny_builtin F.entry_set_update_loop ?_
    rw [Around.under_plainId F.plain_set_update_loop _]
    show wpAny _ A.in1 (pyNext (.ref J) >>= _) _ _ s
    refine wpAny_bind (W.item i s _ _ lt st fun v s' pv st' mv => ?_)
    obtain ⟨q, hq, rfl⟩ := val i v pv
    have kp' := keep mv kp
    have R1 : SetG kd s'.heap S M ws g T := R0.moved sk (fun o e => mv.heap S o hSw e) fun r hr => still kp' r (List.mem_of_mem_take (got.sub r hr))
    have hx : kd.is s'.heap q.2 q.1 := still kp' q (List.mem_of_getElem? hq)
    have hl := few M R0.nd fun r hr => List.mem_of_mem_take (got.sub r hr)
    show wpAny _ A.in1 (holding [Value.ref q.1] (setAdd S (.ref q.1)) >>= _) _ _ s'
    refine wpAny_bind (wpAny_holding ?_)
    unfold setAdd
    refine wpAny_holding (wpAny_bind (kd.pyHash ro hx ?_))
    refine addG (s := { s' with toks := s'.toks + kd.draws q.2 }) sk R1 hx ro (by omega) fun b h' M' ws' g' T' sb R2 c1 c2 => ?_
    have kp2 : ∀ b o, h0.get? b = some o → h'.get? b = some o := fun b o z => (sb.2 b (fun y => by rw [y, hS0] at z; cases z)).trans (kp' b o z)
    refine wpAny_pure ⟨plainId_quiet F.plain_set_update_loop _, ih (i + 1) _ (by omega) lt (W.frame _ s' _ _ st' (Nat.le_add_right _ _) fun b hb o z => ?_) kp2 ⟨M', ws', g', T', R2, got.next hq c1 c2⟩ fun s'' M2 ws2 g2 T2 mv2 R3 got2 kp3 => ?_⟩
    · rw [sb.2 b (fun y : b = S => hSf (by rw [← y]; exact hb))]; exact z
    · refine fin s'' M2 ws2 g2 T2 (Moved.trans W.gtrans ((mv.mono wider).then_heap (Nat.le_add_right _ _) fun b o hb z => ?_) mv2) R3 got2 kp3
      rw [sb.2 b (fun y : b = S => hb (by rw [y]; exact List.mem_cons_self))]; exact z
theorem setG_new {h : Heap} {a : Addr} (ho : h.get? a = some { cls := .type "set", dict := none, data := .set #[] 0 (.fresh 0 0 (!w.params.followText "set-order")) }) : SetG kd h a [] #[] 0 (.fresh 0 0 (!w.params.followText "set-order")) where
  at_ := ⟨_, ho, ⟨rfl, rfl, rfl⟩, rfl⟩
  ent := rfl
  tb := (setTR_fresh (P := P) (w := w) ho).tab
  nd := List.nodup_nil
  mem := fun q z => nomatch z
  pl := rfl
  ld := (setTR_fresh (P := P) (w := w) ho).led
  rm := (setTR_fresh (P := P) (w := w) ho).room
end
end DL
set_option Elab.async false
set_option linter.all false
set_option maxRecDepth 100000
set_option maxHeartbeats 3200000
/-! DL52: set(xs) as a call, sets as objects. -/
namespace DL
open PySem PySem.Spec PyProof.Rows L2
section
variable {P : Program} {w : World} {κ : Type} [DecidableEq κ] {kd : HeapKind P w κ} {A : Around} {E : Value → Shared → Prop} {s : Shared}
theorem setG_tuple (sk : SetK kd) {l : Addr} {items : Array Value} (ks : List (Ent κ)) {Q : Value → Shared → Prop} (hh : A.handled = none) (hl : s.heap.IsTuple l items) (hit : items.toList = ks.map fun p => Value.ref p.1)
    (hk : ∀ p ∈ ks, kd.is s.heap p.2 p.1) (few : FewG ks) (ro : kd.room A.in1.in1.in1)
    (fin : ∀ (h' : Heap) (tk : Nat) L es ep t, SetG kd h' s.heap.objs.size L es ep t → GotG ks ks.length L → (∀ b o, s.heap.get? b = some o → h'.get? b = some o) → Q (.ref s.heap.objs.size) { s with heap := h', toks := tk }) :
    wpAny (model P w) A (call (.type "set") [.ref l]) Q E s := by
  have sz : items.size = ks.length := by
    have q := congrArg List.length hit
    rw [Array.length_toList, List.length_map] at q; exact q
  obtain ⟨cm, tlm, _⟩ := F.called_set.mro
  have made := F.called_set.made; have subs := F.called_set.sub
  refine wpAny_call (codeAny_of_tree ?_); show wpAny _ _ (callAny (.type "set") _) _ _ _
  refine wpAny_pure ⟨Code.quiet_builtin _ (by decide +kernel), codeAny_builtin F.entry_type_call ?_⟩; rw [Around.under_plain (weight_type_call_type "set" [.ref l] []) rfl]
  have n1 := F.called_set.notType; have n2 := F.called_set.canCreate; have n3 := F.typeCall_set_1 (.ref l)
  repeat (any_goals (first | assumption | wp_step))
  refine codeAny_mono (code_set_led1 (.ref l) (E := E) (Q₁ := fun ob s₁ => ob = .ref s.heap.objs.size ∧ s₁ = { s with heap := s.heap.push (nSet w) }) ⟨rfl, rfl⟩) fun res s₁ hres => ?_
  cases res with
  | error e => exact hres
  | ok fl =>
    cases fl with
    | ret ob =>
      obtain ⟨rfl, rfl⟩ := hres
      have there : (s.heap.push (nSet w)).get? s.heap.objs.size = some (nSet w) := Heap.get?_push_size _ rfl
      have isS : Shared.TypeIs { s with heap := s.heap.push (nSet w) } (.ref s.heap.objs.size) "set" := ⟨_, there, rfl⟩
      have i1 := F.called_set.init.lookup; have i2 := F.called_set.init.bind (.ref s.heap.objs.size)
      repeat (any_goals (first | assumption | wp_step))
      refine codeAny_mono (codeAny_call_builtin (R := wants (fun r s₂ => r = .none ∧ ∃ h' tk L es ep t, s₂ = { s with heap := h', toks := tk } ∧ SetG kd h' s.heap.objs.size L es ep t ∧ GotG ks ks.length L ∧ (∀ b o, s.heap.get? b = some o → h'.get? b = some o)) E) F.called_set.init.plain F.entry_set_init (check_set_init_1 isS ?_)) fun r₂ s₂ hr₂ => ?_
      · obtain ⟨⟨ocls, odict, odata, oslots⟩, hol, hcl, nl, hdl⟩ := id hl
        simp only at hcl hdl; subst hcl; subst hdl
        have lthere : (s.heap.push (nSet w)).get? l = some { cls := .type "tuple", dict := odict, data := .seq items nl, slots := oslots } := Heap.get?_push_of_some _ hol
        have s1 := F.sub_tuple_set; have s2 := F.sub_tuple_frozenset; have s3 : (Value.type "tuple" == Value.type "dict") = false := by decide
        have isL : (s.heap.push (nSet w)).IsTuple l items := hl.push _
        unfold Builtin.«set.__init__» noKeywords Builtin.Frozenset.updateFrom; generalize ePI : pyIter = PI
        wp_walk
        subst ePI
        refine wpAny_pyIter_tuple isL ?_; refine wpAny_bind (wpAny_runValue ?_)
        have lt : l < s.heap.objs.size := Heap.lt_size hol
        have calm3 : A.in1.in1.in1.handled = none := by simp [hh]
        have neI : l ≠ (s.heap.push (nSet w)).objs.size := by rw [Heap.size_push]; exact Nat.ne_of_lt (Nat.lt_succ_of_lt lt)
        have notin : s.heap.objs.size ∉ [(s.heap.push (nSet w)).objs.size, l] := by
          rw [Heap.size_push]; simp only [List.mem_cons, List.mem_singleton, List.not_mem_nil, or_false, not_or]; exact ⟨Nat.ne_of_lt (Nat.lt_succ_self _), Nat.ne_of_gt lt⟩
        have vals : ∀ (i : Nat) (v : Value), items[i]? = some v → ∃ p, ks[i]? = some p ∧ v = .ref p.1 := fun i v hv => by
          have q : items.toList[i]? = some v := by rw [Array.getElem?_toList]; exact hv
          rw [hit, List.getElem?_map, Option.map_eq_some_iff] at q
          obtain ⟨p, hp, e⟩ := q
          exact ⟨p, hp, e.symm⟩
        have none_of : ∀ b, s.heap.objs.size ≤ b → s.heap.get? b = none := fun b hb => by
          cases q : s.heap.get? b with
          | none => rfl
          | some o => exact absurd (Nat.lt_of_lt_of_le (Heap.lt_size q) hb) (Nat.lt_irrefl _)
        refine set_loopG sk ((Walks.tuple calm3 _ l neI items).toS) s.heap.objs.size notin ks sz few vals s.heap hk (none_of _ (Nat.le_refl _)) (fun b hb => none_of b (by rw [List.mem_singleton.mp hb, Heap.size_push]; exact Nat.le_succ _)) ro (items.size - 0) 0 _ (by omega) (Nat.zero_le _) ⟨⟨_, Heap.get?_push_size _ rfl, rfl, rfl⟩, (isL.push _)⟩ (fun b o e => Heap.get?_push_of_some _ (Heap.get?_push_of_some _ e)) ⟨[], #[], 0, _, setG_new (Heap.get?_push_of_some _ there), GotG.zero ks⟩ fun s' L es ep t hm hS' g' hkp => ?_
        obtain ⟨h', g2, d', tk', os'⟩ := s'
        have eg : g2 = s.gens := hm.gens; have ed : d' = s.drawn := hm.drawn; have eo : os' = s.os := hm.os
        subst eg; subst ed; subst eo
        show wpAny _ _ _ _ _ _
        refine wpAny_pure ?_; show wpAny _ _ (ret Value.none) _ _ _
        rw [sz] at g'; exact wpAny_pure ⟨rfl, h', tk', L, es, ep, t, rfl, hS', g', hkp⟩
      · cases r₂ with
        | error e => exact hr₂
        | ok fl₂ =>
          cases fl₂ with
          | ret r =>
            obtain ⟨rfl, h', tk, L, es, ep, t, rfl, hS', g', hk'⟩ := hr₂
            repeat (any_goals (first | assumption | wp_step))
            exact fin _ _ _ _ _ _ hS' g' hk'
          | _ => exact hr₂.elim
    | _ => exact hres.elim
theorem setG_list (sk : SetK kd) {l : Addr} {items : Array Value} (ks : List (Ent κ)) {Q : Value → Shared → Prop} (hh : A.handled = none) (hl : s.heap.IsList l items) (hit : items.toList = ks.map fun p => Value.ref p.1)
    (hk : ∀ p ∈ ks, kd.is s.heap p.2 p.1) (few : FewG ks) (ro : kd.room A.in1.in1.in1)
    (fin : ∀ (h' : Heap) (tk : Nat) L es ep t, SetG kd h' s.heap.objs.size L es ep t → GotG ks ks.length L → (∀ b o, s.heap.get? b = some o → h'.get? b = some o) → Q (.ref s.heap.objs.size) { s with heap := h', toks := tk }) :
    wpAny (model P w) A (call (.type "set") [.ref l]) Q E s := by
  have sz : items.size = ks.length := by
    have q := congrArg List.length hit
    rw [Array.length_toList, List.length_map] at q; exact q
  obtain ⟨cm, tlm, _⟩ := F.called_set.mro
  have made := F.called_set.made; have subs := F.called_set.sub
  refine wpAny_call (codeAny_of_tree ?_); show wpAny _ _ (callAny (.type "set") _) _ _ _
  refine wpAny_pure ⟨Code.quiet_builtin _ (by decide +kernel), codeAny_builtin F.entry_type_call ?_⟩; rw [Around.under_plain (weight_type_call_type "set" [.ref l] []) rfl]
  have n1 := F.called_set.notType; have n2 := F.called_set.canCreate; have n3 := F.typeCall_set_1 (.ref l)
  repeat (any_goals (first | assumption | wp_step))
  refine codeAny_mono (code_set_led1 (.ref l) (E := E) (Q₁ := fun ob s₁ => ob = .ref s.heap.objs.size ∧ s₁ = { s with heap := s.heap.push (nSet w) }) ⟨rfl, rfl⟩) fun res s₁ hres => ?_
  cases res with
  | error e => exact hres
  | ok fl =>
    cases fl with
    | ret ob =>
      obtain ⟨rfl, rfl⟩ := hres
      have there : (s.heap.push (nSet w)).get? s.heap.objs.size = some (nSet w) := Heap.get?_push_size _ rfl
      have isS : Shared.TypeIs { s with heap := s.heap.push (nSet w) } (.ref s.heap.objs.size) "set" := ⟨_, there, rfl⟩
      have i1 := F.called_set.init.lookup; have i2 := F.called_set.init.bind (.ref s.heap.objs.size)
      repeat (any_goals (first | assumption | wp_step))
      refine codeAny_mono (codeAny_call_builtin (R := wants (fun r s₂ => r = .none ∧ ∃ h' tk L es ep t, s₂ = { s with heap := h', toks := tk } ∧ SetG kd h' s.heap.objs.size L es ep t ∧ GotG ks ks.length L ∧ (∀ b o, s.heap.get? b = some o → h'.get? b = some o)) E) F.called_set.init.plain F.entry_set_init (check_set_init_1 isS ?_)) fun r₂ s₂ hr₂ => ?_
      · obtain ⟨⟨ocls, odict, odata, oslots⟩, hol, hcl, nl, hdl⟩ := id hl
        simp only at hcl hdl; subst hcl; subst hdl
        have lthere : (s.heap.push (nSet w)).get? l = some { cls := .type "list", dict := odict, data := .seq items nl, slots := oslots } := Heap.get?_push_of_some _ hol
        have s1 := F.sub_list_set; have s2 := F.sub_list_frozenset; have s3 : (Value.type "list" == Value.type "dict") = false := by decide
        have isL : (s.heap.push (nSet w)).IsList l items := hl.push _
        unfold Builtin.«set.__init__» noKeywords Builtin.Frozenset.updateFrom; generalize ePI : pyIter = PI
        wp_walk
        subst ePI
        refine wpAny_pyIter_list isL ?_; refine wpAny_bind (wpAny_runValue ?_)
        have lt : l < s.heap.objs.size := Heap.lt_size hol
        have calm3 : A.in1.in1.in1.handled = none := by simp [hh]
        have neI : l ≠ (s.heap.push (nSet w)).objs.size := by rw [Heap.size_push]; exact Nat.ne_of_lt (Nat.lt_succ_of_lt lt)
        have notin : s.heap.objs.size ∉ [(s.heap.push (nSet w)).objs.size, l] := by
          rw [Heap.size_push]; simp only [List.mem_cons, List.mem_singleton, List.not_mem_nil, or_false, not_or]; exact ⟨Nat.ne_of_lt (Nat.lt_succ_self _), Nat.ne_of_gt lt⟩
        have vals : ∀ (i : Nat) (v : Value), items[i]? = some v → ∃ p, ks[i]? = some p ∧ v = .ref p.1 := fun i v hv => by
          have q : items.toList[i]? = some v := by rw [Array.getElem?_toList]; exact hv
          rw [hit, List.getElem?_map, Option.map_eq_some_iff] at q
          obtain ⟨p, hp, e⟩ := q
          exact ⟨p, hp, e.symm⟩
        have none_of : ∀ b, s.heap.objs.size ≤ b → s.heap.get? b = none := fun b hb => by
          cases q : s.heap.get? b with
          | none => rfl
          | some o => exact absurd (Nat.lt_of_lt_of_le (Heap.lt_size q) hb) (Nat.lt_irrefl _)
        refine set_loopG sk ((Walks.list calm3 _ l neI items).toS) s.heap.objs.size notin ks sz few vals s.heap hk (none_of _ (Nat.le_refl _)) (fun b hb => none_of b (by rw [List.mem_singleton.mp hb, Heap.size_push]; exact Nat.le_succ _)) ro (items.size - 0) 0 _ (by omega) (Nat.zero_le _) ⟨⟨_, Heap.get?_push_size _ rfl, rfl, rfl⟩, (isL.push _)⟩ (fun b o e => Heap.get?_push_of_some _ (Heap.get?_push_of_some _ e)) ⟨[], #[], 0, _, setG_new (Heap.get?_push_of_some _ there), GotG.zero ks⟩ fun s' L es ep t hm hS' g' hkp => ?_
        obtain ⟨h', g2, d', tk', os'⟩ := s'
        have eg : g2 = s.gens := hm.gens; have ed : d' = s.drawn := hm.drawn; have eo : os' = s.os := hm.os
        subst eg; subst ed; subst eo
        show wpAny _ _ _ _ _ _
        refine wpAny_pure ?_; show wpAny _ _ (ret Value.none) _ _ _
        rw [sz] at g'; exact wpAny_pure ⟨rfl, h', tk', L, es, ep, t, rfl, hS', g', hkp⟩
      · cases r₂ with
        | error e => exact hr₂
        | ok fl₂ =>
          cases fl₂ with
          | ret r =>
            obtain ⟨rfl, h', tk, L, es, ep, t, rfl, hS', g', hk'⟩ := hr₂
            repeat (any_goals (first | assumption | wp_step))
            exact fin _ _ _ _ _ _ hS' g' hk'
          | _ => exact hr₂.elim
    | _ => exact hres.elim
end
end DL
set_option Elab.async false
set_option linter.all false
set_option maxRecDepth 100000
set_option maxHeartbeats 3200000
/-! DL53: len(set(xs)), sorted(set(xs)) of things that are alike by keys. -/
namespace DL
open PySem PySem.Spec PyProof.Rows L2
theorem permG_inv {α β : Type} {f : α → β} : ∀ {l : List β} {M : List α}, l.Perm (M.map f) → ∃ M1 : List α, M1.Perm M ∧ l = M1.map f
  | [], M, p => by
    have z := p.symm.eq_nil
    exact ⟨[], by rw [List.map_eq_nil_iff.mp z], rfl⟩
  | x :: l, M, p => by
    have hx : x ∈ M.map f := p.mem_iff.mp (List.mem_cons_self ..)
    obtain ⟨q, hq, rfl⟩ := List.mem_map.mp hx
    obtain ⟨A, B, rfl⟩ := List.append_of_mem hq
    have pm : (A ++ q :: B).Perm (q :: (A ++ B)) := List.perm_middle
    have p2 : (f q :: l).Perm (f q :: (A ++ B).map f) := p.trans (pm.map f)
    obtain ⟨M1, h1, rfl⟩ := permG_inv (M := A ++ B) (List.Perm.cons_inv p2)
    exact ⟨q :: M1, (h1.cons q).trans pm.symm, rfl⟩
section
variable {P : Program} {w : World} {κ : Type} [DecidableEq κ] {kd : HeapKind P w κ} {A : Around} {E : Value → Shared → Prop} {s : Shared}
/-- the set, without its members -/
def SetG0 (kd : HeapKind P w κ) (h : Heap) (a : Addr) (M : List (Ent κ)) : Prop :=
  ∃ (ws : Array (Int × Value)) (g : Nat) (T : SetTable), (∃ o, h.get? a = some o ∧ o.ExactSet ∧ o.data = .set ws g T) ∧ ws.toList = ents kd M ∧ TabOk T (hshs kd M) ∧ (M.map (·.2)).Nodup ∧ T.plain = true ∧ (w.params.followText "set-order" = true ∨ T.led = true) ∧ M.length * 5 < T.mask * 3
def SetGO (kd : HeapKind P w κ) (a : Addr) (M : List (Ent κ)) : HO := .ext fun h => SetG0 kd h a M
theorem SetG.g0 {h : Heap} {a : Addr} {M : List (Ent κ)} {ws : Array (Int × Value)} {g : Nat} {T : SetTable} (R : SetG kd h a M ws g T) : SetG0 kd h a M := ⟨ws, g, T, R.at_, R.ent, R.tb, R.nd, R.pl, R.ld, R.rm⟩
theorem SetG0.full {h : Heap} {a : Addr} {M : List (Ent κ)} (R : SetG0 kd h a M) (mem : ∀ q ∈ M, kd.is h q.2 q.1) : ∃ ws g T, SetG kd h a M ws g T := by
  obtain ⟨ws, g, T, h1, h2, h3, h4, h5, h6, h7⟩ := R
  exact ⟨ws, g, T, h1, h2, h3, h4, mem, h5, h6, h7⟩
theorem setGO_new {H : Hp} {h : Heap} {a : Addr} {M : List (Ent κ)} (R : SetG0 kd h a M) : ObjOk P w H h a (SetGO kd a M) := by
  have ⟨ws, g, T, ⟨o, ho, _⟩, _⟩ := R
  refine ⟨R, ⟨o, ho⟩, fun h1 h2 ⟨ws', g', T', ⟨o', ho', r'⟩, q'⟩ k => ⟨ws', g', T', ⟨o', k o' ho', r'⟩, q'⟩⟩
theorem refsG : ∀ {ks : List (Ent κ)} {us : List Value}, Vals (ks.map fun p => V.ref p.1) us → us = ks.map fun p => Value.ref p.1
  | [], _, .nil => rfl
  | p :: ks, _, .cons r t => by cases r; rw [refsG t]; rfl
theorem valsG : ∀ (ks : List (Ent κ)), Vals (ks.map fun p => V.ref p.1) (ks.map fun p => Value.ref p.1)
  | [] => .nil
  | p :: ks => .cons rfl (valsG ks)
/-- sorted of a set: by data -/
theorem sorted_setG {a : Addr} {M : List (Ent κ)} {ws : Array (Int × Value)} {g : Nat} {T : SetTable} {Q : Value → Shared → Prop} (R : SetG kd s.heap a M ws g T) (hh : A.handled = none) {β : Type} {enc : β → PyData} {Rl : Value → β → Prop}
    (bsOf : List (Ent κ) → List β) (e : ∀ M1, M1.Perm M → PySem.W.EachIs Rl (M1.map fun q => Value.ref q.1) (bsOf M1)) (er : ∀ M1, M1.Perm M → PySem.W.EachIs (fun v b => ∃ as, Reads s.heap v (enc b) as) (M1.map fun q => Value.ref q.1) (bsOf M1))
    (hal : ∀ M1, M1.Perm M → PySem.W.AllAlike ((bsOf M1).map enc)) (hk : ∀ M1, M1.Perm M → PySem.W.Sortable ((bsOf M1).map enc)) (hu : ∀ M1, M1.Perm M → ∀ b, b ∈ bsOf M1 → A.units + 2 + (enc b).depth < cLine)
    (h : ∀ M1 s' p out c, M1.Perm M → (∀ b o, s.heap.get? b = some o → s'.heap.get? b = some o) → s'.gens = s.gens → s'.os = s.os → s.heap.objs.size ≤ p → s'.heap.get? p = some { cls := .type "list", data := .seq (List.toArray out) c } → PySem.W.EachIs Rl out ((bsOf M1).mergeSort (PySem.W.dataLe false enc)) → Q (.ref p) s') :
    wpAny (model P w) A (call (.builtin "sorted") [.ref a]) Q E s := by
  obtain ⟨o, ho, hex, hd⟩ := R.at_
  have wl := R.sz
  have hfew := R.few
  refine Calls.call_function_entry kind_sorted plain_sorted entry_sorted (args_sorted1 _) ?_
  unfold Builtin.«sorted»
  refine wpAny_bind (m := checkCount "sorted" 1 1 _) (wpAny_pure ?_)
  refine wpAny_bind (collect_set (A := A.in1) hh ⟨o, ho, hex.1, hd⟩ R.fit (by unfold scanBound; omega) R.tb.ris R.ld fun s1 vs k1 hz g1 o1 pm => ?_)
  have hes : ws.toList.map (·.2) = M.map fun q => Value.ref q.1 := by
    rw [R.ent]
    unfold ents
    rw [List.map_map]; rfl
  rw [hes] at pm
  obtain ⟨M1, pm1, rfl⟩ := permG_inv pm
  have hL : (M1.map fun q => Value.ref q.1).length ≤ sizeLine := by rw [List.length_map, pm1.length_eq, sizeLine_eq]; omega
  generalize hvs : (M1.map fun q => Value.ref q.1) = vs at hL
  have e1 := e M1 pm1
  have er1 := er M1 pm1
  rw [hvs] at e1 er1
  refine wpAny_bind (wpAny_newList ?_ hL)
  have hp : (s1.heap.push (seqObj "list" vs.toArray 0)).get? s1.heap.objs.size = some (seqObj "list" vs.toArray 0) := Heap.get?_push_size _ rfl
  have old : ∀ b u, s.heap.get? b = some u → b ≠ s1.heap.objs.size ∧ (s1.heap.push (seqObj "list" vs.toArray 0)).get? b = some u := fun b u q => ⟨Nat.ne_of_lt (Heap.lt_size (k1 b u q)), Heap.get?_push_of_some _ (k1 b u q)⟩
  refine wpAny_bind (wpAny_holding (wpAny_call_entry slot_list_sort ⟨_, hp, rfl⟩ entry_list_sort ?body (args_list_sort _)))
  case body =>
    have er' : PySem.W.EachIs (fun v b => ∃ as, Reads (PySem.W.sortingHeap (s1.heap.push (seqObj "list" vs.toArray 0)) s1.heap.objs.size vs) v (enc b) as) vs (bsOf M1) := er1.mono fun _ _ ⟨as, r⟩ => ⟨as, PyProof.Rows.Reads.keeps (fun b u q => PySem.W.sortingHeap_old (old b u q).1 (old b u q).2) r⟩
    show wpAny (model P w) A.in1.in1 (Builtin.«list.sort» ⟨[.ref s1.heap.objs.size], []⟩) _ _ _
    rw [PySem.W.plain_is_rev]
    refine PySem.W.list_sort_rev_vals (κ := PySem.W.dataKind (PySem.W.sortingHeap (s1.heap.push (seqObj "list" vs.toArray 0)) s1.heap.objs.size vs) ((bsOf M1).map enc)) hp (PySem.W.SortsAt.data (s := { s1 with heap := PySem.W.sortingHeap (s1.heap.push (seqObj "list" vs.toArray 0)) s1.heap.objs.size vs }) (PySem.W.each_map (R := fun v d => ∃ as, Reads (PySem.W.sortingHeap (s1.heap.push (seqObj "list" vs.toArray 0)) s1.heap.objs.size vs) v d as) enc er') (hal M1 pm1) (hk M1 pm1) (PySem.W.bound_map (hu M1 pm1))) hL ⟨_, rfl, wpAny_pure ⟨_, rfl, ?_⟩⟩
    obtain ⟨c, hc2⟩ := sortedHeap_at (vs := vs) (out := (PySem.W.sortVals (PySem.W.dataKind (PySem.W.sortingHeap (s1.heap.push (seqObj "list" vs.toArray 0)) s1.heap.objs.size vs) ((bsOf M1).map enc)) false vs vs).toArray) hp
    refine h M1 _ _ _ c pm1 (fun b u q => ?_) g1 o1 hz hc2 (PySem.W.sortVals_data false e1 er' (hal M1 pm1))
    show (sortedHeap _ _ _ _).get? b = some u
    rw [sortedHeap_old (old b u q).1 (Heap.lt_size (old b u q).2)]
    exact (old b u q).2
end
section
variable {X : Cx} {κ : Type} [DecidableEq κ] {kd : HeapKind X.prog X.w κ}
/-- members, whatever the state -/
def AtG (X : Cx) (kd : HeapKind X.prog X.w κ) (H : Hp) (q : Ent κ) : Prop := ∀ (pins : List (Addr × Obj)) (s : Shared) (σ : St), Inv X pins σ H s → kd.is s.heap q.2 q.1
theorem cr_setG (hc : X.calm = true) (sk : SetK kd) (ro : kd.room X.A.in1.in1.in1) : CallR X (.type "set") (fun xs H Q => ∃ (l : Addr) (ks : List (Ent κ)), xs = [V.ref l] ∧ (SqL X.K H l (ks.map fun p => V.ref p.1) ∨ SqT X.K H l (ks.map fun p => V.ref p.1)) ∧ (∀ q ∈ ks, AtG X kd H q) ∧ FewG ks ∧
    ∀ a M, H a = none → (∀ p ∈ M, p ∈ ks) → (∀ p ∈ ks, p.2 ∈ M.map (·.2)) → (M.map (·.2)).Nodup → Q (.ref a) (upd H a (SetGO kd a M))) := by
  intro pins s σ H xs us Q I r h
  obtain ⟨l, ks, rfl, hl, hk, few, q⟩ := h
  rw [Vals.ref1 r]
  have hn : H s.heap.objs.size = none := I.hok.fresh (Nat.le_refl _)
  rcases hl with hl | hl
  · obtain ⟨its, rv, ⟨o, n, ho, hcl, hdi, hda⟩, hz⟩ := I.list hl
    refine setG_list (P := X.prog) (w := X.w) sk ks (I.ok.hd hc) (items := its.toArray) ⟨o, ho, hcl, n, hda⟩ (by simpa using refsG rv) (fun p hp => hk p hp pins s σ I) few ro fun h' tk M ws g T R got kp => ?_
    refine ⟨.ref s.heap.objs.size, upd H s.heap.objs.size (SetGO kd s.heap.objs.size M), I.laid (t' := tk) kp (Nat.le_refl _) (setGO_new R.g0), rfl, q _ M hn (fun p hp => List.mem_of_mem_take (got.sub p hp)) (fun p hp => got.all p (by rw [List.take_length]; exact hp)) R.nd⟩
  · obtain ⟨its, rv, pl, hz⟩ := I.tuple hl
    refine setG_tuple (P := X.prog) (w := X.w) sk ks (I.ok.hd hc) pl (by simpa using refsG rv) (fun p hp => hk p hp pins s σ I) few ro fun h' tk M ws g T R got kp => ?_
    refine ⟨.ref s.heap.objs.size, upd H s.heap.objs.size (SetGO kd s.heap.objs.size M), I.laid (t' := tk) kp (Nat.le_refl _) (setGO_new R.g0), rfl, q _ M hn (fun p hp => List.mem_of_mem_take (got.sub p hp)) (fun p hp => got.all p (by rw [List.take_length]; exact hp)) R.nd⟩
theorem rpl_map {K : PySem.W.Frag} {H : Hp} (dat : κ → D) : ∀ {M : List (Ent κ)}, (∀ q ∈ M, Rp K H (dat q.2) (.ref q.1)) → RpL K H (M.map fun q => dat q.2) (M.map fun q => V.ref q.1)
  | [], _ => .nil
  | q :: M, h => .cons (h q (List.mem_cons_self ..)) (rpl_map dat fun r hr => h r (List.mem_cons_of_mem _ hr))
theorem cr_sortedG (hc : X.calm = true) (hu : X.A.units + 65 < cLine) (dat : κ → D) : CallR X (.builtin "sorted") (fun vs H Q => ∃ (a : Addr) (M : List (Ent κ)), vs = [V.ref a] ∧ H a = some (SetGO kd a M) ∧ (∀ q ∈ M, AtG X kd H q) ∧ (∀ q ∈ M, Rp X.K H (dat q.2) (.ref q.1)) ∧ (∀ M1 : List (Ent κ), M1.Perm M → sortOk (M1.map fun q => dat q.2)) ∧
    ∀ (M1 : List (Ent κ)) ws p, M1.Perm M → H p = none → RpL X.K H (sortD false (M1.map fun q => dat q.2)) ws → Q (.ref p) (upd H p (.lst ws))) := by
  intro pins s σ H vs us Q I r h
  obtain ⟨a, M, rfl, ha, hk, hr, ok, q⟩ := h
  have R0 : SetG0 kd s.heap a M := (I.hok a _ ha).1
  obtain ⟨ws, g, T, R⟩ := R0.full fun p hp => hk p hp pins s σ I
  rw [Vals.ref1 r]
  have few := R.few
  have rl : ∀ M1 : List (Ent κ), M1.Perm M → RpL X.K H (M1.map fun q => dat q.2) (M1.map fun q => V.ref q.1) := fun M1 p => rpl_map dat fun z hz => hr z (p.mem_iff.mp hz)
  refine sorted_setG R (I.ok.hd hc) (enc := fun b : V × D => b.2) (Rl := fun v b => RelV b.1 v) (fun M1 => (M1.map fun q => V.ref q.1).zip (M1.map fun q => dat q.2)) (fun M1 p => each_pairs (rl M1 p) (valsG M1)) (fun M1 p => each_reads I (fun d hd => ((ok M1 p).2.2 d hd).2) (rl M1 p) (valsG M1)) (fun M1 p => by rw [zip_snd2 (rl M1 p)]; exact (ok M1 p).1) (fun M1 p => by rw [zip_snd2 (rl M1 p)]; exact (ok M1 p).2.1) (fun M1 p b hb => ?_) fun M1 s' pp out c pm k1 g1 o1 hp hp2 eo => ?_
  · have := ((ok M1 p).2.2 b.2 (by rw [← zip_snd2 (rl M1 p)]; exact List.mem_map_of_mem hb)).1; omega
  · have e2 := zip_snd2 (rl M1 pm)
    have rv1 := each_vals eo
    have hn : H pp = none := I.hok.fresh hp
    have mem : ∀ b ∈ ((M1.map fun q => V.ref q.1).zip (M1.map fun q => dat q.2)).mergeSort (PySem.W.dataLe false fun b : V × D => b.2), Rp X.K H b.2 b.1 := fun b hb => zip_rp (rl M1 pm) b ((List.mergeSort_perm _ _).mem_iff.mp hb)
    have e3 : (((M1.map fun q => V.ref q.1).zip (M1.map fun q => dat q.2)).mergeSort (PySem.W.dataLe false fun b : V × D => b.2)).map (·.2) = sortD false (M1.map fun q => dat q.2) := by
      unfold sortD
      rw [PySem.W.sort_maps (s := PySem.W.dataLe false fun d : D => d) (fun b : V × D => b.2) (fun a _ b _ => le_snd false a b), e2]
    have hr2 := rp_zip mem
    rw [e3] at hr2
    have hlen : ((((M1.map fun q => V.ref q.1).zip (M1.map fun q => dat q.2)).mergeSort (PySem.W.dataLe false fun b : V × D => b.2)).map (·.1)).length ≤ sizeLine := by
      rw [List.length_map, (List.mergeSort_perm _ _).length_eq, List.length_zip, List.length_map, List.length_map, sizeLine_eq, pm.length_eq]; omega
    have all : s' = { s with heap := s'.heap, gens := s'.gens, drawn := s'.drawn, toks := s'.toks } := by
      cases s' with | mk _ _ _ _ _ => cases s with | mk _ _ _ _ _ => cases o1; rfl
    have J : Inv X pins σ (upd H pp (.lst (((M1.map fun q => V.ref q.1).zip (M1.map fun q => dat q.2)).mergeSort (PySem.W.dataLe false fun b : V × D => b.2) |>.map (·.1)))) { s with heap := s'.heap, gens := s'.gens, drawn := s'.drawn, toks := s'.toks } :=
      I.call (ch := []) (Un.laid k1 hp hn) (I.hok.laid k1 hp ⟨hlen, out, c, rv1, hp2⟩) (by rw [g1]; exact I.bare) (fun _ z => nomatch z)
    rw [all]
    exact ⟨.ref pp, _, J, rfl, q M1 _ pp pm hn hr2⟩
end
end DL
set_option Elab.async false
set_option linter.all false
set_option maxRecDepth 100000
set_option maxHeartbeats 3200000
/-! DL54: len(set(xs)), sorted(set(xs)): lists and tuples of tuples of ints, up to 75 unlike ones. -/
namespace DL
open PySem PySem.Spec PyProof.Rows L2
def tIs (ns : List Int) : D := .tuple (ns.map PyData.int)
theorem sk_ints (P : Program) (w : World) : SetK (TK P w) where
  cls := fun hk q => ofAClass_tup hk q
  byv := fun hk q => hashBy_tup hk q
  stay := fun kp x => tupleKind_stays.stays kp x
/-- no more than 75 unlike rows -/
def few75 (ks : List (List Int)) : Prop := ∀ zs : List (List Int), zs.Nodup → (∀ z ∈ zs, z ∈ ks) → zs.length ≤ 75
theorem few75_of {ks : List (List Int)} {all : List (List Int)} (h : ∀ k ∈ ks, k ∈ all) (hl : all.length ≤ 75) : few75 ks := fun zs nd hz => by
  have : ∀ (l D : List (List Int)), l.Nodup → (∀ x ∈ l, x ∈ D) → l.length ≤ D.length := by
    intro l
    induction l with
    | nil => intro D _ _; exact Nat.zero_le _
    | cons a l ih =>
      intro D n s
      obtain ⟨n1, n2⟩ := List.nodup_cons.mp n
      have ha := s a (List.mem_cons_self ..)
      have h2 := ih (D.erase a) n2 fun x hx => (List.mem_erase_of_ne (show x ≠ a from fun z => n1 (by rw [← z]; exact hx))).mpr (s x (List.mem_cons_of_mem _ hx))
      rw [List.length_erase_of_mem ha] at h2
      have := List.length_pos_of_mem ha
      rw [List.length_cons]; omega
  exact Nat.le_trans (this zs all nd fun z h' => h z (hz z h')) hl
theorem rows_ks {K : PySem.W.Frag} {H : Hp} : ∀ {rs : List (List Int)} {vs : List V}, RpL K H (rs.map tIs) vs → ∃ ks : List (Ent (List Int)), vs = ks.map (fun p => V.ref p.1) ∧ ks.map (·.2) = rs ∧ ∀ p ∈ ks, Rp K H (tIs p.2) (.ref p.1)
  | [], _, .nil => ⟨[], rfl, rfl, fun p hp => by cases hp⟩
  | c :: cs, _, .cons h l => by
    obtain ⟨ks, rfl, e, hk⟩ := rows_ks l
    have h' : Rp K H (.tuple (c.map PyData.int)) _ := h
    cases h' with
    | tup hs ll =>
      rename_i a vs
      refine ⟨(a, c) :: ks, rfl, by rw [List.map_cons, e], fun p hp => ?_⟩
      rcases List.mem_cons.mp hp with rfl | hp
      · exact .tup hs ll
      · exact hk p hp
section
variable {X : Cx} {G : Gh} {a : Expr} {pos p p1 p2 : Pos}
theorem atG_of {H : Hp} {q : Ent (List Int)} (h : Rp X.K H (tIs q.2) (.ref q.1)) : AtG X (TK X.prog X.w) H q := fun pins s σ I => I.isT (Rp.ints_sq (ns := q.2) h)
/-- items of a list or a tuple -/
def rowsOfD : D → Option (List D)
  | .list xs => some xs
  | .tuple xs => some xs
  | _ => none
theorem rows_at {K : PySem.W.Frag} {H : Hp} {x : D} {v : V} {xs : List D} (h : RpR K H x v) (e : rowsOfD x = some xs) : ∃ l vs, v = .ref l ∧ (SqL K H l vs ∨ SqT K H l vs) ∧ RpL K H xs vs := by
  cases x with
  | list ys =>
    cases e
    obtain ⟨l, vs, rfl, hs, hl⟩ := h.list
    exact ⟨l, vs, rfl, .inl hs, hl⟩
  | tuple ys =>
    cases e
    obtain ⟨l, vs, rfl, hs, hl⟩ := h.tuple
    exact ⟨l, vs, rfl, .inr hs, hl⟩
  | _ => cases e
theorem mem_of_got {ks M : List (Ent (List Int))} {rs : List (List Int)} (e : ks.map (·.2) = rs) (m1 : ∀ p ∈ M, p ∈ ks) (m2 : ∀ p ∈ ks, p.2 ∈ M.map (·.2)) : ∀ c, c ∈ M.map (·.2) ↔ c ∈ rs := fun c => by
  constructor
  · intro z
    obtain ⟨q, hq, rfl⟩ := List.mem_map.mp z
    rw [← e]; exact List.mem_map.mpr ⟨q, m1 q hq, rfl⟩
  · intro z
    rw [← e] at z
    obtain ⟨q, hq, rfl⟩ := List.mem_map.mp z
    exact m2 q hq
theorem few_of {ks : List (Ent (List Int))} {rs : List (List Int)} (e : ks.map (·.2) = rs) (f : few75 rs) : FewG ks := fun M nd hm => by
  have := f (M.map (·.2)) nd fun z hz => by
    obtain ⟨q, hq, rfl⟩ := List.mem_map.mp hz
    rw [← e]; exact List.mem_map.mpr ⟨q, hm q hq, rfl⟩
  rwa [List.length_map] at this
def tSortSetR (ta : TD) : TLd := fun E Q => ta E fun x E1 => optQ (rowsOfD x) fun xs => ∃ rs : List (List Int), xs = rs.map tIs ∧ few75 rs ∧ (∀ zs : List (List Int), (∀ z ∈ zs, z ∈ rs) → sortOk (zs.map tIs)) ∧ ∀ zs : List (List Int), zs.Nodup → (∀ c, c ∈ zs ↔ c ∈ rs) → Q (sortD false (zs.map tIs)) E1
theorem el_sortSetR {ta : TD} (ha : ER X G a ta) (hu : X.A.units + 65 < cLine) (hg : Gl X "sorted") (hm : X.mg "sorted" = none) (hg2 : Gl X "set") (hm2 : X.mg "set" = none) (hc : X.calm = true := by rfl)
    (hs : starEach [a] X.env = (false, eval a X.env) :: starEach [] X.env := by rfl) : EL X G (.Call (.Name "sorted" p) [.Call (.Name "set" p1) [a] [] p2] [] pos) (tSortSetR ta) := by
  refine ⟨PE.weak (pe_callB (cr_sortedG (kd := TK X.prog X.w) hc hu tIs) hg hm bb_sorted (pa_cons (pe_callTy (cr_setG hc (sk_ints X.prog X.w) (by show X.A.in1.in1.in1.units < cLine; simp; omega)) hg2 hm2 PyProof.Rows.boot_set (pa_cons ha.pe pa_nil hs) (by decide) (by decide) hs) pa_nil)) fun σ H Q ⟨E, QE, rel, q, k⟩ => ⟨E, _, rel, q, fun x E1 v H1 q1 x1 r1 p1 => ?_⟩⟩
  cases hx : rowsOfD x with
  | none => rw [hx] at q1; exact q1.elim
  | some xs =>
    rw [hx] at q1
    obtain ⟨rs, rfl, f, ok, q1⟩ := q1
    obtain ⟨l, vs, rfl, sq, rl⟩ := rows_at p1 hx
    obtain ⟨ks, rfl, e, hk⟩ := rows_ks rl
    refine ⟨l, ks, rfl, sq, fun q hq => atG_of (hk q hq), few_of e f, fun b M hn m1 m2 nd => ?_⟩
    have mg := mem_of_got e m1 m2
    have mx : ∀ {M1 : List (Ent (List Int))}, M1.map (fun q => tIs q.2) = (M1.map (·.2)).map tIs := fun {M1} => by rw [List.map_map]; rfl
    refine ⟨b, M, rfl, upd_same, fun q hq => atG_of ((hk q (m1 q hq)).ext (PExt.new hn).ext), fun q hq => (hk q (m1 q hq)).ext (PExt.new hn).ext, fun M1 pm => ?_, fun M1 ws p' pm hp' rp => ?_⟩
    · rw [mx]
      exact ok _ fun z hz => (mg z).mp ((pm.map (·.2)).mem_iff.mp hz)
    · rw [mx] at rp
      have zz := q1 (M1.map (·.2)) ((pm.map (·.2)).nodup_iff.mpr nd) fun c => by rw [← mg c]; exact (pm.map (·.2)).mem_iff
      have x2 : PExt H1 (upd H1 b (SetGO (TK X.prog X.w) b M)) := PExt.new hn
      obtain ⟨r3, h30, n3⟩ := (r1.pext x2).fresh (o := .lst ws) hp'
      exact k _ _ _ _ _ zz (x1.trans (x2.trans (PExt.new hp')).ext) r3 h30 n3 upd_same (rp.ext (PExt.new hp').ext)
end
end DL
set_option Elab.async false
set_option linter.all false
set_option maxRecDepth 100000
set_option maxHeartbeats 3200000
/-! DL55: len(set(xs)) of nested tuples of ints, truths and None, up to 75. -/
namespace DL
open PySem PySem.Spec PyProof.Rows L2
end DL
set_option Elab.async false
set_option linter.all false
set_option maxRecDepth 100000
set_option maxHeartbeats 3200000
/-! DL56: xs[a:c] = ys, ys any list. -/
namespace DL
open PySem PySem.Spec PyProof.Rows L2
end DL
set_option Elab.async false
set_option linter.all false
set_option maxRecDepth 100000
set_option maxHeartbeats 1600000
/-! DL57: lists that other things hold: by their handle. -/
namespace DL
open PySem PySem.Spec PyProof.Rows L2
end DL
set_option Elab.async false
set_option linter.all false
set_option maxRecDepth 100000
set_option maxHeartbeats 3200000
/-! DL58: == and != of own objects by their __eq__, isinstance of an own class. -/
namespace DL
open PySem PySem.Spec PyProof.Rows L2
/-- data whose type is told, no object -/
def plainTy : D → Option Value
  | .none => some (.type "NoneType")
  | .bool _ => some (.type "bool")
  | .int _ => some (.type "int")
  | .str _ => some (.type "str")
  | .tuple _ => some (.type "tuple")
  | _ => none
theorem TyX.of {K : PySem.W.Frag} {H : Hp} {d : D} {v : V} {t : Value} (h : plainTy d = some t) (r : Rp K H d v) : TyX K H v t := by
  cases d with
  | none => cases h; cases r; exact .base .non
  | bool b => cases h; cases r; exact .base (.bl b)
  | int b => cases h; cases r; exact .base (.int b)
  | str b => cases h; cases r; exact .base (.str b)
  | tuple xs =>
    cases h
    cases r with
    | tup hs l =>
      rcases hs.1 with (e | ⟨o, e⟩) | ⟨o, its, n, e, c, _⟩
      · exact .base (.tup e)
      · exact .fTuple e
      · exact .kTuple e c
  | list _ => cases h
  | dict _ => cases h
end DL
set_option Elab.async false
set_option linter.all false
set_option maxRecDepth 100000
set_option maxHeartbeats 4000000
/-! FnBase: _law_draw, _law_pick, _law_same -/
namespace DL
open PySem PySem.Spec PyProof.Rows L2
local macro_rules | `(tactic| walk_at "dl") => `(tactic| simp only [tV, tVr, tFzV, turnD, DL.wipeE, tK, tOpD, tUnD, tBo, tAndD, tOrD, tNotD, tIfE, DL.tAndV, DL.tOrV, DL.tNotV, tTru, truD, okLen, sSet, sSetL, sExpr, sRet, sIf, sNx, tTupD, dNil, dCons, tLstD, tFzD, tApp, tExtd, tPopAt, sSetIx, tIxO, tChainD, tChain3D, tRevT, caStr, opRepT, opAdd, opSub, opMul, opDiv, opMod, opPow, DL.opI, DL.opI0, opB0, opLt, opLe, opGt, opGtD, opLtD, opGe, opEq, opNe, opIs, opIsN, isNone, opIn, opNotIn, opIx, atD_0, atD_1, atD_2, atD_3, putD_0, unNeg, tCa1, tCa2, tCaL1, caLen, caAbs, caMax2, caMin2, caSum, caMax, caMin, caSumT, caMaxT, caMinT, caAll, caTuple, caList, caInt, tIsi, isInt, isBool, isStr, isTuple, isList, notDict, sAsg, gSet, gTupD, gsNil, gsCons, sPar, pNil, pD, pL, setAll, tCallD, aNil, aV, aO, argS, oixs, ndp, putO, tOpL, opCat, opRep, tSlD, slD, tSlL, oNo, oE, tRevD, iLstD, iTupD, iRange1, iRange2, iZipD, iZipM, finO, tTrue, Option.map, eqv_int, eqv_bool, eqv_none, shaped_int, shaped_bool, shaped_none, tLenRange, tSortSet, tLenSet, tLenSetP, tSortSetP, tCountL, tCountT, tIndexL, tIndexT, DL.tOrT, DL.tAndT, DL.tNotT, tSortRev, caSorted, iEnumL, iEnumT, decide_eq_true_eq, and_self, List.cons_append, List.nil_append, List.replicate, List.getElem?_cons_zero, List.getElem?_cons_succ, List.set_cons_zero, List.set_cons_succ, List.length_cons, List.length_nil, true_and, and_true, if_true, if_false, Bool.false_eq_true, List.contains_nil, Bool.not_false, Bool.not_true, Bool.and_self, Bool.and_true, Bool.true_and, decide_true, decide_false, beq_self_eq_true])
def tb_law_draw : TSd :=
  sSeq (sIf (tNotD (tTru (tVr 1))) (sExpr (tApp 1 (tCa1 caMax (tFzD (tOpL opCat (tFzD (tComp (iLstD (tV 0)) (gSet 4) (tTrue) (tCa1 caAbs (tV 4)) [4])) (tFzD (tLstD (dCons (tK (.int 0)) (dNil))))))))) (sNx))
      (sSeq (sExpr (tApp 1 (tK (.int 0))))
      (sSeq (sSet 3 (tCa1 caLen (tVr 1)))
      (sSeq (sSet 4 (tIfE (tTru (tV 0)) (tOpD opIx (tV 0) (tOpD opMod (tV 3) (tCa1 caLen (tV 0)))) (tK (.int 0))))
      (sSeq (sSet 5 (tOpD opMod (tIxO 1 (tK (.int 0))) (tK (.int 65536))))
      (sSeq (sSetIx 1 (tK (.int 0)) (tOpD opDiv (tIxO 1 (tK (.int 0))) (tK (.int 65536))))
      (sSeq (sSet 6 (tOpD opMod (tOpD opAdd (tOpD opAdd (tV 4) (tOpD opMul (tK (.int 40503)) (tV 5))) (tOpD opMul (tK (.int 104729)) (tV 3))) (tK (.int 4294967291))))
      (sSeq (sSet 6 (tOpD opMod (tOpD opMul (tOpD opMod (tOpD opMul (tV 6) (tV 6)) (tK (.int 4294967279))) (tK (.int 48271))) (tK (.int 4294967291))))
      (sSeq (sSet 7 (tOpD opMod (tOpD opMul (tOpD opMod (tOpD opMul (tV 6) (tV 6)) (tK (.int 4294967279))) (tK (.int 69621))) (tK (.int 4294967291))))
      (sRet (tOpD opMod (tOpD opAdd (tOpD opMul (tOpD opDiv (tV 6) (tK (.int 64))) (tK (.int 67108864))) (tOpD opDiv (tV 7) (tK (.int 64)))) (tV 2)))))))))))
def tb_law_same (sp_law_same : SpD) : TSd :=
  sSeq (sIf (tBo (tOpD opIs (tV 1) (tK .none))) (sRet (tOpD opIs (tV 0) (tK .none))) (sNx))
      (sSeq (sIf (tTru (tIsi isBool (tV 1))) (sRet (tAndV (tIsi isBool (tV 0)) (tOpD opEq (tV 0) (tV 1)))) (sNx))
      (sSeq (sIf (tTru (tIsi isTuple (tV 1))) (sSeq (sIf (tOrD (tNotD (tTru (tIsi isTuple (tV 0)))) (tBo (tOpD opNe (tCa1 caLen (tV 0)) (tCa1 caLen (tV 1))))) (sRet (tK (.bool false))) (sNx))
      (sRet (tCa1 caAll (tFzD (tComp (iZipD (tV 0) (tV 1)) (gTupD 2 (gsCons (gSet 2) (gsCons (gSet 3) (gsNil)))) (tTrue) (tCallD sp_law_same (aV (tV 2) (aV (tV 3) (aNil)))) [2, 3]))))) (sNx))
      (sSeq (sIf (tTru (tIsi isStr (tV 1))) (sRet (tAndV (tIsi isStr (tV 0)) (tOpD opEq (tV 0) (tV 1)))) (sNx))
      (sRet (tAndV (tIsi isInt (tV 0)) (tAndV (tNotV (tIsi isBool (tV 0))) (tOpD opEq (tV 0) (tV 1))))))))
def TownOk (t : List D) (b : Nat) : Prop := t.length ≤ b ∧ (t = [] ∨ ∃ (h : Int) (r : List D), t = .int h :: r)
theorem TownOk.mono {t : List D} {b b' : Nat} (h : TownOk t b) (hb : b ≤ b') : TownOk t b' := ⟨Nat.le_trans h.1 hb, h.2⟩
def spDraw : SpD := fun ss Q => ∃ (ns : List Int) (t : List D) (m : Int) (b : Nat), ss = [.d (.list (ns.map PyData.int)), .ol t, .d (.int m)] ∧ 0 < m ∧ ns.length ≤ 63 ∧ TownOk t b ∧ b ≤ 10000000 ∧
  ∀ r t', 0 ≤ r → r < m → TownOk t' (b + 2) → Q (.int r) [.ol t']
theorem small_line {n : Nat} (h : n ≤ 10000010) : n ≤ sizeLine := by rw [sizeLine_eq]; omega
theorem cmul_small {i j : Int} (h1 : i.natAbs < 2 ^ 64) (h2 : j.natAbs < 2 ^ 64) : CMulW i j := wide_mul (a := 64) (b := 64) h1 h2 (by decide) (by decide) (by decide)
theorem cdiv_small {i j : Int} (h0 : 0 < j) (h1 : j < 2 ^ 64) : CDivW i j := wide_div (b := 64) h0 (by omega) (by decide) (by decide)
theorem rd_law_draw : ∀ ss QD, spDraw ss QD → tb_law_draw { nx := fun E' => finO [1] E' (QD .none), rt := fun d E' => finO [1] E' (QD d) } (ss ++ List.replicate 5 .un) := by
  rintro ss QD ⟨ns, t, m, b, rfl, hm, hn, ht, hb, k⟩
  unfold tb_law_draw
  refine seq_step fun R hR => ?_
  have main : ∀ (h : Int) (r : List D), (h' : (PyData.int h :: r).length ≤ b + 1) → R [.d (.list (ns.map PyData.int)), .ol (.int h :: r), .d (.int m), .un, .un, .un, .un, .un] := by
    intro h r h'
    refine hR _ ?_
    rw [List.length_cons] at h'
    refine seq_step fun R hR => ?_
    walk_at "dl"
    refine ⟨Nat.lt_of_lt_of_le (show r.length + 1 < 10000002 by omega) (small_line (by omega)), hR _ ?_⟩
    refine seq_step fun R hR => ?_
    walk_at "dl"
    refine hR _ ?_
    generalize hk : (((r ++ [PyData.int 0]).length + 1 : Nat) : Int) = kk
    have hkk : 0 ≤ kk ∧ kk ≤ 10000003 := by rw [List.length_append, List.length_cons, List.length_nil] at hk; omega
    refine seq_step fun R hR => ?_
    have c4 : ∀ c : Int, R [.d (.list (ns.map PyData.int)), .ol (.int h :: (r ++ [.int 0])), .d (.int m), .d (.int kk), .d (.int c), .un, .un, .un] := by
      intro c
      refine hR _ ?_
      refine seq_step fun R hR => ?_
      walk_at "dl"
      refine ⟨by decide, hR _ ?_⟩
      have hd0 : 0 ≤ h % 65536 := Int.emod_nonneg _ (by decide)
      have hd1 : h % 65536 < 65536 := Int.emod_lt_of_pos _ (by decide)
      generalize h % 65536 = dg at hd0 hd1 ⊢
      refine seq_step fun R hR => ?_
      walk_at "dl"
      refine ⟨cdiv_small (by decide) (by decide), hR _ ?_⟩
      generalize h / 65536 = h2
      refine seq_step fun R hR => ?_
      walk_at "dl"
      refine ⟨cmul_small (by omega) (by omega), cmul_small (by omega) (by omega), by decide, hR _ ?_⟩
      generalize hn1 : (c + 40503 * dg + 104729 * kk) % 4294967291 = n1
      have h10 : 0 ≤ n1 := by rw [← hn1]; exact Int.emod_nonneg _ (by decide)
      have h11 : n1 < 4294967291 := by rw [← hn1]; exact Int.emod_lt_of_pos _ (by decide)
      refine seq_step fun R hR => ?_
      walk_at "dl"
      have g0 : 0 ≤ n1 * n1 % 4294967279 := Int.emod_nonneg _ (by decide)
      have g1 : n1 * n1 % 4294967279 < 4294967279 := Int.emod_lt_of_pos _ (by decide)
      generalize n1 * n1 % 4294967279 = n2 at g0 g1 ⊢
      refine ⟨cmul_small (by omega) (by omega), by decide, cmul_small (by omega) (by omega), by decide, hR _ ?_⟩
      generalize hn3 : n2 * 48271 % 4294967291 = n3
      have h30 : 0 ≤ n3 := by rw [← hn3]; exact Int.emod_nonneg _ (by decide)
      have h31 : n3 < 4294967291 := by rw [← hn3]; exact Int.emod_lt_of_pos _ (by decide)
      refine seq_step fun R hR => ?_
      walk_at "dl"
      have g0 : 0 ≤ n3 * n3 % 4294967279 := Int.emod_nonneg _ (by decide)
      have g1 : n3 * n3 % 4294967279 < 4294967279 := Int.emod_lt_of_pos _ (by decide)
      generalize n3 * n3 % 4294967279 = n4 at g0 g1 ⊢
      refine ⟨cmul_small (by omega) (by omega), by decide, cmul_small (by omega) (by omega), by decide, hR _ ?_⟩
      generalize n4 * 69621 % 4294967291 = n5
      walk_at "dl"
      refine ⟨cdiv_small (by decide) (by decide), cmul_small (by omega) (by omega), cdiv_small (by decide) (by decide), hm, ?_⟩
      refine k _ _ (Int.emod_nonneg _ (by omega)) (Int.emod_lt_of_pos _ hm) ⟨?_, .inr ⟨_, _, rfl⟩⟩
      rw [List.length_cons, List.length_append, List.length_cons, List.length_nil]; omega
    walk_at "dl"
    refine ifB (fun e => ?_) (fun e => c4 0)
    have hp : 0 < ns.length := by
      cases ns with
      | nil => simp at e
      | cons a l => simp
    rw [List.length_map]
    refine ⟨by omega, ?_⟩
    have i0 : 0 ≤ kk % (ns.length : Int) := Int.emod_nonneg _ (by omega)
    have i1 : kk % (ns.length : Int) < ns.length := Int.emod_lt_of_pos _ (by omega)
    exact atD_at i0 (getElem_map_int (by omega)) (c4 _)
  walk_at "dl"
  refine ifB (fun e => ?_) (fun e => ?_)
  · have e0 : t = [] := by
      cases t with
      | nil => rfl
      | cons a l => simp at e
    subst e0
    refine comp_map (E1 := [.d (.list (ns.map PyData.int)), .ol [], .d (.int m), .un, .un, .un, .un, .un]) ns PyData.int (fun i => .int (if i < 0 then -i else i)) (fun R h => h) (un1 rfl) (small_line (by omega)) (fun i _ R hq => hq _ rfl) ?_
    · refine ⟨small_line (by omega), ?_, (ns.map fun i => if i < 0 then -i else i) ++ [0], ?_, ?_, fun mm _ _ => ?_⟩
      · rw [List.length_map]; exact small_line (by omega)
      · rw [List.map_append, List.map_map]; rfl
      · simp
      · refine ⟨small_line (by decide), ?_⟩
        exact main mm [] (by rw [List.length_cons, List.length_nil]; omega)
  · rcases ht.2 with e0 | ⟨h, r, e0⟩
    · subst e0; simp at e
    · subst e0
      exact main h r (by have := ht.1; omega)
theorem sh_law_draw : ∀ ss QD, spDraw ss QD → ss.length = 3 ∧ mpos 0 ss = [1] := by
  rintro ss QD ⟨ns, t, m, b, rfl, _⟩
  exact ⟨rfl, rfl⟩
/-- data without lists, n tuples deep at most -/
def sameOk : Nat → D → Bool
  | _, .none => true
  | _, .bool _ => true
  | _, .int _ => true
  | _, .str x => PyData.strOk x
  | n + 1, .tuple ds => ds.all (sameOk n) && decide (ds.length ≤ 10000000)
  | _, _ => false
def spSame (n : Nat) : SpD := fun ss Q => ∃ d, ss = [.d d, .d d] ∧ sameOk n d = true ∧ Q (.bool true) []
theorem sh_law_same (n : Nat) : ∀ ss QD, spSame n ss QD → ss.length = 2 ∧ mpos 0 ss = [] := by
  rintro ss QD ⟨d, rfl, _⟩
  exact ⟨rfl, rfl⟩
def spNo : SpD := fun _ _ => False
theorem eqv_scal {d : D} (h : (match d with | .tuple _ => False | .list _ => False | .dict _ => False | _ => True)) : PyData.eqv d d = true := by
  cases d <;> first | exact h.elim | simp [PyData.eqv]
theorem zip_self {α : Type} : ∀ l : List α, l.zip l = l.map fun x => (x, x)
  | [] => rfl
  | a :: l => by rw [List.zip_cons_cons, zip_self l]; rfl
theorem rd_law_same (n : Nat) (sp : SpD) (hsp : ∀ m, n = m + 1 → sp = spSame m) : ∀ ss QD, spSame n ss QD → tb_law_same sp { nx := fun E' => finO [] E' (QD .none), rt := fun d E' => finO [] E' (QD d) } (ss ++ List.replicate 2 .un) := by
  rintro ss QD ⟨d, rfl, hd, q⟩
  unfold tb_law_same
  cases d with
  | none => exact q
  | bool b =>
    refine seq_step fun R hR => ?_
    walk_at "dl"
    refine hR _ ?_
    refine seq_step fun R hR => ?_
    walk_at "dl"
    exact q
  | int i =>
    refine seq_step fun R hR => ?_
    walk_at "dl"
    refine hR _ ?_
    refine seq_step fun R hR => ?_
    walk_at "dl"
    refine hR _ ?_
    refine seq_step fun R hR => ?_
    walk_at "dl"
    refine hR _ ?_
    refine seq_step fun R hR => ?_
    walk_at "dl"
    refine hR _ ?_
    walk_at "dl"
    exact q
  | str x =>
    refine seq_step fun R hR => ?_
    walk_at "dl"
    refine hR _ ?_
    refine seq_step fun R hR => ?_
    walk_at "dl"
    refine hR _ ?_
    refine seq_step fun R hR => ?_
    walk_at "dl"
    refine hR _ ?_
    refine seq_step fun R hR => ?_
    have hs : SeqAt.shaped (.str x) = true := by
      have : PyData.strOk x = true := by cases n <;> exact hd
      show (PyData.strOk x && decide ((0 : Nat) ≤ 64)) = true
      rw [this]; rfl
    walk_at "dl"
    refine ⟨hs, ?_⟩
    rw [eqv_scal trivial]; exact q
  | list _ => cases n <;> cases hd
  | dict _ => cases n <;> cases hd
  | tuple ds =>
    cases n with
    | zero => cases hd
    | succ m =>
      have hsp := hsp m rfl
      subst hsp
      have hd : (ds.all (sameOk m) && decide (ds.length ≤ 10000000)) = true := hd
      rw [Bool.and_eq_true] at hd
      have hl : ds.length ≤ 10000000 := of_decide_eq_true hd.2
      have ha := List.all_eq_true.mp hd.1
      refine seq_step fun R hR => ?_
      walk_at "dl"
      refine hR _ ?_
      refine seq_step fun R hR => ?_
      walk_at "dl"
      refine hR _ ?_
      refine seq_step fun R hR => ?_
      refine ⟨trivial, trivial, ifT (b := isTuple (.tuple ds)) rfl ?_⟩
      refine seq_step fun R2 hR2 => ?_
      walk_at "dl"
      refine hR2 _ ?_
      show tComp _ _ _ _ _ _ _
      refine comp_map (E1 := [.d (.tuple ds), .d (.tuple ds), .un, .un]) ds (fun x => PyData.tuple [x, x]) (fun _ => PyData.bool true) (fun R h => ?_) (un2 rfl rfl) (small_line (by omega)) (fun x hx R hq => ?_) ?_
      · show R (zipD ds ds) _
        unfold zipD
        rw [zip_self, List.map_map]
        exact h
      · exact ⟨rfl, rfl, x, rfl, ha x hx, hq _ rfl⟩
      · refine ⟨ds.map fun _ => true, by rw [List.map_map]; rfl, ?_⟩
        have : (ds.map fun _ => true).all id = true := by simp
        rw [this]; exact q
end DL
set_option Elab.async false
set_option linter.all false
set_option maxRecDepth 100000
set_option maxHeartbeats 4000000
namespace DL
open PySem PySem.Spec PyProof.Rows L2
local macro_rules | `(tactic| walk_at "dl") => `(tactic| simp only [tV, tVr, tFzV, turnD, DL.wipeE, tK, tOpD, tUnD, tBo, tAndD, tOrD, tNotD, tIfE, DL.tAndV, DL.tOrV, DL.tNotV, tTru, truD, okLen, sSet, sSetL, sExpr, sRet, sIf, sNx, tTupD, dNil, dCons, tLstD, tFzD, tApp, tExtd, tPopAt, sSetIx, tIxO, tChainD, tChain3D, tRevT, caStr, opRepT, opAdd, opSub, opMul, opDiv, opMod, opPow, DL.opI, DL.opI0, opB0, opLt, opLe, opGt, opGtD, opLtD, opGe, opEq, opNe, opIs, opIsN, isNone, opIn, opNotIn, opIx, atD_0, atD_1, atD_2, atD_3, putD_0, unNeg, tCa1, tCa2, tCaL1, caLen, caAbs, caMax2, caMin2, caSum, caMax, caMin, caSumT, caMaxT, caMinT, caAll, caTuple, caList, caInt, tIsi, isInt, isBool, isStr, isTuple, isList, notDict, sAsg, gSet, gTupD, gsNil, gsCons, sPar, pNil, pD, pL, setAll, tCallD, aNil, aV, aO, argS, oixs, ndp, putO, tOpL, opCat, opRep, tSlD, slD, tSlL, oNo, oE, tRevD, iLstD, iTupD, iRange1, iRange2, iZipD, iZipM, finO, tTrue, Option.map, eqv_int, eqv_bool, eqv_none, shaped_int, shaped_bool, shaped_none, tLenRange, tSortSet, tLenSet, tCountL, tCountT, tIndexL, tIndexT, DL.tOrT, DL.tAndT, DL.tNotT, tSortRev, caSorted, iEnumL, iEnumT, decide_eq_true_eq, and_self, List.cons_append, List.nil_append, List.replicate, List.getElem?_cons_zero, List.getElem?_cons_succ, List.set_cons_zero, List.set_cons_succ, List.length_cons, List.length_nil, true_and, and_true, if_true, if_false, Bool.false_eq_true, List.contains_nil, Bool.not_false, Bool.not_true, Bool.and_self, Bool.and_true, Bool.true_and, decide_true, decide_false, beq_self_eq_true])
/-! ### _law_bent -/
end DL
set_option Elab.async false
set_option linter.all false
set_option maxRecDepth 100000
set_option maxHeartbeats 4000000
namespace DL
open PySem PySem.Spec PyProof.Rows L2
local macro_rules | `(tactic| walk_at "dl") => `(tactic| simp only [tV, tVr, tFzV, turnD, DL.wipeE, tK, tOpD, tUnD, tBo, tAndD, tOrD, tNotD, tIfE, DL.tAndV, DL.tOrV, DL.tNotV, tTru, truD, okLen, sSet, sSetL, sExpr, sRet, sIf, sNx, tTupD, dNil, dCons, tLstD, tFzD, tApp, tExtd, tPopAt, sSetIx, tIxO, tChainD, tChain3D, tRevT, caStr, opRepT, opAdd, opSub, opMul, opDiv, opMod, opPow, DL.opI, DL.opI0, opB0, opLt, opLe, opGt, opGtD, opLtD, opGe, opEq, opNe, opIs, opIsN, isNone, opIn, opNotIn, opIx, atD_0, atD_1, atD_2, atD_3, putD_0, unNeg, tCa1, tCa2, tCaL1, caLen, caAbs, caMax2, caMin2, caSum, caMax, caMin, caSumT, caMaxT, caMinT, caAll, caTuple, caList, caInt, tIsi, isInt, isBool, isStr, isTuple, isList, notDict, sAsg, gSet, gTupD, gsNil, gsCons, sPar, pNil, pD, pL, setAll, tCallD, aNil, aV, aO, argS, oixs, ndp, putO, tOpL, opCat, opRep, tSlD, slD, tSlL, oNo, oE, tRevD, iLstD, iTupD, iRange1, iRange2, iZipD, iZipM, finO, tTrue, Option.map, eqv_int, eqv_bool, eqv_none, shaped_int, shaped_bool, shaped_none, tLenRange, tSortSet, tLenSet, tLenSetP, tSortSetP, tCountL, tCountT, tIndexL, tIndexT, DL.tOrT, DL.tAndT, DL.tNotT, tSortRev, caSorted, iEnumL, iEnumT, decide_eq_true_eq, and_self, List.cons_append, List.nil_append, List.replicate, List.getElem?_cons_zero, List.getElem?_cons_succ, List.set_cons_zero, List.set_cons_succ, List.length_cons, List.length_nil, true_and, and_true, if_true, if_false, Bool.false_eq_true, List.contains_nil, Bool.not_false, Bool.not_true, Bool.and_self, Bool.and_true, Bool.true_and, decide_true, decide_false, beq_self_eq_true])
/-! cards: a card is a pair of ints -/
abbrev Card := Int × Int
def cE (b : Card) : D := .tuple [.int b.1, .int b.2]
theorem sh_cE (n : Nat) (b : Card) : shOk (n + 1) (cE b) = true := by cases n <;> rfl
def handD (h : List Card) : D := .tuple (h.map cE)
/-! ### _law_mixed -/
/-! ### _law_all_cards -/
/-! ### sorted hands -/
def le2 (p q : Card) : Bool := decide (p.1 < q.1 ∨ (p.1 = q.1 ∧ p.2 ≤ q.2))
def sortC (h : List Card) : List Card := h.mergeSort le2
theorem le2_total : PySem.W.TotalLe le2 := by
  constructor
  · intro a b c h1 h2
    have h1 := of_decide_eq_true h1
    have h2 := of_decide_eq_true h2
    exact decide_eq_true (by omega)
  · intro a b
    unfold le2
    by_cases h : a.1 < b.1 ∨ (a.1 = b.1 ∧ a.2 ≤ b.2)
    · exact .inl (decide_eq_true h)
    · exact .inr (decide_eq_true (by omega))
theorem sortC_perm (h : List Card) : (sortC h).Perm h := List.mergeSort_perm _ _
theorem sortC_up (h : List Card) : (sortC h).Pairwise fun a b => le2 a b = true := PySem.W.sort_pairwise le2_total h
theorem sort_cards (h : List Card) : sortD false (h.map cE) = (sortC h).map cE := by
  unfold sortD sortC
  refine (PySem.W.sort_maps (r := le2) (s := PySem.W.dataLe false fun d : D => d) cE fun a _ b _ => ?_).symm
  have := congrFun (congrFun (PySem.W.dataLe_ii (β := Card) (fun b => b.1) (fun b => b.2)) a) b
  exact this.symm
theorem sortOk_cards (h : List Card) : sortOk (h.map cE) := by
  refine ⟨fun d hd e he => ?_, .inl fun d hd => ?_, fun d hd => ?_⟩
  · obtain ⟨a, _, rfl⟩ := List.mem_map.mp hd
    obtain ⟨b, _, rfl⟩ := List.mem_map.mp he
    rfl
  · obtain ⟨a, _, rfl⟩ := List.mem_map.mp hd
    exact ⟨_, _, rfl⟩
  · obtain ⟨a, _, rfl⟩ := List.mem_map.mp hd
    simp [cE, PyData.depth, PyData.depthAll, PyData.canLay0, PyData.canLayAll0]
/-! ### _law_drawn_deal -/
end DL
set_option Elab.async false
set_option linter.all false
set_option maxRecDepth 100000
set_option maxHeartbeats 4000000
namespace DL
open PySem PySem.Spec PyProof.Rows L2
local macro_rules | `(tactic| walk_at "dl") => `(tactic| simp only [tV, tVr, tFzV, turnD, DL.wipeE, tK, tOpD, tUnD, tBo, tAndD, tOrD, tNotD, tIfE, DL.tAndV, DL.tOrV, DL.tNotV, tTru, truD, okLen, sSet, sSetL, sExpr, sRet, sIf, sNx, tTupD, dNil, dCons, tLstD, tFzD, tApp, tExtd, tPopAt, sSetIx, tIxO, tChainD, tChain3D, tRevT, caStr, opRepT, opAdd, opSub, opMul, opDiv, opMod, opPow, DL.opI, DL.opI0, opB0, opLt, opLe, opGt, opGtD, opLtD, opGe, opEq, opNe, opIs, opIsN, isNone, opIn, opNotIn, opIx, atD_0, atD_1, atD_2, atD_3, putD_0, unNeg, tCa1, tCa2, tCaL1, caLen, caAbs, caMax2, caMin2, caSum, caMax, caMin, caSumT, caMaxT, caMinT, caAll, caTuple, caList, caInt, tIsi, isInt, isBool, isStr, isTuple, isList, notDict, sAsg, gSet, gTupD, gsNil, gsCons, sPar, pNil, pD, pL, setAll, tCallD, aNil, aV, aO, argS, oixs, ndp, putO, tOpL, opCat, opRep, tSlD, slD, tSlL, oNo, oE, tRevD, iLstD, iTupD, iRange1, iRange2, iZipD, iZipM, finO, tTrue, Option.map, eqv_int, eqv_bool, eqv_none, shaped_int, shaped_bool, shaped_none, tLenRange, tSortSet, tLenSet, tLenSetP, tSortSetP, tCountL, tCountT, tIndexL, tIndexT, DL.tOrT, DL.tAndT, DL.tNotT, tSortRev, caSorted, iEnumL, iEnumT, tDGetV, tDGetD, tDGet2V, dictAt, sDPutV, sSetM, mDt, mDk, pM, tInN, tNotInN, keyB_2, keyB_3, keyB_4, decide_eq_true_eq, and_self, List.cons_append, List.nil_append, List.replicate, List.getElem?_cons_zero, List.getElem?_cons_succ, List.set_cons_zero, List.set_cons_succ, List.length_cons, List.length_nil, true_and, and_true, if_true, if_false, Bool.false_eq_true, List.contains_nil, Bool.not_false, Bool.not_true, Bool.and_self, Bool.and_true, Bool.true_and, decide_true, decide_false, beq_self_eq_true])
/-! ### plain: hands and deals -/
instance (a b : Card) : Decidable (ltC a b) := by unfold ltC; infer_instance
theorem le2_antisymm {a b : Card} (h1 : le2 a b = true) (h2 : le2 b a = true) : a = b := by
  unfold le2 at h1 h2
  have h1 := of_decide_eq_true h1
  have h2 := of_decide_eq_true h2
  exact Prod.ext (by omega) (by omega)
/-! ### is_whole, is_card -/
end DL
set_option Elab.async false
set_option linter.all false
set_option maxRecDepth 100000
set_option maxHeartbeats 4000000
/-! FnRndT: rounds, plain Lean. -/
namespace DL
open PySem PySem.Spec PyProof.Rows L2
abbrev T3 := Int × Int × Int
def e3T (t : T3) : D := .tuple [.int t.1, .int t.2.1, .int t.2.2]
def rowT (l : List T3) : D := .tuple (l.map e3T)
def planD (p : List (List T3)) : D := .tuple (p.map rowT)
/-! ### turning -/
def evenT (n : Nat) : Bool := decide (n % 2 = 0)
def goneT (n k : Nat) : Nat := k + (if evenT n = true ∧ 2 * k ≥ n then 1 else 0)
def turnR (n k : Nat) : List T3 := (List.range n).map fun t : Nat => ((t : Int), (n : Int) + ((t : Int) - (goneT n k : Int)) % (n : Int), ((t : Int) + (k : Int)) % (n : Int))
def turnP (n m : Nat) : List (List T3) := (List.range m).map (turnR n)
def turnOk (n : Nat) (m : Int) : Bool := decide (1 ≤ m ∧ m ≤ (n : Int) - (if evenT n = true then 1 else 0))
/-! ### by hand -/
def rotR {α : Type} (l : List α) : List α := l.drop (l.length - 1) ++ l.take (l.length - 1)
def rotL {α : Type} (l : List α) : List α := l.drop 1 ++ l.take 1
def othersT (n : Nat) : Nat → List Int
  | 0 => (List.range n).map fun a : Nat => (n : Int) + (a : Int)
  | k + 1 => let o := rotR (othersT n k); if evenT n = true ∧ 2 * (k + 1) = n then rotR o else o
def setsR (n : Nat) : Nat → List Int
  | 0 => (List.range n).map fun a : Nat => (a : Int)
  | k + 1 => rotL (setsR n k)
def handR (n k : Nat) : List T3 := (List.range n).map fun a : Nat => ((a : Int), (othersT n k).getD a 0, (setsR n k).getD a 0)
/-! ### faults -/
structure FSt where
  met : List (Int × Int)
  had : List (Int × Int)
def rowBad (st : FSt) (seat : List Int) (t : T3) : Option Str :=
  if t.1 ∈ seat ∨ t.2.1 ∈ seat ∨ t.1 = t.2.1 then some "twice"
  else if (t.1, t.2.1) ∈ st.met ∨ (t.2.1, t.1) ∈ st.met then some "met"
  else if (t.1, t.2.2) ∈ st.had ∨ (t.2.1, t.2.2) ∈ st.had then some "set" else none
def FSt.add (st : FSt) (t : T3) : FSt := ⟨st.met ++ [(t.1, t.2.1)], st.had ++ [(t.1, t.2.2), (t.2.1, t.2.2)]⟩
def rowGo : List T3 → Nat → FSt → List Int → Except (Nat × Str) FSt
  | [], _, st, _ => .ok st
  | t :: ts, i, st, seat => match rowBad st seat t with
    | some w => .error (i, w)
    | none => rowGo ts (i + 1) (st.add t) (seat ++ [t.1, t.2.1])
def planGo : List (List T3) → Nat → FSt → Except (Nat × Nat × Str) FSt
  | [], _, st => .ok st
  | r :: rs, n, st => match rowGo r 0 st [] with
    | .error (i, w) => .error (n, i, w)
    | .ok st' => planGo rs (n + 1) st'
def faultD (p : List (List T3)) : D := match planGo p 0 ⟨[], []⟩ with
  | .error (n, i, w) => .tuple [.int (n : Int), .int (i : Int), .str w]
  | .ok _ => .none
def noFault (p : List (List T3)) : Bool := match planGo p 0 ⟨[], []⟩ with
  | .error _ => false
  | .ok _ => true
/-! ### all meet -/
def othersN (p : Nat) : Nat := p - 1 + p % 2
def ins2 (c : Card) : List Card → List Card
  | [] => [c]
  | d :: l => if le2 c d = true then c :: d :: l else d :: ins2 c l
def isort2 : List Card → List Card
  | [] => []
  | c :: l => ins2 c (isort2 l)
def meetRaw (p k : Nat) : List Card := (if p % 2 = 0 then [((k : Int), (p : Int) - 1)] else []) ++ (List.range ((othersN p + 1) / 2 - 1)).map fun s : Nat =>
  let a := ((k : Int) + ((s : Int) + 1)) % (othersN p : Int); let b := ((k : Int) - ((s : Int) + 1)) % (othersN p : Int); (if b < a then b else a, if a < b then b else a)
def meetR (p k : Nat) : List Card := isort2 (meetRaw p k)
def meetP (p : Nat) : List (List Card) := (List.range (othersN p)).map (meetR p)
def wholeN (p : Nat) : Nat := p + (p - p / 2 * 2)
def meetC (p k one other : Nat) : Bool := decide ((((one : Int) + (other : Int) - 2 * (k : Int)) % ((wholeN p : Int) - 1) = 0 ∧ (other : Int) < (wholeN p : Int) - 1) ∨ ((other : Int) = (wholeN p : Int) - 1 ∧ one = k)) && decide (other < p)
def handMR (p k : Nat) : List Card := (List.range p).flatMap fun one : Nat => (List.range (wholeN p - (one + 1))).flatMap fun s : Nat => if meetC p k one (s + (one + 1)) = true then [((one : Int), ((s + (one + 1) : Nat) : Int))] else []
def handM (p : Nat) : List (List Card) := (List.range (wholeN p - 1)).map (handMR p)
def chkTurn (n : Nat) : Bool := (List.range (n + 1)).all fun m => !(turnOk n (m : Int)) || (decide ((List.range m).map (turnR n) = (List.range m).map (handR n)) && noFault (turnP n m))
theorem chk_turn : ∀ n ∈ List.range 11, 1 ≤ n → chkTurn n = true := by decide +kernel
def seatL (r : List Card) : List Int := r.map (·.1) ++ r.map (·.2)
def chkMeet (p : Nat) : Bool :=
  let P := meetP p
  decide (P = handM p) && P.all (fun r => decide ((seatL r).Nodup) && decide ((seatL r).length = p / 2 * 2)) && decide (P.flatten.Nodup) && decide (P.flatten.length = p * (p - 1) / 2) && decide (P.length = p - 1 + (p - p / 2 * 2))
theorem ins2_perm (c : Card) : ∀ l : List Card, (ins2 c l).Perm (c :: l)
  | [] => List.Perm.refl _
  | d :: l => by
    unfold ins2
    split
    · exact List.Perm.refl _
    · exact ((ins2_perm c l).cons d).trans (List.Perm.swap c d l)
theorem isort2_perm : ∀ l : List Card, (isort2 l).Perm l
  | [] => List.Perm.refl _
  | c :: l => (ins2_perm c (isort2 l)).trans ((isort2_perm l).cons c)
theorem le2_tr {a b c : Card} (h1 : le2 a b = true) (h2 : le2 b c = true) : le2 a c = true := by
  unfold le2 at *
  simp only [decide_eq_true_eq] at *
  omega
theorem le2_or {a b : Card} (h : ¬ le2 a b = true) : le2 b a = true := by
  unfold le2 at *
  simp only [decide_eq_true_eq] at *
  omega
theorem ins2_up (c : Card) : ∀ {l : List Card}, l.Pairwise (fun a b => le2 a b = true) → (ins2 c l).Pairwise (fun a b => le2 a b = true)
  | [], _ => List.pairwise_singleton _ _
  | d :: l, h => by
    obtain ⟨h1, h2⟩ := List.pairwise_cons.mp h
    unfold ins2
    split
    · rename_i z
      exact List.pairwise_cons.mpr ⟨fun x hx => by rcases List.mem_cons.mp hx with rfl | hx; exact z; exact le2_tr z (h1 x hx), h⟩
    · rename_i z
      refine List.pairwise_cons.mpr ⟨fun x hx => ?_, ins2_up c h2⟩
      rcases List.mem_cons.mp ((ins2_perm c l).mem_iff.mp hx) with rfl | hx
      · exact le2_or z
      · exact h1 x hx
theorem isort2_up : ∀ l : List Card, (isort2 l).Pairwise (fun a b => le2 a b = true)
  | [] => List.Pairwise.nil
  | c :: l => ins2_up c (isort2_up l)
theorem isort2_eq (l : List Card) : sortC l = isort2 l := ((sortC_perm l).trans (isort2_perm l).symm).eq_of_pairwise (fun a b _ _ h1 h2 => le2_antisymm h1 h2) (sortC_up l) (isort2_up l)
theorem chk_meet : ∀ p ∈ List.range 13, 2 ≤ p → chkMeet p = true := by decide +kernel
end DL
set_option Elab.async false
set_option linter.all false
set_option maxRecDepth 100000
set_option maxHeartbeats 4000000
namespace DL
open PySem PySem.Spec PyProof.Rows L2
local macro_rules | `(tactic| walk_at "dl") => `(tactic| simp only [tV, tVr, tFzV, turnD, DL.wipeE, tK, tOpD, tUnD, tBo, tAndD, tOrD, tNotD, tIfE, DL.tAndV, DL.tOrV, DL.tNotV, tTru, truD, okLen, sSet, sSetL, sExpr, sRet, sIf, sNx, tTupD, dNil, dCons, tLstD, tFzD, tApp, tExtd, tPopAt, sSetIx, tIxO, tChainD, tChain3D, tRevT, caStr, opRepT, opAdd, opSub, opMul, opDiv, opMod, opPow, DL.opI, DL.opI0, opB0, opLt, opLe, opGt, opGtD, opLtD, opGe, opEq, opNe, opIs, opIsN, isNone, opIn, opNotIn, opIx, atD_0, atD_1, atD_2, atD_3, putD_0, unNeg, tCa1, tCa2, tCaL1, caLen, caAbs, caMax2, caMin2, caSum, caMax, caMin, caSumT, caMaxT, caMinT, caAll, caTuple, caList, caInt, tIsi, isInt, isBool, isStr, isTuple, isList, notDict, sAsg, gSet, gTupD, gLstD, gsNil, gsCons, sPar, pNil, pD, pL, setAll, tCallD, aNil, aV, aO, argS, oixs, ndp, putO, tOpL, opCat, opRep, tSlD, slD, tSlL, oNo, oE, tRevD, iLstD, iTupD, iRange1, iRange2, iZipD, iZipM, finO, tTrue, Option.map, eqv_int, eqv_bool, eqv_none, shaped_int, shaped_bool, shaped_none, tLenRange, tSortSet, tLenSet, tLenSetP, tSortSetP, tCountL, tCountT, tIndexL, tIndexT, DL.tOrT, DL.tAndT, DL.tNotT, tSortRev, caSorted, iEnumL, iEnumT, tDGetV, tDGetD, tDGet2V, dictAt, sDPutV, sSetM, mDt, mDk, pM, tInN, tNotInN, tCallM, amM, amV, tListRg, iDk, iDv, iDi, tLDk, tLDv, tTruDk, mDt1, tFzM, tCall0D, tFldD, tFldR, fldD, fldL, obD, unH_hdl, obGet, setOb, putOD, sFldD, sFldL, tMethO, tAppF, tPopF, sRaise, keyB_2, keyB_3, keyB_4, decide_eq_true_eq, and_self, List.cons_append, List.nil_append, List.replicate, List.getElem?_cons_zero, List.getElem?_cons_succ, List.set_cons_zero, List.set_cons_succ, List.length_cons, List.length_nil, true_and, and_true, if_true, if_false, Bool.false_eq_true, List.contains_nil, Bool.not_false, Bool.not_true, Bool.and_self, Bool.and_true, Bool.true_and, decide_true, decide_false, beq_self_eq_true])
def tb_turning (c_NoPlan : Value) (WD : WDt) : TSd :=
  sSeq (sSet 2 (tOpD opEq (tOpD opMod (tV 0) (tK (.int 2))) (tK (.int 0))))
      (sSeq (sIf (tNotD (tBo (tChainD opLe opLe (tK (.int 1)) (tV 1) (tOpD opSub (tV 0) (tCa1 caInt (tV 2)))))) (sRaise WD c_NoPlan) (sNx))
      (sSeq (sSetL 3 (tLstD (dNil)))
      (sSeq (sFor (iRange1 (tV 1)) (gSet 4) (sSeq (sSet 5 (tOpD opAdd (tV 4) (tCa1 caInt (tAndV (tV 2) (tOpD opGe (tOpD opMul (tK (.int 2)) (tV 4)) (tV 0))))))
      (sSeq (sSet 6 (tFzD (tComp (iRange1 (tV 0)) (gSet 7) (tTrue) (tTupD (dCons (tV 7) (dCons (tOpD opAdd (tV 0) (tOpD opMod (tOpD opSub (tV 7) (tV 5)) (tV 0))) (dCons (tOpD opMod (tOpD opAdd (tV 7) (tV 4)) (tV 0)) (dNil))))) [7])))
      (sExpr (tApp 3 (tCa1 caTuple (tV 6)))))))
      (sRet (tCa1 caTuple (tVr 3))))))
def tb_plan_fault : TSd :=
  sSeq (sPar [1, 2] (pL (tLstD (dNil)) (pL (tLstD (dNil)) (pNil))))
      (sSeq (sFor (iEnumT (tV 0)) (gTupD 2 (gsCons (gSet 3) (gsCons (gSet 4) (gsNil)))) (sSeq (sSetL 5 (tLstD (dNil)))
      (sFor (iEnumT (tV 4)) (gTupD 2 (gsCons (gSet 6) (gsCons (gTupD 3 (gsCons (gSet 7) (gsCons (gSet 8) (gsCons (gSet 9) (gsNil))))) (gsNil)))) (sSeq (sIf (tOrD (tBo (tOpD opIn (tV 7) (tVr 5))) (tOrD (tBo (tOpD opIn (tV 8) (tVr 5))) (tBo (tOpD opEq (tV 7) (tV 8))))) (sRet (tTupD (dCons (tV 3) (dCons (tV 6) (dCons (tK (.str "twice")) (dNil)))))) (sNx))
      (sSeq (sIf (tOrD (tBo (tOpD opIn (tTupD (dCons (tV 7) (dCons (tV 8) (dNil)))) (tVr 1))) (tBo (tOpD opIn (tTupD (dCons (tV 8) (dCons (tV 7) (dNil)))) (tVr 1)))) (sRet (tTupD (dCons (tV 3) (dCons (tV 6) (dCons (tK (.str "met")) (dNil)))))) (sNx))
      (sSeq (sIf (tOrD (tBo (tOpD opIn (tTupD (dCons (tV 7) (dCons (tV 9) (dNil)))) (tVr 2))) (tBo (tOpD opIn (tTupD (dCons (tV 8) (dCons (tV 9) (dNil)))) (tVr 2)))) (sRet (tTupD (dCons (tV 3) (dCons (tV 6) (dCons (tK (.str "set")) (dNil)))))) (sNx))
      (sSeq (sExpr (tExtd 5 (tLstD (dCons (tV 7) (dCons (tV 8) (dNil))))))
      (sSeq (sExpr (tApp 1 (tTupD (dCons (tV 7) (dCons (tV 8) (dNil))))))
      (sExpr (tExtd 2 (tLstD (dCons (tTupD (dCons (tV 7) (dCons (tV 9) (dNil)))) (dCons (tTupD (dCons (tV 8) (dCons (tV 9) (dNil)))) (dNil))))))))))))))
      (sRet (tK .none)))
def tb_all_meet : TSd :=
  sSeq (sSet 1 (tOpD opAdd (tOpD opSub (tV 0) (tK (.int 1))) (tOpD opMod (tV 0) (tK (.int 2)))))
      (sSeq (sSetL 2 (tLstD (dNil)))
      (sSeq (sFor (iRange1 (tV 1)) (gSet 3) (sSeq (sSetL 4 (tLstD (dNil)))
      (sSeq (sIf (tBo (tOpD opEq (tOpD opMod (tV 0) (tK (.int 2))) (tK (.int 0)))) (sExpr (tApp 4 (tTupD (dCons (tV 3) (dCons (tOpD opSub (tV 0) (tK (.int 1))) (dNil)))))) (sNx))
      (sSeq (sFor (iRange2 (tK (.int 1)) (tOpD opDiv (tOpD opAdd (tV 1) (tK (.int 1))) (tK (.int 2)))) (gSet 5) (sSeq (sPar [6, 7] (pD (tOpD opMod (tOpD opAdd (tV 3) (tV 5)) (tV 1)) (pD (tOpD opMod (tOpD opSub (tV 3) (tV 5)) (tV 1)) (pNil))))
      (sExpr (tApp 4 (tTupD (dCons (tCa2 caMin2 (tV 6) (tV 7)) (dCons (tCa2 caMax2 (tV 6) (tV 7)) (dNil))))))))
      (sExpr (tApp 2 (tCa1 caTuple (tFzD (tCaL1 caSorted (tVr 4))))))))))
      (sRet (tCa1 caTuple (tVr 2)))))
def tb_law_told (sp_turning : SpX) (m_NoPlan : Value → Option Bool) : TSd :=
  sSeq (sSet 2 (tK .none))
      (sSeq (sTry m_NoPlan (fun _ _ => False) (fun WD => sSet 2 (tCallX sp_turning (aV (tV 0) (aV (tV 1) (aNil))) WD)) (sSet 2 (tK (.str "NoPlan"))))
      (sRet (tV 2)))
def spTurning (c : Value) : SpX := fun ss Q QX => ∃ (n : Nat) (m : Int), ss = [.d (.int (n : Int)), .d (.int m)] ∧ 1 ≤ n ∧ n ≤ 100 ∧ (turnOk n m = true → Q (planD (turnP n m.toNat)) []) ∧ (turnOk n m = false → QX c [])
theorem sh_turning (c : Value) : ∀ ss QD QX, spTurning c ss QD QX → ss.length = 2 ∧ mpos 0 ss = [] := by rintro ss QD QX ⟨_, _, rfl, _⟩; exact ⟨rfl, rfl⟩
theorem rng_0 (n : Nat) : rangeD 0 n = (List.range n).map fun s : Nat => .int (s : Int) := by
  unfold rangeD
  refine List.map_congr_left fun i _ => ?_
  rw [Int.zero_add]
theorem even_mod {n : Nat} : decide ((n : Int) % 2 = 0) = evenT n := by
  unfold evenT
  by_cases h : n % 2 = 0
  · rw [decide_eq_true h, decide_eq_true (by omega)]
  · rw [decide_eq_false h, decide_eq_false (by omega)]
theorem rd_turning (c : Value) : ∀ ss QD QX, spTurning c ss QD QX → tb_turning c (fun cls E' => finO [] E' (QX cls)) { nx := fun E' => finO [] E' (QD .none), rt := fun d E' => finO [] E' (QD d) } (ss ++ List.replicate 6 .un) := by
  rintro ss QD QX ⟨n, m, rfl, hn1, hn, q1, q2⟩
  unfold tb_turning
  refine seq_step fun R hR => ?_
  walk_at "dl"
  rw [even_mod]
  refine ⟨by decide, hR _ ?_⟩
  clear hR
  refine seq_step fun R hR => ?_
  have fin : turnOk n m = true → R [.d (.int (n : Int)), .d (.int m), .d (.bool (evenT n)), .un, .un, .un, .un, .un] := fun hok => by
    have q := q1 hok
    unfold turnOk at hok
    have hok := of_decide_eq_true hok
    obtain ⟨k, rfl⟩ : ∃ k : Nat, m = (k : Int) := ⟨m.toNat, by omega⟩
    have hk : k ≤ n := by
      have := hok.2
      split at this <;> omega
    rw [Int.toNat_natCast] at q
    refine hR _ ?_
    clear hR
    refine seq_step fun R hR => ?_
    walk_at "dl"
    refine ⟨Nat.zero_le _, hR _ ?_⟩
    clear hR
    refine seq_step fun R hR => ?_
    refine for_inv (ds := rangeD 0 k) (E1 := [.d (.int (n : Int)), .d (.int (k : Int)), .d (.bool (evenT n)), .ol [], .un, .un, .un, .un]) (fun Q h => ⟨⟨by omega, by omega⟩, by rw [Int.toNat_natCast]; exact h⟩)
      (fun i E => ∃ a4 a5 a6, E = [.d (.int (n : Int)), .d (.int (k : Int)), .d (.bool (evenT n)), .ol (((List.range i).map (turnR n)).map rowT), a4, a5, a6, .un]) ⟨_, _, _, rfl⟩ (fun i d E hd hE R2 hR2 => ?_) (fun E hE => ?_)
    · obtain ⟨a4, a5, a6, rfl⟩ := hE
      have hi : i < k := by have := (List.getElem?_eq_some_iff.mp hd).1; rwa [rangeD_length] at this
      rw [rangeD_get hi] at hd
      cases hd
      walk_at "dl"
      refine seq_step fun R3 hR3 => ?_
      have step : R3 [.d (.int (n : Int)), .d (.int (k : Int)), .d (.bool (evenT n)), .ol (((List.range i).map (turnR n)).map rowT), .d (.int (0 + (i : Int))), .d (.int (goneT n i : Int)), a6, .un] := by
        refine hR3 _ ?_
        clear hR3
        refine seq_step fun R3 hR3 => ?_
        walk_at "dl"
        refine comp_map (E1 := [.d (.int (n : Int)), .d (.int (k : Int)), .d (.bool (evenT n)), .ol (((List.range i).map (turnR n)).map rowT), .d (.int (0 + (i : Int))), .d (.int (goneT n i : Int)), a6, .un]) (List.range n) (fun t : Nat => .int (t : Int)) (fun t : Nat => e3T ((t : Int), (n : Int) + ((t : Int) - (goneT n i : Int)) % (n : Int), ((t : Int) + (i : Int)) % (n : Int))) (fun Q h => ⟨⟨by omega, by omega⟩, by rw [Int.toNat_natCast, rng_0]; exact h⟩) (un1 rfl) (small_line (by rw [List.length_range]; omega)) (fun x hx R4 hq => ?_) ?_
        · walk_at "dl"
          refine ⟨by omega, by omega, small_line (by decide), ?_⟩
          rw [Int.zero_add]
          exact hq _ (by rw [Int.zero_add]; rfl)
        · have hrow : ((List.range n).map fun t : Nat => e3T ((t : Int), (n : Int) + ((t : Int) - (goneT n i : Int)) % (n : Int), ((t : Int) + (i : Int)) % (n : Int))) = (turnR n i).map e3T := by
            unfold turnR
            rw [List.map_map]; rfl
          rw [hrow]
          refine hR3 [.d (.int (n : Int)), .d (.int (k : Int)), .d (.bool (evenT n)), .ol (((List.range i).map (turnR n)).map rowT), .d (.int (0 + (i : Int))), .d (.int (goneT n i : Int)), .d (.list ((turnR n i).map e3T)), .un] ?_
          clear hR3
          walk_at "dl"
          refine ⟨Nat.lt_of_lt_of_le (m := 10000) (by rw [List.length_map, List.length_map, List.length_range]; omega) (small_line (by decide)), hR2 _ ⟨.d (.int (0 + (i : Int))), .d (.int (goneT n i : Int)), .d (.list ((turnR n i).map e3T)), ?_⟩⟩
          rw [List.range_succ, List.map_append, List.map_append]
          rfl
      walk_at "dl"
      unfold goneT at step
      cases he : evenT n with
      | true =>
        rw [he] at step
        refine ⟨cmul_small (by decide) (by omega), ?_⟩
        have e : (0 + (i : Int) + if (n : Int) ≤ 2 * (0 + (i : Int)) then 1 else 0) = ((i + (if true = true ∧ 2 * i ≥ n then 1 else 0) : Nat) : Int) := by
          by_cases z : 2 * i ≥ n
          · rw [if_pos (by omega), if_pos ⟨rfl, z⟩]; omega
          · rw [if_neg (by omega), if_neg (fun y => z y.2)]; omega
        rw [e]; exact step
      | false =>
        rw [he] at step
        have e : (0 + (i : Int) + 0) = ((i + (if false = true ∧ 2 * i ≥ n then 1 else 0) : Nat) : Int) := by rw [if_neg (fun y => by cases y.1)]; omega
        show R3 _
        rw [e]; exact step
    · obtain ⟨a4, a5, a6, rfl⟩ := hE
      rw [rangeD_length]
      refine hR _ ?_
      walk_at "dl"
      exact q
  walk_at "dl"
  unfold turnOk at fin q2
  by_cases h1 : 1 ≤ m
  · rw [decide_eq_true h1]
    by_cases h2 : m ≤ (n : Int) - (if evenT n = true then 1 else 0)
    · exact ifF (by rw [decide_eq_true h2]; rfl) (fin (decide_eq_true ⟨h1, h2⟩))
    · exact ifT (by rw [decide_eq_false h2]; rfl) (q2 (decide_eq_false fun z => h2 z.2))
  · rw [decide_eq_false h1]
    exact q2 (decide_eq_false fun z => h1 z.1)
def spFault : SpD := fun ss Q => ∃ p : List (List T3), ss = [.d (planD p)] ∧ p.length ≤ 1000 ∧ (∀ r ∈ p, r.length ≤ 1000) ∧ Q (faultD p) []
theorem sh_plan_fault : ∀ ss QD, spFault ss QD → ss.length = 1 ∧ mpos 0 ss = [] := by rintro ss QD ⟨_, rfl, _⟩; exact ⟨rfl, rfl⟩
theorem any_of {α : Type} [DecidableEq α] {e : α → D} (he : ∀ a b, PyData.eqv (e a) (e b) = decide (a = b)) (xs : List α) (y : α) : ((xs.map e).any fun z => PyData.eqv z (e y)) = true ↔ y ∈ xs := by
  rw [List.any_map, List.any_eq_true]
  constructor
  · rintro ⟨x, hx, h⟩
    have h : PyData.eqv (e x) (e y) = true := h
    rw [he] at h
    rw [← of_decide_eq_true h]; exact hx
  · intro h
    refine ⟨y, h, ?_⟩
    show PyData.eqv (e y) (e y) = true
    rw [he]; exact decide_eq_true rfl
theorem in_ints (xs : List Int) (y : Int) : ((xs.map PyData.int).any fun z => PyData.eqv z (.int y)) = true ↔ y ∈ xs := any_of eqv_int xs y
theorem eqv_c2 (a b : Card) : PyData.eqv (cE a) (cE b) = decide (a = b) := by
  have := eqv_ti [a.1, a.2] [b.1, b.2]
  show PyData.eqv (.tuple [.int a.1, .int a.2]) (.tuple [.int b.1, .int b.2]) = _
  rw [show PyData.eqv (.tuple [.int a.1, .int a.2]) (.tuple [.int b.1, .int b.2]) = decide ([a.1, a.2] = [b.1, b.2]) from this]
  refine decide_eq_decide.mpr ⟨fun h => ?_, fun h => by rw [h]⟩
  simp only [List.cons.injEq, and_true] at h
  exact Prod.ext h.1 h.2
theorem in_pairs (xs : List Card) (a b : Int) : ((xs.map cE).any fun z => PyData.eqv z (.tuple [.int a, .int b])) = true ↔ (a, b) ∈ xs := any_of eqv_c2 xs (a, b)
theorem sh_il (xs : List Int) : SeqAt.shaped (.list (xs.map PyData.int)) = true := shaped_of (n := 1) (by rw [shOk_lst]; exact all_ints xs)
theorem sh_cl (xs : List Card) : SeqAt.shaped (.list (xs.map cE)) = true := shaped_of (n := 2) (by rw [shOk_lst, List.all_map, List.all_eq_true]; exact fun c _ => sh_cE 0 c)
theorem rd_plan_fault : ∀ ss QD, spFault ss QD → tb_plan_fault { nx := fun E' => finO [] E' (QD .none), rt := fun d E' => finO [] E' (QD d) } (ss ++ List.replicate 9 .un) := by
  rintro ss QD ⟨p, rfl, hp, hr, q⟩
  unfold tb_plan_fault
  refine seq_step fun R hR => ?_
  walk_at "dl"
  refine ⟨Nat.zero_le _, Nat.zero_le _, hR _ ?_⟩
  clear hR
  refine seq_step fun R hR => ?_
  unfold faultD at q
  refine for_inv (ds := enumD (p.map rowT)) (E1 := [.d (planD p), .ol [], .ol [], .un, .un, .un, .un, .un, .un, .un]) (fun Q h => h)
    (fun i E => ∃ (st : FSt) (a3 a4 a5 a6 a7 a8 a9 : S), E = [.d (planD p), .ol (st.met.map cE), .ol (st.had.map cE), a3, a4, a5, a6, a7, a8, a9] ∧ planGo p 0 ⟨[], []⟩ = planGo (p.drop i) i st ∧ st.met.length ≤ 1000 * i ∧ st.had.length ≤ 2000 * i) ⟨⟨[], []⟩, _, _, _, _, _, _, _, rfl, rfl, Nat.le_refl 0, Nat.le_refl 0⟩ (fun i d E hd hE R2 hR2 => ?_) (fun E hE => ?_)
  · obtain ⟨st, a3, a4, a5, a6, a7, a8, a9, rfl, hgo, hml, hhl⟩ := hE
    have hi : i < p.length := by have := (List.getElem?_eq_some_iff.mp hd).1; rwa [enumD_len, List.length_map] at this
    have hpi : p[i]? = some p[i] := List.getElem?_eq_getElem hi
    rw [enumD_get (d := rowT p[i]) (by rw [List.getElem?_map, hpi]; rfl)] at hd
    cases hd
    have hdrop : p.drop i = p[i] :: p.drop (i + 1) := List.drop_eq_getElem_cons hi
    have hrl := hr p[i] (List.getElem_mem hi)
    generalize p[i] = row at hdrop hrl
    rw [hdrop] at hgo
    clear hpi
    walk_at "dl"
    refine seq_step fun R3 hR3 => ?_
    walk_at "dl"
    refine ⟨Nat.zero_le _, hR3 _ ?_⟩
    clear hR3
    have go1 : ∀ j w, rowGo row 0 st [] = .error (j, w) → QD (.tuple [.int (i : Int), .int (j : Int), .str w]) [] := fun j w e => by
      have z : planGo p 0 ⟨[], []⟩ = .error (i, j, w) := by
        rw [hgo]
        show (match rowGo row 0 st [] with | .error (i', w) => Except.error (i, i', w) | .ok st' => planGo (p.drop (i + 1)) (i + 1) st') = _
        rw [e]
      rw [z] at q; exact q
    have go2 : ∀ st', rowGo row 0 st [] = .ok st' → planGo p 0 ⟨[], []⟩ = planGo (p.drop (i + 1)) (i + 1) st' := fun st' e => by
      rw [hgo]
      show (match rowGo row 0 st [] with | .error (i', w) => Except.error (i, i', w) | .ok st' => planGo (p.drop (i + 1)) (i + 1) st') = _
      rw [e]
    refine for_inv (ds := enumD (row.map e3T)) (E1 := [.d (planD p), .ol (st.met.map cE), .ol (st.had.map cE), .d (.int (i : Int)), .d (rowT row), .ol [], a6, a7, a8, a9]) (fun Q h => h)
      (fun j E => ∃ (s2 : FSt) (seat : List Int) (a6 a7 a8 a9 : S), E = [.d (planD p), .ol (s2.met.map cE), .ol (s2.had.map cE), .d (.int (i : Int)), .d (rowT row), .ol (seat.map PyData.int), a6, a7, a8, a9] ∧ rowGo row 0 st [] = rowGo (row.drop j) j s2 seat ∧ s2.met.length ≤ 1000 * i + j ∧ s2.had.length ≤ 2000 * i + 2 * j ∧ seat.length ≤ 2 * j) ⟨st, [], _, _, _, _, rfl, rfl, hml, hhl, Nat.le_refl 0⟩ (fun j d2 E hd2 hE R4 hR4 => ?_) (fun E hE => ?_)
    · obtain ⟨s2, seat, b6, b7, b8, b9, rfl, rgo, rml, rhl, rsl⟩ := hE
      have hj : j < row.length := by have := (List.getElem?_eq_some_iff.mp hd2).1; rwa [enumD_len, List.length_map] at this
      have hrj : row[j]? = some row[j] := List.getElem?_eq_getElem hj
      rw [enumD_get (d := e3T row[j]) (by rw [List.getElem?_map, hrj]; rfl)] at hd2
      cases hd2
      have hdr : row.drop j = row[j] :: row.drop (j + 1) := List.drop_eq_getElem_cons hj
      generalize row[j] = t at hdr
      clear hrj
      rw [hdr] at rgo
      have bad : ∀ w, rowBad s2 seat t = some w → QD (.tuple [.int (i : Int), .int (j : Int), .str w]) [] := fun w e => go1 j w (by
        rw [rgo]
        show (match rowBad s2 seat t with | some w => Except.error (j, w) | none => rowGo (row.drop (j + 1)) (j + 1) (s2.add t) (seat ++ [t.1, t.2.1])) = _
        rw [e])
      have good : rowBad s2 seat t = none → rowGo row 0 st [] = rowGo (row.drop (j + 1)) (j + 1) (s2.add t) (seat ++ [t.1, t.2.1]) := fun e => by
        rw [rgo]
        show (match rowBad s2 seat t with | some w => Except.error (j, w) | none => rowGo (row.drop (j + 1)) (j + 1) (s2.add t) (seat ++ [t.1, t.2.1])) = _
        rw [e]
      unfold rowBad at bad good
      rw [show e3T t = .tuple [.int t.1, .int t.2.1, .int t.2.2] from rfl]
      walk_at "dl"
      refine seq_step fun R5 hR5 => ?_
      walk_at "dl"
      refine ⟨sh_il _, ?_⟩
      by_cases h1 : t.1 ∈ seat
      · rw [if_pos ((in_ints _ _).mpr h1)]
        exact ⟨small_line (by decide), bad _ (if_pos (.inl h1))⟩
      rw [if_neg (fun z => h1 ((in_ints _ _).mp z))]
      refine ⟨sh_il _, ?_⟩
      by_cases h2 : t.2.1 ∈ seat
      · rw [if_pos ((in_ints _ _).mpr h2)]
        exact ⟨small_line (by decide), bad _ (if_pos (.inr (.inl h2)))⟩
      rw [if_neg (fun z => h2 ((in_ints _ _).mp z))]
      by_cases h3 : t.1 = t.2.1
      · rw [if_pos h3]
        exact ⟨small_line (by decide), bad _ (if_pos (.inr (.inr h3)))⟩
      rw [if_neg h3]
      have h123 : ¬ (t.1 ∈ seat ∨ t.2.1 ∈ seat ∨ t.1 = t.2.1) := fun z => z.elim h1 fun z => z.elim h2 h3
      rw [if_neg h123] at bad good
      refine hR5 _ ?_
      clear hR5
      refine seq_step fun R5 hR5 => ?_
      walk_at "dl"
      have shp : ∀ a b : Int, SeqAt.shaped (.tuple [.int a, .int b]) = true := fun a b => shaped_ti [a, b]
      refine ⟨small_line (by decide), ⟨shp _ _, sh_cl _⟩, ?_⟩
      by_cases g1 : (t.1, t.2.1) ∈ s2.met
      · rw [if_pos ((in_pairs _ _ _).mpr g1)]
        exact ⟨small_line (by decide), bad _ (if_pos (.inl g1))⟩
      rw [if_neg (fun z => g1 ((in_pairs _ _ _).mp z))]
      refine ⟨small_line (by decide), ⟨shp _ _, sh_cl _⟩, ?_⟩
      by_cases g2 : (t.2.1, t.1) ∈ s2.met
      · rw [if_pos ((in_pairs _ _ _).mpr g2)]
        exact ⟨small_line (by decide), bad _ (if_pos (.inr g2))⟩
      rw [if_neg (fun z => g2 ((in_pairs _ _ _).mp z))]
      have g12 : ¬ ((t.1, t.2.1) ∈ s2.met ∨ (t.2.1, t.1) ∈ s2.met) := fun z => z.elim g1 g2
      rw [if_neg g12] at bad good
      refine hR5 _ ?_
      clear hR5
      refine seq_step fun R5 hR5 => ?_
      walk_at "dl"
      refine ⟨small_line (by decide), ⟨shp _ _, sh_cl _⟩, ?_⟩
      by_cases k1 : (t.1, t.2.2) ∈ s2.had
      · rw [if_pos ((in_pairs _ _ _).mpr k1)]
        exact ⟨small_line (by decide), bad _ (if_pos (.inl k1))⟩
      rw [if_neg (fun z => k1 ((in_pairs _ _ _).mp z))]
      refine ⟨small_line (by decide), ⟨shp _ _, sh_cl _⟩, ?_⟩
      by_cases k2 : (t.2.1, t.2.2) ∈ s2.had
      · rw [if_pos ((in_pairs _ _ _).mpr k2)]
        exact ⟨small_line (by decide), bad _ (if_pos (.inr k2))⟩
      rw [if_neg (fun z => k2 ((in_pairs _ _ _).mp z))]
      have k12 : ¬ ((t.1, t.2.2) ∈ s2.had ∨ (t.2.1, t.2.2) ∈ s2.had) := fun z => z.elim k1 k2
      rw [if_neg k12] at bad good
      refine hR5 _ ?_
      clear hR5
      refine seq_step fun R5 hR5 => ?_
      walk_at "dl"
      refine ⟨small_line (by decide), small_line (by rw [List.length_map]; omega), hR5 _ ?_⟩
      clear hR5
      refine seq_step fun R5 hR5 => ?_
      walk_at "dl"
      refine ⟨small_line (by decide), Nat.lt_of_lt_of_le (m := 5000000) (by rw [List.length_map]; omega) (small_line (by decide)), hR5 _ ?_⟩
      clear hR5
      walk_at "dl"
      refine ⟨small_line (by decide), small_line (by decide), small_line (by decide), small_line (by rw [List.length_map]; omega), hR4 _ ⟨s2.add t, seat ++ [t.1, t.2.1], .d (.int (j : Int)), .d (.int t.1), .d (.int t.2.1), .d (.int t.2.2), ?_, good rfl, ?_, ?_, ?_⟩⟩
      · unfold FSt.add
        simp only [List.map_append]
        rfl
      · unfold FSt.add
        rw [List.length_append, List.length_singleton]; omega
      · unfold FSt.add
        rw [List.length_append]
        show s2.had.length + 2 ≤ _
        omega
      · rw [List.length_append]
        show seat.length + 2 ≤ _
        omega
    · obtain ⟨s2, seat, b6, b7, b8, b9, rfl, rgo, rml, rhl, rsl⟩ := hE
      rw [enumD_len, List.length_map] at rgo rml rhl
      rw [List.drop_length] at rgo
      exact hR2 _ ⟨s2, _, _, _, _, _, _, _, rfl, go2 s2 (by rw [rgo]; rfl), by omega, by omega⟩
  · obtain ⟨st, a3, a4, a5, a6, a7, a8, a9, rfl, hgo, hml, hhl⟩ := hE
    rw [enumD_len, List.length_map, List.drop_length] at hgo
    rw [show planGo ([] : List (List T3)) p.length st = .ok st from rfl] at hgo
    rw [hgo] at q
    refine hR _ ?_
    walk_at "dl"
    exact q
def spMeet : SpD := fun ss Q => ∃ p : Nat, ss = [.d (.int (p : Int))] ∧ 2 ≤ p ∧ p ≤ 100 ∧ Q (.tuple ((meetP p).map handD)) []
theorem sh_all_meet : ∀ ss QD, spMeet ss QD → ss.length = 1 ∧ mpos 0 ss = [] := by rintro ss QD ⟨_, rfl, _⟩; exact ⟨rfl, rfl⟩
def meetS (p k s : Nat) : Card :=
  let a := ((k : Int) + ((s : Int) + 1)) % (othersN p : Int); let b := ((k : Int) - ((s : Int) + 1)) % (othersN p : Int); (if b < a then b else a, if a < b then b else a)
theorem meetRaw_eq (p k : Nat) : meetRaw p k = (if p % 2 = 0 then [((k : Int), (p : Int) - 1)] else []) ++ (List.range ((othersN p + 1) / 2 - 1)).map (meetS p k) := rfl
theorem rd_all_meet : ∀ ss QD, spMeet ss QD → tb_all_meet { nx := fun E' => finO [] E' (QD .none), rt := fun d E' => finO [] E' (QD d) } (ss ++ List.replicate 7 .un) := by
  rintro ss QD ⟨p, rfl, hp2, hp, q⟩
  have ho : (p : Int) - 1 + (p : Int) % 2 = (othersN p : Int) := by unfold othersN; omega
  have hob : 1 ≤ othersN p ∧ othersN p ≤ 101 := by unfold othersN; omega
  unfold tb_all_meet
  refine seq_step fun R hR => ?_
  walk_at "dl"
  rw [ho]
  refine ⟨by decide, hR _ ?_⟩
  clear hR
  refine seq_step fun R hR => ?_
  walk_at "dl"
  refine ⟨Nat.zero_le _, hR _ ?_⟩
  clear hR
  refine seq_step fun R hR => ?_
  refine for_inv (ds := rangeD 0 (othersN p)) (E1 := [.d (.int (p : Int)), .d (.int (othersN p : Int)), .ol [], .un, .un, .un, .un, .un]) (fun Q h => ⟨⟨by omega, by omega⟩, by rw [Int.toNat_natCast]; exact h⟩)
    (fun i E => ∃ a3 a4 a5 a6 a7, E = [.d (.int (p : Int)), .d (.int (othersN p : Int)), .ol (((List.range i).map (meetR p)).map handD), a3, a4, a5, a6, a7]) ⟨_, _, _, _, _, rfl⟩ (fun i d E hd hE R2 hR2 => ?_) (fun E hE => ?_)
  · obtain ⟨a3, a4, a5, a6, a7, rfl⟩ := hE
    have hi : i < othersN p := by have := (List.getElem?_eq_some_iff.mp hd).1; rwa [rangeD_length] at this
    rw [rangeD_get hi] at hd
    cases hd
    rw [Int.zero_add]
    walk_at "dl"
    refine seq_step fun R3 hR3 => ?_
    walk_at "dl"
    refine ⟨Nat.zero_le _, hR3 _ ?_⟩
    clear hR3
    refine seq_step fun R3 hR3 => ?_
    generalize hpre : (if p % 2 = 0 then [((i : Int), (p : Int) - 1)] else []) = pre
    have hprl : pre.length ≤ 1 := by rw [← hpre]; split <;> simp
    have st : R3 [.d (.int (p : Int)), .d (.int (othersN p : Int)), .ol (((List.range i).map (meetR p)).map handD), .d (.int (i : Int)), .ol (pre.map cE), a5, a6, a7] := by
      refine hR3 _ ?_
      clear hR3
      refine seq_step fun R3 hR3 => ?_
      generalize hN : (othersN p + 1) / 2 - 1 = N
      refine for_inv (ds := rangeD 1 N) (E1 := [.d (.int (p : Int)), .d (.int (othersN p : Int)), .ol (((List.range i).map (meetR p)).map handD), .d (.int (i : Int)), .ol (pre.map cE), a5, a6, a7]) (fun Q h => ?_)
        (fun j E => ∃ a5 a6 a7, E = [.d (.int (p : Int)), .d (.int (othersN p : Int)), .ol (((List.range i).map (meetR p)).map handD), .d (.int (i : Int)), .ol ((pre ++ (List.range j).map (meetS p i)).map cE), a5, a6, a7]) ⟨a5, a6, a7, by simp⟩ (fun j d E hd hE R4 hR4 => ?_) (fun E hE => ?_)
      · walk_at "dl"
        refine ⟨cdiv_small (by decide) (by decide), ⟨by decide, by decide, by omega, by omega⟩, ?_⟩
        rw [show (((othersN p : Int) + 1) / 2 - 1).toNat = N by omega]
        exact h
      · obtain ⟨b5, b6, b7, rfl⟩ := hE
        have hj : j < N := by have := (List.getElem?_eq_some_iff.mp hd).1; rwa [rangeD_length] at this
        rw [rangeD_get hj] at hd
        cases hd
        rw [Int.add_comm]
        walk_at "dl"
        refine seq_step fun R5 hR5 => ?_
        walk_at "dl"
        refine ⟨by omega, by omega, hR5 _ ?_⟩
        clear hR5
        walk_at "dl"
        refine ⟨small_line (by decide), Nat.lt_of_lt_of_le (m := 10000) (by rw [List.length_map, List.length_append, List.length_map, List.length_range]; omega) (small_line (by decide)), hR4 _ ⟨.d (.int ((j : Int) + 1)), .d (.int (((i : Int) + ((j : Int) + 1)) % (othersN p : Int))), .d (.int (((i : Int) - ((j : Int) + 1)) % (othersN p : Int))), ?_⟩⟩
        rw [List.range_succ, List.map_append (l₁ := List.range j), ← List.append_assoc, List.map_append (l₂ := [j].map _)]
        rfl
      · obtain ⟨b5, b6, b7, rfl⟩ := hE
        rw [rangeD_length]
        refine hR3 _ ?_
        clear hR3
        have hraw : pre ++ (List.range N).map (meetS p i) = meetRaw p i := by rw [meetRaw_eq, hpre, hN]
        rw [hraw]
        walk_at "dl"
        rw [sort_cards, isort2_eq]
        refine ⟨sortOk_cards _, Nat.lt_of_lt_of_le (m := 10000) (by rw [List.length_map, List.length_map, List.length_range]; omega) (small_line (by decide)), hR2 _ ⟨.d (.int (i : Int)), .ol ((meetRaw p i).map cE), b5, b6, b7, ?_⟩⟩
        rw [List.range_succ, List.map_append, List.map_append]
        rfl
    walk_at "dl"
    refine ⟨by decide, ?_⟩
    by_cases he : p % 2 = 0
    · rw [if_pos he] at hpre
      rw [if_pos (by omega)]
      subst hpre
      exact ⟨small_line (by decide), Nat.lt_of_lt_of_le (m := 10000) (by decide) (small_line (by decide)), st⟩
    · rw [if_neg he] at hpre
      rw [if_neg (by omega)]
      subst hpre
      exact st
  · obtain ⟨a3, a4, a5, a6, a7, rfl⟩ := hE
    rw [rangeD_length]
    refine hR _ ?_
    walk_at "dl"
    exact q
def toldT (n : Nat) (m : Int) : D := if turnOk n m = true then planD (turnP n m.toNat) else .str "NoPlan"
def spToldT : SpD := fun ss Q => ∃ (n : Nat) (m : Int), ss = [.d (.int (n : Int)), .d (.int m)] ∧ 1 ≤ n ∧ n ≤ 100 ∧ Q (toldT n m) []
theorem sh_law_toldT : ∀ ss QD, spToldT ss QD → ss.length = 2 ∧ mpos 0 ss = [] := by rintro ss QD ⟨_, _, rfl, _⟩; exact ⟨rfl, rfl⟩
theorem rd_law_toldT {c : Value} {m : Value → Option Bool} (hm : m c = some true) : ∀ ss QD, spToldT ss QD → tb_law_told (spTurning c) m { nx := fun E' => finO [] E' (QD .none), rt := fun d E' => finO [] E' (QD d) } (ss ++ List.replicate 1 .un) := by
  rintro ss QD ⟨n, k, rfl, h1, h2, q⟩
  unfold toldT at q
  unfold tb_law_told
  refine seq_step fun R hR => ?_
  walk_at "dl"
  refine hR _ ?_
  clear hR
  refine seq_step fun R hR => ?_
  have fin : ∀ d, d = (if turnOk n k = true then planD (turnP n k.toNat) else .str "NoPlan") → R [.d (.int (n : Int)), .d (.int k), .d d] := fun d e => by
    refine hR _ ?_
    walk_at "dl"
    rw [e]; exact q
  refine ⟨rfl, n, k, rfl, h1, h2, fun h => fin _ (by rw [if_pos h]), fun h => ?_⟩
  show match m c with | some true => _ | some false => _ | none => _
  rw [hm]
  exact fin _ (by rw [if_neg (by rw [h]; decide)])
end DL
set_option Elab.async false
set_option linter.all false
set_option maxRecDepth 100000
set_option maxHeartbeats 4000000
namespace DL
open PySem PySem.Spec PyProof.Rows L2
local macro_rules | `(tactic| walk_at "dl") => `(tactic| simp only [tV, tVr, tFzV, turnD, DL.wipeE, tK, tOpD, tUnD, tBo, tAndD, tOrD, tNotD, tIfE, DL.tAndV, DL.tOrV, DL.tNotV, tTru, truD, okLen, sSet, sSetL, sExpr, sRet, sIf, sNx, tTupD, dNil, dCons, tLstD, tFzD, tApp, tExtd, tPopAt, sSetIx, tIxO, tChainD, tChain3D, tRevT, caStr, opRepT, opAdd, opSub, opMul, opDiv, opMod, opPow, DL.opI, DL.opI0, opB0, opLt, opLe, opGt, opGtD, opLtD, opGe, opEq, opNe, opIs, opIsN, isNone, opIn, opNotIn, opIx, atD_0, atD_1, atD_2, atD_3, putD_0, unNeg, tCa1, tCa2, tCaL1, caLen, caAbs, caMax2, caMin2, caSum, caMax, caMin, caSumT, caMaxT, caMinT, caAll, caTuple, caList, caInt, tIsi, isInt, isBool, isStr, isTuple, isList, notDict, sAsg, gSet, gTupD, gLstD, gsNil, gsCons, sPar, pNil, pD, pL, setAll, tCallD, aNil, aV, aO, argS, oixs, ndp, putO, tOpL, opCat, opRep, tSlD, slD, tSlL, oNo, oE, tRevD, iLstD, iTupD, iRange1, iRange2, iZipD, iZipM, finO, tTrue, Option.map, eqv_int, eqv_bool, eqv_none, shaped_int, shaped_bool, shaped_none, tLenRange, tSortSet, tLenSet, tLenSetP, tSortSetP, tCountL, tCountT, tIndexL, tIndexT, DL.tOrT, DL.tAndT, DL.tNotT, tSortRev, caSorted, iEnumL, iEnumT, tDGetV, tDGetD, tDGet2V, dictAt, sDPutV, sSetM, mDt, mDk, pM, tInN, tNotInN, tCallM, amM, amV, tListRg, iDk, iDv, iDi, tLDk, tLDv, tTruDk, mDt1, tFzM, tCall0D, tFldD, tFldR, fldD, fldL, obD, unH_hdl, obGet, setOb, putOD, sFldD, sFldL, tMethO, tAppF, tPopF, sRaise, keyB_2, keyB_3, keyB_4, decide_eq_true_eq, and_self, List.cons_append, List.nil_append, List.replicate, List.getElem?_cons_zero, List.getElem?_cons_succ, List.set_cons_zero, List.set_cons_succ, List.length_cons, List.length_nil, true_and, and_true, if_true, if_false, Bool.false_eq_true, List.contains_nil, Bool.not_false, Bool.not_true, Bool.and_self, Bool.and_true, Bool.true_and, decide_true, decide_false, beq_self_eq_true])
def tb_law_turning_k23 : TSd :=
  sSeq (sIf (tOrD (tBo (tOpD opLt (tV 1) (tK (.int 1)))) (tOrD (tBo (tOpD opGt (tV 1) (tV 0))) (tAndD (tBo (tOpD opIn (tV 0) (tTupD (dCons (tK (.int 2)) (dCons (tK (.int 4)) (dCons (tK (.int 6)) (dCons (tK (.int 8)) (dCons (tK (.int 10)) (dNil))))))))) (tBo (tOpD opEq (tV 1) (tV 0)))))) (sRet (tK (.str "NoPlan"))) (sNx))
      (sSeq (sPar [2, 3, 4] (pD (tFzD (tComp (iRange1 (tV 0)) (gSet 6) (tTrue) (tOpD opAdd (tV 0) (tV 6)) [6])) (pD (tFzD (tListRg (tV 0))) (pL (tLstD (dNil)) (pNil)))))
      (sSeq (sFor (iRange1 (tV 1)) (gSet 5) (sSeq (sExpr (tApp 4 (tCa1 caTuple (tFzD (tComp (iRange1 (tV 0)) (gSet 6) (tTrue) (tTupD (dCons (tV 6) (dCons (tOpD opIx (tV 2) (tV 6)) (dCons (tOpD opIx (tV 3) (tV 6)) (dNil))))) [6])))))
      (sSeq (sPar [2, 3] (pD (tFzD (tOpL opCat (tFzD (tSlL (tV 2) (oE (tUnD unNeg (tK (.int 1)))) (oNo))) (tFzD (tSlL (tV 2) (oNo) (oE (tUnD unNeg (tK (.int 1)))))))) (pD (tFzD (tOpL opCat (tFzD (tSlL (tV 3) (oE (tK (.int 1))) (oNo))) (tFzD (tSlL (tV 3) (oNo) (oE (tK (.int 1))))))) (pNil))))
      (sIf (tAndD (tBo (tOpD opIn (tV 0) (tTupD (dCons (tK (.int 2)) (dCons (tK (.int 4)) (dCons (tK (.int 6)) (dCons (tK (.int 8)) (dCons (tK (.int 10)) (dNil))))))))) (tBo (tOpD opEq (tOpD opMul (tK (.int 2)) (tOpD opAdd (tV 5) (tK (.int 1)))) (tV 0)))) (sSet 2 (tFzD (tOpL opCat (tFzD (tSlL (tV 2) (oE (tUnD unNeg (tK (.int 1)))) (oNo))) (tFzD (tSlL (tV 2) (oNo) (oE (tUnD unNeg (tK (.int 1))))))))) (sNx)))))
      (sRet (tCa1 caTuple (tVr 4)))))
def tb_law_all_meet_k23 : TSd :=
  sSeq (sSet 1 (tOpD opAdd (tV 0) (tOpD opSub (tV 0) (tOpD opMul (tOpD opDiv (tV 0) (tK (.int 2))) (tK (.int 2))))))
      (sSeq (sSetL 2 (tLstD (dNil)))
      (sSeq (sFor (iRange1 (tOpD opSub (tV 1) (tK (.int 1)))) (gSet 3) (sSeq (sSetL 4 (tLstD (dNil)))
      (sSeq (sFor (iRange1 (tV 0)) (gSet 5) (sFor (iRange2 (tOpD opAdd (tV 5) (tK (.int 1))) (tV 1)) (gSet 6) (sSeq (sSet 7 (tAndV (tOpD opEq (tOpD opMod (tOpD opSub (tOpD opAdd (tV 5) (tV 6)) (tOpD opMul (tK (.int 2)) (tV 3))) (tOpD opSub (tV 1) (tK (.int 1)))) (tK (.int 0))) (tOpD opLt (tV 6) (tOpD opSub (tV 1) (tK (.int 1))))))
      (sIf (tOrD (tTru (tV 7)) (tAndD (tBo (tOpD opEq (tV 6) (tOpD opSub (tV 1) (tK (.int 1))))) (tBo (tOpD opEq (tV 5) (tV 3))))) (sExpr (tExtd 4 (tOpL opRep (tFzD (tLstD (dCons (tTupD (dCons (tV 5) (dCons (tV 6) (dNil)))) (dNil)))) (tCa1 caInt (tOpD opLt (tV 6) (tV 0)))))) (sNx)))))
      (sExpr (tApp 2 (tCa1 caTuple (tVr 4)))))))
      (sRet (tCa1 caTuple (tVr 2)))))
def tb_law_k23 (sp_law_all_meet : SpD) (sp_law_same : SpD) (sp_all_meet : SpD) (sp_law_draw : SpD) (sp_plan_fault : SpD) (sp_law_told : SpD) (sp_law_turning : SpD) : TSd :=
  sSeq (sSetL 1 (tLstD (dNil)))
      (sSeq (sFor (iRange1 (tK (.int 6))) (gSet 2) (sSeq (sSet 3 (tOpD opAdd (tK (.int 1)) (tCallD sp_law_draw (aV (tV 0) (aO 1 (aV (tK (.int 10)) (aNil)))))))
      (sSeq (sSet 4 (tOpD opSub (tCallD sp_law_draw (aV (tV 0) (aO 1 (aV (tOpD opAdd (tV 3) (tK (.int 3))) (aNil))))) (tK (.int 1))))
      (sSeq (sSet 5 (tCallD sp_law_turning (aV (tV 3) (aV (tV 4) (aNil)))))
      (sSeq (sIf (tNotD (tTru (tCallD sp_law_same (aV (tCallD sp_law_told (aV (tV 3) (aV (tV 4) (aNil)))) (aV (tV 5) (aNil)))))) (sRet (tK (.bool false))) (sNx))
      (sSeq (sIf (tAndD (tBo (tOpD opNe (tV 5) (tK (.str "NoPlan")))) (tBo (tOpD opIsN (tCallD sp_plan_fault (aV (tV 5) (aNil))) (tK .none)))) (sRet (tK (.bool false))) (sNx))
      (sSeq (sSet 6 (tOpD opAdd (tK (.int 2)) (tCallD sp_law_draw (aV (tV 0) (aO 1 (aV (tK (.int 11)) (aNil)))))))
      (sSeq (sSet 7 (tCallD sp_all_meet (aV (tV 6) (aNil))))
      (sSeq (sIf (tNotD (tTru (tCallD sp_law_same (aV (tV 7) (aV (tCallD sp_law_all_meet (aV (tV 6) (aNil))) (aNil)))))) (sRet (tK (.bool false))) (sNx))
      (sSeq (sPar [8, 9] (pD (tFzD (tLstD (dNil))) (pD (tOpD opAdd (tOpD opSub (tV 6) (tK (.int 1))) (tOpD opSub (tV 6) (tOpD opMul (tOpD opDiv (tV 6) (tK (.int 2))) (tK (.int 2))))) (pNil))))
      (sSeq (sFor (iTupD (tV 7)) (gSet 10) (sSeq (sSet 8 (tFzD (tOpL opCat (tV 8) (tFzD (tCaL1 caList (tV 10))))))
      (sSeq (sSet 11 (tFzD (tOpL opCat (tFzD (tComp (iTupD (tV 10)) (gTupD 2 (gsCons (gSet 12) (gsCons (gSet 13) (gsNil)))) (tTrue) (tV 12) [12, 13])) (tFzD (tComp (iTupD (tV 10)) (gTupD 2 (gsCons (gSet 12) (gsCons (gSet 13) (gsNil)))) (tTrue) (tV 13) [12, 13])))))
      (sIf (tOrD (tBo (tOpD opNe (tLenSet (tV 11)) (tCa1 caLen (tV 11)))) (tBo (tOpD opNe (tCa1 caLen (tV 11)) (tOpD opMul (tOpD opDiv (tV 6) (tK (.int 2))) (tK (.int 2)))))) (sRet (tK (.bool false))) (sNx)))))
      (sIf (tOrD (tBo (tOpD opNe (tFzD (tCaL1 caSorted (tV 8))) (tFzD (tSortSetR (tV 8))))) (tOrD (tBo (tOpD opNe (tCa1 caLen (tV 8)) (tOpD opDiv (tOpD opMul (tV 6) (tOpD opSub (tV 6) (tK (.int 1)))) (tK (.int 2))))) (tBo (tOpD opNe (tCa1 caLen (tV 7)) (tV 9))))) (sRet (tK (.bool false))) (sNx)))))))))))))
      (sRet (tK (.bool true))))
local macro_rules | `(tactic| walk_at "st") => `(tactic| simp only [tSortSetR, tLenSet, rowsOfD, optQ, tV, tVr, tFzV, turnD, DL.wipeE, tK, tOpD, tUnD, tBo, tAndD, tOrD, tNotD, tIfE, DL.tAndV, DL.tOrV, DL.tNotV, tTru, truD, okLen, sSet, sSetL, sExpr, sRet, sIf, sNx, tTupD, dNil, dCons, tLstD, tFzD, tApp, tExtd, tPopAt, sSetIx, tIxO, tChainD, tChain3D, tRevT, caStr, opRepT, opAdd, opSub, opMul, opDiv, opMod, opPow, DL.opI, DL.opI0, opB0, opLt, opLe, opGt, opGtD, opLtD, opGe, opEq, opNe, opIs, opIsN, isNone, opIn, opNotIn, opIx, atD_0, atD_1, atD_2, atD_3, putD_0, unNeg, tCa1, tCa2, tCaL1, caLen, caAbs, caMax2, caMin2, caSum, caMax, caMin, caSumT, caMaxT, caMinT, caAll, caTuple, caList, caInt, tIsi, isInt, isBool, isStr, isTuple, isList, notDict, sAsg, gSet, gTupD, gLstD, gsNil, gsCons, sPar, pNil, pD, pL, setAll, tCallD, aNil, aV, aO, argS, oixs, ndp, putO, tOpL, opCat, opRep, tSlD, slD, tSlL, oNo, oE, tRevD, iLstD, iTupD, iRange1, iRange2, iZipD, iZipM, finO, tTrue, Option.map, eqv_int, eqv_bool, eqv_none, shaped_int, shaped_bool, shaped_none, tLenRange, tSortSet, tLenSet, tLenSetP, tSortSetP, tCountL, tCountT, tIndexL, tIndexT, DL.tOrT, DL.tAndT, DL.tNotT, tSortRev, caSorted, iEnumL, iEnumT, tDGetV, tDGetD, tDGet2V, dictAt, sDPutV, sSetM, mDt, mDk, pM, tInN, tNotInN, tCallM, amM, amV, tListRg, iDk, iDv, iDi, tLDk, tLDv, tTruDk, mDt1, tFzM, tCall0D, tFldD, tFldR, fldD, fldL, obD, unH_hdl, obGet, setOb, putOD, sFldD, sFldL, tMethO, tAppF, tPopF, sRaise, keyB_2, keyB_3, keyB_4, decide_eq_true_eq, and_self, List.cons_append, List.nil_append, List.replicate, List.getElem?_cons_zero, List.getElem?_cons_succ, List.set_cons_zero, List.set_cons_succ, List.length_cons, List.length_nil, true_and, and_true, if_true, if_false, Bool.false_eq_true, List.contains_nil, Bool.not_false, Bool.not_true, Bool.and_self, Bool.and_true, Bool.true_and, decide_true, decide_false, beq_self_eq_true])
def spLaw : SpD := fun ss Q => ∃ ns : List Int, ss = [.d (.list (ns.map PyData.int))] ∧ ns.length ≤ 63 ∧ Q (.bool true) []
theorem sh_law : ∀ ss QD, spLaw ss QD → ss.length = 1 ∧ mpos 0 ss = [] := by rintro ss QD ⟨ns, rfl, _⟩; exact ⟨rfl, rfl⟩
/-! ### turning by hand -/
theorem othersT_len (n : Nat) : ∀ k, (othersT n k).length = n
  | 0 => by unfold othersT; simp
  | k + 1 => by
    have ih := othersT_len n k
    have rl : ∀ l : List Int, (rotR l).length = l.length := fun l => by unfold rotR; rw [List.length_append, List.length_drop, List.length_take]; omega
    unfold othersT
    dsimp only
    split
    · rw [rl, rl, ih]
    · rw [rl, ih]
theorem setsR_len (n : Nat) : ∀ k, (setsR n k).length = n
  | 0 => by unfold setsR; simp
  | k + 1 => by
    have ih := setsR_len n k
    unfold setsR rotL
    rw [List.length_append, List.length_drop, List.length_take, ih]; omega
theorem turn_hand {n : Nat} {m : Int} (h1 : 1 ≤ n) (h2 : n ≤ 10) (h : turnOk n m = true) : (List.range m.toNat).map (handR n) = turnP n m.toNat ∧ noFault (turnP n m.toNat) = true := by
  have := chk_turn n (List.mem_range.mpr (by omega)) h1
  unfold chkTurn at this
  have hm : m.toNat < n + 1 := by
    unfold turnOk at h
    have := of_decide_eq_true h
    split at this <;> omega
  have hm2 : ((m.toNat : Nat) : Int) = m := by
    unfold turnOk at h
    have := of_decide_eq_true h
    omega
  have := (List.all_eq_true.mp this) m.toNat (List.mem_range.mpr hm)
  rw [hm2, h] at this
  simp only [Bool.not_true, Bool.false_or, Bool.and_eq_true, decide_eq_true_eq] at this
  exact ⟨this.1.symm, this.2⟩
theorem cut_neg1 {xs : List D} : cutD xs (some (-1)) none = xs.drop (xs.length - 1) := by
  unfold cutD
  rw [HT.sIx_none]
  have : HT.sIx xs.length 0 (some (-1)) = xs.length - 1 := by
    show (if (-1 : Int) < 0 then ((-1 : Int) + (xs.length : Int)).toNat else min (-1 : Int).toNat xs.length) = _
    rw [if_pos (by decide)]; omega
  rw [this, List.take_of_length_le (by rw [List.length_drop]; omega)]
theorem cut_neg2 {xs : List D} : cutD xs none (some (-1)) = xs.take (xs.length - 1) := by
  unfold cutD
  rw [HT.sIx_none]
  have : HT.sIx xs.length xs.length (some (-1)) = xs.length - 1 := by
    show (if (-1 : Int) < 0 then ((-1 : Int) + (xs.length : Int)).toNat else min (-1 : Int).toNat xs.length) = _
    rw [if_pos (by decide)]; omega
  rw [this]; rfl
theorem rotR_cut (l : List Int) : cutD (l.map PyData.int) (some (-1)) none ++ cutD (l.map PyData.int) none (some (-1)) = (rotR l).map PyData.int := by
  rw [cut_neg1, cut_neg2, List.length_map, ← List.map_drop, ← List.map_take, ← List.map_append]; rfl
theorem rotL_cut (l : List Int) : cutD (l.map PyData.int) (some 1) none ++ cutD (l.map PyData.int) none (some 1) = (rotL l).map PyData.int := by
  rw [cut_from (by decide), cut_to (by decide), ← List.map_drop, ← List.map_take, ← List.map_append]; rfl
theorem rotR_len (l : List Int) : (rotR l).length = l.length := by unfold rotR; rw [List.length_append, List.length_drop, List.length_take]; omega
theorem rotL_len (l : List Int) : (rotL l).length = l.length := by unfold rotL; rw [List.length_append, List.length_drop, List.length_take]; omega
def spLTurn : SpD := fun ss Q => ∃ (n : Nat) (m : Int), ss = [.d (.int (n : Int)), .d (.int m)] ∧ 1 ≤ n ∧ n ≤ 10 ∧ Q (toldT n m) []
theorem sh_law_turning : ∀ ss QD, spLTurn ss QD → ss.length = 2 ∧ mpos 0 ss = [] := by rintro ss QD ⟨_, _, rfl, _⟩; exact ⟨rfl, rfl⟩
theorem ev10 {n : Nat} (h1 : 1 ≤ n) (h2 : n ≤ 10) : ([PyData.int 2, .int 4, .int 6, .int 8, .int 10].any fun z => PyData.eqv z (.int (n : Int))) = evenT n := by
  have e : [PyData.int 2, .int 4, .int 6, .int 8, .int 10] = ([2, 4, 6, 8, 10] : List Int).map PyData.int := rfl
  rw [e]
  unfold evenT
  by_cases h : n % 2 = 0
  · rw [decide_eq_true h]
    refine (in_ints _ _).mpr ?_
    simp only [List.mem_cons, List.not_mem_nil, or_false]
    omega
  · rw [decide_eq_false h]
    refine Bool.eq_false_iff.mpr fun z => ?_
    have := (in_ints _ _).mp z
    simp only [List.mem_cons, List.not_mem_nil, or_false] at this
    omega
theorem rd_law_turning_k23 : ∀ ss QD, spLTurn ss QD → tb_law_turning_k23 { nx := fun E' => finO [] E' (QD .none), rt := fun d E' => finO [] E' (QD d) } (ss ++ List.replicate 5 .un) := by
  rintro ss QD ⟨n, m, rfl, hn1, hn, q⟩
  unfold toldT at q
  unfold tb_law_turning_k23
  refine seq_step fun R hR => ?_
  have bad : turnOk n m = false → QD (.str "NoPlan") [] := fun h => by
    rw [if_neg (by rw [h]; decide)] at q; exact q
  have fin : turnOk n m = true → R [.d (.int (n : Int)), .d (.int m), .un, .un, .un, .un, .un] := fun hok => by
    rw [if_pos hok] at q
    have hb : 1 ≤ m ∧ m ≤ (n : Int) := by
      unfold turnOk at hok
      have := of_decide_eq_true hok
      split at this <;> omega
    obtain ⟨k, rfl⟩ : ∃ k : Nat, m = (k : Int) := ⟨m.toNat, by omega⟩
    have hh := (turn_hand hn1 hn hok).1
    rw [Int.toNat_natCast] at q hh
    rw [← hh] at q
    clear hok hh
    have hk : k ≤ n := by omega
    refine hR _ ?_
    clear hR bad
    refine seq_step fun R hR => ?_
    walk_at "dl"
    refine comp_map (E1 := [.d (.int (n : Int)), .d (.int (k : Int)), .un, .un, .un, .un, .un]) (List.range n) (fun a : Nat => .int (a : Int)) (fun a : Nat => .int ((n : Int) + (a : Int))) (fun Q h => ⟨⟨by omega, by omega⟩, by rw [Int.toNat_natCast, rng_0]; exact h⟩) (un1 rfl) (small_line (by rw [List.length_range]; omega)) (fun x hx R4 hq => hq _ rfl) ?_
    have e0 : ((List.range n).map fun a : Nat => PyData.int ((n : Int) + (a : Int))) = (othersT n 0).map PyData.int := by unfold othersT; rw [List.map_map]; rfl
    rw [e0]
    walk_at "dl"
    refine ⟨⟨by omega, by omega⟩, Nat.zero_le _, hR _ ?_⟩
    clear hR
    rw [Int.toNat_natCast, rng_0, show ((List.range n).map fun s : Nat => PyData.int (s : Int)) = (setsR n 0).map PyData.int by unfold setsR; rw [List.map_map]; rfl]
    refine seq_step fun R hR => ?_
    refine for_inv (ds := rangeD 0 k) (E1 := [.d (.int (n : Int)), .d (.int (k : Int)), .d (.list ((othersT n 0).map PyData.int)), .d (.list ((setsR n 0).map PyData.int)), .ol [], .un, .un]) (fun Q h => ⟨⟨by omega, by omega⟩, by rw [Int.toNat_natCast]; exact h⟩)
      (fun i E => ∃ a5, E = [.d (.int (n : Int)), .d (.int (k : Int)), .d (.list ((othersT n i).map PyData.int)), .d (.list ((setsR n i).map PyData.int)), .ol (((List.range i).map (handR n)).map rowT), a5, .un]) ⟨_, rfl⟩ (fun i d E hd hE R2 hR2 => ?_) (fun E hE => ?_)
    · obtain ⟨a5, rfl⟩ := hE
      have hi : i < k := by have := (List.getElem?_eq_some_iff.mp hd).1; rwa [rangeD_length] at this
      rw [rangeD_get hi] at hd
      cases hd
      rw [Int.zero_add]
      walk_at "dl"
      have lo := othersT_len n i
      have ls := setsR_len n i
      refine seq_step fun R3 hR3 => ?_
      walk_at "dl"
      refine comp_map (E1 := [.d (.int (n : Int)), .d (.int (k : Int)), .d (.list ((othersT n i).map PyData.int)), .d (.list ((setsR n i).map PyData.int)), .ol (((List.range i).map (handR n)).map rowT), .d (.int (i : Int)), .un]) (List.range n) (fun a : Nat => .int (a : Int)) (fun a : Nat => e3T ((a : Int), (othersT n i).getD a 0, (setsR n i).getD a 0)) (fun Q h => ⟨⟨by omega, by omega⟩, by rw [Int.toNat_natCast, rng_0]; exact h⟩) (un1 rfl) (small_line (by rw [List.length_range]; omega)) (fun x hx R4 hq => ?_) ?_
      · have hx := List.mem_range.mp hx
        have gt : ∀ l : List Int, l.length = n → (l.map PyData.int)[((x : Int)).toNat]? = some (.int (l.getD x 0)) := fun l hl => by
          rw [Int.toNat_natCast, List.getElem?_map, List.getElem?_eq_getElem (by omega), List.getD_eq_getElem?_getD, List.getElem?_eq_getElem (by omega)]
          rfl
        walk_at "dl"
        refine atD_at (by omega) (gt _ lo) ?_
        refine atD_at (by omega) (gt _ ls) ?_
        exact ⟨small_line (by decide), hq _ rfl⟩
      have hrow : ((List.range n).map fun a : Nat => e3T ((a : Int), (othersT n i).getD a 0, (setsR n i).getD a 0)) = (handR n i).map e3T := by
        unfold handR
        rw [List.map_map]; rfl
      rw [hrow]
      walk_at "dl"
      refine ⟨Nat.lt_of_lt_of_le (m := 10000) (by rw [List.length_map, List.length_map, List.length_range]; omega) (small_line (by decide)), hR3 _ ?_⟩
      clear hR3
      refine seq_step fun R3 hR3 => ?_
      walk_at "dl"
      rw [← List.length_append, ← List.length_append, rotR_cut, rotL_cut]
      refine ⟨small_line (by rw [List.length_map, rotR_len]; omega), small_line (by rw [List.length_map, rotL_len]; omega), hR3 _ ?_⟩
      clear hR3
      have hcol : ((List.range i).map (handR n)).map rowT ++ [PyData.tuple ((handR n i).map e3T)] = ((List.range (i + 1)).map (handR n)).map rowT := by
        rw [List.range_succ, List.map_append, List.map_append]; rfl
      rw [hcol]
      walk_at "dl"
      refine ⟨small_line (by decide), shaped_of (n := 1) rfl, ?_⟩
      rw [ev10 hn1 hn]
      have hs : setsR n (i + 1) = rotL (setsR n i) := rfl
      have ho : othersT n (i + 1) = if evenT n = true ∧ 2 * (i + 1) = n then rotR (rotR (othersT n i)) else rotR (othersT n i) := rfl
      have fin2 : ∀ o, o = othersT n (i + 1) → R2 [.d (.int (n : Int)), .d (.int (k : Int)), .d (.list (o.map PyData.int)), .d (.list ((rotL (setsR n i)).map PyData.int)), .ol (((List.range (i + 1)).map (handR n)).map rowT), .d (.int (i : Int)), .un] := fun o e => hR2 _ ⟨.d (.int (i : Int)), by rw [e, hs]⟩
      cases he : evenT n with
      | true =>
        rw [if_pos rfl]
        refine ⟨cmul_small (by decide) (by omega), ?_⟩
        rw [he] at ho
        by_cases h : 2 * (i + 1) = n
        · rw [if_pos (by omega), ← List.length_append, rotR_cut]
          rw [if_pos ⟨rfl, h⟩] at ho
          exact ⟨small_line (by rw [List.length_map, rotR_len, rotR_len]; omega), fin2 _ ho.symm⟩
        · rw [if_neg (by omega)]
          rw [if_neg (fun z => h z.2)] at ho
          exact fin2 _ ho.symm
      | false =>
        rw [if_neg Bool.false_ne_true]
        rw [he, if_neg (fun z => Bool.false_ne_true z.1)] at ho
        exact fin2 _ ho.symm
    · obtain ⟨a5, rfl⟩ := hE
      rw [rangeD_length]
      refine hR _ ?_
      walk_at "dl"
      exact q
  walk_at "dl"
  by_cases h1 : m < 1
  · rw [if_pos h1]
    refine bad ?_
    unfold turnOk
    exact decide_eq_false fun z => by omega
  rw [if_neg h1]
  by_cases h2 : (n : Int) < m
  · rw [if_pos h2]
    refine bad ?_
    unfold turnOk
    exact decide_eq_false fun z => by have := z.2; split at this <;> omega
  rw [if_neg h2]
  refine ⟨small_line (by decide), shaped_of (n := 1) rfl, ?_⟩
  rw [ev10 hn1 hn]
  cases he : evenT n with
  | true =>
    rw [if_pos rfl]
    by_cases h3 : m = (n : Int)
    · rw [if_pos h3]
      refine bad ?_
      unfold turnOk
      rw [he]
      exact decide_eq_false fun z => by have := z.2; rw [if_pos rfl] at this; omega
    · rw [if_neg h3]
      refine fin ?_
      unfold turnOk
      rw [he]
      exact decide_eq_true ⟨by omega, by rw [if_pos rfl]; omega⟩
  | false =>
    rw [if_neg Bool.false_ne_true]
    refine fin ?_
    unfold turnOk
    rw [he]
    exact decide_eq_true ⟨by omega, by rw [if_neg Bool.false_ne_true]; omega⟩
def mrow (p k one j : Nat) : List Card := (List.range j).flatMap fun s : Nat => if meetC p k one (s + (one + 1)) = true then [((one : Int), ((s + (one + 1) : Nat) : Int))] else []
theorem mrow_succ (p k one j : Nat) : mrow p k one (j + 1) = mrow p k one j ++ (if meetC p k one (j + (one + 1)) = true then [((one : Int), ((j + (one + 1) : Nat) : Int))] else []) := by
  unfold mrow
  rw [List.range_succ, List.flatMap_append]; simp
theorem mrow_len (p k one : Nat) : ∀ j, (mrow p k one j).length ≤ j
  | 0 => by unfold mrow; simp
  | j + 1 => by
    rw [mrow_succ, List.length_append]
    have := mrow_len p k one j
    split <;> simp <;> omega
def mrows (p k i : Nat) : List Card := (List.range i).flatMap fun one : Nat => mrow p k one (wholeN p - (one + 1))
theorem mrows_succ (p k i : Nat) : mrows p k (i + 1) = mrows p k i ++ mrow p k i (wholeN p - (i + 1)) := by
  unfold mrows
  rw [List.range_succ, List.flatMap_append]; simp
theorem mrows_len (p k : Nat) : ∀ i, (mrows p k i).length ≤ 100 * i ∨ 100 < wholeN p
  | 0 => by unfold mrows; simp
  | i + 1 => by
    rw [mrows_succ, List.length_append]
    have := mrow_len p k i (wholeN p - (i + 1))
    rcases mrows_len p k i with h | h
    · by_cases z : 100 < wholeN p
      · exact .inr z
      · exact .inl (by omega)
    · exact .inr h
def spLMeet : SpD := fun ss Q => ∃ p : Nat, ss = [.d (.int (p : Int))] ∧ 2 ≤ p ∧ p ≤ 12 ∧ Q (.tuple ((meetP p).map handD)) []
theorem sh_law_all_meet : ∀ ss QD, spLMeet ss QD → ss.length = 1 ∧ mpos 0 ss = [] := by rintro ss QD ⟨_, rfl, _⟩; exact ⟨rfl, rfl⟩
theorem meet_chk {p : Nat} (h1 : 2 ≤ p) (h2 : p ≤ 12) : meetP p = handM p ∧ (∀ r ∈ meetP p, (seatL r).Nodup ∧ (seatL r).length = p / 2 * 2) ∧ (meetP p).flatten.Nodup ∧ (meetP p).flatten.length = p * (p - 1) / 2 ∧ (meetP p).length = p - 1 + (p - p / 2 * 2) := by
  have := chk_meet p (List.mem_range.mpr (by omega)) h1
  unfold chkMeet at this
  simp only [Bool.and_eq_true, decide_eq_true_eq, List.all_eq_true] at this
  exact ⟨this.1.1.1.1, this.1.1.1.2, this.1.1.2, this.1.2, this.2⟩
theorem rd_law_all_meet_k23 : ∀ ss QD, spLMeet ss QD → tb_law_all_meet_k23 { nx := fun E' => finO [] E' (QD .none), rt := fun d E' => finO [] E' (QD d) } (ss ++ List.replicate 7 .un) := by
  rintro ss QD ⟨p, rfl, hp2, hp, q⟩
  rw [(meet_chk hp2 hp).1] at q
  have hw : (p : Int) + ((p : Int) - (p : Int) / 2 * 2) = (wholeN p : Int) := by unfold wholeN; omega
  have hwb : 2 ≤ wholeN p ∧ wholeN p ≤ 13 ∧ p ≤ wholeN p := by unfold wholeN; omega
  unfold tb_law_all_meet_k23
  refine seq_step fun R hR => ?_
  walk_at "dl"
  rw [hw]
  refine ⟨cdiv_small (by decide) (by decide), cmul_small (by omega) (by decide), hR _ ?_⟩
  clear hR
  refine seq_step fun R hR => ?_
  walk_at "dl"
  refine ⟨Nat.zero_le _, hR _ ?_⟩
  clear hR
  refine seq_step fun R hR => ?_
  refine for_inv (ds := rangeD 0 (wholeN p - 1)) (E1 := [.d (.int (p : Int)), .d (.int (wholeN p : Int)), .ol [], .un, .un, .un, .un, .un]) (fun Q h => by walk_at "dl"; exact ⟨⟨by omega, by omega⟩, by rw [show ((wholeN p : Int) - 1).toNat = wholeN p - 1 by omega]; exact h⟩)
    (fun i E => ∃ a3 a4 a5 a6 a7, E = [.d (.int (p : Int)), .d (.int (wholeN p : Int)), .ol (((List.range i).map (handMR p)).map handD), a3, a4, a5, a6, a7]) ⟨_, _, _, _, _, rfl⟩ (fun i d E hd hE R2 hR2 => ?_) (fun E hE => ?_)
  · obtain ⟨a3, a4, a5, a6, a7, rfl⟩ := hE
    have hi : i < wholeN p - 1 := by have := (List.getElem?_eq_some_iff.mp hd).1; rwa [rangeD_length] at this
    rw [rangeD_get hi] at hd
    cases hd
    rw [Int.zero_add]
    walk_at "dl"
    refine seq_step fun R3 hR3 => ?_
    walk_at "dl"
    refine ⟨Nat.zero_le _, hR3 _ ?_⟩
    clear hR3
    refine seq_step fun R3 hR3 => ?_
    refine for_inv (ds := rangeD 0 p) (E1 := [.d (.int (p : Int)), .d (.int (wholeN p : Int)), .ol (((List.range i).map (handMR p)).map handD), .d (.int (i : Int)), .ol [], a5, a6, a7]) (fun Q h => ⟨⟨by omega, by omega⟩, by rw [Int.toNat_natCast]; exact h⟩)
      (fun j E => ∃ a5 a6 a7, E = [.d (.int (p : Int)), .d (.int (wholeN p : Int)), .ol (((List.range i).map (handMR p)).map handD), .d (.int (i : Int)), .ol ((mrows p i j).map cE), a5, a6, a7]) ⟨_, _, _, rfl⟩ (fun j d E hd hE R4 hR4 => ?_) (fun E hE => ?_)
    · obtain ⟨b5, b6, b7, rfl⟩ := hE
      have hj : j < p := by have := (List.getElem?_eq_some_iff.mp hd).1; rwa [rangeD_length] at this
      rw [rangeD_get hj] at hd
      cases hd
      rw [Int.zero_add]
      walk_at "dl"
      have hml : (mrows p i j).length ≤ 2000 := by rcases mrows_len p i j with h | h <;> omega
      refine for_inv (ds := rangeD ((j : Int) + 1) (wholeN p - (j + 1))) (E1 := [.d (.int (p : Int)), .d (.int (wholeN p : Int)), .ol (((List.range i).map (handMR p)).map handD), .d (.int (i : Int)), .ol ((mrows p i j).map cE), .d (.int (j : Int)), b6, b7]) (fun Q h => ?_)
        (fun l E => ∃ a6 a7, E = [.d (.int (p : Int)), .d (.int (wholeN p : Int)), .ol (((List.range i).map (handMR p)).map handD), .d (.int (i : Int)), .ol ((mrows p i j ++ mrow p i j l).map cE), .d (.int (j : Int)), a6, a7]) ⟨b6, b7, by unfold mrow; simp⟩ (fun l d E hd hE R5 hR5 => ?_) (fun E hE => ?_)
      · walk_at "dl"
        refine ⟨⟨by omega, by omega, by omega, by omega⟩, ?_⟩
        rw [show ((wholeN p : Int) - ((j : Int) + 1)).toNat = wholeN p - (j + 1) by omega]
        exact h
      · obtain ⟨c6, c7, rfl⟩ := hE
        have hl : l < wholeN p - (j + 1) := by have := (List.getElem?_eq_some_iff.mp hd).1; rwa [rangeD_length] at this
        rw [rangeD_get hl] at hd
        cases hd
        have ho : (j : Int) + 1 + (l : Int) = ((l + (j + 1) : Nat) : Int) := by omega
        rw [ho]
        have hln := mrow_len p i j l
        have fin : ∀ xs, xs = mrows p i j ++ mrow p i j (l + 1) → ∀ a7, R5 [.d (.int (p : Int)), .d (.int (wholeN p : Int)), .ol (((List.range i).map (handMR p)).map handD), .d (.int (i : Int)), .ol (xs.map cE), .d (.int (j : Int)), .d (.int ((l + (j + 1) : Nat) : Int)), a7] := fun xs e a7 => by subst e; exact hR5 _ ⟨_, _, rfl⟩
        rw [mrow_succ] at fin
        generalize l + (j + 1) = o at *
        walk_at "dl"
        refine seq_step fun R6 hR6 => ?_
        have st : R6 [.d (.int (p : Int)), .d (.int (wholeN p : Int)), .ol (((List.range i).map (handMR p)).map handD), .d (.int (i : Int)), .ol ((mrows p i j ++ mrow p i j l).map cE), .d (.int (j : Int)), .d (.int (o : Int)), .d (.bool (decide (((j : Int) + (o : Int) - 2 * (i : Int)) % ((wholeN p : Int) - 1) = 0 ∧ (o : Int) < (wholeN p : Int) - 1)))] := by
          refine hR6 _ ?_
          clear hR6
          have hbase : (mrows p i j ++ mrow p i j l).length ≤ 3000 := by rw [List.length_append]; omega
          have good : (((j : Int) + (o : Int) - 2 * (i : Int)) % ((wholeN p : Int) - 1) = 0 ∧ (o : Int) < (wholeN p : Int) - 1 ∨ (o : Int) = (wholeN p : Int) - 1 ∧ j = i) → ∀ a7, 0 + 1 + 1 ≤ sizeLine ∧ 0 + 1 ≤ sizeLine ∧ ((-2 ^ 63 ≤ if (o : Int) < (p : Int) then (1 : Int) else 0) ∧ (if (o : Int) < (p : Int) then (1 : Int) else 0) < 2 ^ 63 ∧ (0 + 1) * (if (o : Int) < (p : Int) then (1 : Int) else 0).toNat ≤ sizeLine) ∧
              ((mrows p i j ++ mrow p i j l).map cE).length + (List.replicate (if (o : Int) < (p : Int) then (1 : Int) else 0).toNat [PyData.tuple [.int (j : Int), .int (o : Int)]]).flatten.length ≤ sizeLine ∧
              R5 [.d (.int (p : Int)), .d (.int (wholeN p : Int)), .ol (((List.range i).map (handMR p)).map handD), .d (.int (i : Int)), .ol ((mrows p i j ++ mrow p i j l).map cE ++ (List.replicate (if (o : Int) < (p : Int) then (1 : Int) else 0).toNat [PyData.tuple [.int (j : Int), .int (o : Int)]]).flatten), .d (.int (j : Int)), .d (.int (o : Int)), a7] := fun hC a7 => by
            refine ⟨small_line (by decide), small_line (by decide), ?_⟩
            by_cases hop : (o : Int) < (p : Int)
            · have hm : meetC p i j o = true := by
                unfold meetC
                rw [decide_eq_true hC, decide_eq_true (by omega)]; rfl
              have f := fin _ rfl a7
              rw [if_pos hm, ← List.append_assoc, List.map_append (l₁ := mrows p i j ++ mrow p i j l)] at f
              rw [if_pos hop]
              refine ⟨⟨by decide, by decide, small_line (by decide)⟩, small_line ?_, f⟩
              rw [List.length_map]
              show _ + 1 ≤ _
              omega
            · have hm : ¬ meetC p i j o = true := by
                unfold meetC
                rw [decide_eq_false (show ¬ o < p by omega), Bool.and_false]; decide
              have f := fin _ rfl a7
              rw [if_neg hm, List.append_nil] at f
              rw [if_neg hop]
              refine ⟨⟨by decide, by decide, small_line (by decide)⟩, small_line ?_, ?_⟩
              · rw [List.length_map]
                show _ + 0 ≤ _
                omega
              · show R5 [_, _, _, _, .ol (_ ++ []), _, _, _]
                rw [List.append_nil]; exact f
          have none_ : ¬ (((j : Int) + (o : Int) - 2 * (i : Int)) % ((wholeN p : Int) - 1) = 0 ∧ (o : Int) < (wholeN p : Int) - 1 ∨ (o : Int) = (wholeN p : Int) - 1 ∧ j = i) → ∀ a7, R5 [.d (.int (p : Int)), .d (.int (wholeN p : Int)), .ol (((List.range i).map (handMR p)).map handD), .d (.int (i : Int)), .ol ((mrows p i j ++ mrow p i j l).map cE), .d (.int (j : Int)), .d (.int (o : Int)), a7] := fun hC a7 => by
            have hm : ¬ meetC p i j o = true := by
              unfold meetC
              rw [decide_eq_false hC, Bool.false_and]; decide
            have f := fin _ rfl a7
            rw [if_neg hm, List.append_nil] at f
            exact f
          walk_at "dl"
          by_cases hA : ((j : Int) + (o : Int) - 2 * (i : Int)) % ((wholeN p : Int) - 1) = 0 ∧ (o : Int) < (wholeN p : Int) - 1
          · rw [if_pos hA]
            exact good (.inl hA) _
          · rw [if_neg hA]
            by_cases hB : (o : Int) = (wholeN p : Int) - 1
            · rw [if_pos hB]
              by_cases hC : (j : Int) = (i : Int)
              · rw [if_pos hC]
                exact good (.inr ⟨hB, by omega⟩) _
              · rw [if_neg hC]
                exact none_ (fun z => z.elim hA fun z => hC (by omega)) _
            · rw [if_neg hB]
              exact none_ (fun z => z.elim hA fun z => hB z.1) _
        walk_at "dl"
        refine ⟨cmul_small (by decide) (by omega), by omega, ?_⟩
        by_cases hA : ((j : Int) + (o : Int) - 2 * (i : Int)) % ((wholeN p : Int) - 1) = 0
        · rw [decide_eq_true hA]
          show R6 _
          rw [show decide (((j : Int) + (o : Int) - 2 * (i : Int)) % ((wholeN p : Int) - 1) = 0 ∧ (o : Int) < (wholeN p : Int) - 1) = decide ((o : Int) < (wholeN p : Int) - 1) from decide_eq_decide.mpr ⟨fun z => z.2, fun z => ⟨hA, z⟩⟩] at st
          exact st
        · rw [decide_eq_false hA]
          show R6 _
          rw [decide_eq_false (fun z => hA z.1)] at st
          exact st
      · obtain ⟨c6, c7, rfl⟩ := hE
        rw [rangeD_length]
        exact hR4 _ ⟨_, _, _, by rw [mrows_succ]⟩
    · obtain ⟨b5, b6, b7, rfl⟩ := hE
      rw [rangeD_length]
      refine hR3 _ ?_
      clear hR3
      walk_at "dl"
      refine ⟨Nat.lt_of_lt_of_le (m := 10000) (by rw [List.length_map, List.length_map, List.length_range]; omega) (small_line (by decide)), hR2 _ ⟨.d (.int (i : Int)), .ol ((mrows p i p).map cE), b5, b6, b7, ?_⟩⟩
      rw [List.range_succ, List.map_append, List.map_append]
      rfl
  · obtain ⟨a3, a4, a5, a6, a7, rfl⟩ := hE
    rw [rangeD_length]
    refine hR _ ?_
    walk_at "dl"
    exact q
theorem okP {p : List (List T3)} (h : p.length ≤ 1000) (hr : ∀ r ∈ p, r.length ≤ 1000) : sameOk 3 (planD p) = true := by
  show ((p.map rowT).all (sameOk 2) && decide ((p.map rowT).length ≤ 10000000)) = true
  rw [Bool.and_eq_true]
  refine ⟨?_, decide_eq_true (by rw [List.length_map]; omega)⟩
  rw [List.all_map, List.all_eq_true]
  intro r hrr
  show ((r.map e3T).all (sameOk 1) && decide ((r.map e3T).length ≤ 10000000)) = true
  rw [Bool.and_eq_true]
  refine ⟨?_, decide_eq_true (by rw [List.length_map]; have := hr r hrr; omega)⟩
  rw [List.all_map, List.all_eq_true]
  intro t _
  rfl
theorem okM {p : List (List Card)} (h : p.length ≤ 1000) (hr : ∀ r ∈ p, r.length ≤ 1000) : sameOk 3 (.tuple (p.map handD)) = true := by
  show ((p.map handD).all (sameOk 2) && decide ((p.map handD).length ≤ 10000000)) = true
  rw [Bool.and_eq_true]
  refine ⟨?_, decide_eq_true (by rw [List.length_map]; omega)⟩
  rw [List.all_map, List.all_eq_true]
  intro r hrr
  show ((r.map cE).all (sameOk 1) && decide ((r.map cE).length ≤ 10000000)) = true
  rw [Bool.and_eq_true]
  refine ⟨?_, decide_eq_true (by rw [List.length_map]; have := hr r hrr; omega)⟩
  rw [List.all_map, List.all_eq_true]
  intro t _
  rfl
theorem turnP_small {n m : Nat} (h1 : n ≤ 100) (h2 : m ≤ 100) : (turnP n m).length ≤ 1000 ∧ ∀ r ∈ turnP n m, r.length ≤ 1000 := by
  unfold turnP
  refine ⟨by rw [List.length_map, List.length_range]; omega, fun r hr => ?_⟩
  obtain ⟨k, _, rfl⟩ := List.mem_map.mp hr
  unfold turnR
  rw [List.length_map, List.length_range]; omega
theorem shP (p : List (List T3)) : SeqAt.shaped (planD p) = true := shaped_of (n := 3) (by
  show (p.map rowT).all (shOk 2) = true
  rw [List.all_map, List.all_eq_true]
  intro r _
  show (r.map e3T).all (shOk 1) = true
  rw [List.all_map, List.all_eq_true]
  intro t _
  rfl)
theorem fault_none {p : List (List T3)} (h : noFault p = true) : faultD p = .none := by
  unfold noFault at h
  unfold faultD
  split at h
  · cases h
  · rename_i e; rw [e]
theorem fl_take2 {α : Type} {l : List (List α)} {i : Nat} {a : List α} (h : l[i]? = some a) : (l.take (i + 1)).flatten = (l.take i).flatten ++ a := by
  rw [List.take_succ, h, List.flatten_append]; simp
theorem fl_len2 {α : Type} {m : Nat} : ∀ {l : List (List α)}, (∀ r ∈ l, r.length ≤ m) → l.flatten.length ≤ m * l.length
  | [], _ => by simp
  | a :: l, h => by
    rw [List.flatten_cons, List.length_append, List.length_cons, Nat.mul_add]
    have := h a (List.mem_cons_self ..)
    have := fl_len2 (l := l) fun r hr => h r (List.mem_cons_of_mem _ hr)
    omega
def c2l (c : Card) : List Int := [c.1, c.2]
theorem c2l_of {zs : List (List Int)} {l : List Card} (h : ∀ z ∈ zs, z ∈ l.map c2l) : ∃ cs : List Card, zs = cs.map c2l ∧ ∀ c ∈ cs, c ∈ l := by
  induction zs with
  | nil => exact ⟨[], rfl, fun c h => nomatch h⟩
  | cons z zs ih =>
    obtain ⟨cs, rfl, hc⟩ := ih fun y hy => h y (List.mem_cons_of_mem _ hy)
    obtain ⟨c, hc1, rfl⟩ := List.mem_map.mp (h _ (List.mem_cons_self ..))
    refine ⟨c :: cs, rfl, fun y hy => ?_⟩
    rcases List.mem_cons.mp hy with rfl | hy
    · exact hc1
    · exact hc y hy
theorem sortC_pm {l m : List Card} (p : l.Perm m) : sortC l = sortC m := ((sortC_perm l).trans (p.trans (sortC_perm m).symm)).eq_of_pairwise (fun a b _ _ h1 h2 => le2_antisymm h1 h2) (sortC_up l) (sortC_up m)
theorem seat_met (r : List Card) : (r.map fun c => PyData.int c.1) ++ (r.map fun c => PyData.int c.2) = (seatL r).map PyData.int := by
  unfold seatL
  rw [List.map_append, List.map_map, List.map_map]; rfl
theorem rd_law_k23 : ∀ ss QD, spLaw ss QD → tb_law_k23 spLMeet (spSame 3) spMeet spDraw spFault spToldT spLTurn { nx := fun E' => finO [] E' (QD .none), rt := fun d E' => finO [] E' (QD d) } (ss ++ List.replicate 13 .un) := by
  rintro ss QD ⟨ns, rfl, hn, q⟩
  unfold tb_law_k23
  refine seq_step fun R hR => ?_
  walk_at "dl"
  refine ⟨Nat.zero_le _, hR _ ?_⟩
  clear hR
  refine seq_step fun R hR => ?_
  refine for_inv (ds := rangeD 0 6) (E1 := [.d (.list (ns.map PyData.int)), .ol [], .un, .un, .un, .un, .un, .un, .un, .un, .un, .un, .un, .un]) (fun Q h => ⟨⟨by decide, by decide⟩, h⟩)
    (fun i E => ∃ t a2 a3 a4 a5 a6 a7 a8 a9 a10 a11, E = [.d (.list (ns.map PyData.int)), .ol t, a2, a3, a4, a5, a6, a7, a8, a9, a10, a11, .un, .un] ∧ TownOk t (100 * i)) ⟨_, _, _, _, _, _, _, _, _, _, _, rfl, by decide, .inl rfl⟩ (fun i d E hd hE R2 hR2 => ?_) (fun E hE => ?_)
  · obtain ⟨t, a2, a3, a4, a5, a6, a7, a8, a9, a10, a11, rfl, ht⟩ := hE
    have hi : i < 6 := by have := (List.getElem?_eq_some_iff.mp hd).1; rwa [rangeD_length] at this
    rw [rangeD_get hi] at hd
    cases hd
    walk_at "dl"
    refine seq_step fun R3 hR3 => ?_
    walk_at "dl"
    refine ⟨ns, t, 10, _, rfl, by decide, hn, ht, by omega, fun r t1 h0 h1 ht1 => ?_⟩
    walk_at "dl"
    refine hR3 _ ?_
    clear hR3
    obtain ⟨n, rfl, hn1, hn10⟩ : ∃ n : Nat, r = (n : Int) - 1 ∧ 1 ≤ n ∧ n ≤ 10 := ⟨r.toNat + 1, by omega, by omega, by omega⟩
    rw [show 1 + ((n : Int) - 1) = (n : Int) by omega]
    refine seq_step fun R3 hR3 => ?_
    walk_at "dl"
    refine ⟨ns, t1, _, _, rfl, by omega, hn, ht1, by omega, fun m' t2 hm0 hm1 ht2 => ?_⟩
    walk_at "dl"
    refine hR3 _ ?_
    clear hR3
    generalize hm : m' - 1 = m
    refine seq_step fun R3 hR3 => ?_
    walk_at "dl"
    refine ⟨n, m, rfl, hn1, hn10, ?_⟩
    walk_at "dl"
    refine hR3 _ ?_
    clear hR3
    have okT : sameOk 3 (toldT n m) = true := by
      unfold toldT
      split
      · obtain ⟨z1, z2⟩ := turnP_small (n := n) (m := m.toNat) (by omega) (by omega)
        exact okP z1 z2
      · decide +kernel
    refine seq_step fun R3 hR3 => ?_
    walk_at "dl"
    refine ⟨n, m, rfl, hn1, by omega, ?_⟩
    walk_at "dl"
    refine ⟨_, rfl, okT, ?_⟩
    walk_at "dl"
    refine hR3 _ ?_
    clear hR3
    refine seq_step fun R3 hR3 => ?_
    have go : ∀ dd : D, R3 [.d (.list (ns.map PyData.int)), .ol t2, .d (.int (0 + (i : Int))), .d (.int (n : Int)), .d (.int m), .d dd, a6, a7, a8, a9, a10, a11, .un, .un] := fun dd => by
      refine hR3 _ ?_
      clear hR3
      refine seq_step fun R3 hR3 => ?_
      walk_at "dl"
      refine ⟨ns, t2, 11, _, rfl, by decide, hn, ht2, by omega, fun r t3 h0 h1 ht3 => ?_⟩
      walk_at "dl"
      refine hR3 _ ?_
      clear hR3
      obtain ⟨p, hp, hp2, hp12⟩ : ∃ p : Nat, 2 + r = (p : Int) ∧ 2 ≤ p ∧ p ≤ 12 := ⟨(2 + r).toNat, by omega, by omega, by omega⟩
      rw [hp]
      obtain ⟨c1, c2, c3, c4, c5⟩ := meet_chk hp2 hp12
      refine seq_step fun R3 hR3 => ?_
      walk_at "dl"
      refine ⟨p, rfl, hp2, by omega, ?_⟩
      walk_at "dl"
      refine hR3 _ ?_
      clear hR3
      refine seq_step fun R3 hR3 => ?_
      have rl : ∀ r ∈ meetP p, r.length ≤ 1000 := fun r hr => by
        have := (c2 r hr).2
        unfold seatL at this
        rw [List.length_append, List.length_map] at this
        omega
      walk_at "dl"
      refine ⟨p, rfl, hp2, hp12, ?_⟩
      walk_at "dl"
      refine ⟨_, rfl, okM (by omega) rl, ?_⟩
      walk_at "dl"
      refine hR3 _ ?_
      clear hR3
      refine seq_step fun R3 hR3 => ?_
      walk_at "dl"
      refine ⟨Nat.zero_le _, cdiv_small (by decide) (by decide), cmul_small (by omega) (by decide), hR3 _ ?_⟩
      clear hR3
      generalize hls : (p : Int) - 1 + ((p : Int) - (p : Int) / 2 * 2) = ls
      generalize hP : meetP p = P at *
      have hPl : P.length ≤ 30 := by omega
      refine seq_step fun R3 hR3 => ?_
      refine for_inv (ds := P.map handD) (E1 := [.d (.list (ns.map PyData.int)), .ol t3, .d (.int (0 + (i : Int))), .d (.int (n : Int)), .d (.int m), .d dd, .d (.int (p : Int)), .d (.tuple (P.map handD)), .d (.list []), .d (.int ls), a10, a11, .un, .un]) (fun Q h => h)
        (fun j E => ∃ a10 a11, E = [.d (.list (ns.map PyData.int)), .ol t3, .d (.int (0 + (i : Int))), .d (.int (n : Int)), .d (.int m), .d dd, .d (.int (p : Int)), .d (.tuple (P.map handD)), .d (.list ((P.take j).flatten.map cE)), .d (.int ls), a10, a11, .un, .un]) ⟨_, _, rfl⟩ (fun j d E hd hE R4 hR4 => ?_) (fun E hE => ?_)
      · obtain ⟨b10, b11, rfl⟩ := hE
        rw [List.getElem?_map] at hd
        obtain ⟨row, hrow, rfl⟩ := Option.map_eq_some_iff.mp hd
        have hmem := List.mem_of_getElem? hrow
        obtain ⟨s1, s2⟩ := c2 row hmem
        have hfl := fl_take2 hrow
        have hflen : (P.take j).flatten.length ≤ 30000 := by
          have := fl_len2 (m := 1000) (l := P.take j) fun r hr => rl r (List.mem_of_mem_take hr)
          rw [List.length_take] at this
          have : min j P.length ≤ 30 := by omega
          omega
        have hrl := rl row hmem
        walk_at "dl"
        refine seq_step fun R5 hR5 => ?_
        walk_at "dl"
        rw [show handD row = .tuple (row.map cE) from rfl]
        dsimp only
        rw [← List.map_append, ← hfl]
        refine ⟨small_line (by rw [List.length_map, List.length_map]; omega), hR5 _ ?_⟩
        clear hR5
        generalize (P.take (j + 1)).flatten = mt at *
        refine seq_step fun R5 hR5 => ?_
        walk_at "dl"
        refine comp_map (E1 := [.d (.list (ns.map PyData.int)), .ol t3, .d (.int (0 + (i : Int))), .d (.int (n : Int)), .d (.int m), .d dd, .d (.int (p : Int)), .d (.tuple (P.map handD)), .d (.list (mt.map cE)), .d (.int ls), .d (.tuple (row.map cE)), b11, .un, .un]) row cE (fun c => .int c.1) (fun Q h => h) (un2 rfl rfl) (small_line (by omega)) (fun c hc R6 hq => by rw [show cE c = .tuple [.int c.1, .int c.2] from rfl]; walk_at "dl"; exact hq _ rfl) ?_
        refine comp_map (E1 := [.d (.list (ns.map PyData.int)), .ol t3, .d (.int (0 + (i : Int))), .d (.int (n : Int)), .d (.int m), .d dd, .d (.int (p : Int)), .d (.tuple (P.map handD)), .d (.list (mt.map cE)), .d (.int ls), .d (.tuple (row.map cE)), b11, .un, .un]) row cE (fun c => .int c.2) (fun Q h => h) (un2 rfl rfl) (small_line (by omega)) (fun c hc R6 hq => by rw [show cE c = .tuple [.int c.1, .int c.2] from rfl]; walk_at "dl"; exact hq _ rfl) ?_
        walk_at "dl"
        rw [← List.length_append, seat_met, List.length_map]
        refine ⟨small_line (by omega), hR5 _ ?_⟩
        clear hR5
        walk_at "st"
        refine ⟨seatL row, rfl, s1, by omega, ?_⟩
        rw [List.length_map, s2, decide_eq_true rfl, if_neg (by decide)]
        refine ⟨cdiv_small (by decide) (by decide), cmul_small (by omega) (by decide), ?_⟩
        rw [decide_eq_true (by omega), if_neg (by decide)]
        exact hR4 _ ⟨_, _, rfl⟩
      · obtain ⟨b10, b11, rfl⟩ := hE
        rw [List.length_map, List.take_length]
        refine hR3 _ ?_
        clear hR3
        walk_at "st"
        have hle : p * (p - 1) / 2 ≤ 66 := by
          have : p * (p - 1) ≤ 12 * 11 := Nat.mul_le_mul hp12 (by omega)
          omega
        have shL : ∀ l : List Card, SeqAt.shaped (.list (l.map cE)) = true := sh_cl
        refine ⟨sortOk_cards _, P.flatten.map c2l, by rw [List.map_map]; rfl, few75_of (all := P.flatten.map c2l) (fun k h => h) (by rw [List.length_map]; omega), fun zs hz => ?_, fun zs nd hz => ?_⟩
        · obtain ⟨cs, rfl, _⟩ := c2l_of hz
          rw [show (cs.map c2l).map tIs = cs.map cE by rw [List.map_map]; rfl]
          exact sortOk_cards _
        · obtain ⟨cs, rfl, hcs⟩ := c2l_of fun z h => (hz z).mp h
          rw [show (cs.map c2l).map tIs = cs.map cE by rw [List.map_map]; rfl, sort_cards, sort_cards]
          have ndc : cs.Nodup := (List.pairwise_map.mp nd).imp fun h z => h (by rw [z])
          have pm : cs.Perm P.flatten := (List.perm_ext_iff_of_nodup ndc c3).mpr fun c => ⟨hcs c, fun h => by
            have := (hz (c2l c)).mpr (List.mem_map.mpr ⟨c, h, rfl⟩)
            obtain ⟨c', h', e⟩ := List.mem_map.mp this
            have : c' = c := by
              unfold c2l at e
              simp only [List.cons.injEq, and_true] at e
              exact Prod.ext e.1 e.2
            rw [← this]; exact h'⟩
          rw [sortC_pm pm]
          refine ⟨⟨shL _, shL _⟩, ?_⟩
          rw [eqv_self (n := 2) (d := .list ((sortC P.flatten).map cE)) (by rw [shOk_lst, List.all_map, List.all_eq_true]; exact fun c _ => sh_cE 0 c)]
          rw [if_neg (by decide)]
          refine ⟨cmul_small (by omega) (by omega), cdiv_small (by decide) (by decide), ?_⟩
          have hmul : (p : Int) * ((p : Int) - 1) = ((p * (p - 1) : Nat) : Int) := by
            rw [Int.natCast_mul, Int.natCast_sub (by omega)]; rfl
          rw [List.length_map, List.length_map, c4, hmul, decide_eq_true (by omega), decide_eq_true (by omega)]
          rw [if_neg (by decide), if_neg (by decide)]
          exact hR2 _ ⟨_, _, _, _, _, _, _, _, _, _, _, rfl, ht3.mono (by omega)⟩
    walk_at "dl"
    have shN : SeqAt.shaped (.str "NoPlan") = true := shaped_of (n := 0) (by decide +kernel)
    cases hok : turnOk n m with
    | true =>
      have e : toldT n m = planD (turnP n m.toNat) := by unfold toldT; rw [if_pos hok]
      rw [e]
      refine ⟨⟨shP _, shN⟩, ?_⟩
      refine ifT (by rw [show PyData.eqv (planD (turnP n m.toNat)) (.str "NoPlan") = false from by unfold planD; simp [PyData.eqv]]; rfl) ?_
      obtain ⟨z1, z2⟩ := turnP_small (n := n) (m := m.toNat) (by omega) (by omega)
      refine ⟨_, rfl, z1, z2, ?_⟩
      rw [fault_none (turn_hand hn1 hn10 hok).2]
      exact ifF rfl (go _)
    | false =>
      have e : toldT n m = .str "NoPlan" := by unfold toldT; rw [if_neg (by rw [hok]; decide)]
      rw [e]
      refine ⟨⟨shN, shN⟩, ?_⟩
      exact ifF (by rw [eqv_self (n := 0) (d := .str "NoPlan") (by decide +kernel)]; rfl) (go _)
  · obtain ⟨t, a2, a3, a4, a5, a6, a7, a8, a9, a10, a11, rfl, ht⟩ := hE
    refine hR _ ?_
    walk_at "dl"
    exact q
end DL
set_option Elab.async false
set_option linter.all false
set_option maxRecDepth 100000
set_option maxHeartbeats 4000000
namespace LW
open PySem PySem.Spec PyProof.Rows L2 DL
def topS (i : Nat) : Stmt := PySem.Challenge.pw_boardcalls_k23_whole_rounds.main.body.getD i (.Pass ⟨0, 0, 0, 0⟩)
section
variable {P : Program} {w : World} {K : PySem.W.Frag} {mg : Str → Option Value} {base : Heap}
abbrev s_law_all_meet : Stmt := topS 13
abbrev N_law_all_meet : List Str := ["pairs", "whole", "found", "number", "row", "one", "other", "even"]
theorem sc_law_all_meet : FnScope N_law_all_meet ["pairs"] (defScope s_law_all_meet) := ⟨rfl, rfl, rfl, by decide +kernel, rfl, by decide +kernel, by decide +kernel⟩
theorem dv_law_all_meet {f : Addr} {k : Nat} (b_tuple : mg "tuple" = none) (b_range : mg "range" = none) (b_int : mg "int" = none) (cdv : Value) (A : Around) (outer : List PySem.Env) (s : Shared) (H : Hp) (E : XK) (hr : Room k (A.deeper (envOfC "_law_all_meet" (defScope s_law_all_meet) s.heap.objs.size f cdv))) (G : Gh) (hG : G.slots = []) :
    SDs (cxOf CX0 P w K mg base N_law_all_meet "_law_all_meet" (defScope s_law_all_meet) f cdv A outer s H E).nox G (defBody s_law_all_meet) (tb_law_all_meet_k23) := by
  unfold tb_law_all_meet_k23
  exact sds_cons (sd_set (ns hG (by decide)) sc_law_all_meet.nd rfl (by first | exact Or.inl rfl | exact Or.inr rfl) (ed_op od_add (ed_var 0) (ED.er (ed_op od_sub (ed_var 0) (ED.er (ed_op od_mul (ed_op od_div (ed_var 0) (ED.er (ed_int))) (ED.er (ed_int))))))))
      (sds_cons (sd_setL (ns hG (by decide)) sc_law_all_meet.nd rfl (by first | exact Or.inl rfl | exact Or.inr rfl) (el_lst (eds_nil)))
      (sds_cons (sd_for (ms := [3]) PassesOwn.never rfl (id_range1 rfl b_range (ed_op od_sub (ed_var 1) (ED.er (ed_int)))) (gd_name (ns hG (by decide)) (by decide) sc_law_all_meet.nd rfl (by first | exact Or.inl rfl | exact Or.inr rfl)) (sds_cons (sd_setL (ns hG (by decide)) sc_law_all_meet.nd rfl (by first | exact Or.inl rfl | exact Or.inr rfl) (el_lst (eds_nil)))
      (sds_cons (sd_for (ms := [5]) PassesOwn.never rfl (id_range1 rfl b_range (ed_var 0)) (gd_name (ns hG (by decide)) (by decide) sc_law_all_meet.nd rfl (by first | exact Or.inl rfl | exact Or.inr rfl)) (sds_one (sd_for (ms := [6]) PassesOwn.never rfl (id_range2 rfl b_range (ed_op od_add (ed_var 5) (ED.er (ed_int))) (ed_var 1)) (gd_name (ns hG (by decide)) (by decide) sc_law_all_meet.nd rfl (by first | exact Or.inl rfl | exact Or.inr rfl)) (sds_cons (sd_set (ns hG (by decide)) sc_law_all_meet.nd rfl (by first | exact Or.inl rfl | exact Or.inr rfl) (ed_and (ed_cmp (od_eq hr.units) (ed_op od_mod (ed_op od_sub (ed_op od_add (ed_var 5) (ED.er (ed_var 6))) (ED.er (ed_op od_mul (ed_int) (ED.er (ed_var 3))))) (ED.er (ed_op od_sub (ed_var 1) (ED.er (ed_int))))) (ED.er (ed_int)) (nomark _)) (ed_one (ed_cmp od_lt (ed_var 6) (ED.er (ed_op od_sub (ed_var 1) (ED.er (ed_int)))) (nomark _)))))
      (sds_one (sd_if (EW.eb (ew_or (eb_tru (ED.er (ed_var 7))) (ew_or1 (EW.eb (ew_and (eb_cmp (od_eq hr.units) (ed_var 6) (ED.er (ed_op od_sub (ed_var 1) (ED.er (ed_int)))) (nomark _)) (ew_and1 (eb_cmp (od_eq hr.units) (ed_var 5) (ED.er (ed_var 3)) (nomark _)))))))) (sds_one (sd_expr (ed_extd 4 (el_op od_rep (EL.ed (el_lst (eds_cons (ed_tup (eds_cons (ed_var 5) (eds_cons (ed_var 6) (eds_nil)))) (eds_nil)))) (ED.er (ed_caT1 cd_int (ED.er (ed_cmp od_lt (ed_var 6) (ED.er (ed_var 0)) (nomark _))) rfl b_int bb_int)))))) (sds_nil)))))))
      (sds_one (sd_expr (ed_app 2 (ed_caT1 cd_tuple (er_var 4) rfl b_tuple bb_tuple)))))))
      (sds_one (sd_ret (ed_caT1 cd_tuple (er_var 2) rfl b_tuple bb_tuple)))))
abbrev s_law_same : Stmt := topS 8
abbrev N_law_same : List Str := ["got", "due", "one", "other"]
theorem sc_law_same : FnScope N_law_same ["got", "due"] (defScope s_law_same) := ⟨rfl, rfl, rfl, by decide +kernel, rfl, by decide +kernel, by decide +kernel⟩
theorem dv_law_same {f : Addr} {k : Nat} (b_isinstance : mg "isinstance" = none) (b_int : mg "int" = none) (b_bool : mg "bool" = none) (b_str : mg "str" = none) (b_tuple : mg "tuple" = none) (b_zip : mg "zip" = none) (b_all : mg "all" = none) (b_len : mg "len" = none) {sp_law_same : SpD} {f_law_same : Addr} {fd_law_same : FuncData} {k_law_same : Nat} (C_law_same : FnOk P w K mg base CX0 k_law_same f_law_same fd_law_same ["got", "due"] (spL K sp_law_same)) (h_law_same : k_law_same ≤ k) (C_law_same_g : mg "_law_same" = some (.ref f_law_same)) (C_law_same_k : PySem.W.keepIn K (.ref f_law_same) = true) (C_law_same_b : Binds K fd_law_same ["got", "due"] []) (cdv : Value) (A : Around) (outer : List PySem.Env) (s : Shared) (H : Hp) (E : XK) (hr : Room k (A.deeper (envOfC "_law_same" (defScope s_law_same) s.heap.objs.size f cdv))) (G : Gh) (hG : G.slots = []) :
    SDs (cxOf CX0 P w K mg base N_law_same "_law_same" (defScope s_law_same) f cdv A outer s H E).nox G (defBody s_law_same) (tb_law_same sp_law_same) := by
  unfold tb_law_same
  exact sds_cons (sd_if (eb_cmp od_is (ed_var 1) (ED.er (ed_non)) (nomark _)) (sds_one (sd_ret (ed_cmp od_is (ed_var 0) (ED.er (ed_non)) (nomark _)))) (sds_nil))
      (sds_cons (sd_if (eb_tru (ED.er (ed_isi isi_bool (ed_var 1) rfl b_isinstance rfl b_bool bb_bool))) (sds_one (sd_ret (ed_and (ed_isi isi_bool (ed_var 0) rfl b_isinstance rfl b_bool bb_bool) (ed_one (ed_cmp (od_eq hr.units) (ed_var 0) (ED.er (ed_var 1)) (nomark _)))))) (sds_nil))
      (sds_cons (sd_if (eb_tru (ED.er (ed_isi isi_tuple (ed_var 1) rfl b_isinstance rfl b_tuple bb_tuple))) (sds_cons (sd_if (EW.eb (ew_or (eb_not (eb_tru (ED.er (ed_isi isi_tuple (ed_var 0) rfl b_isinstance rfl b_tuple bb_tuple)))) (ew_or1 (eb_cmp (od_ne hr.units) (ed_ca1 cd_len (ED.er (ed_var 0)) rfl b_len bb_len) (ED.er (ed_ca1 cd_len (ED.er (ed_var 1)) rfl b_len bb_len)) (nomark _))))) (sds_one (sd_ret (ed_bl))) (sds_nil))
      (sds_one (sd_ret (ed_ca1 (cd_all rfl) (ED.er (EL.ed (el_comp [("one", 2), ("other", 3)] rfl sc_law_same.nd rfl (nsA hG (by decide)) (id_zip (ed_var 0) (ed_var 1) rfl b_zip) (blkOk_by (N := N_law_same) (sc := defScope s_law_same) (by decide +kernel)) (fun _ q1 _ _ _ _ _ => gd_tup rfl (gds_cons (gd_name (ns (q1.trans hG) (by decide)) (by decide) sc_law_same.nd rfl (by first | exact Or.inl rfl | exact Or.inr rfl)) (gds_cons (gd_name (ns (q1.trans hG) (by decide)) (by decide) sc_law_same.nd rfl (by first | exact Or.inl rfl | exact Or.inr rfl)) (gds_nil)))) (fun _ q1 _ _ _ _ _ => ebs_nil) (fun _ q1 _ _ _ _ _ => ed_call C_law_same (hr.mono h_law_same) rfl C_law_same_g C_law_same_k C_law_same_b (ea_v (ed_var 2) (ea_v (ed_var 3) (ea_nil))))))) rfl b_all bb_all)))) (sds_nil))
      (sds_cons (sd_if (eb_tru (ED.er (ed_isi isi_str (ed_var 1) rfl b_isinstance rfl b_str bb_str))) (sds_one (sd_ret (ed_and (ed_isi isi_str (ed_var 0) rfl b_isinstance rfl b_str bb_str) (ed_one (ed_cmp (od_eq hr.units) (ed_var 0) (ED.er (ed_var 1)) (nomark _)))))) (sds_nil))
      (sds_one (sd_ret (ed_and (ed_isi isi_int (ed_var 0) rfl b_isinstance rfl b_int bb_int) (ed_and (ed_not (ed_isi isi_bool (ed_var 0) rfl b_isinstance rfl b_bool bb_bool)) (ed_one (ed_cmp (od_eq hr.units) (ed_var 0) (ED.er (ed_var 1)) (nomark _))))))))))
abbrev s_all_meet : Stmt := topS 5
abbrev N_all_meet : List Str := ["pairs", "others", "plan", "number", "row", "step", "one", "other"]
theorem sc_all_meet : FnScope N_all_meet ["pairs"] (defScope s_all_meet) := ⟨rfl, rfl, rfl, by decide +kernel, rfl, by decide +kernel, by decide +kernel⟩
theorem dv_all_meet {f : Addr} {k : Nat} (b_tuple : mg "tuple" = none) (b_range : mg "range" = none) (b_sorted : mg "sorted" = none) (b_max : mg "max" = none) (b_min : mg "min" = none) (cdv : Value) (A : Around) (outer : List PySem.Env) (s : Shared) (H : Hp) (E : XK) (hr : Room k (A.deeper (envOfC "all_meet" (defScope s_all_meet) s.heap.objs.size f cdv))) (G : Gh) (hG : G.slots = []) :
    SDs (cxOf CX0 P w K mg base N_all_meet "all_meet" (defScope s_all_meet) f cdv A outer s H E).nox G (defBody s_all_meet) (tb_all_meet) := by
  unfold tb_all_meet
  exact sds_cons (sd_set (ns hG (by decide)) sc_all_meet.nd rfl (by first | exact Or.inl rfl | exact Or.inr rfl) (ed_op od_add (ed_op od_sub (ed_var 0) (ED.er (ed_int))) (ED.er (ed_op od_mod (ed_var 0) (ED.er (ed_int))))))
      (sds_cons (sd_setL (ns hG (by decide)) sc_all_meet.nd rfl (by first | exact Or.inl rfl | exact Or.inr rfl) (el_lst (eds_nil)))
      (sds_cons (sd_for (ms := [3]) PassesOwn.never rfl (id_range1 rfl b_range (ed_var 1)) (gd_name (ns hG (by decide)) (by decide) sc_all_meet.nd rfl (by first | exact Or.inl rfl | exact Or.inr rfl)) (sds_cons (sd_setL (ns hG (by decide)) sc_all_meet.nd rfl (by first | exact Or.inl rfl | exact Or.inr rfl) (el_lst (eds_nil)))
      (sds_cons (sd_if (eb_cmp (od_eq hr.units) (ed_op od_mod (ed_var 0) (ED.er (ed_int))) (ED.er (ed_int)) (nomark _)) (sds_one (sd_expr (ed_app 4 (ed_tup (eds_cons (ed_var 3) (eds_cons (ed_op od_sub (ed_var 0) (ED.er (ed_int))) (eds_nil))))))) (sds_nil))
      (sds_cons (sd_for (ms := [5]) PassesOwn.never rfl (id_range2 rfl b_range (ed_int) (ed_op od_div (ed_op od_add (ed_var 1) (ED.er (ed_int))) (ED.er (ed_int)))) (gd_name (ns hG (by decide)) (by decide) sc_all_meet.nd rfl (by first | exact Or.inl rfl | exact Or.inr rfl)) (sds_cons (sd_par2 (nsA hG (by decide)) rfl sc_all_meet.nd rfl rfl (by decide) rfl rfl (eps_d (ed_op od_mod (ed_op od_add (ed_var 3) (ED.er (ed_var 5))) (ED.er (ed_var 1))) (eps_d (ed_op od_mod (ed_op od_sub (ed_var 3) (ED.er (ed_var 5))) (ED.er (ed_var 1))) (eps_nil))))
      (sds_one (sd_expr (ed_app 4 (ed_tup (eds_cons (ed_ca2 (cd_min2 rfl) (ed_var 6) (ED.er (ed_var 7)) rfl b_min bb_min) (eds_cons (ed_ca2 (cd_max2 rfl) (ed_var 6) (ED.er (ed_var 7)) rfl b_max bb_max) (eds_nil)))))))))
      (sds_one (sd_expr (ed_app 2 (ed_caT1 cd_tuple (ED.er (EL.ed (el_ca1 (cd_sorted (u65 hr)) (er_var 4) rfl b_sorted bb_sorted))) rfl b_tuple bb_tuple))))))))
      (sds_one (sd_ret (ed_caT1 cd_tuple (er_var 2) rfl b_tuple bb_tuple)))))
abbrev s_law_draw : Stmt := topS 9
abbrev N_law_draw : List Str := ["script", "town", "many", "k", "cell", "digits", "number", "more"]
theorem sc_law_draw : FnScope N_law_draw ["script", "town", "many"] (defScope s_law_draw) := ⟨rfl, rfl, rfl, by decide +kernel, rfl, by decide +kernel, by decide +kernel⟩
theorem dv_law_draw {f : Addr} {k : Nat} (b_len : mg "len" = none) (b_abs : mg "abs" = none) (b_max : mg "max" = none) (cdv : Value) (A : Around) (outer : List PySem.Env) (s : Shared) (H : Hp) (E : XK) (hr : Room k (A.deeper (envOfC "_law_draw" (defScope s_law_draw) s.heap.objs.size f cdv))) (G : Gh) (hG : G.slots = [1]) :
    SDs (cxOf CX0 P w K mg base N_law_draw "_law_draw" (defScope s_law_draw) f cdv A outer s H E).nox G (defBody s_law_draw) (tb_law_draw) := by
  unfold tb_law_draw
  exact sds_cons (sd_if (eb_not (eb_tru (er_var 1))) (sds_one (sd_expr (ed_app 1 (ed_ca1 (cd_max rfl) (ED.er (EL.ed (el_op od_cat (EL.ed (el_comp [("cell", 4)] rfl sc_law_draw.nd rfl (nsA hG (by decide)) (id_lst (ed_var 0)) (blkOk_by (N := N_law_draw) (sc := defScope s_law_draw) (by decide +kernel)) (fun _ q1 _ _ _ _ _ => gd_name (ns (q1.trans hG) (by decide)) (by decide) sc_law_draw.nd rfl (by first | exact Or.inl rfl | exact Or.inr rfl)) (fun _ q1 _ _ _ _ _ => ebs_nil) (fun _ q1 _ _ _ _ _ => ed_ca1 cd_abs (ED.er (ed_var 4)) rfl b_abs bb_abs))) (ED.er (EL.ed (el_lst (eds_cons (ed_int) (eds_nil)))))))) rfl b_max bb_max)))) (sds_nil))
      (sds_cons (sd_expr (ed_app 1 (ed_int)))
      (sds_cons (sd_set (ns hG (by decide)) sc_law_draw.nd rfl (by first | exact Or.inl rfl | exact Or.inr rfl) (ed_ca1 cd_len (er_var 1) rfl b_len bb_len))
      (sds_cons (sd_set (ns hG (by decide)) sc_law_draw.nd rfl (by first | exact Or.inl rfl | exact Or.inr rfl) (ed_if (eb_tru (ED.er (ed_var 0))) (ed_ix (ed_var 0) (ed_op od_mod (ed_var 3) (ED.er (ed_ca1 cd_len (ED.er (ed_var 0)) rfl b_len bb_len)))) (ed_int)))
      (sds_cons (sd_set (ns hG (by decide)) sc_law_draw.nd rfl (by first | exact Or.inl rfl | exact Or.inr rfl) (ed_op od_mod (ed_ixO 1 (ed_int)) (ED.er (ed_int))))
      (sds_cons (sd_setIx 1 (ed_int) (ed_op od_div (ed_ixO 1 (ed_int)) (ED.er (ed_int))))
      (sds_cons (sd_set (ns hG (by decide)) sc_law_draw.nd rfl (by first | exact Or.inl rfl | exact Or.inr rfl) (ed_op od_mod (ed_op od_add (ed_op od_add (ed_var 4) (ED.er (ed_op od_mul (ed_int) (ED.er (ed_var 5))))) (ED.er (ed_op od_mul (ed_int) (ED.er (ed_var 3))))) (ED.er (ed_int))))
      (sds_cons (sd_set (ns hG (by decide)) sc_law_draw.nd rfl (by first | exact Or.inl rfl | exact Or.inr rfl) (ed_op od_mod (ed_op od_mul (ed_op od_mod (ed_op od_mul (ed_var 6) (ED.er (ed_var 6))) (ED.er (ed_int))) (ED.er (ed_int))) (ED.er (ed_int))))
      (sds_cons (sd_set (ns hG (by decide)) sc_law_draw.nd rfl (by first | exact Or.inl rfl | exact Or.inr rfl) (ed_op od_mod (ed_op od_mul (ed_op od_mod (ed_op od_mul (ed_var 6) (ED.er (ed_var 6))) (ED.er (ed_int))) (ED.er (ed_int))) (ED.er (ed_int))))
      (sds_one (sd_ret (ed_op od_mod (ed_op od_add (ed_op od_mul (ed_op od_div (ed_var 6) (ED.er (ed_int))) (ED.er (ed_int))) (ED.er (ed_op od_div (ed_var 7) (ED.er (ed_int))))) (ED.er (ed_var 2)))))))))))))
abbrev s_plan_fault : Stmt := topS 6
abbrev N_plan_fault : List Str := ["plan", "met", "had", "number", "tables", "seated", "at", "one", "other", "boards"]
theorem sc_plan_fault : FnScope N_plan_fault ["plan"] (defScope s_plan_fault) := ⟨rfl, rfl, rfl, by decide +kernel, rfl, by decide +kernel, by decide +kernel⟩
theorem dv_plan_fault {f : Addr} {k : Nat} (b_enumerate : mg "enumerate" = none) (cdv : Value) (A : Around) (outer : List PySem.Env) (s : Shared) (H : Hp) (E : XK) (hr : Room k (A.deeper (envOfC "plan_fault" (defScope s_plan_fault) s.heap.objs.size f cdv))) (G : Gh) (hG : G.slots = []) :
    SDs (cxOf CX0 P w K mg base N_plan_fault "plan_fault" (defScope s_plan_fault) f cdv A outer s H E).nox G (defBody s_plan_fault) (tb_plan_fault) := by
  unfold tb_plan_fault
  exact sds_cons (sd_par2 (nsA hG (by decide)) rfl sc_plan_fault.nd rfl rfl (by decide) rfl rfl (eps_l (el_lst (eds_nil)) (fun _ q1 => eps_l (el_lst (eds_nil)) (fun _ q2 => eps_nil))))
      (sds_cons (sd_for (ms := [3, 4]) PassesOwn.never rfl (id_enumT (ed_var 0) rfl b_enumerate) (gd_tup rfl (gds_cons (gd_name (ns hG (by decide)) (by decide) sc_plan_fault.nd rfl (by first | exact Or.inl rfl | exact Or.inr rfl)) (gds_cons (gd_name (ns hG (by decide)) (by decide) sc_plan_fault.nd rfl (by first | exact Or.inl rfl | exact Or.inr rfl)) (gds_nil)))) (sds_cons (sd_setL (ns hG (by decide)) sc_plan_fault.nd rfl (by first | exact Or.inl rfl | exact Or.inr rfl) (el_lst (eds_nil)))
      (sds_one (sd_for (ms := [6, 7, 8, 9]) PassesOwn.never rfl (id_enumT (ed_var 4) rfl b_enumerate) (gd_tup rfl (gds_cons (gd_name (ns hG (by decide)) (by decide) sc_plan_fault.nd rfl (by first | exact Or.inl rfl | exact Or.inr rfl)) (gds_cons (gd_tup rfl (gds_cons (gd_name (ns hG (by decide)) (by decide) sc_plan_fault.nd rfl (by first | exact Or.inl rfl | exact Or.inr rfl)) (gds_cons (gd_name (ns hG (by decide)) (by decide) sc_plan_fault.nd rfl (by first | exact Or.inl rfl | exact Or.inr rfl)) (gds_cons (gd_name (ns hG (by decide)) (by decide) sc_plan_fault.nd rfl (by first | exact Or.inl rfl | exact Or.inr rfl)) (gds_nil))))) (gds_nil)))) (sds_cons (sd_if (EW.eb (ew_or (eb_cmp (od_in (u65 hr)) (ed_var 7) (er_var 5) rfl) (ew_or (eb_cmp (od_in (u65 hr)) (ed_var 8) (er_var 5) rfl) (ew_or1 (eb_cmp (od_eq hr.units) (ed_var 7) (ED.er (ed_var 8)) (nomark _)))))) (sds_one (sd_ret (ed_tup (eds_cons (ed_var 3) (eds_cons (ed_var 6) (eds_cons (ed_str) (eds_nil))))))) (sds_nil))
      (sds_cons (sd_if (EW.eb (ew_or (eb_cmp (od_in (u65 hr)) (ed_tup (eds_cons (ed_var 7) (eds_cons (ed_var 8) (eds_nil)))) (er_var 1) rfl) (ew_or1 (eb_cmp (od_in (u65 hr)) (ed_tup (eds_cons (ed_var 8) (eds_cons (ed_var 7) (eds_nil)))) (er_var 1) rfl)))) (sds_one (sd_ret (ed_tup (eds_cons (ed_var 3) (eds_cons (ed_var 6) (eds_cons (ed_str) (eds_nil))))))) (sds_nil))
      (sds_cons (sd_if (EW.eb (ew_or (eb_cmp (od_in (u65 hr)) (ed_tup (eds_cons (ed_var 7) (eds_cons (ed_var 9) (eds_nil)))) (er_var 2) rfl) (ew_or1 (eb_cmp (od_in (u65 hr)) (ed_tup (eds_cons (ed_var 8) (eds_cons (ed_var 9) (eds_nil)))) (er_var 2) rfl)))) (sds_one (sd_ret (ed_tup (eds_cons (ed_var 3) (eds_cons (ed_var 6) (eds_cons (ed_str) (eds_nil))))))) (sds_nil))
      (sds_cons (sd_expr (ed_extd 5 (el_lst (eds_cons (ed_var 7) (eds_cons (ed_var 8) (eds_nil))))))
      (sds_cons (sd_expr (ed_app 1 (ed_tup (eds_cons (ed_var 7) (eds_cons (ed_var 8) (eds_nil))))))
      (sds_one (sd_expr (ed_extd 2 (el_lst (eds_cons (ed_tup (eds_cons (ed_var 7) (eds_cons (ed_var 9) (eds_nil)))) (eds_cons (ed_tup (eds_cons (ed_var 8) (eds_cons (ed_var 9) (eds_nil)))) (eds_nil))))))))))))))))
      (sds_one (sd_ret (ed_non))))
abbrev s_turning : Stmt := topS 4
abbrev N_turning : List Str := ["tables", "rounds", "even", "plan", "number", "gone", "row", "table"]
theorem sc_turning : FnScope N_turning ["tables", "rounds"] (defScope s_turning) := ⟨rfl, rfl, rfl, by decide +kernel, rfl, by decide +kernel, by decide +kernel⟩
theorem dv_turning {f : Addr} {k : Nat} (b_tuple : mg "tuple" = none) (b_range : mg "range" = none) (b_int : mg "int" = none) {A_NoPlan : Addr} (x_NoPlan : PySem.W.excIn K A_NoPlan [.type "ValueError", .type "Exception", .type "BaseException", .type "object"] "ValueError.__new__" = true) (g_NoPlan : mg "NoPlan" = some (.ref A_NoPlan)) (k_NoPlan : PySem.W.keepIn K (.ref A_NoPlan) = true) (b_NoPlan : PySem.W.subIn K (.ref A_NoPlan) (.type "BaseException") = some true) (t_NoPlan : PySem.W.typeIn K (.ref A_NoPlan) = some (.type "type")) (cdv : Value) (A : Around) (outer : List PySem.Env) (s : Shared) (H : Hp) (E : XK) (hr : Room k (A.deeper (envOfC "turning" (defScope s_turning) s.heap.objs.size f cdv))) (G : Gh) (hG : G.slots = []) (WD : WDt) (hW : Wish K G WD (fun cls d _ H' => E cls d H')) :
    SDs (cxOf (L2.CX P w) P w K mg base N_turning "turning" (defScope s_turning) f cdv A outer s H E) G (defBody s_turning) (tb_turning (.ref A_NoPlan) WD) := by
  unfold tb_turning
  exact sds_cons (sd_set (ns hG (by decide)) sc_turning.nd rfl (by first | exact Or.inl rfl | exact Or.inr rfl) (ed_cmp (od_eq hr.units) (ed_op od_mod (ed_var 0) (ED.er (ed_int))) (ED.er (ed_int)) (nomark _)))
      (sds_cons (sd_if (eb_not (eb_chain od_le od_le (ed_int) (ed_var 1) (ed_op od_sub (ed_var 0) (ED.er (ed_caT1 cd_int (ED.er (ed_var 2)) rfl b_int bb_int))))) (sds_one (sd_raise rfl (takes_of rfl rfl rfl rfl) hW (pmk_own0 PySem.F.excBase_ValueError x_NoPlan g_NoPlan k_NoPlan (raises_own b_NoPlan t_NoPlan) rfl))) (sds_nil))
      (SDs.nox (sds_cons (sd_setL (ns hG (by decide)) sc_turning.nd rfl (by first | exact Or.inl rfl | exact Or.inr rfl) (el_lst (eds_nil)))
      (sds_cons (sd_for (ms := [4]) PassesOwn.never rfl (id_range1 rfl b_range (ed_var 1)) (gd_name (ns hG (by decide)) (by decide) sc_turning.nd rfl (by first | exact Or.inl rfl | exact Or.inr rfl)) (sds_cons (sd_set (ns hG (by decide)) sc_turning.nd rfl (by first | exact Or.inl rfl | exact Or.inr rfl) (ed_op od_add (ed_var 4) (ED.er (ed_caT1 cd_int (ED.er (ed_and (ed_var 2) (ed_one (ed_cmp od_ge (ed_op od_mul (ed_int) (ED.er (ed_var 4))) (ED.er (ed_var 0)) (nomark _))))) rfl b_int bb_int))))
      (sds_cons (sd_setC [("table", 7)] (ns hG (by decide)) rfl sc_turning.nd rfl rfl (sw_true rfl rfl rfl (by decide +kernel)) rfl (nsA hG (by decide)) (id_range1 rfl b_range (ed_var 0)) (blkOk_by (N := N_turning) (sc := defScope s_turning) (by decide +kernel)) (fun _ q1 _ _ _ _ _ => gd_name (ns (q1.trans hG) (by decide)) (by decide) sc_turning.nd rfl (by first | exact Or.inl rfl | exact Or.inr rfl)) (fun _ q1 _ _ _ _ _ => ebs_nil) (fun _ q1 _ _ _ _ _ => ed_tup (eds_cons (ed_var 7) (eds_cons (ed_op od_add (ed_var 0) (ED.er (ed_op od_mod (ed_op od_sub (ed_var 7) (ED.er (ed_var 5))) (ED.er (ed_var 0))))) (eds_cons (ed_op od_mod (ed_op od_add (ed_var 7) (ED.er (ed_var 4))) (ED.er (ed_var 0))) (eds_nil))))))
      (sds_one (sd_expr (ed_app 3 (ed_caT1 cd_tuple (ED.er (ed_var 6)) rfl b_tuple bb_tuple)))))))
      (sds_one (sd_ret (ed_caT1 cd_tuple (er_var 3) rfl b_tuple bb_tuple)))))))
abbrev s_law_told : Stmt := topS 11
abbrev N_law_told : List Str := ["tables", "rounds", "got"]
theorem sc_law_told : FnScope N_law_told ["tables", "rounds"] (defScope s_law_told) := ⟨rfl, rfl, rfl, by decide +kernel, rfl, by decide +kernel, by decide +kernel⟩
theorem dv_law_told {f : Addr} {k : Nat} {sp_turning : SpX} {f_turning : Addr} {fd_turning : FuncData} {k_turning : Nat} (C_turning : FnOk P w K mg base (L2.CX P w) k_turning f_turning fd_turning ["tables", "rounds"] (spLX K sp_turning)) (h_turning : k_turning ≤ k) (C_turning_g : mg "turning" = some (.ref f_turning)) (C_turning_k : PySem.W.keepIn K (.ref f_turning) = true) (C_turning_b : Binds K fd_turning ["tables", "rounds"] []) {A_NoPlan : Addr} (g_NoPlan : mg "NoPlan" = some (.ref A_NoPlan)) {m_NoPlan : Value → Option Bool} (hm_NoPlan : ∀ cls b, m_NoPlan cls = some b → PySem.W.exmOne K cls (.ref A_NoPlan) = some b) (cdv : Value) (A : Around) (outer : List PySem.Env) (s : Shared) (H : Hp) (E : XK) (hr : Room k (A.deeper (envOfC "_law_told" (defScope s_law_told) s.heap.objs.size f cdv))) (G : Gh) (hG : G.slots = []) :
    SDs (cxOf CX0 P w K mg base N_law_told "_law_told" (defScope s_law_told) f cdv A outer s H E).nox G (defBody s_law_told) (tb_law_told sp_turning m_NoPlan) := by
  unfold tb_law_told
  exact sds_cons (sd_set (ns hG (by decide)) sc_law_told.nd rfl (by first | exact Or.inl rfl | exact Or.inr rfl) (ed_non))
      (sds_cons (sd_try (m := m_NoPlan) (Wo := fun _ _ => False) hm_NoPlan (fun _ _ _ _ h _ => h.elim) rfl rfl ⟨rfl, by decide, .inl g_NoPlan⟩ takes0 (fun W1 pn1 xe1 tk1 _ G1 q1 WD1 hw1 => sds_one (sd_set (ns (q1.trans hG) (by decide)) sc_law_told.nd rfl (by first | exact Or.inl rfl | exact Or.inr rfl) (ed_callX C_turning tk1 hw1 (hr.mono h_turning) rfl C_turning_g C_turning_k C_turning_b (ea_v (ed_var 0) (ea_v (ed_var 1) (ea_nil)))))) (fun _ _ _ => sds_one (sd_set (ns hG (by decide)) sc_law_told.nd rfl (by first | exact Or.inl rfl | exact Or.inr rfl) (ed_str))))
      (sds_one (sd_ret (ed_var 2))))
abbrev s_law_turning : Stmt := topS 12
abbrev N_law_turning : List Str := ["tables", "rounds", "others", "sets", "found", "number", "at"]
theorem sc_law_turning : FnScope N_law_turning ["tables", "rounds"] (defScope s_law_turning) := ⟨rfl, rfl, rfl, by decide +kernel, rfl, by decide +kernel, by decide +kernel⟩
theorem dv_law_turning {f : Addr} {k : Nat} (b_tuple : mg "tuple" = none) (b_range : mg "range" = none) (b_list : mg "list" = none) (cdv : Value) (A : Around) (outer : List PySem.Env) (s : Shared) (H : Hp) (E : XK) (hr : Room k (A.deeper (envOfC "_law_turning" (defScope s_law_turning) s.heap.objs.size f cdv))) (G : Gh) (hG : G.slots = []) :
    SDs (cxOf CX0 P w K mg base N_law_turning "_law_turning" (defScope s_law_turning) f cdv A outer s H E).nox G (defBody s_law_turning) (tb_law_turning_k23) := by
  unfold tb_law_turning_k23
  exact sds_cons (sd_if (EW.eb (ew_or (eb_cmp od_lt (ed_var 1) (ED.er (ed_int)) (nomark _)) (ew_or (eb_cmp od_gt (ed_var 1) (ED.er (ed_var 0)) (nomark _)) (ew_or1 (EW.eb (ew_and (eb_cmp (od_in (u65 hr)) (ed_var 0) (ED.er (ed_tup (eds_cons (ed_int) (eds_cons (ed_int) (eds_cons (ed_int) (eds_cons (ed_int) (eds_cons (ed_int) (eds_nil)))))))) rfl) (ew_and1 (eb_cmp (od_eq hr.units) (ed_var 1) (ED.er (ed_var 0)) (nomark _))))))))) (sds_one (sd_ret (ed_str))) (sds_nil))
      (sds_cons (sd_parC (nsA hG (by decide)) rfl (by decide) (eps_d (EL.ed (el_comp [("at", 6)] rfl sc_law_turning.nd rfl (nsA hG (by decide)) (id_range1 rfl b_range (ed_var 0)) (blkOk_by (N := N_law_turning) (sc := defScope s_law_turning) (by decide +kernel)) (fun _ q2 _ _ _ _ _ => gd_name (ns (q2.trans hG) (by decide)) (by decide) sc_law_turning.nd rfl (by first | exact Or.inl rfl | exact Or.inr rfl)) (fun _ q2 _ _ _ _ _ => ebs_nil) (fun _ q2 _ _ _ _ _ => ed_op od_add (ed_var 0) (ED.er (ed_var 6))))) (eps_d (EL.ed (el_listRg rfl b_list rfl b_range (ed_var 0))) (eps_l (el_lst (eds_nil)) (fun _ q3 => eps_nil)))) rfl (pgs_nS sc_law_turning.nd rfl (by first | exact Or.inl rfl | exact Or.inr rfl) (pgs_nS sc_law_turning.nd rfl (by first | exact Or.inl rfl | exact Or.inr rfl) (pgs_nS sc_law_turning.nd rfl (by first | exact Or.inl rfl | exact Or.inr rfl) (pgs_n0)))))
      (sds_cons (sd_for (ms := [5]) PassesOwn.never rfl (id_range1 rfl b_range (ed_var 1)) (gd_name (ns hG (by decide)) (by decide) sc_law_turning.nd rfl (by first | exact Or.inl rfl | exact Or.inr rfl)) (sds_cons (sd_expr (ed_app 4 (ed_caT1 cd_tuple (ED.er (EL.ed (el_comp [("at", 6)] rfl sc_law_turning.nd rfl (nsA hG (by decide)) (id_range1 rfl b_range (ed_var 0)) (blkOk_by (N := N_law_turning) (sc := defScope s_law_turning) (by decide +kernel)) (fun _ q1 _ _ _ _ _ => gd_name (ns (q1.trans hG) (by decide)) (by decide) sc_law_turning.nd rfl (by first | exact Or.inl rfl | exact Or.inr rfl)) (fun _ q1 _ _ _ _ _ => ebs_nil) (fun _ q1 _ _ _ _ _ => ed_tup (eds_cons (ed_var 6) (eds_cons (ed_ix (ed_var 2) (ed_var 6)) (eds_cons (ed_ix (ed_var 3) (ed_var 6)) (eds_nil)))))))) rfl b_tuple bb_tuple)))
      (sds_cons (sd_parC (nsA hG (by decide)) rfl (by decide) (eps_d (EL.ed (el_op od_cat (EL.ed (el_sl (ed_var 2) (eo_e (ed_un ud_neg (ED.er (ed_int)))) (eo_no))) (ED.er (EL.ed (el_sl (ed_var 2) (eo_no) (eo_e (ed_un ud_neg (ED.er (ed_int))))))))) (eps_d (EL.ed (el_op od_cat (EL.ed (el_sl (ed_var 3) (eo_e (ed_int)) (eo_no))) (ED.er (EL.ed (el_sl (ed_var 3) (eo_no) (eo_e (ed_int))))))) (eps_nil))) rfl (pgs_nS sc_law_turning.nd rfl (by first | exact Or.inl rfl | exact Or.inr rfl) (pgs_nS sc_law_turning.nd rfl (by first | exact Or.inl rfl | exact Or.inr rfl) (pgs_n0))))
      (sds_one (sd_if (EW.eb (ew_and (eb_cmp (od_in (u65 hr)) (ed_var 0) (ED.er (ed_tup (eds_cons (ed_int) (eds_cons (ed_int) (eds_cons (ed_int) (eds_cons (ed_int) (eds_cons (ed_int) (eds_nil)))))))) rfl) (ew_and1 (eb_cmp (od_eq hr.units) (ed_op od_mul (ed_int) (ED.er (ed_op od_add (ed_var 5) (ED.er (ed_int))))) (ED.er (ed_var 0)) (nomark _))))) (sds_one (sd_set (ns hG (by decide)) sc_law_turning.nd rfl (by first | exact Or.inl rfl | exact Or.inr rfl) (EL.ed (el_op od_cat (EL.ed (el_sl (ed_var 2) (eo_e (ed_un ud_neg (ED.er (ed_int)))) (eo_no))) (ED.er (EL.ed (el_sl (ed_var 2) (eo_no) (eo_e (ed_un ud_neg (ED.er (ed_int))))))))))) (sds_nil))))))
      (sds_one (sd_ret (ed_caT1 cd_tuple (er_var 4) rfl b_tuple bb_tuple)))))
abbrev s_law : Stmt := topS 14
abbrev N_law : List Str := ["script", "town", "k", "tables", "rounds", "plan", "pairs", "rows", "met", "least", "row", "seated", "one", "other"]
theorem sc_law : FnScope N_law ["script"] (defScope s_law) := ⟨rfl, rfl, rfl, by decide +kernel, rfl, by decide +kernel, by decide +kernel⟩
theorem dv_law {f : Addr} {k : Nat} (b_range : mg "range" = none) (b_sorted : mg "sorted" = none) (b_set : mg "set" = none) (b_len : mg "len" = none) (b_list : mg "list" = none) {sp_law_all_meet : SpD} {f_law_all_meet : Addr} {fd_law_all_meet : FuncData} {k_law_all_meet : Nat} (C_law_all_meet : FnOk P w K mg base CX0 k_law_all_meet f_law_all_meet fd_law_all_meet ["pairs"] (spL K sp_law_all_meet)) (h_law_all_meet : k_law_all_meet ≤ k) (C_law_all_meet_g : mg "_law_all_meet" = some (.ref f_law_all_meet)) (C_law_all_meet_k : PySem.W.keepIn K (.ref f_law_all_meet) = true) (C_law_all_meet_b : Binds K fd_law_all_meet ["pairs"] []) {sp_law_same : SpD} {f_law_same : Addr} {fd_law_same : FuncData} {k_law_same : Nat} (C_law_same : FnOk P w K mg base CX0 k_law_same f_law_same fd_law_same ["got", "due"] (spL K sp_law_same)) (h_law_same : k_law_same ≤ k) (C_law_same_g : mg "_law_same" = some (.ref f_law_same)) (C_law_same_k : PySem.W.keepIn K (.ref f_law_same) = true) (C_law_same_b : Binds K fd_law_same ["got", "due"] []) {sp_all_meet : SpD} {f_all_meet : Addr} {fd_all_meet : FuncData} {k_all_meet : Nat} (C_all_meet : FnOk P w K mg base CX0 k_all_meet f_all_meet fd_all_meet ["pairs"] (spL K sp_all_meet)) (h_all_meet : k_all_meet ≤ k) (C_all_meet_g : mg "all_meet" = some (.ref f_all_meet)) (C_all_meet_k : PySem.W.keepIn K (.ref f_all_meet) = true) (C_all_meet_b : Binds K fd_all_meet ["pairs"] []) {sp_law_draw : SpD} {f_law_draw : Addr} {fd_law_draw : FuncData} {k_law_draw : Nat} (C_law_draw : FnOk P w K mg base CX0 k_law_draw f_law_draw fd_law_draw ["script", "town", "many"] (spL K sp_law_draw)) (h_law_draw : k_law_draw ≤ k) (C_law_draw_g : mg "_law_draw" = some (.ref f_law_draw)) (C_law_draw_k : PySem.W.keepIn K (.ref f_law_draw) = true) (C_law_draw_b : Binds K fd_law_draw ["script", "town", "many"] []) {sp_plan_fault : SpD} {f_plan_fault : Addr} {fd_plan_fault : FuncData} {k_plan_fault : Nat} (C_plan_fault : FnOk P w K mg base CX0 k_plan_fault f_plan_fault fd_plan_fault ["plan"] (spL K sp_plan_fault)) (h_plan_fault : k_plan_fault ≤ k) (C_plan_fault_g : mg "plan_fault" = some (.ref f_plan_fault)) (C_plan_fault_k : PySem.W.keepIn K (.ref f_plan_fault) = true) (C_plan_fault_b : Binds K fd_plan_fault ["plan"] []) {sp_law_told : SpD} {f_law_told : Addr} {fd_law_told : FuncData} {k_law_told : Nat} (C_law_told : FnOk P w K mg base CX0 k_law_told f_law_told fd_law_told ["tables", "rounds"] (spL K sp_law_told)) (h_law_told : k_law_told ≤ k) (C_law_told_g : mg "_law_told" = some (.ref f_law_told)) (C_law_told_k : PySem.W.keepIn K (.ref f_law_told) = true) (C_law_told_b : Binds K fd_law_told ["tables", "rounds"] []) {sp_law_turning : SpD} {f_law_turning : Addr} {fd_law_turning : FuncData} {k_law_turning : Nat} (C_law_turning : FnOk P w K mg base CX0 k_law_turning f_law_turning fd_law_turning ["tables", "rounds"] (spL K sp_law_turning)) (h_law_turning : k_law_turning ≤ k) (C_law_turning_g : mg "_law_turning" = some (.ref f_law_turning)) (C_law_turning_k : PySem.W.keepIn K (.ref f_law_turning) = true) (C_law_turning_b : Binds K fd_law_turning ["tables", "rounds"] []) (cdv : Value) (A : Around) (outer : List PySem.Env) (s : Shared) (H : Hp) (E : XK) (hr : Room k (A.deeper (envOfC "law" (defScope s_law) s.heap.objs.size f cdv))) (G : Gh) (hG : G.slots = []) :
    SDs (cxOf CX0 P w K mg base N_law "law" (defScope s_law) f cdv A outer s H E).nox G (defBody s_law) (tb_law_k23 sp_law_all_meet sp_law_same sp_all_meet sp_law_draw sp_plan_fault sp_law_told sp_law_turning) := by
  unfold tb_law_k23
  exact sds_cons (sd_setL (ns hG (by decide)) sc_law.nd rfl (by first | exact Or.inl rfl | exact Or.inr rfl) (el_lst (eds_nil)))
      (sds_cons (sd_for (ms := [2]) PassesOwn.never rfl (id_range1 rfl b_range (ed_int)) (gd_name (ns hG (by decide)) (by decide) sc_law.nd rfl (by first | exact Or.inl rfl | exact Or.inr rfl)) (sds_cons (sd_set (ns hG (by decide)) sc_law.nd rfl (by first | exact Or.inl rfl | exact Or.inr rfl) (ed_op od_add (ed_int) (ED.er (ed_call C_law_draw (hr.mono h_law_draw) rfl C_law_draw_g C_law_draw_k C_law_draw_b (ea_v (ed_var 0) (ea_o 1 (ea_v (ed_int) (ea_nil))))))))
      (sds_cons (sd_set (ns hG (by decide)) sc_law.nd rfl (by first | exact Or.inl rfl | exact Or.inr rfl) (ed_op od_sub (ed_call C_law_draw (hr.mono h_law_draw) rfl C_law_draw_g C_law_draw_k C_law_draw_b (ea_v (ed_var 0) (ea_o 1 (ea_v (ed_op od_add (ed_var 3) (ED.er (ed_int))) (ea_nil))))) (ED.er (ed_int))))
      (sds_cons (sd_set (ns hG (by decide)) sc_law.nd rfl (by first | exact Or.inl rfl | exact Or.inr rfl) (ed_call C_law_turning (hr.mono h_law_turning) rfl C_law_turning_g C_law_turning_k C_law_turning_b (ea_v (ed_var 3) (ea_v (ed_var 4) (ea_nil)))))
      (sds_cons (sd_if (eb_not (eb_tru (ED.er (ed_call C_law_same (hr.mono h_law_same) rfl C_law_same_g C_law_same_k C_law_same_b (ea_v (ed_call C_law_told (hr.mono h_law_told) rfl C_law_told_g C_law_told_k C_law_told_b (ea_v (ed_var 3) (ea_v (ed_var 4) (ea_nil)))) (ea_v (ed_var 5) (ea_nil))))))) (sds_one (sd_ret (ed_bl))) (sds_nil))
      (sds_cons (sd_if (EW.eb (ew_and (eb_cmp (od_ne hr.units) (ed_var 5) (ED.er (ed_str)) (nomark _)) (ew_and1 (eb_cmp od_isN (ed_call C_plan_fault (hr.mono h_plan_fault) rfl C_plan_fault_g C_plan_fault_k C_plan_fault_b (ea_v (ed_var 5) (ea_nil))) (ED.er (ed_non)) (nomark _))))) (sds_one (sd_ret (ed_bl))) (sds_nil))
      (sds_cons (sd_set (ns hG (by decide)) sc_law.nd rfl (by first | exact Or.inl rfl | exact Or.inr rfl) (ed_op od_add (ed_int) (ED.er (ed_call C_law_draw (hr.mono h_law_draw) rfl C_law_draw_g C_law_draw_k C_law_draw_b (ea_v (ed_var 0) (ea_o 1 (ea_v (ed_int) (ea_nil))))))))
      (sds_cons (sd_set (ns hG (by decide)) sc_law.nd rfl (by first | exact Or.inl rfl | exact Or.inr rfl) (ed_call C_all_meet (hr.mono h_all_meet) rfl C_all_meet_g C_all_meet_k C_all_meet_b (ea_v (ed_var 6) (ea_nil))))
      (sds_cons (sd_if (eb_not (eb_tru (ED.er (ed_call C_law_same (hr.mono h_law_same) rfl C_law_same_g C_law_same_k C_law_same_b (ea_v (ed_var 7) (ea_v (ed_call C_law_all_meet (hr.mono h_law_all_meet) rfl C_law_all_meet_g C_law_all_meet_k C_law_all_meet_b (ea_v (ed_var 6) (ea_nil))) (ea_nil))))))) (sds_one (sd_ret (ed_bl))) (sds_nil))
      (sds_cons (sd_par2 (nsA hG (by decide)) rfl sc_law.nd rfl rfl (by decide) rfl rfl (eps_d (EL.ed (el_lst (eds_nil))) (eps_d (ed_op od_add (ed_op od_sub (ed_var 6) (ED.er (ed_int))) (ED.er (ed_op od_sub (ed_var 6) (ED.er (ed_op od_mul (ed_op od_div (ed_var 6) (ED.er (ed_int))) (ED.er (ed_int))))))) (eps_nil))))
      (sds_cons (sd_for (ms := [10]) PassesOwn.never rfl (id_tup (ed_var 7)) (gd_name (ns hG (by decide)) (by decide) sc_law.nd rfl (by first | exact Or.inl rfl | exact Or.inr rfl)) (sds_cons (sd_set (ns hG (by decide)) sc_law.nd rfl (by first | exact Or.inl rfl | exact Or.inr rfl) (EL.ed (el_op od_cat (ed_var 8) (ED.er (EL.ed (el_caT1 cd_list (ED.er (ed_var 10)) rfl b_list bb_list))))))
      (sds_cons (sd_set (ns hG (by decide)) sc_law.nd rfl (by first | exact Or.inl rfl | exact Or.inr rfl) (EL.ed (el_op od_cat (EL.ed (el_comp [("one", 12), ("other", 13)] rfl sc_law.nd rfl (nsA hG (by decide)) (id_tup (ed_var 10)) (blkOk_by (N := N_law) (sc := defScope s_law) (by decide +kernel)) (fun _ q1 _ _ _ _ _ => gd_tup rfl (gds_cons (gd_name (ns (q1.trans hG) (by decide)) (by decide) sc_law.nd rfl (by first | exact Or.inl rfl | exact Or.inr rfl)) (gds_cons (gd_name (ns (q1.trans hG) (by decide)) (by decide) sc_law.nd rfl (by first | exact Or.inl rfl | exact Or.inr rfl)) (gds_nil)))) (fun _ q1 _ _ _ _ _ => ebs_nil) (fun _ q1 _ _ _ _ _ => ed_var 12))) (ED.er (EL.ed (el_comp [("one", 12), ("other", 13)] rfl sc_law.nd rfl (nsA hG (by decide)) (id_tup (ed_var 10)) (blkOk_by (N := N_law) (sc := defScope s_law) (by decide +kernel)) (fun _ q2 _ _ _ _ _ => gd_tup rfl (gds_cons (gd_name (ns (q2.trans hG) (by decide)) (by decide) sc_law.nd rfl (by first | exact Or.inl rfl | exact Or.inr rfl)) (gds_cons (gd_name (ns (q2.trans hG) (by decide)) (by decide) sc_law.nd rfl (by first | exact Or.inl rfl | exact Or.inr rfl)) (gds_nil)))) (fun _ q2 _ _ _ _ _ => ebs_nil) (fun _ q2 _ _ _ _ _ => ed_var 13)))))))
      (sds_one (sd_if (EW.eb (ew_or (eb_cmp (od_ne hr.units) (ed_lenSet (ED.er (ed_var 11)) rfl b_len rfl b_set) (ED.er (ed_ca1 cd_len (ED.er (ed_var 11)) rfl b_len bb_len)) (nomark _)) (ew_or1 (eb_cmp (od_ne hr.units) (ed_ca1 cd_len (ED.er (ed_var 11)) rfl b_len bb_len) (ED.er (ed_op od_mul (ed_op od_div (ed_var 6) (ED.er (ed_int))) (ED.er (ed_int)))) (nomark _))))) (sds_one (sd_ret (ed_bl))) (sds_nil))))))
      (sds_one (sd_if (EW.eb (ew_or (eb_cmp (od_ne hr.units) (EL.ed (el_ca1 (cd_sorted (u65 hr)) (ED.er (ed_var 8)) rfl b_sorted bb_sorted)) (ED.er (EL.ed (el_sortSetR (ED.er (ed_var 8)) (u65 hr) rfl b_sorted rfl b_set))) (nomark _)) (ew_or (eb_cmp (od_ne hr.units) (ed_ca1 cd_len (ED.er (ed_var 8)) rfl b_len bb_len) (ED.er (ed_op od_div (ed_op od_mul (ed_var 6) (ED.er (ed_op od_sub (ed_var 6) (ED.er (ed_int))))) (ED.er (ed_int)))) (nomark _)) (ew_or1 (eb_cmp (od_ne hr.units) (ed_ca1 cd_len (ED.er (ed_var 7)) rfl b_len bb_len) (ED.er (ed_var 9)) (nomark _)))))) (sds_one (sd_ret (ed_bl))) (sds_nil))))))))))))))
      (sds_one (sd_ret (ed_bl))))
end
theorem all_mk {l : PySem.W.OpenLaw} {w : World} {K : PySem.W.Frag} {h : Heap} {mg : Str → Option Value} {fa : Addr} {f_law_all_meet : Addr} {od_law_all_meet an_law_all_meet : Option Addr} {sl_law_all_meet : Array (Option Value)} {oc_law_all_meet kV_law_all_meet dc_law_all_meet pm_law_all_meet cd_law_all_meet ct_law_all_meet : Value} {f_law_same : Addr} {od_law_same an_law_same : Option Addr} {sl_law_same : Array (Option Value)} {oc_law_same kV_law_same dc_law_same pm_law_same cd_law_same ct_law_same : Value} {f_all_meet : Addr} {od_all_meet an_all_meet : Option Addr} {sl_all_meet : Array (Option Value)} {oc_all_meet kV_all_meet dc_all_meet pm_all_meet cd_all_meet ct_all_meet : Value} {f_law_draw : Addr} {od_law_draw an_law_draw : Option Addr} {sl_law_draw : Array (Option Value)} {oc_law_draw kV_law_draw dc_law_draw pm_law_draw cd_law_draw ct_law_draw : Value} {f_plan_fault : Addr} {od_plan_fault an_plan_fault : Option Addr} {sl_plan_fault : Array (Option Value)} {oc_plan_fault kV_plan_fault dc_plan_fault pm_plan_fault cd_plan_fault ct_plan_fault : Value} {f_turning : Addr} {od_turning an_turning : Option Addr} {sl_turning : Array (Option Value)} {oc_turning kV_turning dc_turning pm_turning cd_turning ct_turning : Value} {f_law_told : Addr} {od_law_told an_law_told : Option Addr} {sl_law_told : Array (Option Value)} {oc_law_told kV_law_told dc_law_told pm_law_told cd_law_told ct_law_told : Value} {f_law_turning : Addr} {od_law_turning an_law_turning : Option Addr} {sl_law_turning : Array (Option Value)} {oc_law_turning kV_law_turning dc_law_turning pm_law_turning cd_law_turning ct_law_turning : Value} {f_law : Addr} {od_law an_law : Option Addr} {sl_law : Array (Option Value)} {oc_law kV_law dc_law pm_law cd_law ct_law : Value} {A_NoPlan : Addr} (X : K.In h) (G : h.Ns mainGlobals mg) (hfa : mg "law" = some (.ref fa))
    (a_law_all_meet : PySem.W.nsIn K mainGlobals "_law_all_meet" = some (some (.ref f_law_all_meet))) (l_law_all_meet : K.lookup f_law_all_meet = some ⟨oc_law_all_meet, od_law_all_meet, .func (PySem.W.fnOf "_law_all_meet" "_law_all_meet" (defArgs s_law_all_meet) (defBody s_law_all_meet) (defScope s_law_all_meet) .none kV_law_all_meet dc_law_all_meet pm_law_all_meet an_law_all_meet cd_law_all_meet ct_law_all_meet), sl_law_all_meet⟩) (c_law_all_meet : PySem.W.codeIn K cd_law_all_meet "_law_all_meet" = true) (k_law_all_meet : PySem.W.keepIn K (.ref f_law_all_meet) = true)
    (a_law_same : PySem.W.nsIn K mainGlobals "_law_same" = some (some (.ref f_law_same))) (l_law_same : K.lookup f_law_same = some ⟨oc_law_same, od_law_same, .func (PySem.W.fnOf "_law_same" "_law_same" (defArgs s_law_same) (defBody s_law_same) (defScope s_law_same) .none kV_law_same dc_law_same pm_law_same an_law_same cd_law_same ct_law_same), sl_law_same⟩) (c_law_same : PySem.W.codeIn K cd_law_same "_law_same" = true) (k_law_same : PySem.W.keepIn K (.ref f_law_same) = true)
    (a_all_meet : PySem.W.nsIn K mainGlobals "all_meet" = some (some (.ref f_all_meet))) (l_all_meet : K.lookup f_all_meet = some ⟨oc_all_meet, od_all_meet, .func (PySem.W.fnOf "all_meet" "all_meet" (defArgs s_all_meet) (defBody s_all_meet) (defScope s_all_meet) .none kV_all_meet dc_all_meet pm_all_meet an_all_meet cd_all_meet ct_all_meet), sl_all_meet⟩) (c_all_meet : PySem.W.codeIn K cd_all_meet "all_meet" = true) (k_all_meet : PySem.W.keepIn K (.ref f_all_meet) = true)
    (a_law_draw : PySem.W.nsIn K mainGlobals "_law_draw" = some (some (.ref f_law_draw))) (l_law_draw : K.lookup f_law_draw = some ⟨oc_law_draw, od_law_draw, .func (PySem.W.fnOf "_law_draw" "_law_draw" (defArgs s_law_draw) (defBody s_law_draw) (defScope s_law_draw) .none kV_law_draw dc_law_draw pm_law_draw an_law_draw cd_law_draw ct_law_draw), sl_law_draw⟩) (c_law_draw : PySem.W.codeIn K cd_law_draw "_law_draw" = true) (k_law_draw : PySem.W.keepIn K (.ref f_law_draw) = true)
    (a_plan_fault : PySem.W.nsIn K mainGlobals "plan_fault" = some (some (.ref f_plan_fault))) (l_plan_fault : K.lookup f_plan_fault = some ⟨oc_plan_fault, od_plan_fault, .func (PySem.W.fnOf "plan_fault" "plan_fault" (defArgs s_plan_fault) (defBody s_plan_fault) (defScope s_plan_fault) .none kV_plan_fault dc_plan_fault pm_plan_fault an_plan_fault cd_plan_fault ct_plan_fault), sl_plan_fault⟩) (c_plan_fault : PySem.W.codeIn K cd_plan_fault "plan_fault" = true) (k_plan_fault : PySem.W.keepIn K (.ref f_plan_fault) = true)
    (a_turning : PySem.W.nsIn K mainGlobals "turning" = some (some (.ref f_turning))) (l_turning : K.lookup f_turning = some ⟨oc_turning, od_turning, .func (PySem.W.fnOf "turning" "turning" (defArgs s_turning) (defBody s_turning) (defScope s_turning) .none kV_turning dc_turning pm_turning an_turning cd_turning ct_turning), sl_turning⟩) (c_turning : PySem.W.codeIn K cd_turning "turning" = true) (k_turning : PySem.W.keepIn K (.ref f_turning) = true)
    (a_law_told : PySem.W.nsIn K mainGlobals "_law_told" = some (some (.ref f_law_told))) (l_law_told : K.lookup f_law_told = some ⟨oc_law_told, od_law_told, .func (PySem.W.fnOf "_law_told" "_law_told" (defArgs s_law_told) (defBody s_law_told) (defScope s_law_told) .none kV_law_told dc_law_told pm_law_told an_law_told cd_law_told ct_law_told), sl_law_told⟩) (c_law_told : PySem.W.codeIn K cd_law_told "_law_told" = true) (k_law_told : PySem.W.keepIn K (.ref f_law_told) = true)
    (a_law_turning : PySem.W.nsIn K mainGlobals "_law_turning" = some (some (.ref f_law_turning))) (l_law_turning : K.lookup f_law_turning = some ⟨oc_law_turning, od_law_turning, .func (PySem.W.fnOf "_law_turning" "_law_turning" (defArgs s_law_turning) (defBody s_law_turning) (defScope s_law_turning) .none kV_law_turning dc_law_turning pm_law_turning an_law_turning cd_law_turning ct_law_turning), sl_law_turning⟩) (c_law_turning : PySem.W.codeIn K cd_law_turning "_law_turning" = true) (k_law_turning : PySem.W.keepIn K (.ref f_law_turning) = true)
    (a_law : PySem.W.nsIn K mainGlobals "law" = some (some (.ref f_law))) (l_law : K.lookup f_law = some ⟨oc_law, od_law, .func (PySem.W.fnOf "law" "law" (defArgs s_law) (defBody s_law) (defScope s_law) .none kV_law dc_law pm_law an_law cd_law ct_law), sl_law⟩) (c_law : PySem.W.codeIn K cd_law "law" = true) (k_law : PySem.W.keepIn K (.ref f_law) = true)
    (a_NoPlan : PySem.W.nsIn K mainGlobals "NoPlan" = some (some (.ref A_NoPlan))) (x_NoPlan : PySem.W.excIn K A_NoPlan [.type "ValueError", .type "Exception", .type "BaseException", .type "object"] "ValueError.__new__" = true) (k_NoPlan : PySem.W.keepIn K (.ref A_NoPlan) = true) (b_NoPlan : PySem.W.subIn K (.ref A_NoPlan) (.type "BaseException") = some true) (t_NoPlan : PySem.W.typeIn K (.ref A_NoPlan) = some (.type "type")) (i_NoPlan : PySem.W.isClsIn K A_NoPlan = true) (s_NoPlan : PySem.W.subIn K (.ref A_NoPlan) (.ref A_NoPlan) = some true)
    (z_tuple : PySem.W.nsIn K mainGlobals "tuple" = some none)
    (z_range : PySem.W.nsIn K mainGlobals "range" = some none)
    (z_int : PySem.W.nsIn K mainGlobals "int" = some none)
    (z_isinstance : PySem.W.nsIn K mainGlobals "isinstance" = some none)
    (z_bool : PySem.W.nsIn K mainGlobals "bool" = some none)
    (z_str : PySem.W.nsIn K mainGlobals "str" = some none)
    (z_zip : PySem.W.nsIn K mainGlobals "zip" = some none)
    (z_all : PySem.W.nsIn K mainGlobals "all" = some none)
    (z_len : PySem.W.nsIn K mainGlobals "len" = some none)
    (z_sorted : PySem.W.nsIn K mainGlobals "sorted" = some none)
    (z_max : PySem.W.nsIn K mainGlobals "max" = some none)
    (z_min : PySem.W.nsIn K mainGlobals "min" = some none)
    (z_abs : PySem.W.nsIn K mainGlobals "abs" = some none)
    (z_enumerate : PySem.W.nsIn K mainGlobals "enumerate" = some none)
    (z_list : PySem.W.nsIn K mainGlobals "list" = some none)
    (z_set : PySem.W.nsIn K mainGlobals "set" = some none) :
    ∃ fd : FuncData, (∀ (s : Shared) (v : Value), BindsTo s fd ⟨[v], []⟩ [("script", v)]) ∧ ∀ base : Heap, K.In base → base.Ns mainGlobals mg → FnOk l.prog w K mg base CX0 6 fa fd ["script"] (spL K spLaw) := by
  cases hfa.symm.trans (PySem.W.mg_of X G a_law)
  have F_law_all_meet := fun_mk (st := s_law_all_meet) l_law_all_meet c_law_all_meet k_law_all_meet
  have B_law_all_meet := F_law_all_meet.binds (ps := ["pairs"]) fun _ _ _ _ _ _ us hl => match us, hl with | [_], _ => rfl
  have g_law_all_meet := PySem.W.mg_of X G a_law_all_meet
  have F_law_same := fun_mk (st := s_law_same) l_law_same c_law_same k_law_same
  have B_law_same := F_law_same.binds (ps := ["got", "due"]) fun _ _ _ _ _ _ us hl => match us, hl with | [_, _], _ => rfl
  have g_law_same := PySem.W.mg_of X G a_law_same
  have F_all_meet := fun_mk (st := s_all_meet) l_all_meet c_all_meet k_all_meet
  have B_all_meet := F_all_meet.binds (ps := ["pairs"]) fun _ _ _ _ _ _ us hl => match us, hl with | [_], _ => rfl
  have g_all_meet := PySem.W.mg_of X G a_all_meet
  have F_law_draw := fun_mk (st := s_law_draw) l_law_draw c_law_draw k_law_draw
  have B_law_draw := F_law_draw.binds (ps := ["script", "town", "many"]) fun _ _ _ _ _ _ us hl => match us, hl with | [_, _, _], _ => rfl
  have g_law_draw := PySem.W.mg_of X G a_law_draw
  have F_plan_fault := fun_mk (st := s_plan_fault) l_plan_fault c_plan_fault k_plan_fault
  have B_plan_fault := F_plan_fault.binds (ps := ["plan"]) fun _ _ _ _ _ _ us hl => match us, hl with | [_], _ => rfl
  have g_plan_fault := PySem.W.mg_of X G a_plan_fault
  have F_turning := fun_mk (st := s_turning) l_turning c_turning k_turning
  have B_turning := F_turning.binds (ps := ["tables", "rounds"]) fun _ _ _ _ _ _ us hl => match us, hl with | [_, _], _ => rfl
  have g_turning := PySem.W.mg_of X G a_turning
  have F_law_told := fun_mk (st := s_law_told) l_law_told c_law_told k_law_told
  have B_law_told := F_law_told.binds (ps := ["tables", "rounds"]) fun _ _ _ _ _ _ us hl => match us, hl with | [_, _], _ => rfl
  have g_law_told := PySem.W.mg_of X G a_law_told
  have F_law_turning := fun_mk (st := s_law_turning) l_law_turning c_law_turning k_law_turning
  have B_law_turning := F_law_turning.binds (ps := ["tables", "rounds"]) fun _ _ _ _ _ _ us hl => match us, hl with | [_, _], _ => rfl
  have g_law_turning := PySem.W.mg_of X G a_law_turning
  have F_law := fun_mk (st := s_law) l_law c_law k_law
  have g_NoPlan := PySem.W.mg_of X G a_NoPlan
  have e_NoPlan : (fun cls => PySem.W.exmOne K cls (.ref A_NoPlan)) (.ref A_NoPlan) = some true := exm_sub b_NoPlan i_NoPlan t_NoPlan s_NoPlan
  have b_tuple := PySem.W.mg_none_of X G z_tuple
  have b_range := PySem.W.mg_none_of X G z_range
  have b_int := PySem.W.mg_none_of X G z_int
  have b_isinstance := PySem.W.mg_none_of X G z_isinstance
  have b_bool := PySem.W.mg_none_of X G z_bool
  have b_str := PySem.W.mg_none_of X G z_str
  have b_zip := PySem.W.mg_none_of X G z_zip
  have b_all := PySem.W.mg_none_of X G z_all
  have b_len := PySem.W.mg_none_of X G z_len
  have b_sorted := PySem.W.mg_none_of X G z_sorted
  have b_max := PySem.W.mg_none_of X G z_max
  have b_min := PySem.W.mg_none_of X G z_min
  have b_abs := PySem.W.mg_none_of X G z_abs
  have b_enumerate := PySem.W.mg_none_of X G z_enumerate
  have b_list := PySem.W.mg_none_of X G z_list
  have b_set := PySem.W.mg_none_of X G z_set
  refine ⟨PySem.W.fnOf "law" "law" (defArgs s_law) (defBody s_law) (defScope s_law) .none kV_law dc_law pm_law an_law cd_law ct_law, fun s v => .of_eq rfl, fun base _ _ => ?_⟩
  have ok_law_all_meet : FnOk l.prog w K mg base CX0 1 f_law_all_meet _ ["pairs"] (spL K spLMeet) := fn_okD F_law_all_meet sc_law_all_meet sh_law_all_meet (fun cdv A outer s H E hr G hG => dv_law_all_meet b_tuple b_range b_int cdv A outer s H E hr G hG) rd_law_all_meet_k23
  have ok_law_same_z : FnOk l.prog w K mg base CX0 1 f_law_same _ ["got", "due"] (spL K spNo) := no_ok F_law_same sc_law_same
  have ok_law_same_0 : FnOk l.prog w K mg base CX0 2 f_law_same _ ["got", "due"] (spL K (spSame 0)) := fn_okD F_law_same sc_law_same (sh_law_same 0) (fun cdv A outer s H E hr G hG => dv_law_same b_isinstance b_int b_bool b_str b_tuple b_zip b_all b_len ok_law_same_z (by decide) g_law_same F_law_same.kp B_law_same cdv A outer s H E hr G hG) (rd_law_same 0 spNo (fun m e => nomatch e))
  have ok_law_same_1 : FnOk l.prog w K mg base CX0 3 f_law_same _ ["got", "due"] (spL K (spSame 1)) := fn_okD F_law_same sc_law_same (sh_law_same 1) (fun cdv A outer s H E hr G hG => dv_law_same b_isinstance b_int b_bool b_str b_tuple b_zip b_all b_len ok_law_same_0 (by decide) g_law_same F_law_same.kp B_law_same cdv A outer s H E hr G hG) (rd_law_same 1 (spSame 0) (fun m e => by cases e; rfl))
  have ok_law_same_2 : FnOk l.prog w K mg base CX0 4 f_law_same _ ["got", "due"] (spL K (spSame 2)) := fn_okD F_law_same sc_law_same (sh_law_same 2) (fun cdv A outer s H E hr G hG => dv_law_same b_isinstance b_int b_bool b_str b_tuple b_zip b_all b_len ok_law_same_1 (by decide) g_law_same F_law_same.kp B_law_same cdv A outer s H E hr G hG) (rd_law_same 2 (spSame 1) (fun m e => by cases e; rfl))
  have ok_law_same : FnOk l.prog w K mg base CX0 5 f_law_same _ ["got", "due"] (spL K (spSame 3)) := fn_okD F_law_same sc_law_same (sh_law_same 3) (fun cdv A outer s H E hr G hG => dv_law_same b_isinstance b_int b_bool b_str b_tuple b_zip b_all b_len ok_law_same_2 (by decide) g_law_same F_law_same.kp B_law_same cdv A outer s H E hr G hG) (rd_law_same 3 (spSame 2) (fun m e => by cases e; rfl))
  have ok_all_meet : FnOk l.prog w K mg base CX0 1 f_all_meet _ ["pairs"] (spL K spMeet) := fn_okD F_all_meet sc_all_meet sh_all_meet (fun cdv A outer s H E hr G hG => dv_all_meet b_tuple b_range b_sorted b_max b_min cdv A outer s H E hr G hG) rd_all_meet
  have ok_law_draw : FnOk l.prog w K mg base CX0 1 f_law_draw _ ["script", "town", "many"] (spL K spDraw) := fn_okD F_law_draw sc_law_draw sh_law_draw (fun cdv A outer s H E hr G hG => dv_law_draw b_len b_abs b_max cdv A outer s H E hr G hG) rd_law_draw
  have ok_plan_fault : FnOk l.prog w K mg base CX0 1 f_plan_fault _ ["plan"] (spL K spFault) := fn_okD F_plan_fault sc_plan_fault sh_plan_fault (fun cdv A outer s H E hr G hG => dv_plan_fault b_enumerate cdv A outer s H E hr G hG) rd_plan_fault
  have ok_turning : FnOk l.prog w K mg base (L2.CX l.prog w) 1 f_turning _ ["tables", "rounds"] (spLX K (spTurning (.ref A_NoPlan))) := fn_okX F_turning sc_turning (sh_turning _) (fun cdv A outer s H E hr G hG WD hW => dv_turning b_tuple b_range b_int x_NoPlan g_NoPlan k_NoPlan b_NoPlan t_NoPlan cdv A outer s H E hr G hG WD hW) (rd_turning _)
  have ok_law_told : FnOk l.prog w K mg base CX0 2 f_law_told _ ["tables", "rounds"] (spL K spToldT) := fn_okD F_law_told sc_law_told sh_law_toldT (fun cdv A outer s H E hr G hG => dv_law_told ok_turning (by decide) g_turning F_turning.kp B_turning g_NoPlan (m_NoPlan := fun cls => PySem.W.exmOne K cls (.ref A_NoPlan)) (fun _ _ h => h) cdv A outer s H E hr G hG) (rd_law_toldT e_NoPlan)
  have ok_law_turning : FnOk l.prog w K mg base CX0 1 f_law_turning _ ["tables", "rounds"] (spL K spLTurn) := fn_okD F_law_turning sc_law_turning sh_law_turning (fun cdv A outer s H E hr G hG => dv_law_turning b_tuple b_range b_list cdv A outer s H E hr G hG) rd_law_turning_k23
  have ok_law : FnOk l.prog w K mg base CX0 6 _ _ ["script"] (spL K spLaw) := fn_okD F_law sc_law sh_law (fun cdv A outer s H E hr G hG => dv_law b_range b_sorted b_set b_len b_list ok_law_all_meet (by decide) g_law_all_meet F_law_all_meet.kp B_law_all_meet ok_law_same (by decide) g_law_same F_law_same.kp B_law_same ok_all_meet (by decide) g_all_meet F_all_meet.kp B_all_meet ok_law_draw (by decide) g_law_draw F_law_draw.kp B_law_draw ok_plan_fault (by decide) g_plan_fault F_plan_fault.kp B_plan_fault ok_law_told (by decide) g_law_told F_law_told.kp B_law_told ok_law_turning (by decide) g_law_turning F_law_turning.kp B_law_turning cdv A outer s H E hr G hG) rd_law_k23
  exact ok_law
end LW
open PySem PySem.W PyProof.Rows
set_option maxHeartbeats 0 in
theorem PySem.Challenge.cw_boardcalls_k23_whole_rounds_holds : PySem.Challenge.rw_boardcalls_k23_whole_rounds.Holds := by
  w_on; o_law; k_head; (case hw => w_witness2)
  k_fill
  refine DL.law_walk (l := PySem.Challenge.rw_boardcalls_k23_whole_rounds) (n := 63) (k := 6) (x := "script") (sp := DL.spLaw) rfl (by decide) rfl ⟨rfl, by decide, by decide⟩ (fun w h Y => PySem.W.kIn_of Y) ?F (fun ns Q hl _ q => ⟨ns, rfl, hl, q⟩)
  case F =>
    intro w mg fa h KX G hmg
    refine' LW.all_mk KX G hmg ?a_law_all_meet ?l_law_all_meet ?c_law_all_meet ?k_law_all_meet ?a_law_same ?l_law_same ?c_law_same ?k_law_same ?a_all_meet ?l_all_meet ?c_all_meet ?k_all_meet ?a_law_draw ?l_law_draw ?c_law_draw ?k_law_draw ?a_plan_fault ?l_plan_fault ?c_plan_fault ?k_plan_fault ?a_turning ?l_turning ?c_turning ?k_turning ?a_law_told ?l_law_told ?c_law_told ?k_law_told ?a_law_turning ?l_law_turning ?c_law_turning ?k_law_turning ?a_law ?l_law ?c_law ?k_law ?a_NoPlan ?x_NoPlan ?k_NoPlan ?b_NoPlan ?t_NoPlan ?i_NoPlan ?s_NoPlan ?z_tuple ?z_range ?z_int ?z_isinstance ?z_bool ?z_str ?z_zip ?z_all ?z_len ?z_sorted ?z_max ?z_min ?z_abs ?z_enumerate ?z_list ?z_set
    (case a_law_all_meet => k_is); (case l_law_all_meet => k_is); (case c_law_all_meet => k_is); (case k_law_all_meet => k_is); (case a_law_same => k_is); (case l_law_same => k_is); (case c_law_same => k_is); (case k_law_same => k_is); (case a_all_meet => k_is); (case l_all_meet => k_is); (case c_all_meet => k_is); (case k_all_meet => k_is); (case a_law_draw => k_is); (case l_law_draw => k_is); (case c_law_draw => k_is); (case k_law_draw => k_is); (case a_plan_fault => k_is); (case l_plan_fault => k_is); (case c_plan_fault => k_is); (case k_plan_fault => k_is); (case a_turning => k_is); (case l_turning => k_is); (case c_turning => k_is); (case k_turning => k_is); (case a_law_told => k_is); (case l_law_told => k_is); (case c_law_told => k_is); (case k_law_told => k_is); (case a_law_turning => k_is); (case l_law_turning => k_is); (case c_law_turning => k_is); (case k_law_turning => k_is); (case a_law => k_is); (case l_law => k_is); (case c_law => k_is); (case k_law => k_is); (case a_NoPlan => k_is); (case k_NoPlan => k_is); (case b_NoPlan => k_is); (case t_NoPlan => k_is); (case i_NoPlan => k_is); (case z_tuple => k_is); (case z_range => k_is); (case z_int => k_is); (case z_isinstance => k_is); (case z_bool => k_is); (case z_str => k_is); (case z_zip => k_is); (case z_all => k_is); (case z_len => k_is); (case z_sorted => k_is); (case z_max => k_is); (case z_min => k_is); (case z_abs => k_is); (case z_enumerate => k_is); (case z_list => k_is); (case z_set => k_is); (case x_NoPlan => k_exc); (case s_NoPlan => (first | rfl | k_is))
