import PyProof.Rows.All
import Wide.All
import OpenK.AllK
import Wide.FinOn
import HandS.ForMost
import HandS.Deep
import HandS.Flow
import HandS.IsInst
import HandS.EndBits
import KE.KDictKeyed
import HandS.DictTup
import HandS.Style
import HandS.Wide
import HandS.Zip
import HandS.Walk
import HandS.Ends
import HandS.Set
import HandS.SetFor
import HandS.Strs
import KE.SortData
import HandS.SortKw
import KE.GoesMore
import KE.DataFind
import KE.DataCmp
import KE.GoesZip
import KE.GoesEnum
import HandS.TupMul
import KE.DataMinMax
import HandS.TupSets
import KE.KDictDisplayH
import HandS.WordsExc
import HandS.TryOnly
import HandS.ExcOwn
import HandS.Conv
import HandS.NoneIn
import KE.KDictCopyH
import KE.KDictSum
import HandS.Records
import HandS.CallSlots
import HandS.Defaults
import HandS.MakeKw
import HandS.MakeKwOnly
import HandS.HotCalls
import HandS.ExcIs
import HandS.OwnEq
import HandS.FStr
import KE.KCallOwn
import HandS.Codes
import KE.KFmtOwn
import HandS.More
import HandS.Text
import HandS.Iter
import HandS.Exc
import HandS.Comp
import KE.GoesRaise
import PySem.Challenge.RW_boardcalls_k33_whole_texts_of_calls
set_option Elab.async false
set_option linter.all false
set_option maxRecDepth 100000
/-! DL1: deep data over the hand layer: relations, judgements, names, constants, statements. -/
namespace DL
open PySem PySem.Spec PyProof.Rows L2
abbrev D := PyData
abbrev St := L2.St
/-- a list that nobody writes: frozen, or one of the module's own -/
def LsF (K : PySem.W.Frag) (H : Hp) (a : Addr) (vs : List V) : Prop :=
  (∃ o, H a = some (.frz o (.lst vs))) ∨ ∃ (its : Array Value) (n : Nat), K.lookup a = some { cls := .type "list", data := .seq its n } ∧ its.size ≤ sizeLine ∧ Vals vs its.toList
theorem LsF.sq {K : PySem.W.Frag} {H : Hp} {a : Addr} {vs : List V} (h : LsF K H a vs) : SqL K H a vs := by
  rcases h with h | ⟨its, n, e, z, r⟩
  · exact .inl (.inr h)
  · exact .inr ⟨_, its, n, e, rfl, rfl, rfl, z, r⟩
theorem LsF.of {K : PySem.W.Frag} {H : Hp} {a : Addr} {vs : List V} {o : Obj} (h : H a = some (.frz o (.lst vs))) : LsF K H a vs := .inl ⟨o, h⟩
/-- the object at a has no dict of its own -/
def DNo (K : PySem.W.Frag) (H : Hp) (a : Addr) : Prop := (∃ (o : Obj) (u : HO), H a = some (.frz o u) ∧ o.dict = none) ∨ ∃ o, K.lookup a = some o ∧ o.dict = none
def SqD (K : PySem.W.Frag) (H : Hp) (a : Addr) (vs : List V) : Prop := SqT K H a vs ∧ DNo K H a
/-! ### dicts whose keys are tuples (of ints, nested): the object by its entries -/
mutual
/-- the key of a dict that a tuple of ints (nested) is -/
def nkOf : D → Option NestedKey
  | .int i => some (.num i)
  | .tuple xs => (nksOf xs).map .tup
  | _ => none
def nksOf : List D → Option (List NestedKey)
  | [] => some []
  | x :: xs => match nkOf x, nksOf xs with
    | some k, some ks => some (k :: ks)
    | _, _ => none
end
/-- at a stands a dict with these entries -/
def dO (a : Addr) (es : List DictEntry) : HO := .ext fun h => ∃ (o : Obj) (ep : Nat), h.get? a = some o ∧ o.ExactDict ∧ o.data = .dict es.toArray ep
/-- a key (an int, a text) as data -/
def keyDt : Key → D
  | .inl i => .int i
  | .inr x => .str x
/-- an object's name as data -/
def hdl (a : Addr) : D := .dict [(.none, .int a)]
mutual
/-- the value v stands for the data d; lists within data are frozen -/
inductive Rp (K : PySem.W.Frag) (H : Hp) : D → V → Prop
  | non : Rp K H .none .non
  | bl (b : Bool) : Rp K H (.bool b) (.bl b)
  | int (i : Int) : Rp K H (.int i) (.int i)
  | str (x : Str) : Rp K H (.str x) (.str x)
  | tup {a : Addr} {vs : List V} {ds : List D} : SqD K H a vs → RpL K H ds vs → Rp K H (.tuple ds) (.ref a)
  | lst {a : Addr} {vs : List V} {ds : List D} : LsF K H a vs → RpL K H ds vs → Rp K H (.list ds) (.ref a)
  | dct {a : Addr} {o : Obj} {es : List DictEntry} {kvs : List (D × D)} : H a = some (.frz o (dO a es)) → RpD K H kvs es → (kvs.map fun p => nkOf p.1).Nodup → (a == sysModules) = false → Rp K H (.dict kvs) (.ref a)
  | hdl (a : Addr) : Rp K H (hdl a) (.ref a)
  | dck {a : Addr} {o : Obj} {us : List (Key × V)} {kvs : List (D × D)} : H a = some (.frz o (.dK us)) → kvs.map (·.1) = us.map (fun u => keyDt u.1) → RpL K H (kvs.map (·.2)) (us.map (·.2)) → kvs ≠ [] → Rp K H (.dict kvs) (.ref a)
inductive RpL (K : PySem.W.Frag) (H : Hp) : List D → List V → Prop
  | nil : RpL K H [] []
  | cons {d : D} {v : V} {ds : List D} {vs : List V} : Rp K H d v → RpL K H ds vs → RpL K H (d :: ds) (v :: vs)
/-- the entries of a dict -/
inductive RpD (K : PySem.W.Frag) (H : Hp) : List (D × D) → List DictEntry → Prop
  | nil : RpD K H [] []
  | cons {k d : D} {nk : NestedKey} {b : Addr} {v : V} {e : DictEntry} {kvs : List (D × D)} {es : List DictEntry} : (∃ xs, k = .tuple xs) → nkOf k = some nk → nk.depth ≤ 8 → (∀ w, e.hash = nk.hash w) → e.key = .ref b → Rp K H k (.ref b) → Rp K H d v → RelV v e.val → RpD K H kvs es → RpD K H ((k, d) :: kvs) (e :: es)
end
/-- what never changes stays -/
structure Ext (H H' : Hp) : Prop where
  tup : ∀ a xs, H a = some (.tup xs) → H' a = some (.tup xs)
  frz : ∀ a o u, H a = some (.frz o u) → H' a = some (.frz o u)
/-- all stays -/
def PExt (H H' : Hp) : Prop := ∀ a o, H a = some o → H' a = some o
theorem PExt.ext {H H' : Hp} (p : PExt H H') : Ext H H' := ⟨fun a xs h => p a _ h, fun a o u h => p a _ h⟩
theorem PExt.refl (H : Hp) : PExt H H := fun _ _ h => h
theorem PExt.trans {H H1 H2 : Hp} (a : PExt H H1) (b : PExt H1 H2) : PExt H H2 := fun p o h => b p o (a p o h)
theorem Ext.refl (H : Hp) : Ext H H := ⟨fun _ _ h => h, fun _ _ _ h => h⟩
theorem Ext.trans {H H1 H2 : Hp} (a : Ext H H1) (b : Ext H1 H2) : Ext H H2 := ⟨fun p xs h => b.tup p xs (a.tup p xs h), fun p o u h => b.frz p o u (a.frz p o u h)⟩
theorem PExt.new {H : Hp} {p : Addr} {o : HO} (h : H p = none) : PExt H (upd H p o) := fun a u e => by
  rw [upd_ne (ne_of_none e h)]; exact e
/-- something soft is changed -/
theorem Ext.putS {H : Hp} {p : Addr} {u o : HO} (h : H p = some u) (h1 : ∀ xs, u ≠ .tup xs) (h2 : ∀ q v, u ≠ .frz q v) : Ext H (upd H p o) :=
  ⟨fun a ys e => by rw [upd_ne (ne_of e h (Ne.symm (h1 ys)))]; exact e, fun a q v e => by rw [upd_ne (ne_of e h (Ne.symm (h2 q v)))]; exact e⟩
/-- a list is changed -/
theorem Ext.put {H : Hp} {p : Addr} {xs : List V} {o : HO} (h : H p = some (.lst xs)) : Ext H (upd H p o) :=
  ⟨fun a ys e => by rw [upd_ne (ne_of e h (by intro z; cases z))]; exact e, fun a q u e => by rw [upd_ne (ne_of e h (by intro z; cases z))]; exact e⟩
section
variable {K : PySem.W.Frag} {H H' : Hp}
theorem SqT.ext {a : Addr} {xs : List V} (x : Ext H H') (h : SqT K H a xs) : SqT K H' a xs := by
  rcases h with (h | ⟨o, h⟩) | h
  · exact .inl (.inl (x.tup _ _ h))
  · exact .inl (.inr ⟨o, x.frz _ _ _ h⟩)
  · exact .inr h
theorem SqD.ext {a : Addr} {xs : List V} (x : Ext H H') (h : SqD K H a xs) : SqD K H' a xs := by
  refine ⟨SqT.ext x h.1, ?_⟩
  rcases h.2 with ⟨o, u, e, d⟩ | h
  · exact .inl ⟨o, u, x.frz _ _ _ e, d⟩
  · exact .inr h
theorem SqD.new {p : Addr} {o : Obj} {vs : List V} (d : o.dict = none) : SqD K (upd H p (.frz o (.tup vs))) p vs := ⟨.inl (.inr ⟨o, upd_same⟩), .inl ⟨o, _, upd_same, d⟩⟩
theorem LsF.ext {a : Addr} {xs : List V} (x : Ext H H') (h : LsF K H a xs) : LsF K H' a xs := by
  rcases h with ⟨o, h⟩ | h
  · exact .inl ⟨o, x.frz _ _ _ h⟩
  · exact .inr h
mutual
theorem Rp.ext (x : Ext H H') : ∀ {d : D} {v : V}, Rp K H d v → Rp K H' d v
  | _, _, .non => .non
  | _, _, .bl b => .bl b
  | _, _, .int i => .int i
  | _, _, .str s => .str s
  | _, _, .tup h l => .tup (SqD.ext x h) (RpL.ext x l)
  | _, _, .lst h l => .lst (LsF.ext x h) (RpL.ext x l)
  | _, _, .dct h l n m => .dct (x.frz _ _ _ h) (RpD.ext x l) n m
  | _, _, .hdl a => .hdl a
  | _, _, .dck h e l n => .dck (x.frz _ _ _ h) e (RpL.ext x l) n
theorem RpL.ext (x : Ext H H') : ∀ {ds : List D} {vs : List V}, RpL K H ds vs → RpL K H' ds vs
  | _, _, .nil => .nil
  | _, _, .cons h l => .cons (Rp.ext x h) (RpL.ext x l)
theorem RpD.ext (x : Ext H H') : ∀ {kvs : List (D × D)} {es : List DictEntry}, RpD K H kvs es → RpD K H' kvs es
  | _, _, .nil => .nil
  | _, _, .cons t n1 n2 n3 e h g r l => .cons t n1 n2 n3 e (Rp.ext x h) (Rp.ext x g) r (RpD.ext x l)
end
theorem RpD.length : ∀ {kvs : List (D × D)} {es : List DictEntry}, RpD K H kvs es → kvs.length = es.length
  | _, _, .nil => rfl
  | _, _, .cons _ _ _ _ _ _ _ _ l => by rw [List.length_cons, List.length_cons, RpD.length l]
theorem RpL.length : ∀ {ds : List D} {vs : List V}, RpL K H ds vs → ds.length = vs.length
  | _, _, .nil => rfl
  | _, _, .cons _ l => by rw [List.length_cons, List.length_cons, RpL.length l]
theorem RpL.get : ∀ {ds : List D} {vs : List V} {i : Nat} {d : D}, RpL K H ds vs → ds[i]? = some d → ∃ v, vs[i]? = some v ∧ Rp K H d v
  | _, _, _, _, .nil, e => by simp at e
  | _, _, 0, _, .cons r _, e => by simp at e; subst e; exact ⟨_, rfl, r⟩
  | _, _, i + 1, d, .cons _ t, e => by
    obtain ⟨u, h1, h2⟩ := RpL.get (i := i) (d := d) t (by simpa using e)
    exact ⟨u, by simpa using h1, h2⟩
theorem RpL.getV : ∀ {ds : List D} {vs : List V} {i : Nat} {v : V}, RpL K H ds vs → vs[i]? = some v → ∃ d, ds[i]? = some d ∧ Rp K H d v
  | _, _, _, _, .nil, e => by simp at e
  | _, _, 0, _, .cons r _, e => by simp at e; subst e; exact ⟨_, rfl, r⟩
  | _, _, i + 1, d, .cons _ t, e => by
    obtain ⟨u, h1, h2⟩ := RpL.getV (i := i) (v := d) t (by simpa using e)
    exact ⟨u, by simpa using h1, h2⟩
theorem RpL.append : ∀ {ds es : List D} {vs us : List V}, RpL K H ds vs → RpL K H es us → RpL K H (ds ++ es) (vs ++ us)
  | _, _, _, _, .nil, s => s
  | _, _, _, _, .cons r t, s => .cons r (RpL.append t s)
theorem RpL.take : ∀ {ds : List D} {vs : List V} (n : Nat), RpL K H ds vs → RpL K H (ds.take n) (vs.take n)
  | _, _, 0, _ => .nil
  | _, _, _ + 1, .nil => .nil
  | _, _, n + 1, .cons r t => .cons r (RpL.take n t)
theorem RpL.drop : ∀ {ds : List D} {vs : List V} (n : Nat), RpL K H ds vs → RpL K H (ds.drop n) (vs.drop n)
  | _, _, 0, r => r
  | _, _, _ + 1, .nil => .nil
  | _, _, n + 1, .cons _ t => RpL.drop n t
theorem RpL.set {d : D} {v : V} (r : Rp K H d v) : ∀ {ds : List D} {vs : List V} (i : Nat), RpL K H ds vs → RpL K H (ds.set i d) (vs.set i v)
  | _, _, _, .nil => .nil
  | _, _, 0, .cons _ t => .cons r t
  | _, _, i + 1, .cons q t => .cons q (RpL.set r i t)
theorem RpL.eraseIdx : ∀ {ds : List D} {vs : List V} (i : Nat), RpL K H ds vs → RpL K H (ds.eraseIdx i) (vs.eraseIdx i)
  | _, _, _, .nil => .nil
  | _, _, 0, .cons _ t => t
  | _, _, i + 1, .cons q t => .cons q (RpL.eraseIdx i t)
theorem RpL.reverse : ∀ {ds : List D} {vs : List V}, RpL K H ds vs → RpL K H ds.reverse vs.reverse
  | _, _, .nil => .nil
  | _, _, .cons q t => by rw [List.reverse_cons, List.reverse_cons]; exact RpL.append (RpL.reverse t) (.cons q .nil)
theorem RpL.ints : ∀ {ns : List Int} {vs : List V}, RpL K H (ns.map PyData.int) vs → vs = ns.map V.int
  | [], _, .nil => rfl
  | _ :: _, _, .cons (.int _) t => by rw [RpL.ints t]; rfl
theorem RpL.ofInts : ∀ (ns : List Int), RpL K H (ns.map PyData.int) (ns.map V.int)
  | [] => .nil
  | n :: ns => .cons (.int n) (RpL.ofInts ns)
mutual
theorem Rp.dp : ∀ {d : D} {v : V}, Rp K H d v → d.canLay0 = true → Dp K H v d
  | _, _, .non, _ => .non
  | _, _, .bl b, _ => .bl b
  | _, _, .int i, _ => .int i
  | _, _, .str s, _ => .str s
  | _, _, .tup h l, z => .tup h.1 (RpL.dp l (by simpa [PyData.canLay0] using z))
  | _, _, .lst h l, z => .lst h.sq (RpL.dp l (by simpa [PyData.canLay0] using z))
  | _, _, .dct _ _ _ _, z => by simp [PyData.canLay0] at z
  | _, _, .hdl a, z => by simp [DL.hdl, PyData.canLay0] at z
  | _, _, .dck _ _ _ _, z => by simp [PyData.canLay0] at z
theorem RpL.dp : ∀ {ds : List D} {vs : List V}, RpL K H ds vs → PyData.canLayAll0 ds = true → DpAll K H vs ds
  | _, _, .nil, _ => .nil
  | _, _, .cons h l, z => by
    simp only [PyData.canLayAll0, Bool.and_eq_true] at z
    exact .cons (Rp.dp h z.1) (RpL.dp l z.2)
end
end
/-- readable now: as Rp, the outermost list may be one that can change -/
def RpR (K : PySem.W.Frag) (H : Hp) (d : D) (v : V) : Prop :=
  Rp K H d v ∨ ∃ (ds : List D) (a : Addr) (vs : List V), d = .list ds ∧ v = .ref a ∧ H a = some (.lst vs) ∧ RpL K H ds vs
theorem RpR.dp {K : PySem.W.Frag} {H : Hp} {d : D} {v : V} (h : RpR K H d v) (z : d.canLay0 = true) : Dp K H v d := by
  rcases h with h | ⟨ds, a, vs, rfl, rfl, h, l⟩
  · exact h.dp z
  · exact .lst (.inl (.inl h)) (l.dp (by simpa [PyData.canLay0] using z))
/-- what an iterator hands out: a pair of its own may be there, of which less is known -/
def RpB (W : Bool) (K : PySem.W.Frag) (H : Hp) (d : D) (v : V) : Prop :=
  if W = true then Rp K H d v ∨ ∃ (ds : List D) (a : Addr) (vs : List V), d = .tuple ds ∧ v = .ref a ∧ SqT K H a vs ∧ RpL K H ds vs else Rp K H d v
theorem RpB.of {W : Bool} {K : PySem.W.Frag} {H : Hp} {d : D} {v : V} (h : Rp K H d v) : RpB W K H d v := by unfold RpB; split; exact .inl h; exact h
theorem RpB.pair {K : PySem.W.Frag} {H : Hp} {ds : List D} {a : Addr} {vs : List V} (h : SqT K H a vs) (l : RpL K H ds vs) : RpB true K H (.tuple ds) (.ref a) := .inr ⟨_, _, _, rfl, rfl, h, l⟩
/-- a list or a tuple that is read: its items -/
theorem RpR.list {K : PySem.W.Frag} {H : Hp} {ds : List D} {v : V} (h : RpR K H (.list ds) v) : ∃ a vs, v = .ref a ∧ SqL K H a vs ∧ RpL K H ds vs := by
  rcases h with h | ⟨ds, a, vs, e, rfl, h, l⟩
  · cases h with
    | lst h l => exact ⟨_, _, rfl, h.sq, l⟩
  · cases e
    exact ⟨_, _, rfl, .inl (.inl h), l⟩
theorem RpR.tupD {K : PySem.W.Frag} {H : Hp} {ds : List D} {v : V} (h : RpR K H (.tuple ds) v) : ∃ a vs, v = .ref a ∧ SqD K H a vs ∧ RpL K H ds vs := by
  rcases h with h | ⟨ds, a, vs, e, _⟩
  · cases h with
    | tup h l => exact ⟨_, _, rfl, h, l⟩
  · cases e
theorem RpR.tuple {K : PySem.W.Frag} {H : Hp} {ds : List D} {v : V} (h : RpR K H (.tuple ds) v) : ∃ a vs, v = .ref a ∧ SqT K H a vs ∧ RpL K H ds vs := by
  rcases h with h | ⟨ds, a, vs, e, rfl, h, l⟩
  · cases h with
    | tup h l => exact ⟨_, _, rfl, h.1, l⟩
  · cases e
theorem RpR.int {K : PySem.W.Frag} {H : Hp} {i : Int} {v : V} (h : RpR K H (.int i) v) : v = .int i := by
  rcases h with h | ⟨_, _, _, e, _⟩
  · cases h; rfl
  · cases e
theorem RpR.str {K : PySem.W.Frag} {H : Hp} {i : Str} {v : V} (h : RpR K H (.str i) v) : v = .str i := by
  rcases h with h | ⟨_, _, _, e, _⟩
  · cases h; rfl
  · cases e
theorem RpR.bool {K : PySem.W.Frag} {H : Hp} {i : Bool} {v : V} (h : RpR K H (.bool i) v) : v = .bl i := by
  rcases h with h | ⟨_, _, _, e, _⟩
  · cases h; rfl
  · cases e
theorem RpR.none {K : PySem.W.Frag} {H : Hp} {v : V} (h : RpR K H .none v) : v = .non := by
  rcases h with h | ⟨_, _, _, e, _⟩
  · cases h; rfl
  · cases e
theorem RpR.pext {K : PySem.W.Frag} {H H' : Hp} {d : D} {v : V} (p : PExt H H') (h : RpR K H d v) : RpR K H' d v := by
  rcases h with h | ⟨ds, a, vs, rfl, rfl, h, l⟩
  · exact .inl (h.ext p.ext)
  · exact .inr ⟨ds, a, vs, rfl, rfl, p _ _ h, l.ext p.ext⟩
/-! ### the environment -/
inductive FS where
  | d (x : D)
  | l (xs : List D)
inductive S where
  /-- not known -/
  | un
  /-- data -/
  | d (x : D)
  /-- a list of one's own that may change -/
  | ol (xs : List D)
  /-- a dict of one's own, keys tuples of ints -/
  | dt (kvs : List (D × D))
  /-- a dict of one's own, keys ints and texts -/
  | dk (kvs : List (Key × D))
  /-- no name's: the object at a, of the class at C -/
  | ob (a C : Addr) (fs : List (Str × FS))
  /-- no name's: the list at a, that may change -/
  | gl (a : Addr) (xs : List D)
  /-- no name's: the object at a stands for data -/
  | al (a : Addr) (x : D)
abbrev Env := List S
def S.isMut : S → Bool
  | .ol _ => true
  | .dt _ => true
  | .dk _ => true
  | _ => false
structure Gh where
  H0 : Hp
  own : List (Nat × Addr)
  X0 : Hp := fun _ => none
  more : List Addr := []
def Gh.slots (G : Gh) : List Nat := G.own.map (·.1)
def Gh.addrs (G : Gh) : List Addr := G.own.map (·.2) ++ G.more
/-- a mutable thing at an address -/
def RelM (K : PySem.W.Frag) (H : Hp) : S → Addr → Prop
  | .ol xs, a => ∃ vs, H a = some (.lst vs) ∧ RpL K H xs vs
  | .dt kvs, a => ∃ es, H a = some (dO a es) ∧ RpD K H kvs es ∧ (kvs.map fun p => nkOf p.1).Nodup ∧ (a == sysModules) = false
  | .dk kvs, a => ∃ us, H a = some (.dK us) ∧ us.map (·.1) = kvs.map (·.1) ∧ RpL K H (kvs.map (·.2)) (us.map (·.2))
  | _, _ => False
/-- the fields of an object: data, lists of its own -/
inductive FsR (K : PySem.W.Frag) (H : Hp) : List (Str × FS) → List (Str × V) → List Addr → Prop
  | nil : FsR K H [] [] []
  | d {f : Str} {x : D} {v : V} {fs : List (Str × FS)} {vs : List (Str × V)} {ls : List Addr} : Rp K H x v → FsR K H fs vs ls → FsR K H ((f, .d x) :: fs) ((f, v) :: vs) ls
  | l {f : Str} {xs : List D} {a : Addr} {us : List V} {fs : List (Str × FS)} {vs : List (Str × V)} {ls : List Addr} : H a = some (.lst us) → RpL K H xs us → FsR K H fs vs ls → FsR K H ((f, .l xs) :: fs) ((f, .ref a) :: vs) (a :: ls)
def RelOb (K : PySem.W.Frag) (H : Hp) (a C : Addr) (fs : List (Str × FS)) (fp : List Addr) : Prop :=
  ∃ dx vs ls, fp = a :: dx :: ls ∧ fp.Nodup ∧ H a = some (.ins C dx vs) ∧ H dx = some (.own a) ∧ FsR K H fs vs ls
def RelS (K : PySem.W.Frag) (H : Hp) (s : S) (o : Option (Option V)) (fp : List Addr) : Prop :=
  match s with
  | .un => fp = []
  | .d x => fp = [] ∧ ∃ v, o = some (some v) ∧ Rp K H x v
  | .ob a C fs => RelOb K H a C fs fp
  | .ol xs => ∃ a, fp = [a] ∧ o = some (some (.ref a)) ∧ RelM K H (.ol xs) a
  | .dt xs => ∃ a, fp = [a] ∧ o = some (some (.ref a)) ∧ RelM K H (.dt xs) a
  | .dk xs => ∃ a, fp = [a] ∧ o = some (some (.ref a)) ∧ RelM K H (.dk xs) a
  | .gl a xs => fp = [a] ∧ RelM K H (.ol xs) a
  | .al a x => fp = [] ∧ Rp K H x (.ref a)
theorem RelS.mut {K : PySem.W.Frag} {H : Hp} {s : S} {o : Option (Option V)} {fp : List Addr} (h : RelS K H s o fp) (m : s.isMut = true) : ∃ a, fp = [a] ∧ o = some (some (.ref a)) ∧ RelM K H s a := by
  cases s with
  | ol _ => exact h
  | dt _ => exact h
  | dk _ => exact h
  | _ => cases m
theorem RelS.ofMut {K : PySem.W.Frag} {H : Hp} {s : S} {o : Option (Option V)} {a : Addr} (m : s.isMut = true) (e : o = some (some (.ref a))) (h : RelM K H s a) : RelS K H s o [a] := by
  cases s with
  | ol _ => exact ⟨a, rfl, e, h⟩
  | dt _ => exact ⟨a, rfl, e, h⟩
  | dk _ => exact ⟨a, rfl, e, h⟩
  | _ => cases m
/-- what can change: no tuple, nothing frozen -/
def Soft (H : Hp) (a : Addr) : Prop := ∃ u, H a = some u ∧ (∀ xs, u ≠ .tup xs) ∧ ∀ o v, u ≠ .frz o v
theorem RelM.soft {K : PySem.W.Frag} {H : Hp} {s : S} {a : Addr} (h : RelM K H s a) : Soft H a := by
  cases s with
  | ol xs => obtain ⟨vs, e, _⟩ := h; exact ⟨_, e, (fun _ z => by cases z), fun _ _ z => by cases z⟩
  | dt xs => obtain ⟨vs, e, _⟩ := h; exact ⟨_, e, (fun _ z => by cases z), fun _ _ z => by cases z⟩
  | dk xs => obtain ⟨vs, e, _⟩ := h; exact ⟨_, e, (fun _ z => by cases z), fun _ _ z => by cases z⟩
  | _ => exact h.elim
theorem RelM.isMut {K : PySem.W.Frag} {H : Hp} {s : S} {a : Addr} (h : RelM K H s a) : s.isMut = true := by
  cases s with
  | ol xs => rfl
  | dt xs => rfl
  | dk xs => rfl
  | _ => exact h.elim
theorem RelM.move {K : PySem.W.Frag} {H H' : Hp} {s : S} {a : Addr} (h : RelM K H s a) (x : Ext H H') (k : H' a = H a) : RelM K H' s a := by
  cases s with
  | ol xs => obtain ⟨vs, e, l⟩ := h; exact ⟨vs, by rw [k]; exact e, l.ext x⟩
  | dt xs => obtain ⟨es, e, l, n, m⟩ := h; exact ⟨es, by rw [k]; exact e, l.ext x, n, m⟩
  | dk xs => obtain ⟨us, e, n, l⟩ := h; exact ⟨us, by rw [k]; exact e, n, l.ext x⟩
  | _ => exact h.elim
theorem FsR.move {K : PySem.W.Frag} {H H' : Hp} (x : Ext H H') : ∀ {fs : List (Str × FS)} {vs : List (Str × V)} {ls : List Addr}, FsR K H fs vs ls → (∀ p ∈ ls, H' p = H p) → FsR K H' fs vs ls
  | _, _, _, .nil, _ => .nil
  | _, _, _, FsR.d h r, k => FsR.d (h.ext x) (FsR.move x r k)
  | _, _, _, FsR.l h q r, k => FsR.l (by rw [k _ (List.mem_cons_self ..)]; exact h) (q.ext x) (FsR.move x r fun p hp => k p (List.mem_cons_of_mem _ hp))
theorem FsR.soft {K : PySem.W.Frag} {H : Hp} : ∀ {fs : List (Str × FS)} {vs : List (Str × V)} {ls : List Addr}, FsR K H fs vs ls → ∀ p ∈ ls, Soft H p
  | _, _, _, .nil, p, hp => by cases hp
  | _, _, _, FsR.d h r, p, hp => FsR.soft r p hp
  | _, _, _, FsR.l h q r, p, hp => by
    rcases List.mem_cons.mp hp with z | z
    · subst z; exact ⟨_, h, (fun _ z => by cases z), fun _ _ z => by cases z⟩
    · exact FsR.soft r p z
/-- what a slot holds stays, if its footprint does -/
theorem RelS.move {K : PySem.W.Frag} {H H' : Hp} {s : S} {o : Option (Option V)} {fp : List Addr} (h : RelS K H s o fp) (x : Ext H H') (k : ∀ p ∈ fp, H' p = H p) : RelS K H' s o fp := by
  cases s with
  | un => exact h
  | d y => obtain ⟨h1, v, h2, h3⟩ := h; exact ⟨h1, v, h2, h3.ext x⟩
  | ob a C fs =>
    obtain ⟨dx, vs, ls, e, nd, h1, h2, h3⟩ := h
    subst e
    exact ⟨dx, vs, ls, rfl, nd, by rw [k a (by simp)]; exact h1, by rw [k dx (by simp)]; exact h2, h3.move x fun p hp => k p (by simp [hp])⟩
  | ol xs => obtain ⟨a, e, e2, h⟩ := h; subst e; exact ⟨a, rfl, e2, h.move x (k a (by simp))⟩
  | dt xs => obtain ⟨a, e, e2, h⟩ := h; subst e; exact ⟨a, rfl, e2, h.move x (k a (by simp))⟩
  | dk xs => obtain ⟨a, e, e2, h⟩ := h; subst e; exact ⟨a, rfl, e2, h.move x (k a (by simp))⟩
  | gl a xs => obtain ⟨e, h⟩ := h; subst e; exact ⟨rfl, h.move x (k a (by simp))⟩
  | al a y => exact ⟨h.1, h.2.ext x⟩
/-- ex: addresses apart from all footprints -/
structure RelX (K : PySem.W.Frag) (G : Gh) (ex : List Addr) (H : Hp) (E : Env) (σ : St) : Prop where
  len : E.length = σ.length
  keep : ∀ p o, G.H0 p = some o → p ∉ G.addrs → H p = some o
  pin : ∀ i a, (i, a) ∈ G.own → σ[i]? = some (some (V.ref a))
  dom : ∀ a ∈ G.addrs, H a ≠ none
  ext : Ext G.X0 H
  fp : ∃ A : Nat → List Addr, (∀ i j a, a ∈ A i → a ∈ A j → i = j) ∧ (∀ i a, a ∈ A i → (a ∈ G.addrs ∨ G.H0 a = none) ∧ a ∉ ex) ∧ ∀ i s, E[i]? = some s → RelS K H s σ[i]? (A i)
abbrev RelE (K : PySem.W.Frag) (G : Gh) (H : Hp) (E : Env) (σ : St) : Prop := RelX K G [] H E σ
section
variable {K : PySem.W.Frag} {G : Gh} {H H' : Hp} {E : Env} {σ : St} {ex : List Addr}
/-- a footprint lies in the heap -/
theorem RelS.indom {s : S} {o : Option (Option V)} {fp : List Addr} (h : RelS K H s o fp) : ∀ a ∈ fp, Soft H a := by
  cases s with
  | un => intro a ha; rw [show fp = [] from h] at ha; cases ha
  | d x => intro a ha; rw [h.1] at ha; cases ha
  | ob a C fs =>
    obtain ⟨dx, vs, ls, e, nd, h1, h2, h3⟩ := h
    subst e
    intro p hp
    rcases List.mem_cons.mp hp with z | z
    · subst z; exact ⟨_, h1, (fun _ z => by cases z), fun _ _ z => by cases z⟩
    · rcases List.mem_cons.mp z with z | z
      · subst z; exact ⟨_, h2, (fun _ z => by cases z), fun _ _ z => by cases z⟩
      · exact h3.soft p z
  | ol xs => obtain ⟨a, e, e2, h⟩ := h; subst e; intro p hp; rw [List.mem_singleton.mp hp]; exact h.soft
  | dt xs => obtain ⟨a, e, e2, h⟩ := h; subst e; intro p hp; rw [List.mem_singleton.mp hp]; exact h.soft
  | dk xs => obtain ⟨a, e, e2, h⟩ := h; subst e; intro p hp; rw [List.mem_singleton.mp hp]; exact h.soft
  | gl a xs => obtain ⟨e, h⟩ := h; subst e; intro p hp; rw [List.mem_singleton.mp hp]; exact h.soft
  | al a y => intro p hp; rw [h.1] at hp; cases hp
theorem RelS.pext {s : S} {o : Option (Option V)} {fp : List Addr} (p : PExt H H') (h : RelS K H s o fp) : RelS K H' s o fp :=
  h.move p.ext fun a ha => by
    obtain ⟨u, e, _⟩ := h.indom a ha
    rw [e, p _ _ e]
theorem RelX.pext (p : PExt H H') (h : RelX K G ex H E σ) : RelX K G ex H' E σ := by
  obtain ⟨l, k, pn, dm, x0, A, h1, h2, h3⟩ := h
  refine ⟨l, fun q o e ne => p _ _ (k q o e ne), pn, fun a ha z => ?_, x0.trans p.ext, A, h1, h2, fun i s e => (h3 i s e).pext p⟩
  cases q : H a with
  | none => exact dm a ha q
  | some o => have := p _ _ q; rw [z] at this; cases this
theorem RelX.weak (h : RelX K G ex H E σ) : RelE K G H E σ := by
  obtain ⟨l, k, pn, dm, x0, A, h1, h2, h3⟩ := h
  exact ⟨l, k, pn, dm, x0, A, h1, fun i a e => ⟨(h2 i a e).1, by simp⟩, h3⟩
end
end DL
set_option Elab.async false
set_option linter.all false
set_option maxRecDepth 100000
namespace DL
open PySem PySem.Spec PyProof.Rows L2
/-! ### judgements -/
abbrev TD := Env → (D → Env → Prop) → Prop
abbrev TLd := Env → (List D → Env → Prop) → Prop
abbrev TTd := Env → (Bool → Env → Prop) → Prop
structure EndsD where
  nx : Env → Prop
  rt : D → Env → Prop
  bk : Env → Prop := fun _ => False
  ct : Env → Prop := fun _ => False
abbrev TSd := EndsD → Env → Prop
/-- an argument: data, or a name of a mutable thing -/
inductive Arg where
  | v (x : D)
  | o (i : Nat)
abbrev TAd := Env → (List Arg → Env → Prop) → Prop
def liftE (K : PySem.W.Frag) (G : Gh) (t : TD) : TE := fun σ H Q => ∃ (E : Env) (QE : D → Env → Prop), RelE K G H E σ ∧ t E QE ∧ ∀ d E' v H', QE d E' → Ext H H' → RelE K G H' E' σ → Rp K H' d v → Q v H'
/-- a new list: nobody else has it -/
def liftL (K : PySem.W.Frag) (G : Gh) (t : TLd) : TE := fun σ H Q => ∃ (E : Env) (QE : List D → Env → Prop), RelE K G H E σ ∧ t E QE ∧
  ∀ xs E' a vs H', QE xs E' → Ext H H' → RelX K G [a] H' E' σ → G.H0 a = none → a ∉ G.addrs → H' a = some (.lst vs) → RpL K H' xs vs → Q (.ref a) H'
/-- readable now -/
def liftR (K : PySem.W.Frag) (G : Gh) (t : TD) : TE := fun σ H Q => ∃ (E : Env) (QE : D → Env → Prop), RelE K G H E σ ∧ t E QE ∧ ∀ d E' v H', QE d E' → Ext H H' → RelE K G H' E' σ → RpR K H' d v → Q v H'
def liftT (K : PySem.W.Frag) (G : Gh) (t : TTd) : TT := fun σ H Q => ∃ (E : Env) (QE : Bool → Env → Prop), RelE K G H E σ ∧ t E QE ∧ ∀ b E' H', QE b E' → Ext H H' → RelE K G H' E' σ → Q b H'
/-- the values of arguments at a heap -/
inductive RelA (K : PySem.W.Frag) (H : Hp) (σ : St) : List Arg → List V → Prop
  | nil : RelA K H σ [] []
  | v {x : D} {v : V} {as : List Arg} {vs : List V} : Rp K H x v → RelA K H σ as vs → RelA K H σ (.v x :: as) (v :: vs)
  | o {i : Nat} {v : V} {as : List Arg} {vs : List V} : σ[i]? = some (some v) → RelA K H σ as vs → RelA K H σ (.o i :: as) (v :: vs)
def liftA (K : PySem.W.Frag) (G : Gh) (t : TAd) : TA := fun σ H Q => ∃ (E : Env) (QE : List Arg → Env → Prop), RelE K G H E σ ∧ t E QE ∧ ∀ as E' vs H', QE as E' → Ext H H' → RelE K G H' E' σ → RelA K H' σ as vs → Q vs H'
def liftS (K : PySem.W.Frag) (G : Gh) (t : TSd) : TS := fun F σ H => ∃ (E : Env) (DE : EndsD), RelE K G H E σ ∧ t DE E ∧
  (∀ E' σ' H', DE.nx E' → Ext H H' → RelE K G H' E' σ' → F.nx σ' H') ∧
  (∀ d E' v σ' H', DE.rt d E' → Ext H H' → RelE K G H' E' σ' → Rp K H' d v → F.rt v H') ∧
  (∀ E' σ' H', DE.bk E' → Ext H H' → RelE K G H' E' σ' → F.bk σ' H') ∧
  (∀ E' σ' H', DE.ct E' → Ext H H' → RelE K G H' E' σ' → F.ct σ' H')
structure ED (X : Cx) (G : Gh) (e : Expr) (t : TD) : Prop where
  pe : PE X e (liftE X.K G t)
structure EL (X : Cx) (G : Gh) (e : Expr) (t : TLd) : Prop where
  pe : PE X e (liftL X.K G t)
structure ER (X : Cx) (G : Gh) (e : Expr) (t : TD) : Prop where
  pe : PE X e (liftR X.K G t)
structure EB (X : Cx) (G : Gh) (e : Expr) (t : TTd) : Prop where
  pt : PT X e (liftT X.K G t)
structure EW (X : Cx) (G : Gh) (e : Expr) (t : TTd) : Prop where
  pw : PW X e (liftT X.K G t)
structure EA (X : Cx) (G : Gh) (es : List Expr) (t : TAd) : Prop where
  pa : PA X es (liftA X.K G t)
structure SD (X : Cx) (G : Gh) (st : Stmt) (t : TSd) : Prop where
  ps : PS X st (liftS X.K G t)
structure SDs (X : Cx) (G : Gh) (st : List Stmt) (t : TSd) : Prop where
  pss : PSs X st (liftS X.K G t)
theorem PE.weak {X : Cx} {e : Expr} {t u : TE} (h : PE X e t) (w : ∀ σ H Q, u σ H Q → t σ H Q) : PE X e u := ⟨fun pins s σ H Q I q => h.run pins s σ H Q I (w σ H Q q)⟩
theorem PT.weak {X : Cx} {e : Expr} {t u : TT} (h : PT X e t) (w : ∀ σ H Q, u σ H Q → t σ H Q) : PT X e u := ⟨fun pins s σ H Q I q => h.run pins s σ H Q I (w σ H Q q)⟩
theorem PW.weak {X : Cx} {e : Expr} {t u : TT} (h : PW X e t) (w : ∀ σ H Q, u σ H Q → t σ H Q) : PW X e u := ⟨fun wh pins s σ H Q I q => h.run wh pins s σ H Q I (w σ H Q q)⟩
theorem PA.weak {X : Cx} {es : List Expr} {t u : TA} (h : PA X es t) (w : ∀ σ H Q, u σ H Q → t σ H Q) : PA X es u := ⟨fun pos pins s σ H Q I q => h.run pos pins s σ H Q I (w σ H Q q)⟩
theorem PS.weak {X : Cx} {st : Stmt} {t u : TS} (h : PS X st t) (w : ∀ F σ H, u F σ H → t F σ H) : PS X st u := ⟨fun pins s σ H F I q => h.run pins s σ H F I (w F σ H q)⟩
theorem PSs.weak {X : Cx} {st : List Stmt} {t u : TS} (h : PSs X st t) (w : ∀ F σ H, u F σ H → t F σ H) : PSs X st u := ⟨fun pins s σ H F I q => h.run pins s σ H F I (w F σ H q)⟩
section
variable {X : Cx} {G : Gh} {a b c e : Expr} {es : List Expr} {pos : Pos}
/-- data may be read -/
theorem ED.er {t : TD} (h : ED X G e t) : ER X G e t := ⟨PE.weak h.pe fun σ H Q ⟨E, QE, r, q, k⟩ => ⟨E, QE, r, q, fun d E' v H' z x r' p => k d E' v H' z x r' (.inl p)⟩⟩
/-! ### names, constants -/
def tV (i : Nat) : TD := fun E Q => match E[i]? with
  | some (.d x) => Q x E
  | _ => False
/-- a name that may hold a list that can change, read now -/
def tVr (i : Nat) : TD := fun E Q => match E[i]? with
  | some (.d x) => Q x E
  | some (.ol xs) => Q (.list xs) E
  | _ => False
def tK (d : D) : TD := fun E Q => Q d E
theorem RelX.data {K : PySem.W.Frag} {ex : List Addr} {H : Hp} {E : Env} {σ : St} {i : Nat} {x : D} (r : RelX K G ex H E σ) (e : E[i]? = some (.d x)) : ∃ v, σ[i]? = some (some v) ∧ Rp K H x v := by
  obtain ⟨l, k, pn, dm, x0, A, h1, h2, h3⟩ := r
  exact (h3 i _ e).2
theorem RelX.ol {K : PySem.W.Frag} {ex : List Addr} {H : Hp} {E : Env} {σ : St} {i : Nat} {xs : List D} (r : RelX K G ex H E σ) (e : E[i]? = some (.ol xs)) : ∃ a vs, σ[i]? = some (some (.ref a)) ∧ H a = some (.lst vs) ∧ RpL K H xs vs := by
  obtain ⟨l, k, pn, dm, x0, A, h1, h2, h3⟩ := r
  obtain ⟨a, e1, e2, vs, e3, e4⟩ := h3 i _ e
  exact ⟨a, vs, e2, e3, e4⟩
theorem RelX.mutAt {K : PySem.W.Frag} {ex : List Addr} {H : Hp} {E : Env} {σ : St} {i : Nat} {s : S} (r : RelX K G ex H E σ) (e : E[i]? = some s) (m : s.isMut = true) : ∃ a, σ[i]? = some (some (.ref a)) ∧ RelM K H s a := by
  obtain ⟨l, k, pn, dm, x0, A, h1, h2, h3⟩ := r
  obtain ⟨a, e1, e2, e3⟩ := (h3 i _ e).mut m
  exact ⟨a, e2, e3⟩
theorem ed_var (i : Nat) {x : Str} (hN : X.N[i]? = some x := by rfl) (hv : Vis X.env.scope x := by first | exact Or.inl rfl | exact Or.inr (Or.inl rfl) | exact Or.inr (Or.inr rfl)) (hd : (x == ("__debug__" : Str)) = false := by decide)
    (hcd : (x == ("__classdict__" : Str)) = false := by decide) : ED X G (.Name x pos) (tV i) := ⟨PE.weak (pe_var hN hv hd hcd) fun σ H Q ⟨E, QE, r, q, k⟩ => by
  unfold tV at q
  split at q
  · rename_i x he
    obtain ⟨v, e, p⟩ := r.data he
    exact ⟨v, e, k _ _ _ _ q (Ext.refl _) r p⟩
  · exact q.elim⟩
theorem er_var (i : Nat) {x : Str} (hN : X.N[i]? = some x := by rfl) (hv : Vis X.env.scope x := by first | exact Or.inl rfl | exact Or.inr (Or.inl rfl) | exact Or.inr (Or.inr rfl)) (hd : (x == ("__debug__" : Str)) = false := by decide)
    (hcd : (x == ("__classdict__" : Str)) = false := by decide) : ER X G (.Name x pos) (tVr i) := ⟨PE.weak (pe_var hN hv hd hcd) fun σ H Q ⟨E, QE, r, q, k⟩ => by
  unfold tVr at q
  split at q
  · rename_i x he
    obtain ⟨v, e, p⟩ := r.data he
    exact ⟨v, e, k _ _ _ _ q (Ext.refl _) r (.inl p)⟩
  · rename_i xs he
    obtain ⟨a, vs, e, h, p⟩ := r.ol he
    exact ⟨_, e, k _ _ _ _ q (Ext.refl _) r (.inr ⟨_, _, _, rfl, rfl, h, p⟩)⟩
  · exact q.elim⟩
theorem ed_int {i j} : ED X G (.Constant (.int i) j pos) (tK (.int i)) := ⟨PE.weak pe_int fun σ H Q ⟨E, QE, r, q, k⟩ => k _ _ _ _ q (Ext.refl _) r (.int i)⟩
theorem ed_bl {i j} : ED X G (.Constant (.bool i) j pos) (tK (.bool i)) := ⟨PE.weak pe_bl fun σ H Q ⟨E, QE, r, q, k⟩ => k _ _ _ _ q (Ext.refl _) r (.bl i)⟩
theorem ed_non {j} : ED X G (.Constant .none j pos) (tK .none) := ⟨PE.weak pe_non fun σ H Q ⟨E, QE, r, q, k⟩ => k _ _ _ _ q (Ext.refl _) r .non⟩
theorem ed_str {i j} : ED X G (.Constant (.str i) j pos) (tK (.str i)) := ⟨PE.weak pe_str fun σ H Q ⟨E, QE, r, q, k⟩ => k _ _ _ _ q (Ext.refl _) r (.str i)⟩
/-- a module's name -/
theorem ed_glob {x : Str} {d : D} {v : V} {u : Value} (hg : Gl X x) (hm : X.mg x = some u) (rv : RelV v u) (rd : ∀ H, Rp X.K H d v) (hd : (x == ("__debug__" : Str)) = false := by decide) : ED X G (.Name x pos) (tK d) :=
  ⟨PE.weak (pe_glob hg hm rv hd) fun σ H Q ⟨E, QE, r, q, k⟩ => k _ _ _ _ q (Ext.refl _) r (rd H)⟩
/-! ### operators -/
/-- what an operator gives of data -/
abbrev OpT := D → D → (D → Prop) → Prop
/-- by values: the heap only grows -/
def OpD (X : Cx) (f : Value → Value → Sem Value) (op : OpT) : Prop := ∃ r : R2, OpR X f r ∧
  ∀ x y v u H (QD : D → Prop) (Q : VK), RpR X.K H x v → RpR X.K H y u → op x y QD → (∀ z w H', QD z → PExt H H' → Rp X.K H' z w → Q w H') → r v u H Q
theorem OpD.or {f : Value → Value → Sem Value} {op op' : OpT} (h : OpD X f op) (h' : OpD X f op') : OpD X f (fun x y Q => op x y Q ∨ op' x y Q) := by
  obtain ⟨r, hr, hq⟩ := h
  obtain ⟨r', hr', hq'⟩ := h'
  refine ⟨_, hr.or hr', fun x y v u H QD Q hx hy q k => ?_⟩
  rcases q with q | q
  · exact .inl (hq x y v u H QD Q hx hy q k)
  · exact .inr (hq' x y v u H QD Q hx hy q k)
theorem OpD.weak {f : Value → Value → Sem Value} {op op' : OpT} (h : OpD X f op) (w : ∀ x y Q, op' x y Q → op x y Q) : OpD X f op' := by
  obtain ⟨r, hr, hq⟩ := h
  exact ⟨r, hr, fun x y v u H QD Q hx hy q k => hq x y v u H QD Q hx hy (w _ _ _ q) k⟩
def tOpD (op : OpT) (ta tb : TD) : TD := fun E Q => ta E fun x E1 => tb E1 fun y E2 => op x y fun z => Q z E2
/-- two parts: the left is data -/
theorem lift_bin {K : PySem.W.Frag} {op : OpT} {ta tb : TD} {r : R2} (hr : ∀ x y v u H (QD : D → Prop) (Q : VK), RpR K H x v → RpR K H y u → op x y QD → (∀ z w H', QD z → PExt H H' → Rp K H' z w → Q w H') → r v u H Q)
    (σ : St) (H : Hp) (Q : VK) (h : liftE K G (tOpD op ta tb) σ H Q) : tOp r (liftE K G ta) (liftR K G tb) σ H Q := by
  obtain ⟨E, QE, rel, q, k⟩ := h
  refine ⟨E, _, rel, q, fun x E1 v H1 q1 x1 rel1 p1 => ⟨E1, _, rel1, q1, fun y E2 u H2 q2 x2 rel2 p2 => ?_⟩⟩
  exact hr x y v u H2 _ Q (.inl (p1.ext x2)) p2 q2 fun z w H3 q3 p3 rz => k z E2 w H3 q3 ((x1.trans x2).trans p3.ext) (rel2.pext p3) rz
theorem ed_op {op : Operator} {o : OpT} {ta tb : TD} (ho : OpD X (binaryOp op) o) (ha : ED X G a ta) (hb : ER X G b tb) : ED X G (.BinOp a op b pos) (tOpD o ta tb) := by
  obtain ⟨r, hr, hq⟩ := ho
  exact ⟨PE.weak (pe_op hr ha.pe hb.pe) fun σ H Q h => lift_bin hq σ H Q h⟩
theorem ed_cmp {op : CmpOp} {o : OpT} {ta tb : TD} (ho : OpD X (compareOp op) o) (ha : ED X G a ta) (hb : ER X G b tb) (hm : behindInMarks op b = false) : ED X G (.Compare a [op] [b] pos) (tOpD o ta tb) := by
  obtain ⟨r, hr, hq⟩ := ho
  exact ⟨PE.weak (pe_cmpR hr ha.pe hb.pe hm) fun σ H Q h => lift_bin hq σ H Q h⟩
def UnT := D → (D → Prop) → Prop
def UnD (X : Cx) (f : Value → Sem Value) (op : UnT) : Prop := ∃ r : V → Hp → VK → Prop, UnR X f r ∧
  ∀ x v H (QD : D → Prop) (Q : VK), RpR X.K H x v → op x QD → (∀ z w H', QD z → PExt H H' → Rp X.K H' z w → Q w H') → r v H Q
def tUnD (op : UnT) (ta : TD) : TD := fun E Q => ta E fun x E1 => op x fun z => Q z E1
theorem ed_un {op : UnaryOp} {o : UnT} {ta : TD} (ho : UnD X (unaryOp op) o) (ha : ER X G a ta) : ED X G (.UnaryOp op a pos) (tUnD o ta) := by
  obtain ⟨r, hr, hq⟩ := ho
  refine ⟨PE.weak (pe_un hr ha.pe) fun σ H Q ⟨E, QE, rel, q, k⟩ => ⟨E, _, rel, q, fun x E1 v H1 q1 x1 rel1 p1 => ?_⟩⟩
  exact hq x v H1 _ Q p1 q1 fun z w H3 q3 p3 rz => k z E1 w H3 q3 (x1.trans p3.ext) (rel1.pext p3) rz
/-! ### tests -/
/-- an expression that gives a truth -/
def tBo (t : TD) : TTd := fun E Q => t E fun x E1 => match x with
  | .bool b => Q b E1
  | _ => False
theorem eb_cmp {op : CmpOp} {o : OpT} {ta tb : TD} (ho : OpD X (compareOp op) o) (ha : ED X G a ta) (hb : ER X G b tb) (hm : behindInMarks op b = false) : EB X G (.Compare a [op] [b] pos) (tBo (tOpD o ta tb)) := by
  obtain ⟨r, hr, hq⟩ := ho
  refine ⟨PT.weak (pt_cmpR hr ha.pe hb.pe hm) fun σ H Q ⟨E, QE, rel, q, k⟩ => ?_⟩
  have h : liftE X.K G (tOpD o ta tb) σ H fun x H' => ∃ k, x = .bl k ∧ Q k H' := ⟨E, _, rel, q, fun d E' v H' q1 x1 r1 p1 => by
    cases p1 with
    | bl b => exact ⟨b, rfl, k b E' H' q1 x1 r1⟩
    | _ => exact q1.elim⟩
  exact lift_bin hq σ H _ h
def tAndD (t u : TTd) : TTd := fun E Q => t E fun c E1 => if c = true then u E1 Q else Q false E1
def tOrD (t u : TTd) : TTd := fun E Q => t E fun c E1 => if c = true then Q true E1 else u E1 Q
def tNotD (t : TTd) : TTd := fun E Q => t E fun c E1 => Q (!c) E1
theorem ew_and1 {t : TTd} (h : EB X G a t) : EW X G (.BoolOp .And [a] pos) t := ⟨pw_and1 h.pt⟩
theorem ew_or1 {t : TTd} (h : EB X G a t) : EW X G (.BoolOp .Or [a] pos) t := ⟨pw_or1 h.pt⟩
theorem ew_and {t u : TTd} (h : EB X G a t) (hb : EW X G (.BoolOp .And (b :: es) pos) u) : EW X G (.BoolOp .And (a :: b :: es) pos) (tAndD t u) :=
  ⟨PW.weak (pw_and h.pt hb.pw) fun σ H Q ⟨E, QE, r, q, k⟩ => ⟨E, _, r, q, fun c E1 H1 q1 x1 r1 => by
    cases c with
    | true => exact ⟨E1, QE, r1, q1, fun b E2 H2 q2 x2 r2 => k b E2 H2 q2 (x1.trans x2) r2⟩
    | false => exact k false E1 H1 q1 x1 r1⟩⟩
theorem ew_or {t u : TTd} (h : EB X G a t) (hb : EW X G (.BoolOp .Or (b :: es) pos) u) : EW X G (.BoolOp .Or (a :: b :: es) pos) (tOrD t u) :=
  ⟨PW.weak (pw_or h.pt hb.pw) fun σ H Q ⟨E, QE, r, q, k⟩ => ⟨E, _, r, q, fun c E1 H1 q1 x1 r1 => by
    cases c with
    | false => exact ⟨E1, QE, r1, q1, fun b E2 H2 q2 x2 r2 => k b E2 H2 q2 (x1.trans x2) r2⟩
    | true => exact k true E1 H1 q1 x1 r1⟩⟩
theorem EW.eb {t : TTd} (h : EW X G e t) : EB X G e t := ⟨h.pw.pt⟩
theorem eb_not {t : TTd} (h : EB X G a t) : EB X G (.UnaryOp .Not a pos) (tNotD t) :=
  ⟨PT.weak (pt_not h.pt) fun σ H Q ⟨E, QE, r, q, k⟩ => ⟨E, _, r, q, fun c E1 H1 q1 x1 r1 => k _ E1 H1 q1 x1 r1⟩⟩
/-- a if c else b -/
def tIfE (c : TTd) (t u : TD) : TD := fun E Q => c E fun k E1 => if k = true then t E1 Q else u E1 Q
theorem ed_if {tc : TTd} {t u : TD} (hc : EB X G c tc) (ha : ED X G a t) (hb : ED X G b u) : ED X G (.IfExp c a b pos) (tIfE tc t u) :=
  ⟨PE.weak (pe_ifExp hc.pt ha.pe hb.pe) fun σ H Q ⟨E, QE, r, q, k⟩ => ⟨E, _, r, q, fun c E1 H1 q1 x1 r1 => by
    cases c with
    | true => exact ⟨E1, QE, r1, q1, fun d E2 v H2 q2 x2 r2 => k d E2 v H2 q2 (x1.trans x2) r2⟩
    | false => exact ⟨E1, QE, r1, q1, fun d E2 v H2 q2 x2 r2 => k d E2 v H2 q2 (x1.trans x2) r2⟩⟩⟩
/-! as values -/
def tAndV (t u : TD) : TD := fun E Q => t E fun x E1 => match x with
  | .bool true => u E1 Q
  | .bool false => Q (.bool false) E1
  | _ => False
def tOrV (t u : TD) : TD := fun E Q => t E fun x E1 => match x with
  | .bool true => Q (.bool true) E1
  | .bool false => u E1 Q
  | _ => False
def tNotV (t : TD) : TD := fun E Q => t E fun x E1 => match x with
  | .bool b => Q (.bool (!b)) E1
  | _ => False
theorem ed_one {op} {t : TD} (h : ED X G a t) : ED X G (.BoolOp op [a] pos) t := ⟨pe_one h.pe⟩
theorem ed_and {t u : TD} (h : ED X G a t) (hb : ED X G (.BoolOp .And (b :: es) pos) u) : ED X G (.BoolOp .And (a :: b :: es) pos) (tAndV t u) :=
  ⟨PE.weak (pe_and h.pe hb.pe) fun σ H Q ⟨E, QE, r, q, k⟩ => ⟨E, _, r, q, fun d E1 v H1 q1 x1 r1 p1 => by
    cases p1 with
    | bl c =>
      refine ⟨c, rfl, ?_⟩
      cases c with
      | true => exact ⟨E1, QE, r1, q1, fun d E2 v H2 q2 x2 r2 => k d E2 v H2 q2 (x1.trans x2) r2⟩
      | false => exact k _ E1 _ H1 q1 x1 r1 (.bl false)
    | _ => exact q1.elim⟩⟩
theorem ed_not {t : TD} (h : ED X G a t) : ED X G (.UnaryOp .Not a pos) (tNotV t) :=
  ⟨PE.weak (pe_not h.pe) fun σ H Q ⟨E, QE, r, q, k⟩ => ⟨E, _, r, q, fun d E1 v H1 q1 x1 r1 p1 => by
    cases p1 with
    | bl c => exact ⟨c, rfl, k _ E1 _ H1 q1 x1 r1 (.bl _)⟩
    | _ => exact q1.elim⟩⟩
/-! ### truth of any data -/
def truD : D → Option Bool
  | .none => some false
  | .bool b => some b
  | .int i => some (i != 0)
  | .str x => some ((x.length : Int) != 0)
  | .list xs => some (!xs.isEmpty)
  | .tuple xs => some (!xs.isEmpty)
  | .dict _ => none
def okLen : D → Prop
  | .str x => x.length ≤ sizeLine
  | _ => True
def tTru (t : TD) : TTd := fun E Q => t E fun x E1 => match truD x with
  | some b => okLen x ∧ Q b E1
  | none => False
theorem isEmpty_RpL {K : PySem.W.Frag} {H : Hp} {ds : List D} {vs : List V} (l : RpL K H ds vs) : ds.isEmpty = vs.isEmpty := by cases l <;> rfl
theorem eb_tru {t : TD} (h : ER X G e t) (he : ∀ whole, isTrue e X.env whole = (do let v ← whole; standAt e.pos; holding [v] (truthy v)) := by intro _; rfl) : EB X G e (tTru t) :=
  ⟨PT.weak (pt_truth h.pe he) fun σ H Q ⟨E, QE, r, q, k⟩ => ⟨E, _, r, q, fun d E' v H' q1 x1 r1 p1 => by
    cases d with
    | none => rw [p1.none]; exact ⟨false, rfl, k _ _ _ q1.2 x1 r1⟩
    | bool b => rw [p1.bool]; exact ⟨b, rfl, k _ _ _ q1.2 x1 r1⟩
    | int b => rw [p1.int]; exact ⟨_, rfl, k _ _ _ q1.2 x1 r1⟩
    | str b => rw [p1.str]; exact ⟨_, ⟨q1.1, rfl⟩, k _ _ _ q1.2 x1 r1⟩
    | list b =>
      obtain ⟨a, vs, rfl, hs, l⟩ := p1.list
      exact ⟨!vs.isEmpty, .inl ⟨vs, hs, rfl⟩, by have := k _ _ _ q1.2 x1 r1; rw [isEmpty_RpL l] at this; exact this⟩
    | tuple b =>
      obtain ⟨a, vs, rfl, hs, l⟩ := p1.tuple
      exact ⟨!vs.isEmpty, .inr (.inl ⟨vs, hs, rfl⟩), by have := k _ _ _ q1.2 x1 r1; rw [isEmpty_RpL l] at this; exact this⟩
    | dict b => exact q1.elim⟩⟩
/-! ### arguments -/
def aNil : TAd := fun E Q => Q [] E
def aV (t : TD) (u : TAd) : TAd := fun E Q => t E fun x E1 => u E1 fun as E2 => Q (.v x :: as) E2
def aO (i : Nat) (u : TAd) : TAd := fun E Q => match E[i]? with
  | some (.ol _) => u E fun as E2 => Q (.o i :: as) E2
  | some (.dt _) => u E fun as E2 => Q (.o i :: as) E2
  | some (.dk _) => u E fun as E2 => Q (.o i :: as) E2
  | _ => False
theorem ea_nil : EA X G [] aNil := ⟨PA.weak pa_nil fun σ H Q ⟨E, QE, r, q, k⟩ => k _ _ _ _ q (Ext.refl _) r .nil⟩
theorem ea_v {t : TD} {u : TAd} (h : ED X G e t) (hr : EA X G es u) (hs : starEach (e :: es) X.env = (false, eval e X.env) :: starEach es X.env := by rfl) : EA X G (e :: es) (aV t u) :=
  ⟨PA.weak (pa_cons h.pe hr.pa hs) fun σ H Q ⟨E, QE, r, q, k⟩ => ⟨E, _, r, q, fun x E1 v H1 q1 x1 r1 p1 => ⟨E1, _, r1, q1, fun as E2 vs H2 q2 x2 r2 p2 => k _ _ _ _ q2 (x1.trans x2) r2 (.v (p1.ext x2) p2)⟩⟩⟩
theorem ea_o (i : Nat) {x : Str} {u : TAd} {p : Pos} (hr : EA X G es u) (hN : X.N[i]? = some x := by rfl) (hv : Vis X.env.scope x := by first | exact Or.inl rfl | exact Or.inr (Or.inl rfl) | exact Or.inr (Or.inr rfl)) (hd : (x == ("__debug__" : Str)) = false := by decide)
    (hcd : (x == ("__classdict__" : Str)) = false := by decide) (hs : starEach (Expr.Name x p :: es) X.env = (false, eval (Expr.Name x p) X.env) :: starEach es X.env := by rfl) : EA X G (Expr.Name x p :: es) (aO i u) :=
  ⟨PA.weak (pa_cons (pe_var hN hv hd hcd) hr.pa hs) fun σ H Q ⟨E, QE, r, q, k⟩ => by
    unfold aO at q
    split at q
    · rename_i xs he
      obtain ⟨a, e, _⟩ := r.mutAt he rfl
      exact ⟨_, e, E, _, r, q, fun as E2 vs H2 q2 x2 r2 p2 => k _ _ _ _ q2 x2 r2 (.o e p2)⟩
    · rename_i xs he
      obtain ⟨a, e, _⟩ := r.mutAt he rfl
      exact ⟨_, e, E, _, r, q, fun as E2 vs H2 q2 x2 r2 p2 => k _ _ _ _ q2 x2 r2 (.o e p2)⟩
    · rename_i xs he
      obtain ⟨a, e, _⟩ := r.mutAt he rfl
      exact ⟨_, e, E, _, r, q, fun as E2 vs H2 q2 x2 r2 p2 => k _ _ _ _ q2 x2 r2 (.o e p2)⟩
    · exact q.elim⟩
/-! ### statements -/
section
variable {st : Stmt} {rest : List Stmt}
def sNx : TSd := fun DE E => DE.nx E
def sSeq (t u : TSd) : TSd := fun DE E => t { DE with nx := u DE } E
theorem sds_nil : SDs X G [] sNx := ⟨PSs.weak pss_nil fun F σ H ⟨E, DE, r, q, k1, _⟩ => k1 _ _ _ q (Ext.refl _) r⟩
theorem lift_more {K : PySem.W.Frag} {F : Ends} {σ : St} {H H1 : Hp} {E E1 : Env} {DE : EndsD} {u : TSd} {σ1 : St} (x1 : Ext H H1) (r1 : RelE K G H1 E1 σ1) (q : u DE E1)
    (k1 : ∀ E' σ' H', DE.nx E' → Ext H H' → RelE K G H' E' σ' → F.nx σ' H') (k2 : ∀ d E' v σ' H', DE.rt d E' → Ext H H' → RelE K G H' E' σ' → Rp K H' d v → F.rt v H')
    (k3 : ∀ E' σ' H', DE.bk E' → Ext H H' → RelE K G H' E' σ' → F.bk σ' H') (k4 : ∀ E' σ' H', DE.ct E' → Ext H H' → RelE K G H' E' σ' → F.ct σ' H') : liftS K G u F σ1 H1 :=
  ⟨E1, DE, r1, q, fun E' σ' H' z x r => k1 E' σ' H' z (x1.trans x) r, fun d E' v σ' H' z x r => k2 d E' v σ' H' z (x1.trans x) r, fun E' σ' H' z x r => k3 E' σ' H' z (x1.trans x) r, fun E' σ' H' z x r => k4 E' σ' H' z (x1.trans x) r⟩
theorem sds_cons {t u : TSd} (h : SD X G st t) (hr : SDs X G rest u) : SDs X G (st :: rest) (sSeq t u) :=
  ⟨PSs.weak (pss_cons h.ps hr.pss) fun F σ H ⟨E, DE, r, q, k1, k2, k3, k4⟩ => ⟨E, { DE with nx := u DE }, r, q, fun E' σ' H' z x r => lift_more (σ := σ) (E := E) x r z k1 k2 k3 k4, k2, k3, k4⟩⟩
theorem sds_one {t : TSd} (h : SD X G st t) : SDs X G [st] t := ⟨pss_one h.ps⟩
def sRet (t : TD) : TSd := fun DE E => t E DE.rt
theorem sd_ret {t : TD} (h : ED X G e t) : SD X G (.Return (some e) pos) (sRet t) :=
  ⟨PS.weak (ps_ret h.pe) fun F σ H ⟨E, DE, r, q, k1, k2, k3, k4⟩ => ⟨E, _, r, q, fun d E' v H' z x r p => k2 d E' v σ H' z x r p⟩⟩
def sIf (c : TTd) (t u : TSd) : TSd := fun DE E => c E fun b E1 => if b = true then t DE E1 else u DE E1
theorem sd_if {sa sb : List Stmt} {tc : TTd} {t u : TSd} (hc : EB X G c tc) (ha : SDs X G sa t) (hb : SDs X G sb u) : SD X G (.If c sa sb pos) (sIf tc t u) :=
  ⟨PS.weak (ps_if hc.pt ha.pss hb.pss) fun F σ H ⟨E, DE, r, q, k1, k2, k3, k4⟩ => ⟨E, _, r, q, fun c E1 H1 q1 x1 r1 => by
    cases c with
    | true => exact lift_more (σ := σ) (E := E) x1 r1 q1 k1 k2 k3 k4
    | false => exact lift_more (σ := σ) (E := E) x1 r1 q1 k1 k2 k3 k4⟩⟩
def sExpr (t : TD) : TSd := fun DE E => t E fun _ E1 => DE.nx E1
theorem sd_expr {t : TD} (h : ED X G e t) (hs : swapsWith e none pos.line X.env = pure false := by rfl) : SD X G (.Expr e pos) (sExpr t) :=
  ⟨PS.weak (ps_expr h.pe hs) fun F σ H ⟨E, DE, r, q, k1, k2, k3, k4⟩ => ⟨E, _, r, q, fun d E1 v H1 q1 x1 r1 p1 => k1 _ _ _ q1 x1 r1⟩⟩
end
end
end DL
set_option Elab.async false
set_option linter.all false
set_option maxRecDepth 100000
namespace DL
open PySem PySem.Spec PyProof.Rows L2
section
variable {K : PySem.W.Frag} {G : Gh} {H H' : Hp} {E : Env} {σ : St} {ex : List Addr}
theorem notin_slots {i : Nat} (hi : i ∉ G.slots) (a : Addr) : (i, a) ∉ G.own := fun h => hi (List.mem_map.mpr ⟨(i, a), h, rfl⟩)
/-- a slot gets data -/
theorem RelX.setD {i : Nat} {x : D} {v : V} (r : RelX K G ex H E σ) (hi : i ∉ G.slots) (p : Rp K H x v) : RelX K G ex H (E.set i (.d x)) (σ.set i (some v)) := by
  obtain ⟨l, k, pn, dm, x0, A, h1, h2, h3⟩ := r
  refine ⟨by simp [l], k, fun j a hj => ?_, dm, x0, fun j => if j = i then [] else A j, fun j m a e1 e2 => ?_, fun j a e1 => ?_, fun j s e => ?_⟩
  · have : i ≠ j := fun z => notin_slots hi a (z ▸ hj)
    rw [List.getElem?_set_ne this]; exact pn j a hj
  · by_cases z : j = i
    · simp [z] at e1
    · by_cases z2 : m = i
      · simp [z2] at e2
      · simp only [z, z2, if_false] at e1 e2; exact h1 j m a e1 e2
  · by_cases z : j = i
    · simp [z] at e1
    · simp only [z, if_false] at e1; exact h2 j a e1
  · by_cases z : j = i
    · subst z
      by_cases hl : j < E.length
      · rw [List.getElem?_set_self hl] at e
        cases e
        exact ⟨by simp, v, by rw [List.getElem?_set_self (l ▸ hl)], p⟩
      · rw [List.getElem?_eq_none (by simpa using hl)] at e; cases e
    · rw [List.getElem?_set_ne (Ne.symm z)] at e
      rw [List.getElem?_set_ne (Ne.symm z)]
      simp only [z, if_false]; exact h3 j s e
/-- a slot gets a new mutable thing of one's own -/
theorem RelX.setM {i : Nat} {s0 : S} {a : Addr} (r : RelX K G (a :: ex) H E σ) (hx : a ∉ ex) (hi : i ∉ G.slots) (h0 : G.H0 a = none) (p : RelM K H s0 a) : RelX K G ex H (E.set i s0) (σ.set i (some (.ref a))) := by
  obtain ⟨l, k, pn, dm, x0, A, h1, h2, h3⟩ := r
  refine ⟨by simp [l], k, fun j a hj => ?_, dm, x0, fun j => if j = i then [a] else A j, fun j m b e1 e2 => ?_, fun j b e1 => ?_, fun j s e => ?_⟩
  · have : i ≠ j := fun z => notin_slots hi a (z ▸ hj)
    rw [List.getElem?_set_ne this]; exact pn j a hj
  · by_cases z : j = i
    · by_cases z2 : m = i
      · rw [z, z2]
      · simp only [z, if_true, z2, if_false, List.mem_cons, List.not_mem_nil, or_false] at e1 e2
        exact absurd e1 fun z => (h2 m b e2).2 (by simp [z])
    · by_cases z2 : m = i
      · simp only [z, if_false, z2, if_true, List.mem_cons, List.not_mem_nil, or_false] at e1 e2
        exact absurd e2 fun z => (h2 j b e1).2 (by simp [z])
      · simp only [z, z2, if_false] at e1 e2; exact h1 j m b e1 e2
  · by_cases z : j = i
    · simp only [z, if_true, List.mem_cons, List.not_mem_nil, or_false] at e1
      subst e1; exact ⟨.inr h0, hx⟩
    · simp only [z, if_false] at e1; exact ⟨(h2 j b e1).1, fun q => (h2 j b e1).2 (List.mem_cons_of_mem _ q)⟩
  · by_cases z : j = i
    · subst z
      by_cases hl : j < E.length
      · rw [List.getElem?_set_self hl] at e
        cases e
        simp only [if_true]
        exact RelS.ofMut p.isMut (by rw [List.getElem?_set_self (l ▸ hl)]) p
      · rw [List.getElem?_eq_none (by simpa using hl)] at e; cases e
    · rw [List.getElem?_set_ne (Ne.symm z)] at e
      rw [List.getElem?_set_ne (Ne.symm z)]
      simp only [z, if_false]; exact h3 j s e
theorem RelX.setL {i : Nat} {xs : List D} {a : Addr} {vs : List V} (r : RelX K G (a :: ex) H E σ) (hx : a ∉ ex) (hi : i ∉ G.slots) (h0 : G.H0 a = none) (ha : H a = some (.lst vs)) (p : RpL K H xs vs) : RelX K G ex H (E.set i (.ol xs)) (σ.set i (some (.ref a))) :=
  r.setM hx hi h0 (s0 := .ol xs) ⟨vs, ha, p⟩
/-- a mutable thing of one's own changes -/
theorem RelX.putM {i : Nat} {s0 s1 : S} {a : Addr} {u : HO} (r : RelX K G ex H E σ) (e : E[i]? = some s0) (m0 : s0.isMut = true) (hs : σ[i]? = some (some (.ref a))) (p : RelM K (upd H a u) s1 a) : RelX K G ex (upd H a u) (E.set i s1) σ := by
  obtain ⟨l, k, pn, dm, x0, A, h1, h2, h3⟩ := r
  obtain ⟨b, e1, e2, e3⟩ := (h3 i _ e).mut m0
  rw [hs] at e2
  have e2' : a = b := by injection e2 with z; injection z with z; injection z
  subst e2'
  obtain ⟨u0, g1, g2, g3⟩ := e3.soft
  have x : Ext H (upd H a u) := Ext.putS g1 g2 g3
  have own := h2 i a (by rw [e1]; simp)
  have hl : i < E.length := by
    rcases Nat.lt_or_ge i E.length with z | z
    · exact z
    · rw [List.getElem?_eq_none z] at e; cases e
  refine ⟨by simpa using l, fun q o he ne => ?_, pn, fun q hq => ?_, x0.trans x, A, h1, h2, fun j s he => ?_⟩
  · have : q ≠ a := by
      rintro rfl
      rcases own.1 with z | z
      · exact ne z
      · rw [z] at he; cases he
    rw [upd_ne this]; exact k q o he ne
  · by_cases z : q = a
    · subst z; rw [upd_same]; simp
    · rw [upd_ne z]; exact dm q hq
  · by_cases z : j = i
    · subst z
      rw [List.getElem?_set_self hl] at he
      cases he
      rw [e1]
      exact RelS.ofMut p.isMut hs p
    · rw [List.getElem?_set_ne (Ne.symm z)] at he
      exact (h3 j s he).move x fun c hc => upd_ne fun zz => z (h1 j i c hc (by rw [e1, zz]; simp))
/-- a list of one's own changes -/
theorem RelX.putL {i : Nat} {xs ys : List D} {a : Addr} {us : List V} (r : RelX K G ex H E σ) (e : E[i]? = some (.ol xs)) (hs : σ[i]? = some (some (.ref a))) (p : RpL K H ys us) : RelX K G ex (upd H a (.lst us)) (E.set i (.ol ys)) σ := by
  have x : Ext H (upd H a (.lst us)) := by
    obtain ⟨l, k, pn, dm, x0, A, h1, h2, h3⟩ := r
    obtain ⟨b, e1, e2, vs, e3, e4⟩ := h3 i _ e
    rw [hs] at e2
    have e2' : a = b := by injection e2 with z; injection z with z; injection z
    subst e2'; exact Ext.put e3
  exact r.putM e rfl hs (s1 := .ol ys) ⟨us, upd_same, p.ext x⟩
/-- a new object is apart from all -/
theorem RelX.fresh {p : Addr} {o : HO} (r : RelE K G H E σ) (hp : H p = none) : RelX K G [p] (upd H p o) E σ ∧ G.H0 p = none ∧ p ∉ G.addrs := by
  have px : PExt H (upd H p o) := PExt.new hp
  have r' := r.pext px
  obtain ⟨l, k, pn, dm, x0, A, h1, h2, h3⟩ := r'
  obtain ⟨_, k0, _, dm0, _, A0, g1, g2, g3⟩ := r
  have na : p ∉ G.addrs := fun z => dm0 p z hp
  refine ⟨⟨l, k, pn, dm, x0, fun i => if E[i]? = none then [] else A0 i, fun i j a e1 e2 => ?_, fun i a e => ?_, fun i s e => ?_⟩, ?_, na⟩
  · dsimp only at e1 e2
    split at e1
    · cases e1
    · split at e2
      · cases e2
      · exact g1 i j a e1 e2
  · dsimp only at e
    split at e
    · cases e
    · rename_i hE
      refine ⟨(g2 i a e).1, ?_⟩
      cases q : E[i]? with
      | none => exact absurd q hE
      | some s =>
        obtain ⟨u, hvs, _⟩ := (g3 i s q).indom a e
        simp only [List.mem_cons, List.not_mem_nil, or_false]
        rintro rfl
        rw [hp] at hvs; cases hvs
  · have : E[i]? ≠ none := by rw [e]; simp
    simp only [this, if_false]
    exact (g3 i s e).pext px
  · cases q : G.H0 p with
    | none => rfl
    | some o' => have := k0 p o' q na; rw [hp] at this; cases this
/-- a thing that nobody else has is frozen -/
theorem RelX.freezeS {a : Addr} {u u' : HO} (r : RelX K G [a] H E σ) (h0 : G.H0 a = none) (na : a ∉ G.addrs) (ha : H a = some u) (s1 : ∀ xs, u ≠ .tup xs) (s2 : ∀ o v, u ≠ .frz o v) : RelE K G (upd H a u') E σ := by
  have x : Ext H (upd H a u') := Ext.putS ha s1 s2
  obtain ⟨l, k, pn, dm, x0, A, h1, h2, h3⟩ := r
  refine ⟨l, fun q u he ne => ?_, pn, fun q hq => ?_, x0.trans x, fun i => if E[i]? = none then [] else A i, fun i j b e1 e2 => ?_, fun i b e => ?_, fun i s e => ?_⟩
  · have : q ≠ a := by rintro rfl; rw [h0] at he; cases he
    rw [upd_ne this]; exact k q u he ne
  · have : q ≠ a := by rintro rfl; exact na hq
    rw [upd_ne this]; exact dm q hq
  · dsimp only at e1 e2
    split at e1
    · cases e1
    · split at e2
      · cases e2
      · exact h1 i j b e1 e2
  · dsimp only at e
    split at e
    · cases e
    · exact ⟨(h2 i b e).1, by simp⟩
  · have : E[i]? ≠ none := by rw [e]; simp
    simp only [this, if_false]
    exact (h3 i s e).move x fun p hp => upd_ne (by rintro rfl; exact (h2 i p hp).2 (by simp))
/-- a list that nobody else has is frozen -/
theorem RelX.freeze {a : Addr} {vs : List V} {o : Obj} (r : RelX K G [a] H E σ) (h0 : G.H0 a = none) (na : a ∉ G.addrs) (ha : H a = some (.lst vs)) : RelE K G (upd H a (.frz o (.lst vs))) E σ :=
  r.freezeS h0 na ha (fun _ z => by cases z) (fun _ _ z => by cases z)
end
section
variable {X : Cx} {G : Gh} {a b c e : Expr} {es : List Expr} {pos : Pos}
/-! ### a new list is frozen: data -/
def tFz (t : TE) : TE := fun σ H Q => t σ H fun v H1 => ∃ a xs, v = .ref a ∧ H1 a = some (.lst xs) ∧ ∀ o, Q v (upd H1 a (.frz o (.lst xs)))
theorem PE.fz {t : TE} (h : PE X e t) : PE X e (tFz t) := ⟨fun pins s σ H Q I q => thn (h.run pins s σ H _ I q) fun u s1 ⟨v, H1, I1, r1, a, xs, e1, e2, q1⟩ => by
  obtain ⟨o, I2⟩ := I1.lock e2 trivial
  exact ⟨v, _, I2, r1, q1 o⟩⟩
def tFzD (t : TLd) : TD := fun E Q => t E fun xs E1 => Q (.list xs) E1
theorem EL.ed {t : TLd} (h : EL X G e t) : ED X G e (tFzD t) :=
  ⟨PE.weak (PE.fz h.pe) fun σ H Q ⟨E, QE, r, q, k⟩ => ⟨E, _, r, q, fun xs E1 a vs H1 q1 x1 r1 h0 na ha p1 => ⟨a, vs, rfl, ha, fun o =>
    k _ _ _ _ q1 (x1.trans (Ext.put ha)) (r1.freeze h0 na ha) (.lst (.of upd_same) (p1.ext (Ext.put ha)))⟩⟩⟩
/-- a list that is read now -/
theorem EL.er {t : TLd} (h : EL X G e t) : ER X G e (tFzD t) := h.ed.er
/-! ### displays -/
abbrev TDs := Env → (List D → Env → Prop) → Prop
def liftDs (K : PySem.W.Frag) (G : Gh) (t : TDs) : TA := fun σ H Q => ∃ (E : Env) (QE : List D → Env → Prop), RelE K G H E σ ∧ t E QE ∧ ∀ ds E' vs H', QE ds E' → Ext H H' → RelE K G H' E' σ → RpL K H' ds vs → Q vs H'
structure EDs (X : Cx) (G : Gh) (es : List Expr) (t : TDs) : Prop where
  pa : PA X es (liftDs X.K G t)
def dNil : TDs := fun E Q => Q [] E
def dCons (t : TD) (u : TDs) : TDs := fun E Q => t E fun x E1 => u E1 fun ds E2 => Q (x :: ds) E2
theorem eds_nil : EDs X G [] dNil := ⟨PA.weak pa_nil fun σ H Q ⟨E, QE, r, q, k⟩ => k _ _ _ _ q (Ext.refl _) r .nil⟩
theorem eds_cons {t : TD} {u : TDs} (h : ED X G e t) (hr : EDs X G es u) (hs : starEach (e :: es) X.env = (false, eval e X.env) :: starEach es X.env := by rfl) : EDs X G (e :: es) (dCons t u) :=
  ⟨PA.weak (pa_cons h.pe hr.pa hs) fun σ H Q ⟨E, QE, r, q, k⟩ => ⟨E, _, r, q, fun x E1 v H1 q1 x1 r1 p1 => ⟨E1, _, r1, q1, fun as E2 vs H2 q2 x2 r2 p2 => k _ _ _ _ q2 (x1.trans x2) r2 (.cons (p1.ext x2) p2)⟩⟩⟩
/-- a tuple of written items: the new object is plain -/
theorem pe_tupF {x1 : Nat} {t : TA} (h : PA X es t) : PE X (.Tuple es x1 pos) (fun σ H Q => t σ H fun xs H1 => xs.length ≤ sizeLine ∧ ∀ p o, H1 p = none → o.dict = none → Q (.ref p) (upd H1 p (.frz o (.tup xs)))) :=
  ⟨fun pins s σ H Q I hq => wpAny_Tuple_spliced (thn (h.run pos pins s σ H _ I hq) fun us s1 ⟨xs, H1, I1, r, z, q⟩ => ⟨by rw [← r.length]; exact z,
    ⟨.ref s1.heap.objs.size, upd H1 s1.heap.objs.size (.frz { cls := .type "tuple", data := .seq us.toArray } (.tup xs)), I1.laid (t' := s1.toks) (fun b u e => Heap.get?_push_of_some _ e) (Nat.le_refl _) ⟨Heap.get?_push_size _ rfl, z, us, r, ⟨_, Heap.get?_push_size _ rfl, rfl, _, rfl⟩⟩, rfl, q _ _ (I1.hok.fresh (Nat.le_refl _)) rfl⟩⟩)⟩
def tTupD (t : TDs) : TD := fun E Q => t E fun ds E1 => ds.length ≤ sizeLine ∧ Q (.tuple ds) E1
theorem ed_tup {x1} {t : TDs} (h : EDs X G es t) : ED X G (.Tuple es x1 pos) (tTupD t) :=
  ⟨PE.weak (pe_tupF h.pa) fun σ H Q ⟨E, QE, r, q, k⟩ => ⟨E, _, r, q, fun ds E1 vs H1 q1 x1 r1 p1 => ⟨by rw [← p1.length]; exact q1.1, fun p o hp ho =>
    k _ _ _ _ q1.2 (x1.trans (PExt.new hp).ext) (r1.pext (PExt.new hp)) (.tup (.new ho) (p1.ext (PExt.new hp).ext))⟩⟩⟩
def tLstD (t : TDs) : TLd := fun E Q => t E fun ds E1 => ds.length ≤ sizeLine ∧ Q ds E1
theorem el_lst {t : TDs} (h : EDs X G es t) : EL X G (.List es pos) (tLstD t) :=
  ⟨PE.weak (pe_lst h.pa) fun σ H Q ⟨E, QE, r, q, k⟩ => ⟨E, _, r, q, fun ds E1 vs H1 q1 x1 r1 p1 => ⟨by rw [← p1.length]; exact q1.1, fun p hp => by
    obtain ⟨r2, h0, na⟩ := r1.fresh (o := .lst vs) hp
    exact k _ _ _ _ _ q1.2 (x1.trans (PExt.new hp).ext) r2 h0 na upd_same (p1.ext (PExt.new hp).ext)⟩⟩⟩
/-! ### assignments -/
def sSet (i : Nat) (t : TD) : TSd := fun DE E => t E fun d E1 => DE.nx (E1.set i (.d d))
theorem sd_set {i : Nat} {x : Str} {pos' : Pos} {t : TD} (hi : i ∉ G.slots) (hN : X.N.Nodup) (hx : X.N[i]? = some x) (hl : Loc X.env.scope x) (h : ED X G e t) (hs : swapsWith e (some (.Name x pos')) pos.line X.env = pure false := by rfl)
    (hf : X.fn x = true ∨ X.env.scope.names.lookup x = some .local := by first | exact .inl rfl | exact .inr rfl | assumption) : SD X G (.Assign [.Name x pos'] e pos) (sSet i t) :=
  ⟨PS.weak (ps_set hN hx hl h.pe hs hf) fun F σ H ⟨E, DE, r, q, k1, k2, k3, k4⟩ => ⟨E, _, r, q, fun d E1 v H1 q1 x1 r1 p1 => k1 _ _ _ q1 x1 (r1.setD hi p1)⟩⟩
def sSetL (i : Nat) (t : TLd) : TSd := fun DE E => t E fun d E1 => DE.nx (E1.set i (.ol d))
theorem sd_setL {i : Nat} {x : Str} {pos' : Pos} {t : TLd} (hi : i ∉ G.slots) (hN : X.N.Nodup) (hx : X.N[i]? = some x) (hl : Loc X.env.scope x) (h : EL X G e t) (hs : swapsWith e (some (.Name x pos')) pos.line X.env = pure false := by rfl)
    (hf : X.fn x = true ∨ X.env.scope.names.lookup x = some .local := by first | exact .inl rfl | exact .inr rfl | assumption) : SD X G (.Assign [.Name x pos'] e pos) (sSetL i t) :=
  ⟨PS.weak (ps_set hN hx hl h.pe hs hf) fun F σ H ⟨E, DE, r, q, k1, k2, k3, k4⟩ => ⟨E, _, r, q, fun d E1 a vs H1 q1 x1 r1 h0 na ha p1 => k1 _ _ _ q1 x1 (r1.setL (by simp) hi h0 ha p1)⟩⟩
/-! targets: ms the slots that they change -/
theorem wipe_setIn {σ : St} {i : Nat} {o : Option V} : ∀ {ms : List Nat}, i ∈ ms → wipe (σ.set i o) ms = wipe σ ms
  | m :: ms, h => by
    show (wipe (σ.set i o) ms).set m none = (wipe σ ms).set m none
    by_cases hi : i ∈ ms
    · rw [wipe_setIn hi]
    · have hm : i = m := by rcases List.mem_cons.mp h with z | z; exact z; exact absurd z hi
      subst hm
      have : ∀ (l : List Nat), i ∉ l → wipe (σ.set i o) l = (wipe σ l).set i o := by
        intro l
        induction l with
        | nil => intro _; rfl
        | cons k l ih =>
          intro hk
          show (wipe (σ.set i o) l).set k none = ((wipe σ l).set k none).set i o
          rw [ih (fun z => hk (List.mem_cons_of_mem _ z)), List.set_comm _ _ (fun z => hk (by simp [z]))]
      rw [this ms hi, List.set_set]
abbrev TGd := D → Env → (Env → Prop) → Prop
def liftG (W : Bool) (K : PySem.W.Frag) (G : Gh) (ms : List Nat) (t : TGd) : TG := fun v σ H Q => ∃ (E : Env) (d : D) (QE : Env → Prop), RelE K G H E σ ∧ RpB W K H d v ∧ t d E QE ∧ ∀ E' σ' H', QE E' → Ext H H' → RelE K G H' E' σ' → wipe σ' ms = wipe σ ms → Q σ' H'
structure GD (X : Cx) (G : Gh) (W : Bool) (ms : List Nat) (tg : Expr) (t : TGd) : Prop where
  pg : PG X tg (liftG W X.K G ms t)
theorem PG.weak {tg : Expr} {t u : TG} (h : PG X tg t) (w : ∀ v σ H Q, u v σ H Q → t v σ H Q) : PG X tg u := ⟨fun pins s σ H v x Q I r q => h.run pins s σ H v x Q I r (w v σ H Q q)⟩
def gSet (i : Nat) : TGd := fun d E Q => Q (E.set i (.d d))
theorem gd_name {i : Nat} {x : Str} {ms : List Nat} (hi : i ∉ G.slots) (hm : i ∈ ms) (hN : X.N.Nodup) (hx : X.N[i]? = some x) (hl : Loc X.env.scope x) (hf : X.fn x = true ∨ X.env.scope.names.lookup x = some .local := by first | exact .inl rfl | exact .inr rfl | assumption) : GD X G false ms (.Name x pos) (gSet i) :=
  ⟨PG.weak (pg_name hN hx hl hf) fun v σ H Q ⟨E, d, QE, r, p, q, k⟩ => k _ _ _ q (Ext.refl _) (r.setD hi p) (wipe_setIn hm)⟩
abbrev TGsd := List D → Env → (Env → Prop) → Prop
def liftGs (K : PySem.W.Frag) (G : Gh) (ms : List Nat) (t : TGsd) : TGs := fun vs σ H Q => ∃ (E : Env) (ds : List D) (QE : Env → Prop), RelE K G H E σ ∧ RpL K H ds vs ∧ t ds E QE ∧ ∀ E' σ' H', QE E' → Ext H H' → RelE K G H' E' σ' → wipe σ' ms = wipe σ ms → Q σ' H'
structure GDs (X : Cx) (G : Gh) (ms : List Nat) (tgs : List Expr) (t : TGsd) : Prop where
  pg : PGs X tgs (liftGs X.K G ms t)
theorem PGs.weak {tgs : List Expr} {t u : TGs} (h : PGs X tgs t) (w : ∀ v σ H Q, u v σ H Q → t v σ H Q) : PGs X tgs u := ⟨fun pins s σ H v x Q I r q => h.run pins s σ H v x Q I r (w v σ H Q q)⟩
def gsNil : TGsd := fun ds E Q => match ds with
  | [] => Q E
  | _ => False
def gsCons (t : TGd) (u : TGsd) : TGsd := fun ds E Q => match ds with
  | d :: r => t d E fun E1 => u r E1 Q
  | _ => False
theorem gds_nil {ms : List Nat} : GDs X G ms [] gsNil := ⟨PGs.weak pgs_nil fun vs σ H Q ⟨E, ds, QE, r, p, q, k⟩ => by
  cases p with
  | nil => exact ⟨rfl, k _ _ _ q (Ext.refl _) r rfl⟩
  | cons _ _ => exact q.elim⟩
theorem gds_cons {ms : List Nat} {t : TGd} {u : TGsd} (h1 : GD X G false ms e t) (h2 : GDs X G ms es u) (hs : (assignEach (e :: es) X.env).map (·.2) = assign e X.env :: (assignEach es X.env).map (·.2) := by rfl) : GDs X G ms (e :: es) (gsCons t u) := ⟨PGs.weak (pgs_cons h1.pg h2.pg hs) fun vs σ H Q ⟨E, ds, QE, r, p, q, k⟩ => by
  cases p with
  | nil => exact q.elim
  | cons p1 p2 => exact ⟨_, _, rfl, E, _, _, r, .of p1, q, fun E1 σ1 H1 q1 x1 r1 w1 => ⟨E1, _, QE, r1, p2.ext x1, q1, fun E2 σ2 H2 q2 x2 r2 w2 => k _ _ _ q2 (x1.trans x2) r2 (w2.trans w1)⟩⟩⟩
/-- a tuple of targets: n of them -/
def gTupD (n : Nat) (u : TGsd) : TGd := fun d E Q => match d with
  | .tuple ds => ds.length = n ∧ u ds E Q
  | _ => False
theorem gd_tup {W : Bool} {ms : List Nat} {k n : Nat} {u : TGsd} (hc : X.calm = true) (h : GDs X G ms es u) (hn : (assignEach es X.env).length = n := by rfl) (hst : (assignEach es X.env).findIdx? (·.1) = none := by rfl) : GD X G W ms (.Tuple es k pos) (gTupD n u) :=
  ⟨PG.weak (pg_tup hc h.pg hn hst) fun v σ H Q ⟨E, d, QE, r, p, q, k⟩ => by
    have strong : Rp X.K H d v → gTup X.K n (liftGs X.K G ms u) v σ H Q := fun p => by
      cases p with
      | tup hs l => exact ⟨_, _, rfl, hs.1, by rw [← l.length]; exact q.1, E, _, QE, r, l, q.2, k⟩
      | _ => exact q.elim
    unfold RpB at p
    split at p
    · rcases p with p | ⟨ds, a, vs, rfl, rfl, hs, l⟩
      · exact strong p
      · exact ⟨_, _, rfl, hs, by rw [← l.length]; exact q.1, E, _, QE, r, l, q.2, k⟩
    · exact strong p⟩
/-- targets = e -/
def sAsg (t : TD) (g : TGd) : TSd := fun DE E => t E fun d E1 => g d E1 DE.nx
end
end DL
set_option Elab.async false
set_option linter.all false
set_option maxRecDepth 100000
namespace DL
open PySem PySem.Spec PyProof.Rows L2
/-! ### a thing that nobody else has, kept while something else runs -/
def pend (G : Gh) (a : Addr) (o : HO) : Gh := { H0 := upd G.H0 a o, own := G.own, X0 := G.X0, more := G.more }
section
variable {K : PySem.W.Frag} {G : Gh} {H H' : Hp} {E : Env} {σ : St} {ex : List Addr}
theorem RelX.toPend {a : Addr} {o : HO} (r : RelX K G (a :: ex) H E σ) (ha : H a = some o) (na : a ∉ G.addrs) : RelX K (pend G a o) ex H E σ := by
  obtain ⟨l, k, pn, dm, x0, A, h1, h2, h3⟩ := r
  refine ⟨l, fun p u e ne => ?_, pn, dm, x0, A, h1, fun i b e => ⟨?_, fun q => (h2 i b e).2 (List.mem_cons_of_mem _ q)⟩, h3⟩
  · by_cases z : p = a
    · subst z
      have : (pend G p o).H0 p = some o := upd_same
      rw [this] at e; cases e; exact ha
    · have e' : G.H0 p = some u := by
        have : (pend G a o).H0 p = G.H0 p := upd_ne z
        rw [this] at e; exact e
      exact k p u e' ne
  · have hb := h2 i b e
    have z : b ≠ a := by intro z; exact hb.2 (by simp [z])
    rcases hb.1 with q | q
    · exact .inl q
    · exact .inr (by show upd G.H0 a o b = none; rw [upd_ne z]; exact q)
theorem RelX.ofPend {a : Addr} {o : HO} (r : RelX K (pend G a o) ex H E σ) (h0 : G.H0 a = none) (na : a ∉ G.addrs) : RelX K G (a :: ex) H E σ ∧ H a = some o := by
  obtain ⟨l, k, pn, dm, x0, A, h1, h2, h3⟩ := r
  refine ⟨⟨l, fun p u e ne => ?_, pn, dm, x0, A, h1, fun i b e => ?_, h3⟩, ?_⟩
  · have z : p ≠ a := by rintro rfl; rw [h0] at e; cases e
    exact k p u (by show upd G.H0 a o p = some u; rw [upd_ne z]; exact e) ne
  · have hb := (h2 i b e).1
    have z : b ≠ a := by
      rintro rfl
      rcases hb with q | q
      · exact na q
      · have : upd G.H0 b o b = none := q
        rw [upd_same] at this; cases this
    refine ⟨?_, fun q => by
      rcases List.mem_cons.mp q with q | q
      · exact z q
      · exact (h2 i b e).2 q⟩
    rcases hb with q | q
    · exact .inl q
    · exact .inr (by have : upd G.H0 a o b = none := q; rw [upd_ne z] at this; exact this)
  · exact k a o upd_same na
end
/-! ### what is walked -/
structure WalkD (W : Bool) (K : PySem.W.Frag) (J : It) (H0 : Hp) (ds : List D) : Prop where
  goes : ∀ i H, Ext H0 H → i < ds.length → J.go i H
  yld : ∀ i H x H', Ext H0 H → i < ds.length → J.yld i H x H' → PExt H H' ∧ ∃ d, ds[i]? = some d ∧ RpB W K H' d x
  stops : ∀ H, Ext H0 H → J.stop ds.length H
def liftI (W : Bool) (K : PySem.W.Frag) (G : Gh) (t : TDs) : TI := fun σ H R => ∃ (E : Env) (QE : List D → Env → Prop), RelE K G H E σ ∧ t E QE ∧ ∀ ds E' J H', QE ds E' → Ext H H' → RelE K G H' E' σ → WalkD W K J H' ds → R J H'
structure ID (X : Cx) (G : Gh) (W : Bool) (tg iter : Expr) (t : TDs) : Prop where
  pi : PI X tg iter (liftI W X.K G t)
theorem PI.weak {X : Cx} {tg iter : Expr} {t u : TI} (h : PI X tg iter t) (w : ∀ σ H R, u σ H R → t σ H R) : PI X tg iter u := ⟨fun pins s σ H R I q => h.run pins s σ H R I (w σ H R q)⟩
section
variable {X : Cx} {G : Gh} {tg iter e : Expr} {pos : Pos}
/-- over data that is a tuple -/
def iTupD (t : TD) : TDs := fun E Q => t E fun d E1 => match d with
  | .tuple ds => Q ds E1
  | _ => False
def iLstD (t : TD) : TDs := fun E Q => t E fun d E1 => match d with
  | .list ds => Q ds E1
  | _ => False
theorem walkD_tup {K : PySem.W.Frag} {H : Hp} {a : Addr} {vs : List V} {ds : List D} (h : SqT K H a vs) (l : RpL K H ds vs) : WalkD false K (Itt K a) H ds where
  goes := fun i H' x hi => by
    rw [l.length] at hi
    exact ⟨vs, vs[i], SqT.ext x h, List.getElem?_eq_getElem hi⟩
  yld := fun i H' v H2 x hi hy => by
    obtain ⟨e1, e2⟩ := hy
    subst e1
    have hv := e2 vs (SqT.ext x h)
    obtain ⟨d, hd, p⟩ := l.getV hv
    exact ⟨PExt.refl _, d, hd, p.ext x⟩
  stops := fun H' x => ⟨vs, SqT.ext x h, by rw [l.length]; exact Nat.le_refl _⟩
theorem walkD_lst {K : PySem.W.Frag} {H : Hp} {a : Addr} {vs : List V} {ds : List D} (h : LsF K H a vs) (l : RpL K H ds vs) : WalkD false K (Itl K a) H ds where
  goes := fun i H' x hi => by
    rw [l.length] at hi
    exact ⟨vs, vs[i], (LsF.ext x h).sq, List.getElem?_eq_getElem hi⟩
  yld := fun i H' v H2 x hi hy => by
    obtain ⟨e1, e2⟩ := hy
    subst e1
    have hv := e2 vs ((LsF.ext x h).sq)
    obtain ⟨d, hd, p⟩ := l.getV hv
    exact ⟨PExt.refl _, d, hd, p.ext x⟩
  stops := fun H' x => ⟨vs, (LsF.ext x h).sq, by rw [l.length]; exact Nat.le_refl _⟩
theorem id_tup {t : TD} (h : ED X G iter t) : ID X G false tg iter (iTupD t) :=
  ⟨PI.weak (pi_tup h.pe) fun σ H R ⟨E, QE, r, q, k⟩ => ⟨E, _, r, q, fun d E1 v H1 q1 x1 r1 p1 => by
    cases p1 with
    | tup hs l => exact ⟨_, rfl, ⟨_, hs.1⟩, k _ _ _ _ q1 x1 r1 (walkD_tup hs.1 l)⟩
    | _ => exact q1.elim⟩⟩
theorem id_lst {t : TD} (h : ED X G iter t) : ID X G false tg iter (iLstD t) :=
  ⟨PI.weak (pi_list h.pe) fun σ H R ⟨E, QE, r, q, k⟩ => ⟨E, _, r, q, fun d E1 v H1 q1 x1 r1 p1 => by
    cases p1 with
    | lst hs l => exact ⟨_, rfl, ⟨_, hs.sq⟩, k _ _ _ _ q1 x1 r1 (walkD_lst hs l)⟩
    | _ => exact q1.elim⟩⟩
/-! ranges -/
def rangeD (lo : Int) (n : Nat) : List D := (List.range n).map fun i : Nat => PyData.int (lo + (i : Int))
theorem rangeD_length (lo : Int) (n : Nat) : (rangeD lo n).length = n := by simp [rangeD]
theorem rangeD_get {lo : Int} {n i : Nat} (h : i < n) : (rangeD lo n)[i]? = some (.int (lo + (i : Int))) := by
  simp [rangeD, h]
theorem walkD_range {K : PySem.W.Frag} {H : Hp} {lo : Int} {n : Nat} : WalkD false K (Itr lo n) H (rangeD lo n) where
  goes := fun i H' x hi => by rw [rangeD_length] at hi; exact hi
  yld := fun i H' v H2 x hi hy => by
    obtain ⟨rfl, rfl⟩ := hy
    rw [rangeD_length] at hi
    exact ⟨PExt.refl _, _, rangeD_get hi, .int _⟩
  stops := fun H' x => by rw [rangeD_length]; exact Nat.le_refl _
def iRange1 (t : TD) : TDs := fun E Q => t E fun d E1 => match d with
  | .int j => (-(2 ^ 62) ≤ j ∧ j < 2 ^ 62) ∧ Q (rangeD 0 j.toNat) E1
  | _ => False
theorem id_range1 {a : Expr} {t : TD} {p : Pos} (hg : Gl X "range") (hm : X.mg "range" = none) (h : ED X G a t) (hs : starEach [a] X.env = [(false, eval a X.env)] := by rfl) : ID X G false tg (.Call (.Name "range" p) [a] [] pos) (iRange1 t) :=
  ⟨PI.weak (pi_range1 hg hm (pa_cons h.pe pa_nil hs) hs) fun σ H R ⟨E, QE, r, q, k⟩ => ⟨E, _, r, q, fun d E1 v H1 q1 x1 r1 p1 => by
    cases p1 with
    | int i => exact ⟨i, rfl, q1.1.1, q1.1.2, k _ _ _ _ q1.2 x1 r1 walkD_range⟩
    | _ => exact q1.elim⟩⟩
def iRange2 (t u : TD) : TDs := fun E Q => t E fun d E1 => u E1 fun f E2 => match d, f with
  | .int i, .int j => (-(2 ^ 62) ≤ i ∧ i < 2 ^ 62 ∧ -(2 ^ 62) ≤ j ∧ j < 2 ^ 62) ∧ Q (rangeD i (j - i).toNat) E2
  | _, _ => False
theorem id_range2 {a b : Expr} {t u : TD} {p : Pos} (hg : Gl X "range") (hm : X.mg "range" = none) (h : ED X G a t) (hb : ED X G b u) (hs : starEach [a, b] X.env = [(false, eval a X.env), (false, eval b X.env)] := by rfl) (hs2 : starEach [b] X.env = [(false, eval b X.env)] := by rfl) :
    ID X G false tg (.Call (.Name "range" p) [a, b] [] pos) (iRange2 t u) :=
  ⟨PI.weak (pi_range2 hg hm (pa_cons h.pe (pa_cons hb.pe pa_nil hs2) (by rw [hs, hs2])) hs hs2) fun σ H R ⟨E, QE, r, q, k⟩ => ⟨E, _, r, q, fun d E1 v H1 q1 x1 r1 p1 => ⟨E1, _, r1, q1, fun f E2 u H2 q2 x2 r2 p2 => by
    cases p1 with
    | int i =>
      cases p2 with
      | int j => exact ⟨i, j, rfl, q2.1, k _ _ _ _ q2.2 (x1.trans x2) r2 walkD_range⟩
      | _ => exact q2.elim
    | _ => cases p2 <;> exact q2.elim⟩⟩⟩
/-! ### for -/
def forD (g : TGd) (tb : TSd) : List D → TSd
  | [] => fun DE E => DE.nx E
  | d :: ds => fun DE E => g d E fun E1 => tb { DE with nx := forD g tb ds DE, ct := forD g tb ds DE, bk := DE.nx } E1
def sFor (ti : TDs) (g : TGd) (tb : TSd) : TSd := fun DE E => ti E fun ds E1 => forD g tb ds DE E1
theorem sd_for {W : Bool} {body : List Stmt} {ti : TDs} {g : TGd} {tb : TSd} (hp : PassesOwn (model X.prog X.w) X.A X.env X.xe) (hc : X.calm = true) (hi : ID X G W tg iter ti) {ms : List Nat} (hg : GD X G W ms tg g) (hb : SDs X G body tb)
    (hs : ∀ x, foldedSetIterable iter X.env x = pure x := by intro _; rfl) : SD X G (.For tg iter body [] pos) (sFor ti g tb) := by
  refine ⟨PS.weak (ps_for hp hc hi.pi hg.pg hb.pss hs) fun F σ H ⟨E, DE, r, q, k1, k2, k3, k4⟩ => ⟨E, _, r, q, fun ds E1 J H1 q1 x1 r1 wk => ?_⟩⟩
  refine ⟨fun i m σ' H' => ∃ E', i + m = ds.length ∧ Ext H1 H' ∧ RelE X.K G H' E' σ' ∧ forD g tb (ds.drop i) DE E', ⟨ds.length, E1, by omega, Ext.refl _, r1, q1⟩, fun i m σ2 H2 hW => ?_⟩
  obtain ⟨E2, hm, x2, r2, q2⟩ := hW
  by_cases hi : i < ds.length
  · obtain ⟨d, hd⟩ : ∃ d, ds[i]? = some d := ⟨ds[i], List.getElem?_eq_getElem hi⟩
    have hdr : ds.drop i = d :: ds.drop (i + 1) := by
      rw [List.drop_eq_getElem_cons hi]
      rw [List.getElem?_eq_getElem hi] at hd
      rw [Option.some.inj hd]
    rw [hdr] at q2
    refine .inr ⟨wk.goes i H2 x2 hi, fun σ' H' => ∃ E', Ext H1 H' ∧ RelE X.K G H' E' σ' ∧ forD g tb (ds.drop (i + 1)) DE E', fun σ' H' ⟨E', a1, a2, a3⟩ => ⟨m - 1, by omega, E', by omega, a1, a2, a3⟩, fun x H3 hy => ?_⟩
    obtain ⟨px, d', hd', p⟩ := wk.yld i H2 x H3 x2 hi hy
    rw [hd] at hd'; cases hd'
    refine ⟨E2, d, _, r2.pext px, p, q2, fun E4 σ4 H4 q4 x4 r4 _ => ?_⟩
    have xx : Ext H1 H4 := (x2.trans px.ext).trans x4
    refine ⟨E4, _, r4, q4, fun E5 σ5 H5 z x5 r5 => ⟨E5, xx.trans x5, r5, z⟩, fun d E5 v σ5 H5 z x5 r5 p5 => k2 d E5 v σ5 H5 z ((x1.trans xx).trans x5) r5 p5, fun E5 σ5 H5 z x5 r5 => k1 E5 σ5 H5 z ((x1.trans xx).trans x5) r5, fun E5 σ5 H5 z x5 r5 => ⟨E5, xx.trans x5, r5, z⟩⟩
  · have e0 : ds.drop i = [] := List.drop_eq_nil_of_le (by omega)
    have ei : i = ds.length := by omega
    rw [e0] at q2
    refine .inl ⟨by rw [ei]; exact wk.stops H2 x2, k1 _ _ _ q2 (x1.trans x2) r2⟩
/-! ### while -/
/-! ### comprehensions -/
def wipeE (E : Env) : List Nat → Env
  | [] => E
  | v :: vs => (wipeE E vs).set v .un
def datOf : Option S → S
  | some (.d x) => .d x
  | _ => .un
/-- behind a comprehension: its own names are as they were -/
def restE (E0 E : Env) : List Nat → Env
  | [] => E
  | v :: vs => (restE E0 E vs).set v (datOf E0[v]?)
/-- one turn: an item, or none -/
def turnD (g : TGd) (tt : TTd) (te : TD) (d : D) (E : Env) (Q : Option D → Env → Prop) : Prop :=
  g d E fun E1 => tt E1 fun b E2 => if b = true then te E2 fun y E3 => Q (some y) E3 else Q none E2
def compD (g : TGd) (tt : TTd) (te : TD) (ms : List Nat) : List D → List D → Env → (List D → Env → Prop) → Prop
  | [], acc, E, Q => Q acc E
  | d :: ds, acc, E, Q => turnD g tt te d (wipeE E ms) fun o E' => match o with
    | some y => acc.length < sizeLine ∧ compD g tt te ms ds (acc ++ [y]) E' Q
    | none => compD g tt te ms ds acc E' Q
def tComp (ti : TDs) (g : TGd) (tt : TTd) (te : TD) (ms : List Nat) : TLd := fun E Q => ti E fun ds E1 => compD g tt te ms ds [] E1 fun xs E2 => Q xs (restE E1 E2 ms)
def tTrue : TTd := fun E Q => Q true E
structure EBs (X : Cx) (G : Gh) (ifs : List Expr) (t : TTd) : Prop where
  pt : PTs X ifs (liftT X.K G t)
theorem PTs.weak {ifs : List Expr} {t u : TT} (h : PTs X ifs t) (w : ∀ σ H Q, u σ H Q → t σ H Q) : PTs X ifs u := ⟨fun pins s σ H Q I q => h.run pins s σ H Q I (w σ H Q q)⟩
theorem ebs_nil : EBs X G [] tTrue := ⟨PTs.weak pts_nil fun σ H Q ⟨E, QE, r, q, k⟩ => k _ _ _ q (Ext.refl _) r⟩
theorem ebs_one {c : Expr} {t : TTd} (h : EB X G c t) : EBs X G [c] t := ⟨pts_one h.pt⟩
theorem RelX.wipe1 {K : PySem.W.Frag} {ex : List Addr} {H : Hp} {E : Env} {σ : St} {i : Nat} (r : RelX K G ex H E σ) (hi : i ∉ G.slots) : RelX K G ex H (E.set i .un) (σ.set i none) := by
  obtain ⟨l, k, pn, dm, x0, A, h1, h2, h3⟩ := r
  refine ⟨by simp [l], k, fun j a hj => ?_, dm, x0, fun j => if j = i then [] else A j, fun j m a e1 e2 => ?_, fun j a e1 => ?_, fun j s e => ?_⟩
  · have : i ≠ j := fun z => notin_slots hi a (z ▸ hj)
    rw [List.getElem?_set_ne this]; exact pn j a hj
  · by_cases z : j = i
    · simp [z] at e1
    · by_cases z2 : m = i
      · simp [z2] at e2
      · simp only [z, z2, if_false] at e1 e2; exact h1 j m a e1 e2
  · by_cases z : j = i
    · simp [z] at e1
    · simp only [z, if_false] at e1; exact h2 j a e1
  · by_cases z : j = i
    · subst z
      by_cases hl : j < E.length
      · rw [List.getElem?_set_self hl] at e
        cases e
        simp [RelS]
      · rw [List.getElem?_eq_none (by simpa using hl)] at e; cases e
    · rw [List.getElem?_set_ne (Ne.symm z)] at e
      rw [List.getElem?_set_ne (Ne.symm z)]
      simp only [z, if_false]; exact h3 j s e
theorem RelX.wipe {K : PySem.W.Frag} {ex : List Addr} {H : Hp} {E : Env} {σ : St} (r : RelX K G ex H E σ) : ∀ {ms : List Nat}, (∀ i ∈ ms, i ∉ G.slots) → RelX K G ex H (wipeE E ms) (wipe σ ms)
  | [], _ => r
  | i :: ms, h => (RelX.wipe r fun j hj => h j (List.mem_cons_of_mem _ hj)).wipe1 (h i (List.mem_cons_self ..))
theorem wipe_get {σ : St} {i : Nat} : ∀ {ms : List Nat}, i ∉ ms → (L2.wipe σ ms)[i]? = σ[i]?
  | [], _ => rfl
  | v :: vs, h => by
    show ((L2.wipe σ vs).set v none)[i]? = _
    rw [List.getElem?_set_ne (fun z => h (by simp [z])), wipe_get fun z => h (List.mem_cons_of_mem _ z)]
/-- behind a comprehension: the slots of before -/
theorem RelX.rest {K : PySem.W.Frag} {ex : List Addr} {H1 H : Hp} {E1 E : Env} {σ σ2 : St} {ms : List Nat} (r1 : RelE K G H1 E1 σ) (x : Ext H1 H) (r : RelX K G ex H E σ2) (hw : L2.wipe σ2 ms = L2.wipe σ ms) (hm : ∀ i ∈ ms, i ∉ G.slots) : RelX K G ex H (restE E1 E ms) σ := by
  have hl : σ2.length = σ.length := by rw [← wipe_length σ2 ms, hw, wipe_length]
  have rl : ∀ (l : List Nat), (restE E1 E l).length = E.length := by
    intro l
    induction l with
    | nil => rfl
    | cons v vs ih => show ((restE E1 E vs).set v _).length = _; rw [List.length_set, ih]
  have rg : ∀ (l : List Nat) (i : Nat), i ∉ l → (restE E1 E l)[i]? = E[i]? := by
    intro l
    induction l with
    | nil => intro i _; rfl
    | cons v vs ih => intro i h; show ((restE E1 E vs).set v _)[i]? = _; rw [List.getElem?_set_ne (fun z => h (by simp [z])), ih i fun z => h (List.mem_cons_of_mem _ z)]
  have rin : ∀ (l : List Nat) (i : Nat) (s : S), i ∈ l → (restE E1 E l)[i]? = some s → s = datOf E1[i]? := by
    intro l
    induction l with
    | nil => intro i s h; cases h
    | cons v vs ih =>
      intro i s h e
      have e : ((restE E1 E vs).set v (datOf E1[v]?))[i]? = some s := e
      by_cases z : v = i
      · subst z
        by_cases hv : v < (restE E1 E vs).length
        · rw [List.getElem?_set_self hv] at e; exact (Option.some.inj e).symm
        · rw [List.getElem?_eq_none (by simpa using hv)] at e; cases e
      · rw [List.getElem?_set_ne z] at e
        exact ih i s (by rcases List.mem_cons.mp h with q | q; exact absurd q.symm z; exact q) e
  obtain ⟨l, k, pn, dm, x0, A, h1, h2, h3⟩ := r
  have same : ∀ i, i ∉ ms → σ2[i]? = σ[i]? := fun i hi => by rw [← wipe_get (σ := σ2) hi, hw, wipe_get hi]
  refine ⟨by rw [rl, l, hl], k, fun i a ha => ?_, dm, x0, fun i => if i ∈ ms then [] else A i, fun i j a e1 e2 => ?_, fun i a e => ?_, fun i s e => ?_⟩
  · have : i ∉ ms := fun z => notin_slots (hm i z) a ha
    rw [← same i this]; exact pn i a ha
  · dsimp only at e1 e2
    split at e1
    · cases e1
    · split at e2
      · cases e2
      · exact h1 i j a e1 e2
  · dsimp only at e
    split at e
    · cases e
    · exact h2 i a e
  · by_cases hi : i ∈ ms
    · simp only [hi, if_true]
      have es := rin ms i s hi e
      subst es
      cases q : E1[i]? with
      | none => exact rfl
      | some s =>
        cases s with
        | d y =>
          obtain ⟨v, e1, p⟩ := r1.data q
          exact ⟨rfl, v, e1, p.ext x⟩
        | _ => exact rfl
    · simp only [hi, if_false]
      rw [rg ms i hi] at e
      rw [← same i hi]
      exact h3 i s e
abbrev anyG (W : Bool) (K : PySem.W.Frag) (G : Gh) (ms : List Nat) (g : TGd) : TG := fun v σ H Q => ∃ G' : Gh, G'.slots = G.slots ∧ liftG W K G' ms g v σ H Q
abbrev anyT (K : PySem.W.Frag) (G : Gh) (tt : TTd) : TT := fun σ H Q => ∃ G' : Gh, G'.slots = G.slots ∧ liftT K G' tt σ H Q
abbrev anyE (K : PySem.W.Frag) (G : Gh) (te : TD) : TE := fun σ H Q => ∃ G' : Gh, G'.slots = G.slots ∧ liftE K G' te σ H Q
theorem lift_comp {W : Bool} {ti : TDs} {g : TGd} {tt : TTd} {te : TD} {ms : List Nat} (hm : ∀ i ∈ ms, i ∉ G.slots) (σ : St) (H : Hp) (Q : VK) (h : liftL X.K G (tComp ti g tt te ms) σ H Q) : tLc (liftI W X.K G ti) (anyG W X.K G ms g) (anyT X.K G tt) (anyE X.K G te) ms σ H Q := by
  obtain ⟨E, QE, r, q, k⟩ := h
  refine ⟨E, _, r, q, fun ds E1 J H1 q1 x1 r1 wk L hL => ?_⟩
  obtain ⟨rL, h0, na⟩ := r1.fresh (o := .lst []) hL
  refine ⟨fun i m H' => ∃ (E' : Env) (σ' : St) (acc : List D) (vs : List V), i + m = ds.length ∧ Ext (upd H1 L (.lst [])) H' ∧ RelX X.K G [L] H' E' σ' ∧ L2.wipe σ' ms = L2.wipe σ ms ∧ H' L = some (.lst vs) ∧ RpL X.K H' acc vs ∧
    compD g tt te ms (ds.drop i) acc E' fun xs E2 => QE xs (restE E1 E2 ms), ⟨ds.length, E1, σ, [], [], by omega, Ext.refl _, rL, rfl, upd_same, .nil, q1⟩, fun i m H2 hW => ?_⟩
  obtain ⟨E2, σ2, acc, vs, hm2, x2, r2, w2, a2, p2, q2⟩ := hW
  have xL : Ext H1 H2 := (PExt.new hL).ext.trans x2
  by_cases hi : i < ds.length
  · obtain ⟨d, hd⟩ : ∃ d, ds[i]? = some d := ⟨ds[i], List.getElem?_eq_getElem hi⟩
    have hdr : ds.drop i = d :: ds.drop (i + 1) := by
      rw [List.drop_eq_getElem_cons hi]
      rw [List.getElem?_eq_getElem hi] at hd
      rw [Option.some.inj hd]
    rw [hdr] at q2
    refine .inr ⟨wk.goes i H2 xL hi, fun H' => ∃ (E' : Env) (σ' : St) (acc : List D) (vs : List V), Ext (upd H1 L (.lst [])) H' ∧ RelX X.K G [L] H' E' σ' ∧ L2.wipe σ' ms = L2.wipe σ ms ∧ H' L = some (.lst vs) ∧ RpL X.K H' acc vs ∧
      compD g tt te ms (ds.drop (i + 1)) acc E' fun xs E2 => QE xs (restE E1 E2 ms), fun H' ⟨E', σ', acc, vs, b1, b2, b3, b4, b5, b6⟩ => ⟨m - 1, by omega, E', σ', acc, vs, by omega, b1, b2, b3, b4, b5, b6⟩, fun x H3 hy => ?_⟩
    obtain ⟨px, d', hd', p⟩ := wk.yld i H2 x H3 xL hi hy
    rw [hd] at hd'; cases hd'
    have hs0 : (pend G L (.lst vs)).slots = G.slots := rfl
    have r3 : RelE X.K (pend G L (.lst vs)) H3 (wipeE E2 ms) (L2.wipe σ ms) := by
      have := ((r2.pext px).wipe hm).toPend (px _ _ a2) na
      rw [w2] at this; exact this
    refine ⟨pend G L (.lst vs), hs0, _, d, _, r3, p, q2, fun E4 σ4 H4 q4 x4 r4 w4 => ?_⟩
    have ww : ∀ (l : List Nat), L2.wipe (L2.wipe σ l) l = L2.wipe σ l := by
      intro l
      have : ∀ (τ : St) (l k : List Nat), (∀ j ∈ l, j ∈ k) → (∀ j ∈ k, ∀ v, τ[j]? = some v → v = none) → L2.wipe τ l = τ := by
        intro τ l
        induction l with
        | nil => intro _ _ _; rfl
        | cons v vs ih =>
          intro k hk hn
          show (L2.wipe τ vs).set v none = τ
          rw [ih k (fun j hj => hk j (List.mem_cons_of_mem _ hj)) hn]
          refine List.ext_getElem? fun j => ?_
          by_cases hv : v = j
          · subst hv
            by_cases hl : v < τ.length
            · rw [List.getElem?_set_self hl]
              have := hn v (hk v (List.mem_cons_self ..)) _ (List.getElem?_eq_getElem hl)
              rw [List.getElem?_eq_getElem hl, this]
            · rw [List.getElem?_eq_none (by simpa using hl), List.getElem?_eq_none (by simpa using hl)]
          · rw [List.getElem?_set_ne hv]
      refine this _ l l (fun j hj => hj) fun j hj v e => ?_
      cases v with
      | none => rfl
      | some y => exact absurd hj (wipe_some e).2
    refine ⟨by rw [w4]; exact ww ms, pend G L (.lst vs), hs0, E4, _, r4, q4, fun b E5 H5 q5 x5 r5 => ?_⟩
    have w45 : L2.wipe σ4 ms = L2.wipe σ ms := by rw [w4]; exact ww ms
    have x5' : Ext (upd H1 L (.lst [])) H5 := ((x2.trans px.ext).trans x4).trans x5
    cases b with
    | false =>
      rw [if_neg Bool.false_ne_true] at q5
      refine iteF ?_
      obtain ⟨r6, a6⟩ := RelX.ofPend r5 h0 na
      exact ⟨E5, σ4, acc, vs, x5', r6, w45, a6, p2.ext ((px.ext.trans x4).trans x5), q5⟩
    | true =>
      rw [if_pos rfl] at q5
      refine iteT ?_
      refine ⟨pend G L (.lst vs), hs0, E5, _, r5, q5, fun y E6 u H6 q6 x6 r6 p6 => ?_⟩
      obtain ⟨r7, a7⟩ := RelX.ofPend r6 h0 na
      have pv := p2.ext (((px.ext.trans x4).trans x5).trans x6)
      have xp : Ext H6 (upd H6 L (.lst (vs ++ [u]))) := Ext.put a7
      refine ⟨vs, a7, by rw [← pv.length]; exact q6.1, E6, σ4, acc ++ [y], vs ++ [u], (x5'.trans x6).trans xp, ?_, w45, upd_same, (RpL.append pv (.cons p6 .nil)).ext xp, q6.2⟩
      -- the list L grows: apart from all footprints
      obtain ⟨l, kk, pn, dm, x0, A, h1, h2, h3⟩ := r7
      refine ⟨l, fun p o e ne => ?_, pn, fun p hp => ?_, x0.trans xp, fun j => if E6[j]? = none then [] else A j, fun i j b e1 e2 => ?_, fun i b e => ?_, fun j s e => ?_⟩
      · have : p ≠ L := by rintro rfl; rw [h0] at e; cases e
        rw [upd_ne this]; exact kk p o e ne
      · have : p ≠ L := by rintro rfl; exact na hp
        rw [upd_ne this]; exact dm p hp
      · dsimp only at e1 e2
        split at e1
        · cases e1
        · split at e2
          · cases e2
          · exact h1 i j b e1 e2
      · dsimp only at e
        split at e
        · cases e
        · exact h2 i b e
      · have : E6[j]? ≠ none := by rw [e]; simp
        simp only [this, if_false]
        exact (h3 j s e).move xp fun p hp => upd_ne (by rintro rfl; exact (h2 j p hp).2 (by simp))
  · have e0 : ds.drop i = [] := List.drop_eq_nil_of_le (by omega)
    have ei : i = ds.length := by omega
    rw [e0] at q2
    exact .inl ⟨by rw [ei]; exact wk.stops H2 xL, k _ _ _ _ _ q2 (x1.trans xL) (RelX.rest r1 xL r2 w2 hm) h0 na a2 p2⟩
theorem comp_parts {W : Bool} {elt tg : Expr} {ifs : List Expr} {scope : Scope} {g : TGd} {tt : TTd} {te : TD} {ms : List Nat}
    (hg : ∀ (G' : Gh), G'.slots = G.slots → ∀ (s : Shared) (H : Hp) (C : Addr) (cl : List (Str × Addr)) (fp : List Addr), GD (X.blk s H scope (compEnvC scope cl C X.env) fp) G' W ms tg g)
    (ht : ∀ (G' : Gh), G'.slots = G.slots → ∀ (s : Shared) (H : Hp) (C : Addr) (cl : List (Str × Addr)) (fp : List Addr), EBs (X.blk s H scope (compEnvC scope cl C X.env) fp) G' ifs tt)
    (he : ∀ (G' : Gh), G'.slots = G.slots → ∀ (s : Shared) (H : Hp) (C : Addr) (cl : List (Str × Addr)) (fp : List Addr), ED (X.blk s H scope (compEnvC scope cl C X.env) fp) G' elt te) :
    (∀ (s : Shared) (H : Hp) (C : Addr) (cl : List (Str × Addr)) (fp : List Addr), PG (X.blk s H scope (compEnvC scope cl C X.env) fp) tg (anyG W X.K G ms g)) ∧
    (∀ (s : Shared) (H : Hp) (C : Addr) (cl : List (Str × Addr)) (fp : List Addr), PTs (X.blk s H scope (compEnvC scope cl C X.env) fp) ifs (anyT X.K G tt)) ∧
    (∀ (s : Shared) (H : Hp) (C : Addr) (cl : List (Str × Addr)) (fp : List Addr), PE (X.blk s H scope (compEnvC scope cl C X.env) fp) elt (anyE X.K G te)) :=
  ⟨fun s H C cl fp => ⟨fun pins s' σ H' v x Q I r ⟨G', hG', q⟩ => (hg G' hG' s H C cl fp).pg.run pins s' σ H' v x Q I r q⟩,
   fun s H C cl fp => ⟨fun pins s' σ H' Q I ⟨G', hG', q⟩ => (ht G' hG' s H C cl fp).pt.run pins s' σ H' Q I q⟩,
   fun s H C cl fp => ⟨fun pins s' σ H' Q I ⟨G', hG', q⟩ => (he G' hG' s H C cl fp).pe.run pins s' σ H' Q I q⟩⟩
section
variable {elt : Expr} {ifs : List Expr} {scope : Scope} {ti : TDs} {g : TGd} {tt : TTd} {te : TD} {ms : List Nat}
theorem el_comp {W : Bool} (own : List (Str × Nat)) (hc : X.calm = true) (hN : X.N.Nodup) (hms : own.map (·.2) = ms) (hm : ∀ i ∈ ms, i ∉ G.slots) (hi : ID X G W tg iter ti) (ok : BlkOk X.N X.env.scope scope own)
    (hg : ∀ (G' : Gh), G'.slots = G.slots → ∀ (s : Shared) (H : Hp) (C : Addr) (cl : List (Str × Addr)) (fp : List Addr), GD (X.blk s H scope (compEnvC scope cl C X.env) fp) G' W ms tg g)
    (ht : ∀ (G' : Gh), G'.slots = G.slots → ∀ (s : Shared) (H : Hp) (C : Addr) (cl : List (Str × Addr)) (fp : List Addr), EBs (X.blk s H scope (compEnvC scope cl C X.env) fp) G' ifs tt)
    (he : ∀ (G' : Gh), G'.slots = G.slots → ∀ (s : Shared) (H : Hp) (C : Addr) (cl : List (Str × Addr)) (fp : List Addr), ED (X.blk s H scope (compEnvC scope cl C X.env) fp) G' elt te) (hs : ∀ x, foldedSetIterable iter X.env x = pure x := by intro _; rfl) :
    EL X G (.ListComp elt [⟨tg, iter, ifs, 0⟩] scope pos) (tComp ti g tt te ms) := by
  obtain ⟨Pg, Pt, Pe⟩ := comp_parts hg ht he
  refine ⟨PE.weak (pe_lc hc hN hi.pi ok Pg Pt Pe hs) fun σ H Q h => ?_⟩
  rw [hms]; exact lift_comp hm σ H Q h
/-- behind a statement the list at slot i is frozen -/
theorem PS.fz {st : Stmt} {t : TS} (h : PS X st t) : PS X st (fun F σ H => t { F with nx := fun σ' H' => ∃ a xs, H' a = some (.lst xs) ∧ ∀ o, F.nx σ' (upd H' a (.frz o (.lst xs))) } σ H) :=
  ⟨fun pins s σ H F I q => thn (h.run pins s σ H _ I q) fun f s1 q1 => by
    cases f with
    | next =>
      obtain ⟨σ', H', I1, a, xs, e2, q2⟩ := q1
      obtain ⟨o, I2⟩ := I1.lock e2 trivial
      exact ⟨σ', _, I2, q2 o⟩
    | brk => exact q1
    | cont => exact q1
    | ret u => exact q1⟩
/-- .. data -/
theorem sd_setC {W : Bool} {i : Nat} {y : Str} {py spos : Pos} (own : List (Str × Nat)) (hsl : i ∉ G.slots) (hc : X.calm = true) (hN : X.N.Nodup) (hy : X.N[i]? = some y) (hyl : X.env.scope.names.lookup y = some .local)
    (hsw : swapsWith (.ListComp elt [⟨tg, iter, ifs, 0⟩] scope pos) (some (.Name y py)) spos.line X.env = pure true) (hms : own.map (·.2) = ms) (hm : ∀ i ∈ ms, i ∉ G.slots) (hi : ID X G W tg iter ti) (ok : BlkOk X.N X.env.scope scope own)
    (hg : ∀ (G' : Gh), G'.slots = G.slots → ∀ (s : Shared) (H : Hp) (C : Addr) (cl : List (Str × Addr)) (fp : List Addr), GD (X.blk s H scope (compEnvC scope cl C X.env) fp) G' W ms tg g)
    (ht : ∀ (G' : Gh), G'.slots = G.slots → ∀ (s : Shared) (H : Hp) (C : Addr) (cl : List (Str × Addr)) (fp : List Addr), EBs (X.blk s H scope (compEnvC scope cl C X.env) fp) G' ifs tt)
    (he : ∀ (G' : Gh), G'.slots = G.slots → ∀ (s : Shared) (H : Hp) (C : Addr) (cl : List (Str × Addr)) (fp : List Addr), ED (X.blk s H scope (compEnvC scope cl C X.env) fp) G' elt te) (hs : ∀ x, foldedSetIterable iter X.env x = pure x := by intro _; rfl) :
    SD X G (.Assign [.Name y py] (.ListComp elt [⟨tg, iter, ifs, 0⟩] scope pos) spos) (sSet i (tFzD (tComp ti g tt te ms))) := by
  obtain ⟨Pg, Pt, Pe⟩ := comp_parts hg ht he
  refine ⟨PS.weak (PS.fz (ps_setLc hc hN hy hyl hsw hi.pi ok Pg Pt Pe hs)) fun F σ H ⟨E, DE, r, q, k1, k2, k3, k4⟩ => ?_⟩
  show tLc _ _ _ _ (own.map (·.2)) σ H fun x H1 => ∃ a xs, H1 a = some (.lst xs) ∧ ∀ o, F.nx (σ.set i (some x)) (upd H1 a (.frz o (.lst xs)))
  rw [hms]
  refine lift_comp hm σ H _ ⟨E, _, r, q, fun xs E1 a vs H1 q1 x1 r1 h0 na ha p1 => ?_⟩
  refine ⟨a, vs, ha, fun o => k1 _ _ _ q1 (x1.trans (Ext.put ha)) ?_⟩
  exact (r1.freeze h0 na ha).setD hsl (.lst (.of upd_same) (p1.ext (Ext.put ha)))
end
end
end DL
set_option Elab.async false
set_option linter.all false
set_option maxRecDepth 100000
namespace DL
open PySem PySem.Spec PyProof.Rows L2
/-! ### a def's promise over data -/
abbrev SpD := List S → (D → List S → Prop) → Prop
inductive AR (K : PySem.W.Frag) (H : Hp) : List S → List V → List Addr → Prop
  | nil : AR K H [] [] []
  | d {x : D} {v : V} {ss : List S} {vs : List V} {as : List Addr} : Rp K H x v → AR K H ss vs as → AR K H (.d x :: ss) (v :: vs) as
  | o {s : S} {a : Addr} {ss : List S} {vs : List V} {as : List Addr} : s.isMut = true → RelM K H s a → AR K H ss vs as → AR K H (s :: ss) (.ref a :: vs) (a :: as)
def spL (K : PySem.W.Frag) (sp : SpD) : Sp := fun vs H Q _ => ∃ (ss : List S) (as : List Addr) (QD : D → List S → Prop), sp ss QD ∧ AR K H ss vs as ∧ as.Nodup ∧
  ∀ d outs v H', QD d outs → (∀ p o, H p = some o → p ∉ as → H' p = some o) → Paired (RelM K H') outs as → Rp K H' d v → Q v H'
/-- the places of the mutable ones -/
def mpos : Nat → List S → List Nat
  | _, [] => []
  | k, s :: ss => if s.isMut = true then k :: mpos (k + 1) ss else mpos (k + 1) ss
theorem AR.length {K : PySem.W.Frag} {H : Hp} : ∀ {ss : List S} {vs : List V} {as : List Addr}, AR K H ss vs as → ss.length = vs.length
  | _, _, _, .nil => rfl
  | _, _, _, .d _ r => by rw [List.length_cons, List.length_cons, AR.length r]
  | _, _, _, .o _ _ r => by rw [List.length_cons, List.length_cons, AR.length r]
theorem AR.mlen {K : PySem.W.Frag} {H : Hp} : ∀ {ss : List S} {vs : List V} {as : List Addr} (k : Nat), AR K H ss vs as → (mpos k ss).length = as.length
  | _, _, _, _, .nil => rfl
  | _, _, _, k, .d _ r => by show (mpos (k + 1) _).length = _; exact AR.mlen (k + 1) r
  | _, _, _, k, .o h _ r => by unfold mpos; rw [if_pos h, List.length_cons, List.length_cons, AR.mlen (k + 1) r]
/-- what an argument place holds -/
theorem AR.get {K : PySem.W.Frag} {H : Hp} : ∀ {ss : List S} {vs : List V} {as : List Addr} (k : Nat) {i : Nat} {s : S}, AR K H ss vs as → ss[i]? = some s →
    (∃ x v, s = .d x ∧ vs[i]? = some v ∧ Rp K H x v) ∨ (s.isMut = true ∧ ∃ a, vs[i]? = some (.ref a) ∧ RelM K H s a ∧ (k + i, a) ∈ (mpos k ss).zip as)
  | _, _, _, _, i, _, .nil, e => by simp at e
  | _, _, _, k, 0, s, .d (x := x) (v := v) p r, e => by
    simp at e; exact .inl ⟨x, v, e.symm, rfl, p⟩
  | _, _, _, k, i + 1, s, .d p r, e => by
    rcases AR.get (k + 1) (i := i) r (by simpa using e) with ⟨x, v, e1, e2, e3⟩ | ⟨h, a, e1, e2, e3⟩
    · exact .inl ⟨x, v, e1, by simpa using e2, e3⟩
    · refine .inr ⟨h, a, by simpa using e1, e2, ?_⟩
      show (k + (i + 1), a) ∈ (mpos (k + 1) _).zip _
      rw [show k + (i + 1) = k + 1 + i by omega]; exact e3
  | _, _, _, k, 0, s, .o (a := a) h m r, e => by
    simp at e; subst e
    refine .inr ⟨h, a, rfl, m, ?_⟩
    unfold mpos; rw [if_pos h]; simp
  | _, _, _, k, i + 1, s, .o h m r, e => by
    rcases AR.get (k + 1) (i := i) r (by simpa using e) with ⟨x, v, e1, e2, e3⟩ | ⟨h', a, e1, e2, e3⟩
    · exact .inl ⟨x, v, e1, by simpa using e2, e3⟩
    · refine .inr ⟨h', a, by simpa using e1, e2, ?_⟩
      unfold mpos; rw [if_pos h, List.zip_cons_cons]
      refine List.mem_cons_of_mem _ ?_
      rw [show k + (i + 1) = k + 1 + i by omega]; exact e3
theorem AR.back {K : PySem.W.Frag} {H : Hp} : ∀ {ss : List S} {vs : List V} {as : List Addr} (k : Nat) {j : Nat} {a : Addr}, AR K H ss vs as → (j, a) ∈ (mpos k ss).zip as → ∃ i s, j = k + i ∧ ss[i]? = some s ∧ vs[i]? = some (.ref a) ∧ RelM K H s a
  | _, _, _, _, _, _, .nil, e => by simp [mpos] at e
  | _, _, _, k, j, a, .d p r, e => by
    obtain ⟨i, s, e1, e2, e3, e4⟩ := AR.back (k + 1) (j := j) (a := a) r e
    exact ⟨i + 1, s, by omega, by simpa using e2, by simpa using e3, e4⟩
  | _, _, _, k, j, a, .o h m r, e => by
    unfold mpos at e; rw [if_pos h, List.zip_cons_cons] at e
    rcases List.mem_cons.mp e with z | z
    · cases z; exact ⟨0, _, by omega, rfl, rfl, m⟩
    · obtain ⟨i, s, e1, e2, e3, e4⟩ := AR.back (k + 1) r z
      exact ⟨i + 1, s, by omega, by simpa using e2, by simpa using e3, e4⟩
theorem zip_inj2 {α β : Type} : ∀ {xs : List α} {ys : List β} {i j : α} {a : β}, ys.Nodup → (i, a) ∈ xs.zip ys → (j, a) ∈ xs.zip ys → i = j
  | x :: xs, y :: ys, i, j, a, nd, h1, h2 => by
    rw [List.zip_cons_cons] at h1 h2
    have ⟨n1, n2⟩ := List.nodup_cons.mp nd
    rcases List.mem_cons.mp h1 with z1 | z1
    · rcases List.mem_cons.mp h2 with z2 | z2
      · cases z1; cases z2; rfl
      · cases z1; exact absurd (List.of_mem_zip z2).2 n1
    · rcases List.mem_cons.mp h2 with z2 | z2
      · cases z2; exact absurd (List.of_mem_zip z1).2 n1
      · exact zip_inj2 n2 z1 z2
  | [], _, _, _, _, _, h1, _ => by simp at h1
  | _ :: _, [], _, _, _, _, h1, _ => by simp at h1
theorem zip_fst {α β : Type} : ∀ {xs : List α} {ys : List β}, xs.length = ys.length → (xs.zip ys).map (·.1) = xs
  | [], _, _ => by simp
  | x :: xs, y :: ys, h => by rw [List.zip_cons_cons, List.map_cons, zip_fst (by simpa using h)]
  | _ :: _, [], h => by simp at h
theorem zip_snd {α β : Type} : ∀ {xs : List α} {ys : List β}, xs.length = ys.length → (xs.zip ys).map (·.2) = ys
  | [], [], _ => by simp
  | [], _ :: _, h => by simp at h
  | x :: xs, y :: ys, h => by rw [List.zip_cons_cons, List.map_cons, zip_snd (by simpa using h)]
  | _ :: _, [], h => by simp at h
/-- the start of a def's body -/
theorem AR.start {K : PySem.W.Frag} {H : Hp} {ss : List S} {vs : List V} {as : List Addr} {n : Nat} (r : AR K H ss vs as) (nd : as.Nodup) :
    RelE K ⟨H, (mpos 0 ss).zip as, fun _ => none, []⟩ H (ss ++ List.replicate n .un) (vs.map some ++ List.replicate n none) := by
  have hl := r.length
  have own : ∀ i a, (i, a) ∈ (mpos 0 ss).zip as → ∃ s, ss[i]? = some s ∧ vs[i]? = some (.ref a) ∧ RelM K H s a := fun i a h => by
    obtain ⟨j, s, e1, e2, e3, e4⟩ := r.back 0 h
    have : i = j := by omega
    subst this; exact ⟨s, e2, e3, e4⟩
  have key : ∀ i a, ((mpos 0 ss).zip as).lookup i = some a → (i, a) ∈ (mpos 0 ss).zip as := by
    intro i a
    generalize (mpos 0 ss).zip as = l
    induction l with
    | nil => intro h; cases h
    | cons p l ih =>
      obtain ⟨j, b⟩ := p
      intro h
      rw [List.lookup_cons] at h
      split at h
      · rename_i q; have : i = j := by simpa using q
        subst this; cases h; exact List.mem_cons_self ..
      · exact List.mem_cons_of_mem _ (ih h)
  have key2 : ∀ i a, (i, a) ∈ (mpos 0 ss).zip as → ∃ b, ((mpos 0 ss).zip as).lookup i = some b := by
    intro i a
    generalize (mpos 0 ss).zip as = l
    induction l with
    | nil => intro h; cases h
    | cons p l ih =>
      obtain ⟨j, b⟩ := p
      intro h
      rw [List.lookup_cons]
      split
      · exact ⟨b, rfl⟩
      · rename_i q
        rcases List.mem_cons.mp h with z | z
        · cases z; simp at q
        · exact ih z
  refine ⟨by simp [hl], fun p o h _ => h, fun i a h => ?_, fun a h => ?_, ⟨(fun _ _ z => by cases z), (fun _ _ _ z => by cases z)⟩, fun i => match ((mpos 0 ss).zip as).lookup i with | some a => [a] | none => [], fun i j a h1 h2 => ?_, fun i a h => ?_, fun i s h => ?_⟩
  · obtain ⟨s, e1, e2, e3⟩ := own i a h
    have hi : i < vs.length := by
      rcases Nat.lt_or_ge i vs.length with z | z
      · exact z
      · rw [List.getElem?_eq_none z] at e2; cases e2
    rw [List.getElem?_append_left (by simpa using hi), List.getElem?_map, e2]; rfl
  · have h : a ∈ ((mpos 0 ss).zip as).map (·.2) ++ [] := h
    rw [List.append_nil] at h
    obtain ⟨p, hp, rfl⟩ := List.mem_map.mp h
    obtain ⟨s, e1, e2, e3⟩ := own p.1 p.2 hp
    obtain ⟨u, e, _⟩ := e3.soft
    rw [e]; simp
  · dsimp only at h1 h2
    split at h1
    · rename_i b hb
      split at h2
      · rename_i c hc
        simp only [List.mem_cons, List.not_mem_nil, or_false] at h1 h2
        subst h1; subst h2
        exact zip_inj2 nd (key _ _ hb) (key _ _ hc)
      · cases h2
    · cases h1
  · dsimp only at h
    split at h
    · rename_i b hb
      simp only [List.mem_cons, List.not_mem_nil, or_false] at h
      subst h
      exact ⟨.inl (List.mem_append_left _ (List.mem_map.mpr ⟨_, key _ _ hb, rfl⟩)), by simp⟩
    · cases h
  · by_cases hi : i < ss.length
    · rw [List.getElem?_append_left hi] at h
      rw [List.getElem?_append_left (by simpa [← hl] using hi), List.getElem?_map]
      rcases r.get 0 h with ⟨x, v, rfl, e2, e3⟩ | ⟨hm, a, e1, e2, e3⟩
      · have no : ((mpos 0 ss).zip as).lookup i = none := by
          cases q : ((mpos 0 ss).zip as).lookup i with
          | none => rfl
          | some b =>
            obtain ⟨s', f1, f2, f3⟩ := own i b (key _ _ q)
            rw [h] at f1; cases f1
            exact f3.elim
        dsimp only
        rw [no, e2]
        exact ⟨rfl, v, rfl, e3⟩
      · rw [Nat.zero_add] at e3
        obtain ⟨b, hb⟩ := key2 i a e3
        obtain ⟨s', f1, f2, f3⟩ := own i b (key _ _ hb)
        rw [e1] at f2; cases f2
        dsimp only
        rw [hb, e1]
        exact RelS.ofMut hm rfl e2
    · have hi' : ss.length ≤ i := Nat.le_of_not_lt hi
      rw [List.getElem?_append_right hi'] at h
      have hs : s = .un := by
        have := List.mem_of_getElem? h
        exact (List.mem_replicate.mp this).2
      subst hs
      have no : ((mpos 0 ss).zip as).lookup i = none := by
        cases q : ((mpos 0 ss).zip as).lookup i with
        | none => rfl
        | some b =>
          obtain ⟨s', f1, f2, f3⟩ := own i b (key _ _ q)
          rw [List.getElem?_eq_none hi'] at f1; cases f1
      dsimp only
      rw [no]; rfl
/-- the mutable arguments at the end -/
def finO : List Nat → Env → (List S → Prop) → Prop
  | [], _, Q => Q []
  | i :: is, E, Q => match E[i]? with
    | some (.ol xs) => finO is E fun outs => Q (.ol xs :: outs)
    | some (.dt xs) => finO is E fun outs => Q (.dt xs :: outs)
    | some (.dk xs) => finO is E fun outs => Q (.dk xs :: outs)
    | _ => False
theorem finO_rel {K : PySem.W.Frag} {G : Gh} {H : Hp} {E : Env} {σ : St} (r : RelE K G H E σ) : ∀ {slots : List Nat} {as : List Addr} {Q : List S → Prop}, slots.length = as.length → (∀ p ∈ slots.zip as, p ∈ G.own) → finO slots E Q → ∃ outs, Q outs ∧ Paired (RelM K H) outs as
  | [], [], Q, _, _, h => ⟨[], h, .nil⟩
  | i :: is, a :: as, Q, hl, hs, h => by
    have key : ∀ s : S, E[i]? = some s → s.isMut = true → finO is E (fun outs => Q (s :: outs)) → ∃ outs, Q outs ∧ Paired (RelM K H) outs (a :: as) := fun s he hm h => by
      have hp := r.pin i a (hs (i, a) (by simp))
      obtain ⟨b, e1, e2⟩ := r.mutAt he hm
      rw [hp] at e1
      have : a = b := by injection e1 with z; injection z with z; injection z
      subst this
      obtain ⟨outs, q, p⟩ := finO_rel r (slots := is) (as := as) (by simpa using hl) (fun p hp => hs p (by rw [List.zip_cons_cons]; exact List.mem_cons_of_mem _ hp)) h
      exact ⟨_, q, .cons e2 p⟩
    unfold finO at h
    split at h
    · rename_i xs he; exact key _ he rfl h
    · rename_i xs he; exact key _ he rfl h
    · rename_i xs he; exact key _ he rfl h
    · exact h.elim
  | [], _ :: _, _, hl, _, _ => by simp at hl
  | _ :: _, [], _, hl, _, _ => by simp at hl
/-- THE RULE for a def -/
theorem fn_okD {P : Program} {w : World} {K : PySem.W.Frag} {mg : Str → Option Value} {base : Heap} {x qual : Str} {st : Stmt} {f : Addr} {fd : FuncData} {N ps : List Str} {k : Nat} {sp : SpD} {slots : List Nat} {tb : TSd}
    (F : Fun K x qual st f fd) (Sc : FnScope N ps (defScope st)) (shape : ∀ ss QD, sp ss QD → ss.length = ps.length ∧ mpos 0 ss = slots)
    (body : ∀ (cdv : Value) (A : Around) (outer : List PySem.Env) (s : Shared) (H : Hp) (E : XK), Room k (A.deeper (envOfC qual (defScope st) s.heap.objs.size f cdv)) → ∀ G : Gh, G.slots = slots →
      SDs (cxOf CX0 P w K mg base N qual (defScope st) f cdv A outer s H E).nox G (defBody st) tb)
    (read : ∀ ss QD, sp ss QD → tb { nx := fun E' => finO slots E' (QD .none), rt := fun d E' => finO slots E' (QD d) } (ss ++ List.replicate (N.length - ps.length) .un)) :
    FnOk P w K mg base CX0 (k + 1) f fd ps (spL K sp) := by
  refine F.ok Sc (fun vs H Q E h => ?_) (fun cdv A outer s H vs Q E hr h => ?_)
  · obtain ⟨ss, as, QD, h1, h2, _⟩ := h
    rw [← h2.length]; exact (shape ss QD h1).1
  · obtain ⟨ss, as, QD, h1, h2, nd, h4⟩ := h
    obtain ⟨hl, hm⟩ := shape ss QD h1
    have ml := h2.mlen 0
    have hG : (⟨H, (mpos 0 ss).zip as, fun _ => none, []⟩ : Gh).slots = slots := by show ((mpos 0 ss).zip as).map (·.1) = slots; rw [zip_fst ml, hm]
    have hA : (⟨H, (mpos 0 ss).zip as, fun _ => none, []⟩ : Gh).addrs = as := by show ((mpos 0 ss).zip as).map (·.2) ++ [] = as; rw [zip_snd ml, List.append_nil]
    refine ⟨_, (body cdv A outer s H E hr ⟨H, (mpos 0 ss).zip as, fun _ => none, []⟩ hG).pss, ?_⟩
    have hst : L2.start N vs = vs.map some ++ List.replicate (N.length - ps.length) none := by unfold L2.start; rw [← h2.length, hl]
    refine ⟨ss ++ List.replicate (N.length - ps.length) .un, { nx := fun E' => finO slots E' (QD .none), rt := fun d E' => finO slots E' (QD d) }, by rw [hst]; exact h2.start nd, read ss QD h1, fun E' σ' H' q x r => ?_, fun d E' v σ' H' q x r p => ?_, fun _ _ _ q => False.elim q, fun _ _ _ q => False.elim q⟩
    · obtain ⟨outs, q1, p1⟩ := finO_rel r (as := as) (by rw [← hm]; exact ml) (by rw [← hm]; exact fun p hp => hp) q
      exact h4 .none outs .non H' q1 (fun p o e ne => r.keep p o e (by rw [hA]; exact ne)) p1 .non
    · obtain ⟨outs, q1, p1⟩ := finO_rel r (as := as) (by rw [← hm]; exact ml) (by rw [← hm]; exact fun p hp => hp) q
      exact h4 d outs v H' q1 (fun p o e ne => r.keep p o e (by rw [hA]; exact ne)) p1 p
/-! ### a call of a def -/
def oixs : List Arg → List Nat
  | [] => []
  | .v _ :: as => oixs as
  | .o i :: as => i :: oixs as
def argS (E : Env) : List Arg → Option (List S)
  | [] => some []
  | .v x :: as => (argS E as).map (.d x :: ·)
  | .o i :: as => match E[i]? with
    | some (.ol xs) => (argS E as).map (.ol xs :: ·)
    | some (.dt xs) => (argS E as).map (.dt xs :: ·)
    | some (.dk xs) => (argS E as).map (.dk xs :: ·)
    | _ => none
def putO : List Arg → List S → Env → Env
  | .v _ :: as, outs, E => putO as outs E
  | .o i :: as, s :: outs, E => putO as outs (E.set i s)
  | _, _, E => E
def ndp : List Nat → Bool
  | [] => true
  | i :: is => !is.contains i && ndp is
def tCallD (sp : SpD) (ta : TAd) : TD := fun E Q => ta E fun as E1 => match argS E1 as with
  | some ss => ndp (oixs as) = true ∧ sp ss fun r outs => Q r (putO as outs E1)
  | none => False
section
variable {K : PySem.W.Frag} {G : Gh} {H H' : Hp} {E : Env} {σ : St}
abbrev MutAt (σ : St) (E : Env) : Nat → Addr → Prop := fun i a => σ[i]? = some (some (.ref a)) ∧ ∃ s : S, E[i]? = some s ∧ s.isMut = true
theorem RelA.args (r : RelE K G H E σ) : ∀ {as : List Arg} {ss : List S} {vs : List V}, RelA K H σ as vs → argS E as = some ss → ∃ addrs, AR K H ss vs addrs ∧ Paired (MutAt σ E) (oixs as) addrs
  | _, _, _, .nil, e => by cases e; exact ⟨[], .nil, .nil⟩
  | _, _, _, .v (as := as) p t, e => by
    unfold argS at e
    cases q : argS E as with
    | none => rw [q] at e; cases e
    | some ss' =>
      rw [q] at e; cases e
      obtain ⟨ad, a1, a2⟩ := RelA.args r t q
      exact ⟨ad, .d p a1, a2⟩
  | _, ss, _, .o (i := i) (v := v0) (as := as) (vs := vs0) hs t, e => by
    have key : ∀ s : S, E[i]? = some s → s.isMut = true → (argS E as).map (s :: ·) = some ss → ∃ addrs, AR K H ss (v0 :: vs0) addrs ∧ Paired (MutAt σ E) (oixs (.o i :: as)) addrs := fun s he hm e => by
      cases q : argS E as with
      | none => rw [q] at e; cases e
      | some ss' =>
        rw [q] at e; cases e
        obtain ⟨ad, a1, a2⟩ := RelA.args r t q
        obtain ⟨a, e1, e2⟩ := r.mutAt he hm
        rw [hs] at e1; cases e1
        exact ⟨a :: ad, .o hm e2 a1, .cons ⟨hs, s, he, hm⟩ a2⟩
    unfold argS at e
    split at e
    · rename_i xs he; exact key _ he rfl e
    · rename_i xs he; exact key _ he rfl e
    · rename_i xs he; exact key _ he rfl e
    · cases e
theorem Paired.mem2 {α β : Type} {F : α → β → Prop} : ∀ {xs : List α} {ys : List β} {y : β}, Paired F xs ys → y ∈ ys → ∃ x ∈ xs, F x y
  | _, _, _, .cons r t, h => by
    rcases List.mem_cons.mp h with rfl | z
    · exact ⟨_, List.mem_cons_self .., r⟩
    · obtain ⟨x, hx, f⟩ := Paired.mem2 t z; exact ⟨x, List.mem_cons_of_mem _ hx, f⟩
  | _, _, _, .nil, h => by cases h
theorem addrs_nodup (r : RelE K G H E σ) : ∀ {is : List Nat} {ad : List Addr}, ndp is = true → Paired (MutAt σ E) is ad → ad.Nodup
  | [], [], _, _ => List.nodup_nil
  | i :: is, a :: ad, h, .cons p t => by
    unfold ndp at h
    simp only [Bool.and_eq_true, Bool.not_eq_true'] at h
    refine List.nodup_cons.mpr ⟨fun z => ?_, addrs_nodup r h.2 t⟩
    obtain ⟨j, hj, e1, s2, e2, m2⟩ := Paired.mem2 t z
    obtain ⟨l, k, pn, dm, x0, A, h1, h2, h3⟩ := r
    obtain ⟨p1, s1, p2, m1⟩ := p
    obtain ⟨b, f1, f2, _⟩ := (h3 i _ p2).mut m1
    obtain ⟨c, g1, g2, _⟩ := (h3 j _ e2).mut m2
    rw [p1] at f2; cases f2
    rw [e1] at g2; cases g2
    have : i = j := h1 i j a (by rw [f1]; simp) (by rw [g1]; simp)
    subst this
    have := h.1
    simp at this
    exact this hj
/-- what is soft is no tuple, nothing frozen -/
theorem Ext.ofSoft {ad : List Addr} (keep : ∀ p o, H p = some o → p ∉ ad → H' p = some o) (soft : ∀ a ∈ ad, Soft H a) : Ext H H' :=
  ⟨fun a xs e => keep a _ e fun z => (by
      obtain ⟨u, f, g1, g2⟩ := soft a z
      rw [e] at f
      injection f with f
      exact g1 xs f.symm), fun a o v e => keep a _ e fun z => (by
      obtain ⟨u, f, g1, g2⟩ := soft a z
      rw [e] at f
      injection f with f
      exact g2 o v f.symm)⟩
/-- behind a call: the mutable arguments have changed -/
theorem RelX.puts : ∀ {as : List Arg} {outs : List S} {ad : List Addr} {E : Env}, ndp (oixs as) = true → RelE K G H E σ → (∀ p o, H p = some o → p ∉ ad → H' p = some o) → (∀ a ∈ ad, Soft H a) → Paired (RelM K H') outs ad →
    Paired (MutAt σ E) (oixs as) ad → RelE K G H' (putO as outs E) σ := by
  -- all at once: the environment with new contents
  intro as outs ad E nd r keep islst pr po
  have adn := addrs_nodup r nd po
  have ext : Ext H H' := Ext.ofSoft keep islst
  obtain ⟨l, k, pn, dm, x0, A, h1, h2, h3⟩ := r
  have own : ∀ a ∈ ad, a ∈ G.addrs ∨ G.H0 a = none := fun a ha => by
    obtain ⟨i, hi, e1, s, e2, m⟩ := Paired.mem2 po ha
    obtain ⟨b, f1, f2, _⟩ := (h3 i _ e2).mut m
    rw [e1] at f2; cases f2
    exact (h2 i a (by rw [f1]; simp)).1
  have there : ∀ (ad : List Addr) (outs : List S), Paired (RelM K H') outs ad → ∀ a ∈ ad, Soft H' a := by
    intro ad outs p
    induction p with
    | nil => intro a h; cases h
    | cons q t ih =>
      intro a h
      rcases List.mem_cons.mp h with rfl | z
      · exact q.soft
      · exact ih a z
  -- the slots that are not put keep their relation, those that are put have the new one
  have step : ∀ (as : List Arg) (outs : List S) (ad : List Addr) (E1 : Env), ndp (oixs as) = true → Paired (RelM K H') outs ad → Paired (MutAt σ E) (oixs as) ad →
      (∀ i, i ∉ oixs as → ∀ s, E1[i]? = some s → RelS K H' s σ[i]? (A i)) → E1.length = E.length →
      (∀ i s, (putO as outs E1)[i]? = some s → RelS K H' s σ[i]? (A i)) ∧ (putO as outs E1).length = E.length := by
    intro as
    induction as with
    | nil =>
      intro outs ad E1 _ _ _ h hl
      have e : DL.putO [] outs E1 = E1 := by cases outs <;> rfl
      rw [e]; exact ⟨fun i s q => h i (by simp [oixs]) s q, hl⟩
    | cons x as ih =>
      intro outs ad E1 nd p q h hl
      cases x with
      | v x =>
        have e : DL.putO (.v x :: as) outs E1 = DL.putO as outs E1 := by cases outs <;> rfl
        rw [e]
        exact ih outs ad E1 nd p q h hl
      | o i =>
        cases q with
        | cons q1 q2 =>
          rename_i a0 ad0
          cases p with
          | cons p1 p2 =>
            rename_i s0 outs0
            have nd' : ndp (i :: oixs as) = true := nd
            unfold ndp at nd'
            simp only [Bool.and_eq_true, Bool.not_eq_true'] at nd'
            have e : DL.putO (.o i :: as) (s0 :: outs0) E1 = DL.putO as outs0 (E1.set i s0) := rfl
            rw [e]
            refine ih outs0 ad0 (E1.set i s0) nd'.2 p2 q2 (fun j hj s e => ?_) (by rw [List.length_set]; exact hl)
            by_cases z : j = i
            · subst z
              by_cases hlj : j < E1.length
              · rw [List.getElem?_set_self hlj] at e
                cases e
                obtain ⟨q3, ys, q4, q5⟩ := q1
                obtain ⟨b, f1, f2, _⟩ := (h3 j _ q4).mut q5
                rw [q3] at f2; cases f2
                rw [f1]
                exact RelS.ofMut p1.isMut q3 p1
              · rw [List.getElem?_eq_none (by simpa using hlj)] at e; cases e
            · rw [List.getElem?_set_ne (Ne.symm z)] at e
              exact h j (by simp [oixs, z, hj]) s e
  have base : ∀ i, i ∉ oixs as → ∀ s, E[i]? = some s → RelS K H' s σ[i]? (A i) := fun i hi s e => by
    have hs := h3 i s e
    refine hs.move ext fun a ha => ?_
    have : a ∉ ad := fun z => by
      obtain ⟨j, hj, e1, s2, e2, m2⟩ := Paired.mem2 po z
      obtain ⟨b, f1, f2, _⟩ := (h3 j _ e2).mut m2
      rw [e1] at f2; cases f2
      have : i = j := h1 i j a ha (by rw [f1]; simp)
      subst this; exact hi hj
    obtain ⟨u, hu, _⟩ := hs.indom a ha
    rw [hu]; exact keep a u hu this
  obtain ⟨s1, s2⟩ := step as outs ad E nd pr po base rfl
  refine ⟨by rw [s2]; exact l, fun p o e ne => ?_, pn, fun a ha => ?_, x0.trans ext, A, h1, h2, s1⟩
  · refine keep p o (k p o e ne) fun z => ?_
    rcases own p z with q | q
    · exact ne q
    · rw [q] at e; cases e
  · by_cases z : a ∈ ad
    · obtain ⟨u, e, _⟩ := there ad outs pr a z; rw [e]; simp
    · cases q : H a with
      | none => exact absurd q (dm a ha)
      | some o => rw [keep a o q z]; simp
theorem Paired.keys {α β : Type} {F : α → β → Prop} : ∀ {xs : List α} {ys : List β}, Paired F xs ys → ∀ y ∈ ys, ∃ x, F x y
  | _, _, .cons r t, y, h => by
    rcases List.mem_cons.mp h with rfl | z
    · exact ⟨_, r⟩
    · exact Paired.keys t y z
  | _, _, .nil, _, h => by cases h
end
section
variable {X : Cx} {G : Gh} {e : Expr} {es : List Expr} {pos p : Pos} {x : Str} {f : Addr} {fd : FuncData} {ps : List Str} {k : Nat} {sp : SpD} {ta : TAd} {CX : CXT}
theorem lift_call (σ : St) (H : Hp) (Q : VK) (E : XK) (h : liftE X.K G (tCallD sp ta) σ H Q) : tCall (spL X.K sp) [] E (liftA X.K G ta) σ H Q := by
  obtain ⟨E0, QE, r, q, kk⟩ := h
  refine ⟨E0, _, r, q, fun as E1 vs H1 q1 x1 r1 p1 => ?_⟩
  show spL X.K sp (vs ++ []) H1 Q E
  rw [List.append_nil]
  split at q1
  · rename_i ss hs
    obtain ⟨nd, q1⟩ := q1
    obtain ⟨ad, ar, po⟩ := RelA.args r1 p1 hs
    have adn := addrs_nodup r1 nd po
    refine ⟨ss, ad, _, q1, ar, adn, fun d outs v H' q2 keep pr pd => ?_⟩
    have islst : ∀ a ∈ ad, Soft H1 a := fun a ha => by
      obtain ⟨i, hi, e1, s, e2, m⟩ := Paired.mem2 po ha
      obtain ⟨b, f1, f2⟩ := r1.mutAt e2 m
      rw [e1] at f1; cases f1; exact f2.soft
    have ext : Ext H1 H' := Ext.ofSoft keep islst
    exact kk d _ v H' q2 (x1.trans ext) (RelX.puts nd r1 keep islst pr po) pd
  · exact q1.elim
theorem ed_call (F : FnOk X.prog X.w X.K X.mg X.base CX0 k f fd ps (spL X.K sp)) (hr : Room k X.A) (hg : Gl X x) (hm : X.mg x = some (.ref f)) (hk : PySem.W.keepIn X.K (.ref f) = true) (hb : Binds X.K fd ps []) (ha : EA X G (e :: es) ta) (hdb : (x == ("__debug__" : Str)) = false := by decide)
    (hs : starEach (e :: es) X.env = (false, eval e X.env) :: starEach es X.env := by rfl) (hplain : (backTo pos (starEach es X.env)).any (·.1) = false := by rfl) : ED X G (.Call (.Name x p) (e :: es) [] pos) (tCallD sp ta) :=
  ⟨PE.weak (pe_call (dvs := []) (E := fun _ _ _ => False) F hr hg hm hk hb .nil pass0 ha.pa (hdb := hdb) (he := hs) (hpl := hplain)) fun σ H Q h => lift_call σ H Q _ h⟩
end
end DL
set_option Elab.async false
set_option linter.all false
set_option maxRecDepth 100000
namespace DL
open PySem PySem.Spec PyProof.Rows L2
/-! ### lists of one's own change -/
section
variable {X : Cx} {G : Gh} {a b c e : Expr} {es : List Expr} {pos apos cpos p0 : Pos} {x : Str}
def tApp (i : Nat) (t : TD) : TD := fun E Q => match E[i]? with
  | some (.ol _) => t E fun d E1 => match E1[i]? with
    | some (.ol xs) => xs.length < sizeLine ∧ Q .none (E1.set i (.ol (xs ++ [d])))
    | _ => False
  | _ => False
theorem ed_app (i : Nat) {t : TD} (h : ED X G e t) (hN : X.N[i]? = some x := by rfl) (hv : Vis X.env.scope x := by first | exact Or.inl rfl | exact Or.inr (Or.inl rfl) | exact Or.inr (Or.inr rfl)) (hd : (x == ("__debug__" : Str)) = false := by decide)
    (hcd : (x == ("__classdict__" : Str)) = false := by decide)
    (hbase : attributeBase (.Name x p0) "append" X.env (eval (.Name x p0) X.env) = eval (.Name x p0) X.env := by rfl)
    (hfew : ((backTo cpos (starEach [e] X.env)).all (fun x => !x.1) && (backToKw cpos (keywordEach [] X.env)).all (fun x => x.1.isSome)
      && decide (([e] : List Expr).length + ([] : List Keyword).length + (if ([] : List Keyword).isEmpty then 0 else 1) < 30)) = true := by rfl)
    (hline : (apos.endLine == cpos.line) = true := by rfl) (hs : starEach [e] X.env = (false, eval e X.env) :: starEach [] X.env := by rfl) (hplain : (backTo cpos (starEach [] X.env)).any (·.1) = false := by rfl) :
    ED X G (.Call (.Attribute (.Name x p0) "append" apos) [e] [] cpos) (tApp i t) :=
  ⟨PE.weak (pe_bm PySem.F.plainAttrs_list PySem.F.slot_list_append PySem.F.type_list_append mt_append (pe_var hN hv hd hcd) (pa_cons h.pe pa_nil hs) hbase hfew hline hs hplain) fun σ H Q ⟨E, QE, r, q, k⟩ => by
    unfold tApp at q
    split at q
    · rename_i xs0 he0
      obtain ⟨l, vs0, e1, e2, e3⟩ := r.ol he0
      refine ⟨_, e1, .inl ⟨rfl, _, SqL.of e2⟩, E, _, r, q, fun d E1 v H1 q1 x1 r1 p1 => ?_⟩
      split at q1
      · rename_i xs he
        obtain ⟨l', vs, f1, f2, f3⟩ := r1.ol he
        rw [e1] at f1; cases f1
        refine ⟨l, vs, v, rfl, rfl, f2, by rw [← f3.length]; exact q1.1, ?_⟩
        exact k _ _ _ _ q1.2 (x1.trans (Ext.put f2)) (r1.putL he e1 (RpL.append f3 (.cons p1 .nil))) .non
      · exact q1.elim
    · exact q.elim⟩
def tExtd (i : Nat) (t : TLd) : TD := fun E Q => match E[i]? with
  | some (.ol _) => t E fun ys E1 => match E1[i]? with
    | some (.ol xs) => xs.length + ys.length ≤ sizeLine ∧ Q .none (E1.set i (.ol (xs ++ ys)))
    | _ => False
  | _ => False
theorem ed_extd (i : Nat) {t : TLd} (h : EL X G e t) (hN : X.N[i]? = some x := by rfl) (hv : Vis X.env.scope x := by first | exact Or.inl rfl | exact Or.inr (Or.inl rfl) | exact Or.inr (Or.inr rfl)) (hd : (x == ("__debug__" : Str)) = false := by decide)
    (hcd : (x == ("__classdict__" : Str)) = false := by decide)
    (hbase : attributeBase (.Name x p0) "extend" X.env (eval (.Name x p0) X.env) = eval (.Name x p0) X.env := by rfl)
    (hfew : ((backTo cpos (starEach [e] X.env)).all (fun x => !x.1) && (backToKw cpos (keywordEach [] X.env)).all (fun x => x.1.isSome)
      && decide (([e] : List Expr).length + ([] : List Keyword).length + (if ([] : List Keyword).isEmpty then 0 else 1) < 30)) = true := by rfl)
    (hline : (apos.endLine == cpos.line) = true := by rfl) (hs : starEach [e] X.env = (false, eval e X.env) :: starEach [] X.env := by rfl) (hplain : (backTo cpos (starEach [] X.env)).any (·.1) = false := by rfl) :
    ED X G (.Call (.Attribute (.Name x p0) "extend" apos) [e] [] cpos) (tExtd i t) :=
  ⟨PE.weak (pe_bm PySem.F.plainAttrs_list PySem.F.slot_list_extend PySem.F.type_list_extend mt_extend (pe_var hN hv hd hcd) (pa_cons h.pe pa_nil hs) hbase hfew hline hs hplain) fun σ H Q ⟨E, QE, r, q, k⟩ => by
    unfold tExtd at q
    split at q
    · rename_i xs0 he0
      obtain ⟨l, vs0, e1, e2, e3⟩ := r.ol he0
      refine ⟨_, e1, .inl ⟨rfl, _, SqL.of e2⟩, E, _, r, q, fun ys E1 b us H1 q1 x1 r1 h0 na hb p1 => ?_⟩
      split at q1
      · rename_i xs he
        obtain ⟨l', vs, f1, f2, f3⟩ := r1.ol he
        rw [e1] at f1; cases f1
        refine ⟨l, b, vs, us, rfl, rfl, f2, hb, by rw [← f3.length, ← p1.length]; exact q1.1, ?_⟩
        exact k _ _ _ _ q1.2 (x1.trans (Ext.put f2)) (r1.weak.putL he e1 (RpL.append f3 p1)) .non
      · exact q1.elim
    · exact q.elim⟩
def tPopAt (i : Nat) (t : TD) : TD := fun E Q => match E[i]? with
  | some (.ol _) => t E fun d E1 => match d, E1[i]? with
    | .int k, some (.ol xs) => (0 ≤ k ∧ k < xs.length ∧ k < 2 ^ 63) ∧ ∀ y, xs[k.toNat]? = some y → Q y (E1.set i (.ol (xs.eraseIdx k.toNat)))
    | _, _ => False
  | _ => False
/-- an item is put -/
def putD (xs : List D) (k : Int) (d : D) (Q : List D → Prop) : Prop := match ixN xs.length k with
  | some n => Q (xs.set n d)
  | none => False
/-- xs[k] = e -/
def sSetIx (i : Nat) (tk te : TD) : TSd := fun DE E => te E fun d E1 => match E1[i]? with
  | some (.ol _) => tk E1 fun j E2 => match j, E2[i]? with
    | .int k, some (.ol xs) => putD xs k d fun ys => DE.nx (E2.set i (.ol ys))
    | _, _ => False
  | _ => False
theorem sd_setIx (i : Nat) {ix : Expr} {tk te : TD} (hk : ED X G ix tk) (he : ED X G e te) (hN : X.N[i]? = some x := by rfl) (hv : Vis X.env.scope x := by first | exact Or.inl rfl | exact Or.inr (Or.inl rfl) | exact Or.inr (Or.inr rfl)) (hd : (x == ("__debug__" : Str)) = false := by decide)
    (hcd : (x == ("__classdict__" : Str)) = false := by decide)
    (ha : ∀ v, assign (.Subscript (.Name x p0) ix apos) X.env v = (do
      let ov ← holding [v] (eval (.Name x p0) X.env)
      let iv ← holding [v, ov] (eval ix X.env)
      standAt apos
      holding [v, ov, iv] (setItem ov iv v)
      release [v, ov, iv] []) := by intro _; rfl)
    (hs : swapsWithSole [.Subscript (.Name x p0) ix apos] e pos.line X.env = pure false := by rfl) (hw : swappedStores [.Subscript (.Name x p0) ix apos] e X.env = pure none := by rfl)
    (hb : (assignEach [.Subscript (.Name x p0) ix apos] X.env).map (·.2) = [assign (.Subscript (.Name x p0) ix apos) X.env] := by rfl) :
    SD X G (.Assign [.Subscript (.Name x p0) ix apos] e pos) (sSetIx i tk te) :=
  ⟨PS.weak (ps_asg he.pe (pg_sub (pe_var hN hv hd hcd) hk.pe set_list ha) hs hw hb) fun F σ H ⟨E, DE, r, q, k1, k2, k3, k4⟩ => ⟨E, _, r, q, fun d E1 v H1 q1 x1 r1 p1 => by
    split at q1
    · rename_i xs0 he0
      obtain ⟨l, vs0, e1, e2, e3⟩ := r1.ol he0
      refine ⟨_, e1, E1, _, r1, q1, fun j E2 u H2 q2 x2 r2 p2 => ?_⟩
      split at q2
      · rename_i d0 o0 k xs he
        cases p2
        unfold putD at q2
        split at q2
        · rename_i n hn
          obtain ⟨l', vs, f1, f2, f3⟩ := r2.ol he
          rw [e1] at f1; cases f1
          refine ⟨l, vs, k, n, rfl, rfl, f2, by rw [← f3.length]; exact hn, ?_⟩
          exact k1 _ _ _ q2 ((x1.trans x2).trans (Ext.put f2)) (r2.putL he e1 (RpL.set (p1.ext x2) n f3))
        · exact q2.elim
      · exact q2.elim
    · exact q1.elim⟩⟩
/-! ### several at once -/
abbrev TPs := Env → (List S → Env → Prop) → Prop
/-- new lists at ex, data -/
inductive PVs (K : PySem.W.Frag) (G : Gh) (H : Hp) : List S → List V → List Addr → Prop
  | nil : PVs K G H [] [] []
  | d {x : D} {v : V} {ss : List S} {vs : List V} {ex : List Addr} : Rp K H x v → PVs K G H ss vs ex → PVs K G H (.d x :: ss) (v :: vs) ex
  | m {s : S} {a : Addr} {ss : List S} {vs : List V} {ex : List Addr} : RelM K H s a → G.H0 a = none → a ∉ G.addrs → a ∉ ex → PVs K G H ss vs ex → PVs K G H (s :: ss) (.ref a :: vs) (a :: ex)
theorem PVs.length {K : PySem.W.Frag} {G : Gh} {H : Hp} : ∀ {ss : List S} {vs : List V} {ex : List Addr}, PVs K G H ss vs ex → ss.length = vs.length
  | _, _, _, .nil => rfl
  | _, _, _, .d _ r => by rw [List.length_cons, List.length_cons, PVs.length r]
  | _, _, _, .m _ _ _ _ r => by rw [List.length_cons, List.length_cons, PVs.length r]
theorem PVs.pext {K : PySem.W.Frag} {G : Gh} {H H' : Hp} (p : PExt H H') : ∀ {ss : List S} {vs : List V} {ex : List Addr}, PVs K G H ss vs ex → PVs K G H' ss vs ex
  | _, _, _, .nil => .nil
  | _, _, _, .d h r => .d (h.ext p.ext) (PVs.pext p r)
  | _, _, _, .m h1 h3 h4 h5 r => .m (h1.move p.ext (by obtain ⟨u, e, _⟩ := h1.soft; rw [e, p _ _ e])) h3 h4 h5 (PVs.pext p r)
def liftPs (K : PySem.W.Frag) (G : Gh) (t : TPs) : TA := fun σ H Q => ∃ (E : Env) (QE : List S → Env → Prop), RelE K G H E σ ∧ t E QE ∧ ∀ ss E' vs H' ex, QE ss E' → Ext H H' → RelX K G ex H' E' σ → PVs K G H' ss vs ex → Q vs H'
structure EPs (X : Cx) (G : Gh) (es : List Expr) (t : TPs) : Prop where
  pa : PA X es (liftPs X.K G t)
def pNil : TPs := fun E Q => Q [] E
def pD (t : TD) (u : TPs) : TPs := fun E Q => t E fun x E1 => u E1 fun ss E2 => Q (.d x :: ss) E2
def pL (t : TLd) (u : TPs) : TPs := fun E Q => t E fun xs E1 => u E1 fun ss E2 => Q (.ol xs :: ss) E2
theorem eps_nil : EPs X G [] pNil := ⟨PA.weak pa_nil fun σ H Q ⟨E, QE, r, q, k⟩ => k _ _ _ _ _ q (Ext.refl _) r .nil⟩
theorem eps_d {t : TD} {u : TPs} (h : ED X G e t) (hr : EPs X G es u) (hs : starEach (e :: es) X.env = (false, eval e X.env) :: starEach es X.env := by rfl) : EPs X G (e :: es) (pD t u) :=
  ⟨PA.weak (pa_cons h.pe hr.pa hs) fun σ H Q ⟨E, QE, r, q, k⟩ => ⟨E, _, r, q, fun x E1 v H1 q1 x1 r1 p1 => ⟨E1, _, r1, q1, fun ss E2 vs H2 ex q2 x2 r2 p2 => k _ _ _ _ _ q2 (x1.trans x2) r2 (.d (p1.ext x2) p2)⟩⟩⟩
def setAll : Env → List Nat → List S → Env
  | E, i :: is, s :: ss => setAll (E.set i s) is ss
  | E, _, _ => E
def setAllV : St → List Nat → List V → St
  | σ, i :: is, v :: vs => setAllV (σ.set i (some v)) is vs
  | σ, _, _ => σ
theorem RelX.setAll {K : PySem.W.Frag} {G : Gh} {H : Hp} : ∀ {is : List Nat} {ss : List S} {vs : List V} {ex : List Addr} {E : Env} {σ : St}, (∀ i ∈ is, i ∉ G.slots) → is.length = ss.length → RelX K G ex H E σ → PVs K G H ss vs ex → RelE K G H (setAll E is ss) (setAllV σ is vs)
  | [], [], [], _, E, σ, _, _, r, .nil => r
  | i :: is, _, _, _, E, σ, hi, hl, r, .d p t => by
    exact RelX.setAll (is := is) (fun j hj => hi j (List.mem_cons_of_mem _ hj)) (by simpa using hl) (r.setD (hi i (List.mem_cons_self ..)) p) t
  | i :: is, _, _, _, E, σ, hi, hl, r, .m h1 h3 h4 h5 t => by
    exact RelX.setAll (is := is) (fun j hj => hi j (List.mem_cons_of_mem _ hj)) (by simpa using hl) (r.setM h5 (hi i (List.mem_cons_self ..)) h3 h1) t
  | [], _, _, _, _, _, _, hl, _, .d _ _ => by simp at hl
  | [], _, _, _, _, _, _, hl, _, .m _ _ _ _ _ => by simp at hl
  | _ :: _, _, _, _, _, _, _, hl, _, .nil => by simp at hl
def sPar (is : List Nat) (t : TPs) : TSd := fun DE E => t E fun ss E1 => is.length = ss.length ∧ DE.nx (setAll E1 is ss)
/-- x, y = a, b: plain local names -/
theorem sd_par2 {i j : Nat} {x y : Str} {t : TPs} {px py pt : Pos} {kt k2 pt2} (hsl : ∀ n ∈ [i, j], n ∉ G.slots) (hc : X.calm = true) (hN : X.N.Nodup) (hi : X.N[i]? = some x) (hj : X.N[j]? = some y) (hij : i ≠ j)
    (hx : X.env.scope.names.lookup x = some .local) (hy : X.env.scope.names.lookup y = some .local) (ha : EPs X G [a, b] t)
    (hw : swappedStores [.Tuple [.Name x px, .Name y py] kt pt] (.Tuple [a, b] k2 pt2) X.env = pure (some [x, y]) := by rfl)
    (hs : swapsWithSole [.Tuple [.Name x px, .Name y py] kt pt] (.Tuple [a, b] k2 pt2) pos.line X.env = pure false := by rfl) :
    SD X G (.Assign [.Tuple [.Name x px, .Name y py] kt pt] (.Tuple [a, b] k2 pt2) pos) (sPar [i, j] t) :=
  ⟨PS.weak (ps_par hc hN hi hj hij hx hy ha.pa hw hs) fun F σ H ⟨E, DE, r, q, k1, k2, k3, k4⟩ => ⟨E, _, r, q, fun ss E1 vs H1 ex q1 x1 r1 p1 => by
    obtain ⟨hl, q1⟩ := q1
    have hv : vs.length = 2 := by rw [← p1.length, ← hl]; rfl
    match vs, hv, p1 with
    | [v, w], _, p1 => exact ⟨v, w, rfl, k1 _ _ _ q1 x1 (RelX.setAll hsl hl r1 p1)⟩⟩⟩
/-- the targets of names, any; the pair is made -/
theorem sd_parC {tgs : List Expr} {is : List Nat} {t : TPs} {kt k2 : Nat} {pt pt2 : Pos} {n : Nat} (hsl : ∀ i ∈ is, i ∉ G.slots) (hc : X.calm = true) (hz : is.length ≤ sizeLine) (ha : EPs X G es t) (hn : is.length = n)
    (hg : PGs X tgs (fun vs σ H Q => vs.length = n ∧ Q (setAllV σ is vs) H))
    (hn2 : (assignEach tgs X.env).length = n := by rfl) (hst : (assignEach tgs X.env).findIdx? (·.1) = none := by rfl)
    (hs : swapsWithSole [.Tuple tgs kt pt] (.Tuple es k2 pt2) pos.line X.env = pure false := by rfl) (hw : swappedStores [.Tuple tgs kt pt] (.Tuple es k2 pt2) X.env = pure none := by rfl)
    (hb : (assignEach [.Tuple tgs kt pt] X.env).map (·.2) = [assign (.Tuple tgs kt pt) X.env] := by rfl) :
    SD X G (.Assign [.Tuple tgs kt pt] (.Tuple es k2 pt2) pos) (sPar is t) :=
  ⟨PS.weak (ps_asg (pe_tup ha.pa) (pg_tup hc hg hn2 hst) hs hw hb) fun F σ H ⟨E, DE, r, q, k1, k2, k3, k4⟩ => ⟨E, _, r, q, fun ss E1 vs H1 ex q1 x1 r1 p1 => by
    obtain ⟨hl, q1⟩ := q1
    have hv : vs.length = n := by rw [← p1.length, ← hl, hn]
    refine ⟨by rw [hv, ← hn]; exact hz, fun p hp => ⟨p, vs, rfl, SqT.of upd_same, hv, hv, ?_⟩⟩
    have px := PExt.new (o := .tup vs) hp
    exact k1 _ _ _ q1 (x1.trans px.ext) (RelX.setAll hsl hl (r1.pext px) (p1.pext px))⟩⟩
theorem pgs_n0 : PGs X [] (fun vs σ H Q => vs.length = 0 ∧ Q (setAllV σ [] vs) H) := ⟨fun pins s σ H vs us Q I r h => pgs_nil.run pins s σ H vs us Q I r (by
  obtain ⟨h1, h2⟩ := h
  have : vs = [] := List.length_eq_zero_iff.mp h1
  subst this; exact ⟨rfl, h2⟩)⟩
theorem pgs_nS {i n : Nat} {is : List Nat} {tgs : List Expr} {x : Str} {px : Pos} (hN : X.N.Nodup) (hx : X.N[i]? = some x) (hl : Loc X.env.scope x) (h : PGs X tgs (fun vs σ H Q => vs.length = n ∧ Q (setAllV σ is vs) H))
    (hf : X.fn x = true ∨ X.env.scope.names.lookup x = some .local := by first | exact .inl rfl | exact .inr rfl | assumption)
    (hs : (assignEach (.Name x px :: tgs) X.env).map (·.2) = assign (.Name x px) X.env :: (assignEach tgs X.env).map (·.2) := by rfl) :
    PGs X (.Name x px :: tgs) (fun vs σ H Q => vs.length = n + 1 ∧ Q (setAllV σ (i :: is) vs) H) := ⟨fun pins s σ H vs us Q I r h' => (pgs_cons (pg_name hN hx hl hf) h hs).run pins s σ H vs us Q I r (by
  obtain ⟨h1, h2⟩ := h'
  match vs, h1, h2 with
  | v :: vs, h1, h2 => exact ⟨v, vs, rfl, by simpa using h1, h2⟩)⟩
end
end DL
set_option Elab.async false
set_option linter.all false
set_option maxRecDepth 100000
set_option maxHeartbeats 1000000
namespace DL
open PySem PySem.Spec PyProof.Rows L2
section
variable {X : Cx}
/-! ### arithmetic -/
/-- () + t is t -/
theorem op_catT0 : OpR X (binaryOp .Add) (fun x y H Q => ∃ a b ys, x = .ref a ∧ y = .ref b ∧ SqT X.K H a [] ∧ SqT X.K H b ys ∧ Q (.ref b) H) := by
  intro pins s σ H x y v u Q I rx ry h
  obtain ⟨a, b, ys, rfl, rfl, ha, hb, q⟩ := h
  cases rx
  cases ry
  obtain ⟨its, r1, p1, _⟩ := I.tuple ha
  obtain ⟨its2, r2, p2, _⟩ := I.tuple hb
  have e0 : its = [] := r1.nil_iff.mpr rfl
  subst e0
  obtain ⟨⟨cls, dd, data, sl⟩, ho, hc, n, hd⟩ := id p1
  obtain ⟨⟨cls2, dd2, data2, sl2⟩, ho2, hc2, n2, hd2⟩ := id p2
  simp only at hc hd hc2 hd2
  subst hc hd hc2 hd2
  exact concat_meets ⟨_, ho, rfl⟩ ⟨_, ho2, rfl⟩ noFill_tuple_add seq_tuple_add PySem.F.slot_tuple_add PySem.F.entry_tuple_add (PySem.F.args_tuple_add_2 _ _)
      (tuple_addW0 a b [].toArray its2.toArray n n2 dd dd2 sl sl2 rfl) ⟨ho, ho2, ⟨.ref b, H, I, rfl, q⟩⟩
/-- t + u, both with items: a new, plain tuple -/
theorem op_catF : OpR X (binaryOp .Add) (fun x y H Q => ∃ a b xs ys, x = .ref a ∧ y = .ref b ∧ SqT X.K H a xs ∧ SqT X.K H b ys ∧ xs ≠ [] ∧ xs.length + ys.length ≤ sizeLine ∧ (ys = [] → Q (.ref a) H) ∧ (ys ≠ [] → ∀ p o, H p = none → o.dict = none → Q (.ref p) (upd H p (.frz o (.tup (xs ++ ys)))))) := by
  intro pins s σ H x y v u Q I rx ry h
  obtain ⟨a, b, xs, ys, rfl, rfl, ha, hb, hx, hz, q1, q2⟩ := h
  cases rx; cases ry
  obtain ⟨its, r1, p1, _⟩ := I.tuple ha
  obtain ⟨its2, r2, p2, _⟩ := I.tuple hb
  refine HT.cat_tup p1 p2 (fun z => hx (r1.nil_iff.mp z)) (fun z => ⟨.ref a, H, I, rfl, q1 (r2.nil_iff.mp z)⟩) (fun z => ?_) (by rw [← r1.length, ← r2.length]; exact hz)
  refine ⟨.ref s.heap.objs.size, _, I.laid (t' := s.toks) (o := .frz _ (.tup (xs ++ ys))) (fun b ob q => Heap.get?_push_of_some _ q) (Nat.le_refl _) ⟨Heap.get?_push_size _ rfl, ?_⟩, rfl, q2 (fun w => z (r2.nil_iff.mpr w)) _ _ (I.hok.fresh (Nat.le_refl _)) rfl⟩
  exact ⟨by rw [List.length_append]; exact hz, _, r1.append r2, IsTup.new _ _⟩
/-- tuple(xs) of a list: a new, plain tuple -/
theorem call_tupF : CallR X (.type "tuple") (fun xs H Q => ∃ p ys, xs = [.ref p] ∧ ((SqL X.K H p ys ∧ ∀ l o, H l = none → o.dict = none → Q (.ref l) (upd H l (.frz o (.tup ys)))) ∨ (SqT X.K H p ys ∧ Q (.ref p) H))) := by
  intro pins s σ H xs us Q I r h
  obtain ⟨p, ys, rfl, h⟩ := h
  obtain rfl := Vals.ref1 r
  rcases h with ⟨hq, q⟩ | ⟨hq, q⟩
  · obtain ⟨its, r', pl, hz⟩ := I.list hq
    have hlen := r'.length
    refine call_tuple_list pl.isList (fun h' kp => ?_) (by simp only [List.size_toArray] <;> omega)
    have I1 : Inv X pins σ H { s with heap := h' } := I.kept (t' := s.toks) kp
    exact ⟨.ref h'.objs.size, upd H h'.objs.size (.frz { cls := .type "tuple", data := .seq its.toArray } (.tup ys)), I1.laid (t' := s.toks) (fun b o e => Heap.get?_push_of_some _ e) (Nat.le_refl _) ⟨Heap.get?_push_size _ rfl, hz, its, r', IsTup.new _ _⟩, rfl, q _ _ (I1.hok.fresh (Nat.le_refl _)) rfl⟩
  · obtain ⟨its, r', pl, hz⟩ := I.tuple hq
    exact call_tuple_same pl ⟨.ref p, H, I, rfl, q⟩
def opAdd : OpT := fun x y Q => match x, y with
  | .int i, .int j => Q (.int (i + j))
  | .str a, .str b => a.length + b.length ≤ sizeLine ∧ Q (.str (a ++ b))
  | .tuple xs, .tuple ys => xs.length + ys.length ≤ sizeLine ∧ Q (.tuple (xs ++ ys))
  | _, _ => False
theorem od_add : OpD X (binaryOp .Add) opAdd := by
  refine ⟨_, op_add.or (op_add_str.or (op_catF.or op_catT0)), fun x y v u H QD Q hx hy q k => ?_⟩
  cases x with
  | int i =>
    cases y with
    | int j => rw [hx.int, hy.int]; exact .inl ⟨i, j, rfl, rfl, k _ _ _ q (PExt.refl _) (.int _)⟩
    | _ => exact q.elim
  | str i =>
    cases y with
    | str j => rw [hx.str, hy.str]; exact .inr (.inl ⟨i, j, rfl, rfl, q.1, k _ _ _ q.2 (PExt.refl _) (.str _)⟩)
    | _ => exact q.elim
  | tuple xs =>
    cases y with
    | tuple ys =>
      obtain ⟨a, vs, rfl, sa, la⟩ := hx.tupD
      obtain ⟨b, us, rfl, sb, lb⟩ := hy.tupD
      cases la with
      | nil => exact .inr (.inr (.inr ⟨a, b, us, rfl, rfl, sa.1, sb.1, k _ _ _ q.2 (PExt.refl _) (.tup sb lb)⟩))
      | cons p la =>
        rename_i x0 v0 xs0 vs0
        refine .inr (.inr (.inl ⟨a, b, _, us, rfl, rfl, sa.1, sb.1, List.cons_ne_nil _ _, ?_, fun e => ?_, fun _ p0 o hp ho => ?_⟩))
        · have := q.1
          rw [List.length_cons] at this ⊢
          rw [← la.length, ← lb.length]; exact this
        · subst e
          cases lb
          have := q.2
          rw [List.append_nil] at this
          exact k _ _ _ this (PExt.refl _) (.tup sa (.cons p la))
        · have px := PExt.new (o := .frz o (.tup (v0 :: vs0 ++ us))) hp
          exact k _ _ _ q.2 px (.tup (.new ho) ((RpL.append (.cons p la) lb).ext px.ext))
    | _ => exact q.elim
  | _ => exact q.elim
def opI (C : Int → Int → Prop) (g : Int → Int → Int) : OpT := fun x y Q => match x, y with
  | .int i, .int j => C i j ∧ Q (.int (g i j))
  | _, _ => False
def opI0 (g : Int → Int → Int) : OpT := fun x y Q => match x, y with
  | .int i, .int j => Q (.int (g i j))
  | _, _ => False
def opB0 (g : Int → Int → Bool) : OpT := fun x y Q => match x, y with
  | .int i, .int j => Q (.bool (g i j))
  | _, _ => False
theorem od_I {f : Value → Value → Sem Value} {C : Int → Int → Prop} {g : Int → Int → Int} (h : OpR X f (rI C fun i j => .int (g i j))) : OpD X f (opI C g) := ⟨_, h, fun x y v u H QD Q hx hy q k => by
  cases x with
  | int i =>
    cases y with
    | int j => rw [hx.int, hy.int]; exact ⟨i, j, rfl, rfl, q.1, k _ _ _ q.2 (PExt.refl _) (.int _)⟩
    | _ => exact q.elim
  | _ => exact q.elim⟩
theorem od_I0 {f : Value → Value → Sem Value} {g : Int → Int → Int} (h : OpR X f (rI0 fun i j => .int (g i j))) : OpD X f (opI0 g) := ⟨_, h, fun x y v u H QD Q hx hy q k => by
  cases x with
  | int i =>
    cases y with
    | int j => rw [hx.int, hy.int]; exact ⟨i, j, rfl, rfl, k _ _ _ q (PExt.refl _) (.int _)⟩
    | _ => exact q.elim
  | _ => exact q.elim⟩
theorem od_B0 {f : Value → Value → Sem Value} {g : Int → Int → Bool} (h : OpR X f (rI0 fun i j => .bl (g i j))) : OpD X f (opB0 g) := ⟨_, h, fun x y v u H QD Q hx hy q k => by
  cases x with
  | int i =>
    cases y with
    | int j => rw [hx.int, hy.int]; exact ⟨i, j, rfl, rfl, k _ _ _ q (PExt.refl _) (.bl _)⟩
    | _ => exact q.elim
  | _ => exact q.elim⟩
def opSub : OpT := opI0 fun i j => i - j
theorem od_sub : OpD X (binaryOp .Sub) opSub := od_I0 op_sub
def opMul : OpT := opI CMulW fun i j => i * j
theorem od_mul : OpD X (binaryOp .Mult) opMul := od_I op_mulW
def opDiv : OpT := opI CDivW fun i j => i / j
theorem od_div : OpD X (binaryOp .FloorDiv) opDiv := od_I op_fdivW
def opMod : OpT := opI (fun _ j => 0 < j) fun i j => i % j
theorem od_mod : OpD X (binaryOp .Mod) opMod := od_I op_mod
def opPow : OpT := opI CPow fun i j => i ^ j.toNat
def unNeg : UnT := fun x Q => match x with
  | .int i => Q (.int (-i))
  | _ => False
theorem ud_neg : UnD X (unaryOp .USub) unNeg := ⟨_, un_neg, fun x v H QD Q hx q k => by
  cases x with
  | int i => rw [hx.int]; exact ⟨i, rfl, k _ _ _ q (PExt.refl _) (.int _)⟩
  | _ => exact q.elim⟩
/-! ### comparisons -/
def opEq : OpT := fun x y Q => (SeqAt.shaped x = true ∧ SeqAt.shaped y = true) ∧ Q (.bool (PyData.eqv x y))
def opNe : OpT := fun x y Q => (SeqAt.shaped x = true ∧ SeqAt.shaped y = true) ∧ Q (.bool (!PyData.eqv x y))
theorem od_eq (hu : X.A.units + 64 < cLine) : OpD X (compareOp .Eq) opEq := ⟨_, op_eqD hu, fun x y v u H QD Q hx hy q k => ⟨x, y, hx.dp (SeqAt.canLay_of_shaped q.1.1), hy.dp (SeqAt.canLay_of_shaped q.1.2), q.1.1, q.1.2, k _ _ _ q.2 (PExt.refl _) (.bl _)⟩⟩
theorem od_ne (hu : X.A.units + 64 < cLine) : OpD X (compareOp .NotEq) opNe := ⟨_, op_neD hu, fun x y v u H QD Q hx hy q k => ⟨x, y, hx.dp (SeqAt.canLay_of_shaped q.1.1), hy.dp (SeqAt.canLay_of_shaped q.1.2), q.1.1, q.1.2, k _ _ _ q.2 (PExt.refl _) (.bl _)⟩⟩
def opLt : OpT := opB0 fun i j => decide (i < j)
theorem od_lt : OpD X (compareOp .Lt) opLt := od_B0 op_lt
def opLe : OpT := opB0 fun i j => decide (i ≤ j)
theorem od_le : OpD X (compareOp .LtE) opLe := od_B0 op_le
def opGt : OpT := opB0 fun i j => decide (j < i)
def opGe : OpT := opB0 fun i j => decide (j ≤ i)
theorem od_ge : OpD X (compareOp .GtE) opGe := od_B0 op_ge
def isNone : D → Bool
  | .none => true
  | _ => false
def opIs : OpT := fun x y Q => match y with
  | .none => Q (.bool (isNone x))
  | .bool b => match x with
    | .bool a => Q (.bool (decide (a = b)))
    | _ => False
  | _ => False
def opIsN : OpT := fun x y Q => match y with
  | .none => Q (.bool (!isNone x))
  | .bool b => match x with
    | .bool a => Q (.bool (!decide (a = b)))
    | _ => False
  | _ => False
theorem isNone_iff {K : PySem.W.Frag} {H : Hp} {x : D} {v : V} (h : RpR K H x v) : isNone x = decide (v = .non) := by
  rcases h with h | ⟨ds, a, vs, rfl, rfl, _⟩
  · cases h <;> rfl
  · rfl
theorem od_is : OpD X (compareOp .Is) opIs := ⟨_, op_isN.or op_isBl, fun x y v u H QD Q hx hy q k => by
  cases y with
  | none => rw [hy.none]; exact .inl ⟨rfl, by rw [← isNone_iff hx]; exact k _ _ _ q (PExt.refl _) (.bl _)⟩
  | bool b =>
    cases x with
    | bool a => rw [hx.bool, hy.bool]; exact .inr ⟨a, b, rfl, rfl, k _ _ _ q (PExt.refl _) (.bl _)⟩
    | _ => exact q.elim
  | _ => exact q.elim⟩
theorem od_isN : OpD X (compareOp .IsNot) opIsN := ⟨_, op_notN.or op_notBl, fun x y v u H QD Q hx hy q k => by
  cases y with
  | none => rw [hy.none]; exact .inl ⟨rfl, by rw [← isNone_iff hx]; exact k _ _ _ q (PExt.refl _) (.bl _)⟩
  | bool b =>
    cases x with
    | bool a => rw [hx.bool, hy.bool]; exact .inr ⟨a, b, rfl, rfl, k _ _ _ q (PExt.refl _) (.bl _)⟩
    | _ => exact q.elim
  | _ => exact q.elim⟩
/-! x in a list, a tuple -/
theorem op_inT (hu : X.A.units + 65 < cLine) : OpR X (compareOp .In) (fun x y H Q => ∃ d ds, Dp X.K H x d ∧ Dp X.K H y (.tuple ds) ∧ SeqAt.shaped d = true ∧ SeqAt.shaped (.tuple ds) = true ∧ Q (.bl (ds.any fun z => PyData.eqv z d)) H) := by
  intro pins s σ H x y v u Q I rx ry h
  obtain ⟨d, ds, hd, he, sd, se, q⟩ := h
  obtain ⟨as, r1⟩ := Dp.reads I d x v hd rx
  obtain ⟨bs, r2⟩ := Dp.reads I (.tuple ds) y u he ry
  exact SeqAt.in_tuple_reads r2 r1 (SeqAt.canLay_of_shaped se) (SeqAt.canLay_of_shaped sd) (room_in_shaped sd hu) ⟨.bl _, H, I, rfl, q⟩
theorem op_notInT (hu : X.A.units + 65 < cLine) : OpR X (compareOp .NotIn) (fun x y H Q => ∃ d ds, Dp X.K H x d ∧ Dp X.K H y (.tuple ds) ∧ SeqAt.shaped d = true ∧ SeqAt.shaped (.tuple ds) = true ∧ Q (.bl (!ds.any fun z => PyData.eqv z d)) H) := by
  intro pins s σ H x y v u Q I rx ry h
  obtain ⟨d, ds, hd, he, sd, se, q⟩ := h
  obtain ⟨as, r1⟩ := Dp.reads I d x v hd rx
  obtain ⟨bs, r2⟩ := Dp.reads I (.tuple ds) y u he ry
  exact SeqAt.notIn_tuple_reads r2 r1 (SeqAt.canLay_of_shaped se) (SeqAt.canLay_of_shaped sd) (room_in_shaped sd hu) ⟨.bl _, H, I, rfl, q⟩
def opIn : OpT := fun x y Q => match y with
  | .list ds => (SeqAt.shaped x = true ∧ SeqAt.shaped (.list ds) = true) ∧ Q (.bool (ds.any fun z => PyData.eqv z x))
  | .tuple ds => (SeqAt.shaped x = true ∧ SeqAt.shaped (.tuple ds) = true) ∧ Q (.bool (ds.any fun z => PyData.eqv z x))
  | _ => False
def opNotIn : OpT := fun x y Q => match y with
  | .list ds => (SeqAt.shaped x = true ∧ SeqAt.shaped (.list ds) = true) ∧ Q (.bool (!ds.any fun z => PyData.eqv z x))
  | .tuple ds => (SeqAt.shaped x = true ∧ SeqAt.shaped (.tuple ds) = true) ∧ Q (.bool (!ds.any fun z => PyData.eqv z x))
  | _ => False
theorem od_in (hu : X.A.units + 65 < cLine) : OpD X (compareOp .In) opIn := ⟨_, (op_inD hu).or (op_inT hu), fun x y v u H QD Q hx hy q k => by
  cases y with
  | list ds => exact .inl ⟨x, ds, hx.dp (SeqAt.canLay_of_shaped q.1.1), hy.dp (SeqAt.canLay_of_shaped q.1.2), q.1.1, q.1.2, k _ _ _ q.2 (PExt.refl _) (.bl _)⟩
  | tuple ds => exact .inr ⟨x, ds, hx.dp (SeqAt.canLay_of_shaped q.1.1), hy.dp (SeqAt.canLay_of_shaped q.1.2), q.1.1, q.1.2, k _ _ _ q.2 (PExt.refl _) (.bl _)⟩
  | _ => exact q.elim⟩
theorem od_notIn (hu : X.A.units + 65 < cLine) : OpD X (compareOp .NotIn) opNotIn := ⟨_, (op_notInD hu).or (op_notInT hu), fun x y v u H QD Q hx hy q k => by
  cases y with
  | list ds => exact .inl ⟨x, ds, hx.dp (SeqAt.canLay_of_shaped q.1.1), hy.dp (SeqAt.canLay_of_shaped q.1.2), q.1.1, q.1.2, k _ _ _ q.2 (PExt.refl _) (.bl _)⟩
  | tuple ds => exact .inr ⟨x, ds, hx.dp (SeqAt.canLay_of_shaped q.1.1), hy.dp (SeqAt.canLay_of_shaped q.1.2), q.1.1, q.1.2, k _ _ _ q.2 (PExt.refl _) (.bl _)⟩
  | _ => exact q.elim⟩
end
section
variable {X : Cx} {G : Gh} {a b c e : Expr} {es : List Expr} {pos p p2 : Pos} {x : Str}
/-! ### chains -/
def tChainD (o o' : OpT) (ta tb tc : TD) : TD := fun E Q => ta E fun x E1 => tb E1 fun y E2 => o x y fun z => match z with
  | .bool true => tc E2 fun w E3 => o' y w fun r => Q r E3
  | .bool false => Q (.bool false) E2
  | _ => False
theorem ed_chain {op op' : CmpOp} {o o' : OpT} {ta tb tc : TD} (ho : OpD X (compareOp op) o) (ho' : OpD X (compareOp op') o') (ha : ED X G a ta) (hb : ED X G b tb) (hc : ED X G c tc)
    (h1 : lastMarks [op, op'] [b, c] = false := by with_unfolding_all rfl) : ED X G (.Compare a [op, op'] [b, c] pos) (tChainD o o' ta tb tc) := by
  obtain ⟨r, hr, hq⟩ := ho
  obtain ⟨r', hr', hq'⟩ := ho'
  refine ⟨PE.weak (pe_chain hr hr' ha.pe hb.pe hc.pe h1) fun σ H Q ⟨E, QE, rel, q, k⟩ => ⟨E, _, rel, q, fun x E1 v H1 q1 x1 r1 p1 => ⟨E1, _, r1, q1, fun y E2 u H2 q2 x2 r2 p2 => ?_⟩⟩⟩
  refine hq x y v u H2 _ _ (.inl (p1.ext x2)) (.inl p2) q2 fun z w H3 q3 px rz => ?_
  cases rz with
  | bl b =>
    refine ⟨b, rfl, ?_⟩
    cases b with
    | true =>
      refine iteT ⟨E2, _, r2.pext px, q3, fun c E3 w H4 q4 x4 r4 p4 => ?_⟩
      exact hq' y c u w H4 _ _ (.inl ((p2.ext px.ext).ext x4)) (.inl p4) q4 fun z w H5 q5 px5 rz5 => k _ _ _ _ q5 ((((x1.trans x2).trans px.ext).trans x4).trans px5.ext) (r4.pext px5) rz5
    | false => exact iteF (k _ _ _ _ q3 ((x1.trans x2).trans px.ext) (r2.pext px) (.bl false))
  | _ => exact q3.elim
/-! ### items -/
def atD (xs : List D) (i : Int) (Q : D → Prop) : Prop := match atI xs i with
  | some d => Q d
  | none => False
def opIx : OpT := fun x y Q => match x, y with
  | .list xs, .int i => atD xs i Q
  | .tuple xs, .int i => atD xs i Q
  | .str z, .int i => match atI z.cps.toList i with
    | some c => z.length ≤ sizeLine ∧ Q (.str ⟨#[c]⟩)
    | none => False
  | _, _ => False
theorem atI_rp {K : PySem.W.Frag} {H : Hp} {ds : List D} {vs : List V} {i : Int} {d : D} (l : RpL K H ds vs) (h : atI ds i = some d) : ∃ v, atI vs i = some v ∧ Rp K H d v := by
  unfold atI at h ⊢
  rw [l.length] at h
  cases q : ixN vs.length i with
  | none => rw [q] at h; cases h
  | some j =>
    rw [q] at h
    exact l.get h
theorem lift_ix {r : R2} {ta tb : TD} (hr : r = rIx X.K) (σ : St) (H : Hp) (Q : VK) (h : liftE X.K G (tOpD opIx ta tb) σ H Q) : tOp r (liftE X.K G ta) (liftR X.K G tb) σ H Q := by
  subst hr
  refine lift_bin (fun x y v u H QD Q hx hy q k => ?_) σ H Q h
  cases y with
  | int i =>
    rw [hy.int]
    cases x with
    | list xs =>
      obtain ⟨a, vs, rfl, hs, l⟩ := hx.list
      have q : atD xs i QD := q
      unfold atD at q
      split at q
      · rename_i d hd
        obtain ⟨v, hv, pv⟩ := atI_rp l hd
        exact .inl ⟨a, vs, i, v, rfl, rfl, hs, hv, k _ _ _ q (PExt.refl _) pv⟩
      · exact q.elim
    | tuple xs =>
      obtain ⟨a, vs, rfl, hs, l⟩ := hx.tuple
      have q : atD xs i QD := q
      unfold atD at q
      split at q
      · rename_i d hd
        obtain ⟨v, hv, pv⟩ := atI_rp l hd
        exact .inr (.inl ⟨a, vs, i, v, rfl, rfl, hs, hv, k _ _ _ q (PExt.refl _) pv⟩)
      · exact q.elim
    | str z =>
      rw [hx.str]
      have q : (match atI z.cps.toList i with
        | some c => z.length ≤ sizeLine ∧ QD (.str ⟨#[c]⟩)
        | none => False) := q
      split at q
      · rename_i c hc
        exact .inr (.inr ⟨z, i, c, rfl, rfl, q.1, hc, k _ _ _ q.2 (PExt.refl _) (.str _)⟩)
      · exact q.elim
    | _ => exact q.elim
  | _ => cases x <;> exact q.elim
theorem ed_ix {ta tb : TD} (ha : ED X G a ta) (hb : ED X G b tb) (hs : PlainIx b := by exact fun _ _ => rfl) : ED X G (.Subscript a b pos) (tOpD opIx ta tb) :=
  ⟨PE.weak (pe_ix ix_seq ha.pe hb.er.pe hs) fun σ H Q h => lift_ix rfl σ H Q h⟩
/-- an item of a list of one's own, at a name -/
def tIxO (i : Nat) (tb : TD) : TD := fun E Q => match E[i]? with
  | some (.ol _) => tb E fun y E1 => match E1[i]?, y with
    | some (.ol xs), .int k => atD xs k fun d => Q d E1
    | _, _ => False
  | _ => False
theorem ed_ixO (i : Nat) {tb : TD} (hb : ED X G b tb) (hN : X.N[i]? = some x := by rfl) (hv : Vis X.env.scope x := by first | exact Or.inl rfl | exact Or.inr (Or.inl rfl) | exact Or.inr (Or.inr rfl)) (hd : (x == ("__debug__" : Str)) = false := by decide)
    (hcd : (x == ("__classdict__" : Str)) = false := by decide) (hs : PlainIx b := by exact fun _ _ => rfl) : ED X G (.Subscript (.Name x p) b pos) (tIxO i tb) :=
  ⟨PE.weak (pe_ix ix_list (pe_var hN hv hd hcd) hb.pe hs) fun σ H Q ⟨E, QE, r, q, k⟩ => by
    unfold tIxO at q
    split at q
    · rename_i xs0 he0
      obtain ⟨l, vs0, e1, e2, e3⟩ := r.ol he0
      refine ⟨_, e1, E, _, r, q, fun d E1 v H1 q1 x1 r1 p1 => ?_⟩
      split at q1
      · rename_i o0 d0 xs j he
        cases p1
        obtain ⟨l', vs, f1, f2, f3⟩ := r1.ol he
        rw [e1] at f1; cases f1
        unfold atD at q1
        split at q1
        · rename_i d hd
          obtain ⟨v, hv, pv⟩ := atI_rp f3 hd
          exact ⟨l, vs, j, v, rfl, rfl, SqL.of f2, hv, k _ _ _ _ q1 x1 r1 pv⟩
        · exact q1.elim
      · exact q1.elim
    · exact q.elim⟩
/-! ### calls of builtins -/
abbrev CaT := List D → (D → Prop) → Prop
abbrev CaL := List D → (List D → Prop) → Prop
inductive RpRs (K : PySem.W.Frag) (H : Hp) : List D → List V → Prop
  | nil : RpRs K H [] []
  | cons {d : D} {v : V} {ds : List D} {vs : List V} : RpR K H d v → RpRs K H ds vs → RpRs K H (d :: ds) (v :: vs)
theorem RpRs.one {K : PySem.W.Frag} {H : Hp} {d : D} {vs : List V} (h : RpRs K H [d] vs) : ∃ v, vs = [v] ∧ RpR K H d v := by
  cases h with
  | cons h t => cases t; exact ⟨_, rfl, h⟩
def CaD (X : Cx) (f : Value) (op : CaT) : Prop := ∃ r, CallR X f r ∧ ∀ ds vs H (QD : D → Prop) (Q : VK), RpRs X.K H ds vs → op ds QD → (∀ z w H', QD z → PExt H H' → Rp X.K H' z w → Q w H') → r vs H Q
/-- a new list is handed back -/
def CaLD (X : Cx) (f : Value) (op : CaL) : Prop := ∃ r, CallR X f r ∧ ∀ ds vs H (QD : List D → Prop) (Q : VK), RpRs X.K H ds vs → op ds QD → (∀ zs us p, QD zs → H p = none → RpL X.K H zs us → Q (.ref p) (upd H p (.lst us))) → r vs H Q
def tCa1 (op : CaT) (ta : TD) : TD := fun E Q => ta E fun x E1 => op [x] fun z => Q z E1
def tCa2 (op : CaT) (ta tb : TD) : TD := fun E Q => ta E fun x E1 => tb E1 fun y E2 => op [x, y] fun z => Q z E2
def tCaL1 (op : CaL) (ta : TD) : TLd := fun E Q => ta E fun x E1 => op [x] fun z => Q z E1
section
variable {id : String} {op : CaT} {opl : CaL} {ta tb : TD}
theorem lift_ca1 {r : List V → Hp → VK → Prop} (hq : ∀ ds vs H (QD : D → Prop) (Q : VK), RpRs X.K H ds vs → op ds QD → (∀ z w H', QD z → PExt H H' → Rp X.K H' z w → Q w H') → r vs H Q)
    (σ : St) (H : Hp) (Q : VK) (h : liftE X.K G (tCa1 op ta) σ H Q) : tCB r (tCons (liftR X.K G ta) tNil) σ H Q := by
  obtain ⟨E, QE, rel, q, k⟩ := h
  refine ⟨E, _, rel, q, fun x E1 v H1 q1 x1 r1 p1 => ?_⟩
  exact hq [x] [v] H1 _ Q (.cons p1 .nil) q1 fun z w H3 q3 p3 rz => k z E1 w H3 q3 (x1.trans p3.ext) (r1.pext p3) rz
theorem ed_ca1 (hc : CaD X (.builtin id) op) (ha : ER X G a ta) (hg : Gl X x) (hm : X.mg x = none) (hv : bootBuiltins x = some (.builtin id)) (hn : x ≠ "__name__" := by decide) (hdb : (x == ("__debug__" : Str)) = false := by decide)
    (hs : starEach [a] X.env = (false, eval a X.env) :: starEach [] X.env := by rfl) (hpl : (backTo pos (starEach [] X.env)).any (·.1) = false := by rfl) : ED X G (.Call (.Name x p) [a] [] pos) (tCa1 op ta) := by
  obtain ⟨r, hr, hq⟩ := hc
  exact ⟨PE.weak (pe_callB hr hg hm hv (pa_cons ha.pe pa_nil hs) hn hdb hs hpl) fun σ H Q h => lift_ca1 hq σ H Q h⟩
theorem ed_caT1 (hc : CaD X (.type id) op) (ha : ER X G a ta) (hg : Gl X x) (hm : X.mg x = none) (hv : bootBuiltins x = some (.type id)) (hn : x ≠ "__name__" := by decide) (hdb : (x == ("__debug__" : Str)) = false := by decide)
    (hs : starEach [a] X.env = (false, eval a X.env) :: starEach [] X.env := by rfl) (hpl : (backTo pos (starEach [] X.env)).any (·.1) = false := by rfl) : ED X G (.Call (.Name x p) [a] [] pos) (tCa1 op ta) := by
  obtain ⟨r, hr, hq⟩ := hc
  exact ⟨PE.weak (pe_callTy hr hg hm hv (pa_cons ha.pe pa_nil hs) hn hdb hs hpl) fun σ H Q h => lift_ca1 hq σ H Q h⟩
theorem lift_caL1 {r : List V → Hp → VK → Prop} (hq : ∀ ds vs H (QD : List D → Prop) (Q : VK), RpRs X.K H ds vs → opl ds QD → (∀ zs us p, QD zs → H p = none → RpL X.K H zs us → Q (.ref p) (upd H p (.lst us))) → r vs H Q)
    (σ : St) (H : Hp) (Q : VK) (h : liftL X.K G (tCaL1 opl ta) σ H Q) : tCB r (tCons (liftR X.K G ta) tNil) σ H Q := by
  obtain ⟨E, QE, rel, q, k⟩ := h
  refine ⟨E, _, rel, q, fun x E1 v H1 q1 x1 r1 p1 => ?_⟩
  refine hq [x] [v] H1 _ Q (.cons p1 .nil) q1 fun zs us p q3 hp rz => ?_
  obtain ⟨r2, h0, na⟩ := r1.fresh (o := .lst us) hp
  exact k zs E1 p us _ q3 (x1.trans (PExt.new hp).ext) r2 h0 na upd_same (rz.ext (PExt.new hp).ext)
theorem el_caT1 (hc : CaLD X (.type id) opl) (ha : ER X G a ta) (hg : Gl X x) (hm : X.mg x = none) (hv : bootBuiltins x = some (.type id)) (hn : x ≠ "__name__" := by decide) (hdb : (x == ("__debug__" : Str)) = false := by decide)
    (hs : starEach [a] X.env = (false, eval a X.env) :: starEach [] X.env := by rfl) (hpl : (backTo pos (starEach [] X.env)).any (·.1) = false := by rfl) : EL X G (.Call (.Name x p) [a] [] pos) (tCaL1 opl ta) := by
  obtain ⟨r, hr, hq⟩ := hc
  exact ⟨PE.weak (pe_callTy hr hg hm hv (pa_cons ha.pe pa_nil hs) hn hdb hs hpl) fun σ H Q h => lift_caL1 hq σ H Q h⟩
end
/-! len, abs, max, min, sum, all, tuple, list, int -/
def caLen : CaT := fun ds Q => match ds with
  | [.list xs] => Q (.int xs.length)
  | [.tuple xs] => Q (.int xs.length)
  | [.str z] => z.length ≤ sizeLine ∧ Q (.int z.length)
  | _ => False
theorem cd_len : CaD X (.builtin "len") caLen := by
  refine ⟨_, (show CallR X (.builtin "len") (fun xs H Q => (∃ p ys, xs = [.ref p] ∧ (SqL X.K H p ys ∨ SqT X.K H p ys) ∧ Q (.int ys.length) H) ∨ ∃ z, xs = [.str z] ∧ z.length ≤ sizeLine ∧ Q (.int z.length) H) from fun pins s σ H vs us Q I r h => by
    rcases h with h | h
    · exact call_len_seq pins s σ H vs us Q I r h
    · exact call_len_str pins s σ H vs us Q I r h), fun ds vs H QD Q hd q k => ?_⟩
  match ds, q, hd with
  | [.list xs], q, hd =>
    obtain ⟨v, rfl, h⟩ := hd.one
    obtain ⟨a, us, rfl, hs, l⟩ := h.list
    exact .inl ⟨a, us, rfl, .inl hs, by rw [← l.length]; exact k _ _ _ q (PExt.refl _) (.int _)⟩
  | [.tuple xs], q, hd =>
    obtain ⟨v, rfl, h⟩ := hd.one
    obtain ⟨a, us, rfl, hs, l⟩ := h.tuple
    exact .inl ⟨a, us, rfl, .inr hs, by rw [← l.length]; exact k _ _ _ q (PExt.refl _) (.int _)⟩
  | [.str z], q, hd =>
    obtain ⟨v, rfl, h⟩ := hd.one
    rw [h.str]
    exact .inr ⟨z, rfl, q.1, k _ _ _ q.2 (PExt.refl _) (.int _)⟩
def caAbs : CaT := fun ds Q => match ds with
  | [.int i] => Q (.int (if i < 0 then -i else i))
  | _ => False
theorem cd_abs : CaD X (.builtin "abs") caAbs := ⟨_, call_abs, fun ds vs H QD Q hd q k => by
  match ds, q, hd with
  | [.int i], q, hd =>
    obtain ⟨v, rfl, h⟩ := hd.one
    rw [h.int]
    exact ⟨i, rfl, k _ _ _ q (PExt.refl _) (.int _)⟩⟩
def caMax2 : CaT := fun ds Q => match ds with
  | [.int i, .int j] => Q (.int (if j > i then j else i))
  | _ => False
def caMin2 : CaT := fun ds Q => match ds with
  | [.int i, .int j] => Q (.int (if j < i then j else i))
  | _ => False
theorem RpL.bools {K : PySem.W.Frag} {H : Hp} : ∀ {ns : List Bool} {vs : List V}, RpL K H (ns.map PyData.bool) vs → vs = ns.map V.bl
  | [], _, .nil => rfl
  | _ :: _, _, .cons (.bl _) t => by rw [RpL.bools t]; rfl
def caSum : CaT := fun ds Q => match ds with
  | [.list xs] => ∃ ns : List Int, xs = ns.map PyData.int ∧ Q (.int ns.sum)
  | _ => False
def caMax : CaT := fun ds Q => match ds with
  | [.list xs] => ∃ ns : List Int, xs = ns.map PyData.int ∧ 0 < ns.length ∧ ∀ m, m ∈ ns → (∀ y, y ∈ ns → y ≤ m) → Q (.int m)
  | _ => False
theorem cd_max (hc : X.calm = true) : CaD X (.builtin "max") caMax := ⟨_, cr_max hc, fun ds vs H QD Q hd q k => by
  match ds, q, hd with
  | [.list xs], q, hd =>
    obtain ⟨ns, rfl, hl, q⟩ := q
    obtain ⟨v, rfl, h⟩ := hd.one
    obtain ⟨a, us, rfl, hs, l⟩ := h.list
    have := l.ints; subst this
    exact ⟨a, ns, rfl, hs, hl, fun m h1 h2 => k _ _ _ (q m h1 h2) (PExt.refl _) (.int _)⟩⟩
def caMin : CaT := fun ds Q => match ds with
  | [.list xs] => ∃ ns : List Int, xs = ns.map PyData.int ∧ 0 < ns.length ∧ ∀ m, m ∈ ns → (∀ y, y ∈ ns → m ≤ y) → Q (.int m)
  | _ => False
def caAll : CaT := fun ds Q => match ds with
  | [.list xs] => ∃ bs : List Bool, xs = bs.map PyData.bool ∧ Q (.bool (bs.all id))
  | _ => False
theorem cd_all (hc : X.calm = true) : CaD X (.builtin "all") caAll := ⟨_, cr_all hc, fun ds vs H QD Q hd q k => by
  match ds, q, hd with
  | [.list xs], q, hd =>
    obtain ⟨bs, rfl, q⟩ := q
    obtain ⟨v, rfl, h⟩ := hd.one
    obtain ⟨a, us, rfl, hs, l⟩ := h.list
    have := l.bools; subst this
    exact ⟨a, bs, rfl, hs, k _ _ _ q (PExt.refl _) (.bl _)⟩⟩
def caTuple : CaT := fun ds Q => match ds with
  | [.list xs] => Q (.tuple xs)
  | [.tuple xs] => Q (.tuple xs)
  | _ => False
theorem cd_tuple : CaD X (.type "tuple") caTuple := ⟨_, call_tupF, fun ds vs H QD Q hd q k => by
  match ds, q, hd with
  | [.list xs], q, hd =>
    obtain ⟨v, rfl, h⟩ := hd.one
    obtain ⟨a, us, rfl, hs, l⟩ := h.list
    exact ⟨a, us, rfl, .inl ⟨hs, fun p o hp ho => k _ _ _ q (PExt.new hp) (.tup (.new ho) (l.ext (PExt.new hp).ext))⟩⟩
  | [.tuple xs], q, hd =>
    obtain ⟨v, rfl, h⟩ := hd.one
    obtain ⟨a, us, rfl, hs, l⟩ := h.tupD
    exact ⟨a, us, rfl, .inr ⟨hs.1, k _ _ _ q (PExt.refl _) (.tup hs l)⟩⟩⟩
def caList : CaL := fun ds Q => match ds with
  | [.list xs] => Q xs
  | [.tuple xs] => Q xs
  | _ => False
theorem cd_list : CaLD X (.type "list") caList := ⟨_, call_list_of, fun ds vs H QD Q hd q k => by
  match ds, q, hd with
  | [.list xs], q, hd =>
    obtain ⟨v, rfl, h⟩ := hd.one
    obtain ⟨a, us, rfl, hs, l⟩ := h.list
    exact ⟨a, us, rfl, .inl hs, fun p hp => k _ _ _ q hp l⟩
  | [.tuple xs], q, hd =>
    obtain ⟨v, rfl, h⟩ := hd.one
    obtain ⟨a, us, rfl, hs, l⟩ := h.tuple
    exact ⟨a, us, rfl, .inr hs, fun p hp => k _ _ _ q hp l⟩⟩
def caInt : CaT := fun ds Q => match ds with
  | [.int i] => Q (.int i)
  | [.bool b] => Q (.int (if b then 1 else 0))
  | _ => False
end
end DL
set_option Elab.async false
set_option linter.all false
set_option maxRecDepth 100000
set_option maxHeartbeats 1000000
namespace DL
open PySem PySem.Spec PyProof.Rows L2
section
variable {X : Cx} {G : Gh} {a b c e : Expr} {es : List Expr} {pos p p1 p2 p3 : Pos} {x : Str}
/-- a list whose object is plain -/
def LsP (K : PySem.W.Frag) (H : Hp) (a : Addr) (vs : List V) : Prop := H a = some (.lst vs) ∨ LsF K H a vs
theorem LsP.at {K : PySem.W.Frag} {H : Hp} {a : Addr} {vs : List V} {P : Program} {w : World} {h : Heap} (l : LsP K H a vs) (hok : HOk P w H h) (KX : K.In h) : vs.length ≤ sizeLine ∧ ∃ (its : List Value) (n : Nat), Vals vs its ∧ h.get? a = some { cls := .type "list", data := .seq its.toArray n } := by
  rcases l with l | ⟨o, l⟩ | ⟨its, n, e, z, r⟩
  · exact Rd.ok (.inl l) hok
  · exact Rd.ok (.inr ⟨o, l⟩) hok
  · refine ⟨?_, its.toList, n, r, by have := KX _ _ e; simpa using this⟩
    have e2 := r.length
    simp only [Array.length_toList] at e2
    omega
theorem RpR.listR {K : PySem.W.Frag} {H : Hp} {ds : List D} {v : V} (h : RpR K H (.list ds) v) : ∃ a vs, v = .ref a ∧ LsP K H a vs ∧ RpL K H ds vs := by
  rcases h with h | ⟨ds, a, vs, e, rfl, h, l⟩
  · cases h with
    | lst h l => exact ⟨_, _, rfl, .inr h, l⟩
  · cases e
    exact ⟨_, _, rfl, .inl h, l⟩
/-! ### list + list, list * int: new lists -/
def OpLD (X : Cx) (f : Value → Value → Sem Value) (op : D → D → (List D → Prop) → Prop) : Prop := ∃ r : R2, OpR X f r ∧
  ∀ x y v u H (QD : List D → Prop) (Q : VK), RpR X.K H x v → RpR X.K H y u → op x y QD → (∀ zs us q, QD zs → H q = none → RpL X.K H zs us → Q (.ref q) (upd H q (.lst us))) → r v u H Q
def tOpL (op : D → D → (List D → Prop) → Prop) (ta tb : TD) : TLd := fun E Q => ta E fun x E1 => tb E1 fun y E2 => op x y fun z => Q z E2
theorem el_op {op : Operator} {o : D → D → (List D → Prop) → Prop} {ta tb : TD} (ho : OpLD X (binaryOp op) o) (ha : ED X G a ta) (hb : ER X G b tb) : EL X G (.BinOp a op b pos) (tOpL o ta tb) := by
  obtain ⟨r, hr, hq⟩ := ho
  refine ⟨PE.weak (pe_op hr ha.pe hb.pe) fun σ H Q ⟨E, QE, rel, q, k⟩ => ⟨E, _, rel, q, fun x E1 v H1 q1 x1 r1 p1 => ⟨E1, _, r1, q1, fun y E2 u H2 q2 x2 r2 p2 => ?_⟩⟩⟩
  refine hq x y v u H2 _ Q (.inl (p1.ext x2)) p2 q2 fun zs us q3 qz hp rz => ?_
  obtain ⟨r3, h0, na⟩ := r2.fresh (o := .lst us) hp
  exact k zs E2 q3 us _ qz ((x1.trans x2).trans (PExt.new hp).ext) r3 h0 na upd_same (rz.ext (PExt.new hp).ext)
theorem op_catR : OpR X (binaryOp .Add) (fun x y H Q => ∃ l b xs zs, x = .ref l ∧ y = .ref b ∧ LsP X.K H l xs ∧ LsP X.K H b zs ∧ xs.length + zs.length ≤ sizeLine ∧ ∀ p, H p = none → Q (.ref p) (upd H p (.lst (xs ++ zs)))) := by
  intro pins s σ H x y v u Q I rx ry h
  obtain ⟨l, b, xs, zs, rfl, rfl, hH, hB, hz, q⟩ := h
  cases rx
  cases ry
  obtain ⟨z, its, n, r, e⟩ := hH.at I.hok I.kIn
  obtain ⟨z2, its2, n2, r2, e2⟩ := hB.at I.hok I.kIn
  have hl := r.length
  have hl2 := r2.length
  refine PySem.P.add_list e e2 ?_ (by rw [List.size_toArray, List.size_toArray]; omega)
  have ea : its.toArray ++ its2.toArray = (its ++ its2).toArray := by simp
  rw [ea]
  exact ⟨.ref _, _, I.lnew (t' := s.toks) (r.append r2) (by rw [List.length_append]; omega), rfl, q _ I.fresh⟩
def opCat : D → D → (List D → Prop) → Prop := fun x y Q => match x, y with
  | .list xs, .list ys => xs.length + ys.length ≤ sizeLine ∧ Q (xs ++ ys)
  | _, _ => False
theorem od_cat : OpLD X (binaryOp .Add) opCat := ⟨_, op_catR, fun x y v u H QD Q hx hy q k => by
  cases x with
  | list xs =>
    cases y with
    | list ys =>
      obtain ⟨a, vs, rfl, sa, la⟩ := hx.listR
      obtain ⟨b, us, rfl, sb, lb⟩ := hy.listR
      exact ⟨a, b, vs, us, rfl, rfl, sa, sb, by rw [← la.length, ← lb.length]; exact q.1, fun p hp => k _ _ _ q.2 hp (la.append lb)⟩
    | _ => exact q.elim
  | _ => exact q.elim⟩
theorem op_repR : OpR X (binaryOp .Mult) (fun x y H Q => ∃ l k xs, x = .ref l ∧ y = .int k ∧ LsP X.K H l xs ∧ -(2 ^ 63) ≤ k ∧ k < 2 ^ 63 ∧ xs.length * k.toNat ≤ sizeLine ∧
  ∀ p, H p = none → Q (.ref p) (upd H p (.lst (List.replicate k.toNat xs).flatten))) := by
  intro pins s σ H x y v u Q I rx ry h
  obtain ⟨l, k, xs, rfl, rfl, hH, h1, h2, hz, q⟩ := h
  cases rx
  obtain ⟨t, rfl⟩ := ry
  obtain ⟨z, its, n, r, e⟩ := hH.at I.hok I.kIn
  have hl := r.length
  have hlen : its.toArray.size * k.toNat ≤ sizeLine := by rw [List.size_toArray, ← hl]; exact hz
  have hcap : ¬ its.toArray.size * k.toNat > (2 ^ 63 - 1) / 8 := by
    have : (sizeLine : Nat) ≤ (2 ^ 63 - 1) / 8 := by decide
    omega
  have hfit : ¬ (!Builtin.List.listFitsIndex k) = true := by
    rw [fitsIndex_both h1 h2]
    exact Bool.false_ne_true
  have hlong : ¬ Builtin.List.listTooLong (its.toArray.size * k.toNat) = true := by
    rw [notLongL hlen]
    exact Bool.false_ne_true
  have hnew : List.foldl (fun x1 x2 => x1 ++ x2) #[] (List.replicate (if its.toArray.isEmpty = true then 0 else k.toNat) its.toArray) = (List.replicate k.toNat its).flatten.toArray := by
    have f0 : ∀ m : Nat, List.foldl (fun x1 x2 => x1 ++ x2) #[] (List.replicate m its.toArray) = (List.replicate m its).flatten.toArray := fun m => by
      have := foldl_rep its m []
      rw [List.nil_append] at this
      exact this
    rw [f0]
    cases its with
    | nil => simp
    | cons a r' => rw [if_neg (by simp)]
  refine wpAny_binaryOp_repeat_ref (T := "list") (U := "int") (by decide) ⟨_, e, rfl⟩ (fun s' => typeIs_int s' k t) noFill_list_mul F.fills_int_mul F.slot_int_rmul repeat_list F.slot_int_index.lookup
    (call_meets F.slot_int_rmul (typeIs_int s k t) F.entry_int_rmul (F.args_int_rmul_2 _ _) (int___rmul___int_list k t l its.toArray n)
      ⟨e, rfl, ⟨_, e, rfl⟩, call_meets F.slot_list_mul ⟨_, e, rfl⟩ F.entry_list_mul (F.args_list_mul_2 _ _) (AutoListH.list___mul___list_int_3 l its.toArray n k t hfit hcap hlong) ⟨e, ?_⟩⟩)
  rw [hnew]
  exact ⟨.ref _, _, I.lnew (t' := s.toks) (r.rep k.toNat) (by rw [PyProof.Rows.lm_len_rep_flat, Nat.mul_comm]; exact hz), rfl, q _ I.fresh⟩
def opRep : D → D → (List D → Prop) → Prop := fun x y Q => match x, y with
  | .list xs, .int k => (-(2 ^ 63) ≤ k ∧ k < 2 ^ 63 ∧ xs.length * k.toNat ≤ sizeLine) ∧ Q (List.replicate k.toNat xs).flatten
  | _, _ => False
theorem RpL.rep {K : PySem.W.Frag} {H : Hp} {ds : List D} {vs : List V} (l : RpL K H ds vs) : ∀ n : Nat, RpL K H (List.replicate n ds).flatten (List.replicate n vs).flatten
  | 0 => .nil
  | n + 1 => by rw [List.replicate_succ, List.replicate_succ, List.flatten_cons, List.flatten_cons]; exact l.append (RpL.rep l n)
theorem od_rep : OpLD X (binaryOp .Mult) opRep := ⟨_, op_repR, fun x y v u H QD Q hx hy q k => by
  cases x with
  | list xs =>
    cases y with
    | int j =>
      obtain ⟨a, vs, rfl, sa, la⟩ := hx.listR
      rw [hy.int]
      exact ⟨a, j, vs, rfl, rfl, sa, q.1.1, q.1.2.1, by rw [← la.length]; exact q.1.2.2, fun p hp => k _ _ _ q.2 hp (la.rep _)⟩
    | _ => exact q.elim
  | _ => exact q.elim⟩
/-! ### slices -/
def cutD (xs : List D) (lo hi : Option Int) : List D := (xs.drop (HT.sIx xs.length 0 lo)).take (HT.sIx xs.length xs.length hi - HT.sIx xs.length 0 lo)
theorem RpL.cut {K : PySem.W.Frag} {H : Hp} {ds : List D} {vs : List V} (l : RpL K H ds vs) (lo hi : Option Int) : RpL K H (cutD ds lo hi) (cutV vs lo hi) := by
  unfold cutD cutV
  rw [l.length]
  exact (l.drop _).take _
abbrev TOd := Env → (Option Int → Env → Prop) → Prop
def liftO (K : PySem.W.Frag) (G : Gh) (t : TOd) : TO := fun σ H Q => ∃ (E : Env) (QE : Option Int → Env → Prop), RelE K G H E σ ∧ t E QE ∧ ∀ o E' H', QE o E' → Ext H H' → RelE K G H' E' σ → Q o H'
structure EO (X : Cx) (G : Gh) (e : Option Expr) (t : TOd) : Prop where
  po : PO X e (liftO X.K G t)
theorem PO.weak {e : Option Expr} {t u : TO} (h : PO X e t) (w : ∀ σ H Q, u σ H Q → t σ H Q) : PO X e u := ⟨fun pins s σ H Q I q => h.run pins s σ H Q I (w σ H Q q)⟩
def oNo : TOd := fun E Q => Q none E
def oE (t : TD) : TOd := fun E Q => t E fun d E1 => match d with
  | .int i => Q (some i) E1
  | _ => False
theorem eo_no : EO X G none oNo := ⟨PO.weak po_none fun σ H Q ⟨E, QE, r, q, k⟩ => k _ _ _ q (Ext.refl _) r⟩
theorem eo_e {t : TD} (h : ED X G e t) : EO X G (some e) (oE t) := ⟨PO.weak (po_some h.pe) fun σ H Q ⟨E, QE, r, q, k⟩ => ⟨E, _, r, q, fun d E1 v H1 q1 x1 r1 p1 => by
  cases p1 with
  | int i => exact ⟨i, rfl, k _ _ _ q1 x1 r1⟩
  | _ => exact q1.elim⟩⟩
/-- t[lo:hi], the whole: t itself -/
theorem whole_tuple {prog : Program} {w : World} {A : Around} {E : Value → Shared → Prop} {s : Shared} {t sl : Addr} {items : Array Value} {vl vu : Value} {lo hi : Option Int} {Q : Value → Shared → Prop} (ht : IsTup s.heap t items) (hs : s.heap.IsSliceOf sl vl vu .none) (pl : IsPart vl lo) (pu : IsPart vu hi)
    (hw : HT.sIx items.size 0 lo = 0 ∧ HT.sIx items.size items.size hi = items.size) (h : Q (.ref t) s) : wpAny (model prog w) A (getItem (.ref t) (.ref sl)) Q E s := by
  obtain ⟨os, hos, hcs, hds⟩ := id hs
  have hTs : s.TypeIs (.ref sl) "slice" := ⟨os, hos, hcs⟩
  unfold getItem
  try with_reducible refine wpAny_holding ?_
  first | refine wpAny_bind (wpAny_pure ?_) | skip
  refine wpAny_bind (wpAny_sequenceKey ht.typeIs (by decide) ?_)
  refine wpAny_bind (wpAny_callSpecial?_slot (name := Str.ofString "__getitem__") ht.typeIs PyProof.Rows.slot_tuple_getitem
    (wpAny_call_entry PyProof.Rows.slot_tuple_getitem ht.typeIs entry_tuple_getitem ?_ (args_tuple_getitem _ _)))
  show wpAny _ _ (Builtin.Tuple.tupleItemsOf (.ref t) >>= _) _ _ s
  refine wpAny_bind (tupleItemsOf_ ht ?_)
  refine wpAny_bind (wpAny_typeOf hTs ?_)
  rw [if_pos (by decide)]
  refine wpAny_bind (HT.sliceApplied_gen hs pl pu ?_)
  have hyes : (((HT.sIx items.size 0 lo : Nat) : Int) == 0 && (1 : Int) == 1 && (HT.sIx items.size items.size hi - HT.sIx items.size 0 lo) == items.size) = true := by
    rw [hw.1, hw.2]; simp
  show wpAny _ _ (if (((HT.sIx items.size 0 lo : Nat) : Int) == 0 && (1 : Int) == 1 && (HT.sIx items.size items.size hi - HT.sIx items.size 0 lo) == items.size) = true then _ else _) _ _ s
  rw [if_pos hyes]
  refine wpAny_bind ?_
  · unfold Builtin.Tuple.tupleIsExact
    refine wpAny_bind (wpAny_typeOf ht.typeIs (wpAny_pure ?_))
    rw [if_pos (by decide)]
    exact wpAny_bind (wpAny_rule (wpAny_pure ⟨_, rfl, wpAny_pure h⟩))
theorem sl_tupW : SlR X (fun x lo hi H Q => ∃ a xs, x = .ref a ∧ SqT X.K H a xs ∧ (HT.sIx xs.length 0 lo = 0 ∧ HT.sIx xs.length xs.length hi = xs.length) ∧ Q (.ref a) H) := by
  intro pins s σ H x v vl vu lo hi sl Q I rx hs pl pu h
  obtain ⟨a, xs, rfl, hx, hw, q⟩ := h
  cases rx
  obtain ⟨its, r, ht, hz⟩ := I.tuple hx
  have hlen : its.toArray.size = xs.length := by rw [List.size_toArray]; exact r.length.symm
  refine ⟨"tuple", _, PyProof.Rows.slot_tuple_getitem.lookup, ht.typeIs, ?_⟩
  exact whole_tuple ht hs pl pu (by rw [hlen]; exact hw) ⟨.ref a, H, I, rfl, q⟩
/-- t[lo:hi], not the whole: a new, plain tuple -/
theorem sl_tupF : SlR X (fun x lo hi H Q => ∃ a xs, x = .ref a ∧ SqT X.K H a xs ∧ ¬ (HT.sIx xs.length 0 lo = 0 ∧ HT.sIx xs.length xs.length hi = xs.length) ∧ ∀ p o, H p = none → o.dict = none → Q (.ref p) (upd H p (.frz o (.tup (cutV xs lo hi))))) := by
  intro pins s σ H x v vl vu lo hi sl Q I rx hs pl pu h
  obtain ⟨a, xs, rfl, hx, hw, q⟩ := h
  cases rx
  obtain ⟨its, r, ht, hz⟩ := I.tuple hx
  have hlen : its.toArray.size = xs.length := by rw [List.size_toArray]; exact r.length.symm
  refine ⟨"tuple", _, PyProof.Rows.slot_tuple_getitem.lookup, ht.typeIs, HT.getItem_tuple_cut ht hs pl pu (by rw [hlen]; exact hw) ?_ (by rw [hlen]; exact hz)⟩
  rw [hlen]
  exact ⟨.ref s.heap.objs.size, _, I.laid (t' := s.toks) (o := .frz _ (.tup (cutV xs lo hi))) (fun b ob q => Heap.get?_push_of_some _ q) (Nat.le_refl _) ⟨Heap.get?_push_size _ rfl, Nat.le_trans (cutV_length xs lo hi) hz, _, (r.drop (HT.sIx xs.length 0 lo)).take (HT.sIx xs.length xs.length hi - HT.sIx xs.length 0 lo), IsTup.new _ _⟩, rfl, q _ _ (I.hok.fresh (Nat.le_refl _)) rfl⟩
def slD (x : D) (lo hi : Option Int) (Q : D → Prop) : Prop := match x with
  | .tuple xs => Q (.tuple (cutD xs lo hi))
  | .str z => z.length ≤ sizeLine ∧ Q (.str (cutS z lo hi))
  | _ => False
def tSlD (ta : TD) (tl th : TOd) : TD := fun E Q => ta E fun x E1 => tl E1 fun l E2 => th E2 fun u E3 => slD x l u fun z => Q z E3
theorem cut_whole {xs : List D} {lo hi : Option Int} (h : HT.sIx xs.length 0 lo = 0 ∧ HT.sIx xs.length xs.length hi = xs.length) : cutD xs lo hi = xs := by
  unfold cutD; rw [h.1, h.2]; simp
theorem ed_sl {lo hi : Option Expr} {ta : TD} {tl th : TOd} (ha : ED X G a ta) (hl : EO X G lo tl) (hh : EO X G hi th) : ED X G (.Subscript a (.Slice lo hi none p2) pos) (tSlD ta tl th) := by
  refine ⟨PE.weak (pe_slice (sl_tupF.or (sl_tupW.or sl_str)) ha.pe hl.po hh.po) fun σ H Q ⟨E, QE, rel, q, k⟩ => ⟨E, _, rel, q, fun x E1 v H1 q1 x1 r1 p1 => ⟨E1, _, r1, q1, fun l E2 H2 q2 x2 r2 => ⟨E2, _, r2, q2, fun u E3 H3 q3 x3 r3 => ?_⟩⟩⟩⟩
  have xx := (x1.trans x2).trans x3
  have p3 := (p1.ext x2).ext x3
  cases p3 with
  | tup hs ll =>
    rename_i a0 vs ds
    by_cases hw : HT.sIx vs.length 0 l = 0 ∧ HT.sIx vs.length vs.length u = vs.length
    · have hw' := hw
      rw [← ll.length] at hw'
      refine .inr (.inl ⟨_, _, rfl, hs.1, hw, k _ _ _ _ q3 xx r3 ?_⟩)
      rw [cut_whole hw']; exact .tup hs ll
    · exact .inl ⟨_, _, rfl, hs.1, hw, fun p o hp ho => k _ _ _ _ q3 (xx.trans (PExt.new hp).ext) (r3.pext (PExt.new hp)) (.tup (.new ho) ((ll.cut l u).ext (PExt.new hp).ext))⟩
  | str z => exact .inr (.inr ⟨z, rfl, q3.1, k _ _ _ _ q3.2 xx r3 (.str _)⟩)
  | _ => exact q3.elim
def tSlL (ta : TD) (tl th : TOd) : TLd := fun E Q => ta E fun x E1 => tl E1 fun l E2 => th E2 fun u E3 => match x with
  | .list xs => Q (cutD xs l u) E3
  | _ => False
/-- xs[::-1] of a list -/
def tRevD (ta : TD) : TLd := fun E Q => ta E fun x E1 => match x with
  | .list xs => Q xs.reverse E1
  | _ => False
theorem el_rev {k : Nat} {ta : TD} (ha : ER X G a ta) : EL X G (.Subscript a (.Slice none none (some (.UnaryOp .USub (.Constant (.int 1) k p1) p2)) p3) pos) (tRevD ta) :=
  ⟨PE.weak (pe_revL ha.pe) fun σ H Q ⟨E, QE, rel, q, k⟩ => ⟨E, _, rel, q, fun x E1 v H1 q1 x1 r1 p1 => by
    cases x with
    | list xs =>
      obtain ⟨a, vs, rfl, hs, ll⟩ := p1.list
      refine ⟨a, vs, rfl, hs, fun p hp => ?_⟩
      obtain ⟨r4, h0, na⟩ := r1.fresh (o := .lst vs.reverse) hp
      exact k _ _ _ _ _ q1 (x1.trans (PExt.new hp).ext) r4 h0 na upd_same (ll.reverse.ext (PExt.new hp).ext)
    | _ => exact q1.elim⟩⟩
/-! ### isinstance with a built-in class -/
def tyD : D → String
  | .none => "NoneType"
  | .bool _ => "bool"
  | .int _ => "int"
  | .str _ => "str"
  | .list _ => "list"
  | .tuple _ => "tuple"
  | .dict _ => "dict"
theorem call_isiR {T : String} {bf : D → Bool} (hb : ∀ d : D, (match d with | .dict _ => True | _ => kitB (tyD d) T = some (bf d))) : CallR X (.builtin "isinstance") (fun vs H Q => ∃ d v, vs = [v, .ty T] ∧ Rp X.K H d v ∧ (∀ k, d ≠ .dict k) ∧ Q (.bl (bf d)) H) := by
  intro pins s σ H vs us Q I r h
  obtain ⟨d, v, rfl, hd, hn, q⟩ := h
  obtain ⟨u1, u2, rfl, r1, r2⟩ := vals2 r
  cases (show u2 = Value.type T from r2)
  have kit : ∃ P : Heap → Prop, PySem.W.KitX X.K u1 (.type (tyD d)) P ∧ P s.heap ∧ u1 ≠ .builtin "__main__.__loader__#opaque" := by
    cases hd with
    | non => cases (show u1 = Value.none from r1); exact ⟨_, PySem.W.kitx_none, True.intro, fun z => nomatch z⟩
    | bl y => cases (show u1 = Value.bool y from r1); exact ⟨_, PySem.W.kitx_bool, True.intro, fun z => nomatch z⟩
    | int i => obtain ⟨t, q⟩ := (show ∃ t, u1 = Value.int i t from r1); cases q; exact ⟨_, PySem.W.kitx_int, True.intro, fun z => nomatch z⟩
    | str y => obtain ⟨t, q⟩ := (show ∃ t, u1 = Value.str y t from r1); cases q; exact ⟨_, PySem.W.kitx_str, True.intro, fun z => nomatch z⟩
    | dct _ _ _ _ => exact absurd rfl (hn _)
    | hdl a => exact absurd rfl (hn _)
    | dck _ _ _ _ => exact absurd rfl (hn _)
    | lst hs _ =>
      rename_i a xs ds _
      cases (show u1 = Value.ref a from r1)
      obtain ⟨its, rv, hl, _⟩ := I.list hs.sq
      obtain ⟨o, n, ho, hc, _⟩ := hl
      exact ⟨_, PySem.W.kitx_list, ⟨o, ho, hc⟩, fun z => nomatch z⟩
    | tup hs _ =>
      rename_i a xs ds _
      cases (show u1 = Value.ref a from r1)
      obtain ⟨its, rv, ⟨o, ho, hc, _⟩, _⟩ := I.tuple hs.1
      exact ⟨_, PySem.W.kitx_tuple, ⟨o, ho, hc⟩, fun z => nomatch z⟩
  obtain ⟨P, Z, p, hx⟩ := kit
  have e : PySem.W.kitOne X.K (.type (tyD d)) (.type T) = some (bf d) := by
    have := hb d
    cases d with
    | dict k => exact absurd rfl (hn k)
    | _ => exact kit_ty this
  exact PySem.W.kia_one Z I.kIn p e hx fun tk => ⟨.bl _, H, I.tok tk, rfl, q⟩
def isInt : D → Bool
  | .int _ => true
  | .bool _ => true
  | _ => false
def isBool : D → Bool
  | .bool _ => true
  | _ => false
def isStr : D → Bool
  | .str _ => true
  | _ => false
def isTuple : D → Bool
  | .tuple _ => true
  | _ => false
def isList : D → Bool
  | .list _ => true
  | _ => false
def notDict : D → Prop
  | .dict _ => False
  | _ => True
def tIsi (bf : D → Bool) (ta : TD) : TD := fun E Q => ta E fun x E1 => notDict x ∧ Q (.bool (bf x)) E1
theorem ed_isi {T : String} {ty : Str} {bf : D → Bool} {ta : TD} {pt : Pos} (hb : ∀ d : D, (match d with | .dict _ => True | _ => kitB (tyD d) T = some (bf d))) (ha : ED X G a ta) (hg : Gl X "isinstance") (hm : X.mg "isinstance" = none) (hg2 : Gl X ty) (hm2 : X.mg ty = none) (hv2 : bootBuiltins ty = some (.type T))
    (hn2 : ty ≠ "__name__" := by decide) (hd2 : (ty == ("__debug__" : Str)) = false := by decide)
    (hs : starEach [a, .Name ty pt] X.env = (false, eval a X.env) :: starEach [.Name ty pt] X.env := by rfl) (hs2 : starEach [.Name ty pt] X.env = (false, eval (.Name ty pt) X.env) :: starEach [] X.env := by rfl) (hpl : (backTo pos (starEach [.Name ty pt] X.env)).any (·.1) = false := by rfl) :
    ED X G (.Call (.Name "isinstance" p) [a, .Name ty pt] [] pos) (tIsi bf ta) := by
  refine ⟨PE.weak (pe_callB (call_isiR hb) hg hm (by decide +kernel) (pa_cons ha.pe (pa_cons (pe_bltn (v := .ty T) hg2 hm2 hv2 rfl hn2 hd2) pa_nil hs2) hs) (by decide) (by decide) hs hpl) fun σ H Q ⟨E, QE, rel, q, k⟩ => ⟨E, _, rel, q, fun x E1 v H1 q1 x1 r1 p1 => ?_⟩⟩
  refine ⟨x, v, rfl, p1, ?_, k _ _ _ _ q1.2 x1 r1 (.bl _)⟩
  intro z e; subst e; exact q1.1
theorem isi_int : ∀ d : D, (match d with | .dict _ => True | _ => kitB (tyD d) "int" = some (isInt d)) := by intro d; cases d <;> first | trivial | (show kitB _ _ = _; decide +kernel)
theorem isi_bool : ∀ d : D, (match d with | .dict _ => True | _ => kitB (tyD d) "bool" = some (isBool d)) := by intro d; cases d <;> first | trivial | (show kitB _ _ = _; decide +kernel)
theorem isi_str : ∀ d : D, (match d with | .dict _ => True | _ => kitB (tyD d) "str" = some (isStr d)) := by intro d; cases d <;> first | trivial | (show kitB _ _ = _; decide +kernel)
theorem isi_tuple : ∀ d : D, (match d with | .dict _ => True | _ => kitB (tyD d) "tuple" = some (isTuple d)) := by intro d; cases d <;> first | trivial | (show kitB _ _ = _; decide +kernel)
/-! ### zip of two tuples, of two lists -/
def zipD (xs ys : List D) : List D := (xs.zip ys).map fun p => .tuple [p.1, p.2]
def iZipD (ta tb : TD) : TDs := fun E Q => ta E fun x E1 => tb E1 fun y E2 => match x, y with
  | .tuple xs, .tuple ys => Q (zipD xs ys) E2
  | .list xs, .list ys => Q (zipD xs ys) E2
  | _, _ => False
theorem zipD_len (xs ys : List D) : (zipD xs ys).length = min xs.length ys.length := by simp [zipD]
theorem zipD_get {xs ys : List D} {i : Nat} {x y : D} (h1 : xs[i]? = some x) (h2 : ys[i]? = some y) : (zipD xs ys)[i]? = some (.tuple [x, y]) := by
  unfold zipD
  rw [List.getElem?_map, (List.getElem?_zip_eq_some (z := (x, y))).mpr ⟨h1, h2⟩]; rfl
theorem walkD_zipT {K : PySem.W.Frag} {H : Hp} {a b : Addr} {vs us : List V} {ds es : List D} (h : SqT K H a vs) (h' : SqT K H b us) (l : RpL K H ds vs) (l' : RpL K H es us) : WalkD true K (RZ.ItzT K a b) H (zipD ds es) where
  goes := fun i H' x hi => by
    rw [zipD_len, l.length, l'.length] at hi
    exact ⟨vs, us, vs[i], us[i], SqT.ext x h, SqT.ext x h', List.getElem?_eq_getElem _, List.getElem?_eq_getElem _⟩
  yld := fun i H' v H2 x hi hy => by
    obtain ⟨T, v1, v2, rfl, hT, rfl, e1, e2⟩ := hy
    obtain ⟨d, hd, p⟩ := l.getV (e1 vs (SqT.ext x h))
    obtain ⟨d', hd', p'⟩ := l'.getV (e2 us (SqT.ext x h'))
    have px := PExt.new (o := .tup [v1, v2]) hT
    exact ⟨px, _, zipD_get hd hd', .pair (SqT.of upd_same) (.cons ((p.ext x).ext px.ext) (.cons ((p'.ext x).ext px.ext) .nil))⟩
  stops := fun H' x => ⟨vs, us, SqT.ext x h, SqT.ext x h', by rw [zipD_len, l.length, l'.length]; omega⟩
theorem walkD_zipL {K : PySem.W.Frag} {H : Hp} {a b : Addr} {vs us : List V} {ds es : List D} (h : LsF K H a vs) (h' : LsF K H b us) (l : RpL K H ds vs) (l' : RpL K H es us) : WalkD true K (Itz K a b) H (zipD ds es) where
  goes := fun i H' x hi => by
    rw [zipD_len, l.length, l'.length] at hi
    exact ⟨vs, us, vs[i], us[i], (LsF.ext x h).sq, (LsF.ext x h').sq, List.getElem?_eq_getElem _, List.getElem?_eq_getElem _⟩
  yld := fun i H' v H2 x hi hy => by
    obtain ⟨T, v1, v2, rfl, hT, rfl, e1, e2⟩ := hy
    obtain ⟨d, hd, p⟩ := l.getV (e1 vs ((LsF.ext x h).sq))
    obtain ⟨d', hd', p'⟩ := l'.getV (e2 us ((LsF.ext x h').sq))
    have px := PExt.new (o := .tup [v1, v2]) hT
    exact ⟨px, _, zipD_get hd hd', .pair (SqT.of upd_same) (.cons ((p.ext x).ext px.ext) (.cons ((p'.ext x).ext px.ext) .nil))⟩
  stops := fun H' x => ⟨vs, us, (LsF.ext x h).sq, (LsF.ext x h').sq, by rw [zipD_len, l.length, l'.length]; omega⟩
theorem id_zip {elts : List Expr} {kk : Nat} {tpos : Pos} {ta tb : TD} (ha : ED X G a ta) (hb : ED X G b tb) (hg : Gl X "zip") (hm : X.mg "zip" = none)
    (hs : starEach [a, b] X.env = (false, eval a X.env) :: starEach [b] X.env := by rfl) (hs2 : starEach [b] X.env = (false, eval b X.env) :: starEach [] X.env := by rfl) (hpl : (backTo pos (starEach [b] X.env)).any (·.1) = false := by rfl) :
    ID X G true (.Tuple elts kk tpos) (.Call (.Name "zip" p) [a, b] [] pos) (iZipD ta tb) := by
  refine ⟨PI.weak (RZ.pi_zipA hg hm (pa_cons ha.pe (pa_cons hb.pe pa_nil hs2) hs) hs hpl) fun σ H R ⟨E, QE, rel, q, k⟩ => ⟨E, _, rel, q, fun x E1 v H1 q1 x1 r1 p1 => ⟨E1, _, r1, q1, fun y E2 u H2 q2 x2 r2 p2 => ?_⟩⟩⟩
  have p1 := p1.ext x2
  cases p1 with
  | tup h1 l1 =>
    cases p2 with
    | tup h2 l2 => exact ⟨_, _, _, _, rfl, .inr ⟨h1.1, h2.1, k _ _ _ _ q2 (x1.trans x2) r2 (walkD_zipT h1.1 h2.1 l1 l2)⟩⟩
    | _ => exact q2.elim
  | lst h1 l1 =>
    cases p2 with
    | lst h2 l2 => exact ⟨_, _, _, _, rfl,   .inl ⟨h1.sq, h2.sq, k _ _ _ _ q2 (x1.trans x2) r2 (walkD_zipL h1 h2 l1 l2)⟩⟩
    | _ => exact q2.elim
  | _ => cases p2 <;> exact q2.elim
end
end DL
set_option Elab.async false
set_option linter.all false
set_option maxRecDepth 100000
set_option maxHeartbeats 1000000
namespace DL
open PySem PySem.Spec PyProof.Rows L2
theorem ns {G : Gh} {l : List Nat} (h : G.slots = l) {i : Nat} (hd : i ∉ l) : i ∉ G.slots := by rw [h]; exact hd
theorem nsA {G : Gh} {l ms : List Nat} (h : G.slots = l) (hd : ∀ i ∈ ms, i ∉ l) : ∀ i ∈ ms, i ∉ G.slots := by rw [h]; exact hd
theorem u65 {k : Nat} {A : Around} (r : Room k A) : A.units + 65 < cLine := by have := r.un; omega
theorem bb_len : bootBuiltins "len" = some (.builtin "len") := by decide +kernel
theorem bb_abs : bootBuiltins "abs" = some (.builtin "abs") := by decide +kernel
theorem bb_max : bootBuiltins "max" = some (.builtin "max") := by decide +kernel
theorem bb_all : bootBuiltins "all" = some (.builtin "all") := by decide +kernel
theorem bb_tuple : bootBuiltins "tuple" = some (.type "tuple") := by decide +kernel
theorem bb_list : bootBuiltins "list" = some (.type "list") := by decide +kernel
theorem bb_int : bootBuiltins "int" = some (.type "int") := by decide +kernel
theorem bb_bool : bootBuiltins "bool" = some (.type "bool") := by decide +kernel
theorem bb_str : bootBuiltins "str" = some (.type "str") := by decide +kernel
end DL
set_option Elab.async false
set_option linter.all false
set_option maxRecDepth 100000
set_option maxHeartbeats 1000000
namespace DL
open PySem PySem.Spec PyProof.Rows L2
/-! ### reading: one statement after another, what follows a letter -/
theorem seq_step {t u : TSd} {DE : EndsD} {E : Env} (h : ∀ R : Env → Prop, (∀ E', u DE E' → R E') → t { DE with nx := R } E) : sSeq t u DE E := h _ fun _ h => h
theorem ifB {b : Bool} {A B : Prop} (h1 : b = true → A) (h2 : b = false → B) : if b = true then A else B := by
  cases b with
  | true => exact if_pos rfl ▸ h1 rfl
  | false => rw [if_neg Bool.false_ne_true]; exact h2 rfl
theorem ifT {b : Bool} {A B : Prop} (hb : b = true) (h1 : A) : if b = true then A else B := by rw [if_pos hb]; exact h1
theorem ifF {b : Bool} {A B : Prop} (hb : b = false) (h1 : B) : if b = true then A else B := by rw [hb, if_neg Bool.false_ne_true]; exact h1
/-! == of numbers, truths -/
theorem eqv_int (i j : Int) : PyData.eqv (.int i) (.int j) = decide (i = j) := by
  show (i == j) = decide (i = j)
  by_cases h : i = j
  · subst h; simp
  · simp [h]
theorem eqv_bool (i j : Bool) : PyData.eqv (.bool i) (.bool j) = (i == j) := rfl
theorem eqv_str (i j : Str) : PyData.eqv (.str i) (.str j) = (i == j) := rfl
theorem eqv_none : PyData.eqv .none .none = true := rfl
theorem eqv_tup (xs ys : List D) : PyData.eqv (.tuple xs) (.tuple ys) = PyData.eqvAll xs ys := by simp [PyData.eqv]
theorem shaped_int (i : Int) : SeqAt.shaped (.int i) = true := rfl
theorem shaped_bool (i : Bool) : SeqAt.shaped (.bool i) = true := rfl
theorem shaped_none : SeqAt.shaped .none = true := rfl
/-! items -/
theorem atI_at {α : Type} {xs : List α} {i : Int} {d : α} (h0 : 0 ≤ i) (h : xs[i.toNat]? = some d) : atI xs i = some d := by
  obtain ⟨hl, _⟩ := List.getElem?_eq_some_iff.mp h
  unfold atI ixN
  rw [if_pos h0, if_pos (by omega)]
  exact h
theorem atD_at {xs : List D} {i : Int} {d : D} {Q : D → Prop} (h0 : 0 ≤ i) (h : xs[i.toNat]? = some d) (q : Q d) : atD xs i Q := by unfold atD; rw [atI_at h0 h]; exact q
theorem atD_neg {xs : List D} {i : Int} {d : D} {Q : D → Prop} (h0 : i < 0) (h1 : -(xs.length : Int) ≤ i) (h : xs[(i + xs.length).toNat]? = some d) (q : Q d) : atD xs i Q := by
  unfold atD atI ixN
  rw [if_neg (by omega), if_pos h1]
  show (match (xs[(i + xs.length).toNat]?) with | some d => Q d | none => False)
  rw [h]; exact q
theorem atD_0 {x : D} {xs : List D} {Q : D → Prop} : atD (x :: xs) 0 Q = Q x := by
  unfold atD; rw [atI_at (d := x) (by decide) rfl]
theorem atD_1 {x y : D} {xs : List D} {Q : D → Prop} : atD (x :: y :: xs) 1 Q = Q y := by
  unfold atD; rw [atI_at (d := y) (by decide) rfl]
theorem atD_2 {x y z : D} {xs : List D} {Q : D → Prop} : atD (x :: y :: z :: xs) 2 Q = Q z := by
  unfold atD; rw [atI_at (d := z) (by decide) rfl]
theorem atD_3 {x y z u : D} {xs : List D} {Q : D → Prop} : atD (x :: y :: z :: u :: xs) 3 Q = Q u := by
  unfold atD; rw [atI_at (d := u) (by decide) rfl]
theorem putD_0 {x d : D} {xs : List D} {Q : List D → Prop} : putD (x :: xs) 0 d Q = Q (d :: xs) := by
  unfold putD ixN; rw [if_pos (by decide), if_pos (by rw [List.length_cons]; omega)]; rfl
theorem getElem_map_int {ns : List Int} {i : Nat} (h : i < ns.length) : (ns.map PyData.int)[i]? = some (.int ns[i]) := by
  rw [List.getElem?_map, List.getElem?_eq_getElem h]; rfl
/-- a for by what holds between two turns; R: what follows a turn -/
theorem forD_inv {g : TGd} {tb : TSd} {DE : EndsD} {ds : List D} {E : Env} (I : Nat → Env → Prop) (h0 : I 0 E)
    (hs : ∀ (i : Nat) (d : D) (E : Env), ds[i]? = some d → I i E → ∀ R : Env → Prop, (∀ E', I (i + 1) E' → R E') → g d E fun E1 => tb { DE with nx := R, ct := R, bk := DE.nx } E1)
    (hd : ∀ E, I ds.length E → DE.nx E) : forD g tb ds DE E := by
  induction ds generalizing E I with
  | nil => exact hd E h0
  | cons d ds ih =>
    refine hs 0 d E rfl h0 _ fun E' h' => ?_
    exact ih (fun i => I (i + 1)) h' (fun i d E e q => hs (i + 1) d E (by simpa using e) q) fun E q => hd E (by simpa using q)
theorem for_inv {ti : TDs} {g : TGd} {tb : TSd} {DE : EndsD} {E : Env} {ds : List D} {E1 : Env} (h : ∀ Q : List D → Env → Prop, Q ds E1 → ti E Q) (I : Nat → Env → Prop) (h0 : I 0 E1)
    (hs : ∀ (i : Nat) (d : D) (E : Env), ds[i]? = some d → I i E → ∀ R : Env → Prop, (∀ E', I (i + 1) E' → R E') → g d E fun E1 => tb { DE with nx := R, ct := R, bk := DE.nx } E1)
    (hd : ∀ E, I ds.length E → DE.nx E) : sFor ti g tb DE E := h _ (forD_inv I h0 hs hd)
/-- behind it the environment is the one ahead (its own names were not in use, and hold nothing known) -/
theorem rest_wipe {E E' : Env} : ∀ {ms : List Nat}, wipeE E' ms = wipeE E ms → (∀ i ∈ ms, E[i]? = some .un ∨ (∃ x, E[i]? = some (.d x))) → restE E E' ms = E := by
  intro ms hw hE
  have hl : E'.length = E.length := by
    have : ∀ (F : Env) (l : List Nat), (wipeE F l).length = F.length := by
      intro F l
      induction l with
      | nil => rfl
      | cons v vs ih => show ((wipeE F vs).set v .un).length = _; rw [List.length_set, ih]
    rw [← this E' ms, hw, this]
  have wg : ∀ (F : Env) (l : List Nat) (i : Nat), i ∉ l → (wipeE F l)[i]? = F[i]? := by
    intro F l
    induction l with
    | nil => intro _ _; rfl
    | cons v vs ih => intro i h; show ((wipeE F vs).set v .un)[i]? = _; rw [List.getElem?_set_ne (fun z => h (by simp [z])), ih i fun z => h (List.mem_cons_of_mem _ z)]
  refine List.ext_getElem? fun i => ?_
  by_cases hi : i ∈ ms
  · have key : ∀ (l : List Nat), i ∈ l → (restE E E' l)[i]? = some (datOf E[i]?) := by
      intro l
      induction l with
      | nil => intro h; cases h
      | cons v vs ih =>
        intro h
        show ((restE E E' vs).set v (datOf E[v]?))[i]? = _
        have rl : ∀ (l : List Nat), (restE E E' l).length = E'.length := by
          intro l
          induction l with
          | nil => rfl
          | cons v vs ih => show ((restE E E' vs).set v _).length = _; rw [List.length_set, ih]
        by_cases hv : v = i
        · subst hv
          have : v < E.length := by
            rcases hE v hi with z | ⟨x, z⟩
            · exact (List.getElem?_eq_some_iff.mp z).1
            · exact (List.getElem?_eq_some_iff.mp z).1
          rw [List.getElem?_set_self (by rw [rl, hl]; exact this)]
        · rw [List.getElem?_set_ne hv]
          exact ih (by rcases List.mem_cons.mp h with q | q; exact absurd q.symm hv; exact q)
    rw [key ms hi]
    rcases hE i hi with z | ⟨x, z⟩
    · rw [z]; rfl
    · rw [z]; rfl
  · have rg : ∀ (l : List Nat), i ∉ l → (restE E E' l)[i]? = E'[i]? := by
      intro l
      induction l with
      | nil => intro _; rfl
      | cons v vs ih => intro h; show ((restE E E' vs).set v _)[i]? = _; rw [List.getElem?_set_ne (fun z => h (by simp [z])), ih fun z => h (List.mem_cons_of_mem _ z)]
    rw [rg ms hi, ← wg E' ms i hi, hw, wg E ms i hi]
/-- over typed items -/
theorem compD_map {α : Type} {g : TGd} {tt : TTd} {te : TD} {ms : List Nat} {W : Env} (enc : α → D) (p : α → Bool) (f : α → D) : ∀ (xs : List α) (acc : List D) (E : Env) (Q : List D → Env → Prop), wipeE E ms = W →
    (∀ x ∈ xs, ∀ R : Option D → Env → Prop, (∀ E', wipeE E' ms = W → R (if p x = true then some (f x) else none) E') → turnD g tt te (enc x) W R) → acc.length + xs.length ≤ sizeLine → (∀ E', wipeE E' ms = W → Q (acc ++ (xs.filter p).map f) E') → compD g tt te ms (xs.map enc) acc E Q
  | [], acc, E, Q, hE, _, _, q => by have := q E hE; rw [List.filter_nil, List.map_nil, List.append_nil] at this; exact this
  | x :: xs, acc, E, Q, hE, hf, hl, q => by
    show turnD g tt te (enc x) (wipeE E ms) _
    rw [hE]
    refine hf x (List.mem_cons_self ..) _ fun E' hE' => ?_
    rw [List.length_cons] at hl
    cases hp : p x with
    | false =>
      rw [if_neg Bool.false_ne_true]
      refine compD_map enc p f xs acc E' Q hE' (fun d hd => hf d (List.mem_cons_of_mem _ hd)) (by omega) fun E2 h2 => ?_
      have := q E2 h2
      rw [List.filter_cons_of_neg (by rw [hp]; exact Bool.false_ne_true)] at this; exact this
    | true =>
      rw [if_pos rfl]
      refine ⟨by omega, compD_map enc p f xs (acc ++ [f x]) E' Q hE' (fun d hd => hf d (List.mem_cons_of_mem _ hd)) (by rw [List.length_append]; simp; omega) fun E2 h2 => ?_⟩
      have := q E2 h2
      rw [List.filter_cons_of_pos hp] at this
      rw [List.append_assoc]; exact this
theorem comp_filter {α : Type} {ti : TDs} {g : TGd} {tt : TTd} {te : TD} {ms : List Nat} {E E1 : Env} {Q : List D → Env → Prop} (xs : List α) (enc : α → D) (p : α → Bool) (f : α → D) (hi : ∀ R : List D → Env → Prop, R (xs.map enc) E1 → ti E R)
    (hE : ∀ i ∈ ms, E1[i]? = some .un ∨ (∃ x, E1[i]? = some (.d x))) (hl : xs.length ≤ sizeLine)
    (hf : ∀ x ∈ xs, ∀ R : Option D → Env → Prop, (∀ E', wipeE E' ms = wipeE E1 ms → R (if p x = true then some (f x) else none) E') → turnD g tt te (enc x) (wipeE E1 ms) R) (q : Q ((xs.filter p).map f) E1) : tComp ti g tt te ms E Q :=
  hi _ (compD_map enc p f xs [] E1 _ rfl hf (by simpa using hl) fun E' hE' => by rw [rest_wipe hE' hE]; exact q)
theorem comp_map {α : Type} {ti : TDs} {g : TGd} {te : TD} {ms : List Nat} {E E1 : Env} {Q : List D → Env → Prop} (xs : List α) (enc : α → D) (f : α → D) (hi : ∀ R : List D → Env → Prop, R (xs.map enc) E1 → ti E R)
    (hE : ∀ i ∈ ms, E1[i]? = some .un ∨ (∃ x, E1[i]? = some (.d x))) (hl : xs.length ≤ sizeLine)
    (hf : ∀ x ∈ xs, ∀ R : D → Env → Prop, (∀ E', wipeE E' ms = wipeE E1 ms → R (f x) E') → g (enc x) (wipeE E1 ms) fun E1 => te E1 R) (q : Q (xs.map f) E1) : tComp ti g tTrue te ms E Q := by
  refine comp_filter xs enc (fun _ => true) f hi hE hl (fun x hx R hR => ?_) (by rw [List.filter_eq_self.mpr (fun _ _ => rfl)]; exact q)
  exact hf x hx (fun y E3 => R (some y) E3) hR
theorem un1 {E : Env} {i : Nat} (h : E[i]? = some .un) : ∀ j ∈ [i], E[j]? = some .un ∨ (∃ x, E[j]? = some (.d x)) := fun j hj => by
  rcases List.mem_cons.mp hj with rfl | z
  · exact .inl h
  · cases z
theorem un2 {E : Env} {i k : Nat} (h : E[i]? = some .un) (h' : E[k]? = some .un) : ∀ j ∈ [i, k], E[j]? = some .un ∨ (∃ x, E[j]? = some (.d x)) := fun j hj => by
  rcases List.mem_cons.mp hj with rfl | z
  · exact .inl h
  · exact un1 h' j z
end DL
set_option Elab.async false
set_option linter.all false
set_option maxRecDepth 100000
set_option maxHeartbeats 1000000
namespace DL
open PySem PySem.Spec PyProof.Rows L2
section
variable {X : Cx} {G : Gh} {a b c e : Expr} {es : List Expr} {pos p p1 p2 p3 : Pos} {x : Str}
/-! ### range(a, b, c): as an object, its len -/
def tLenRange (ta tb tc : TD) : TD := fun E Q => ta E fun x E1 => tb E1 fun y E2 => tc E2 fun z E3 => match x, y, z with
  | .int i, .int j, .int k => ∃ n : Nat, (k ≠ 0 ∧ k.natAbs < 1073741824) ∧ Builtin.Range.rangeSize i j k = n ∧ n < 2 ^ 62 ∧ Q (.int n) E3
  | _, _, _ => False
/-! range with a step, walked -/
/-! ### slices by numbers from 0 on -/
theorem sIx_int {n d : Nat} {i : Int} (h : 0 ≤ i) : HT.sIx n d (some i) = min i.toNat n := by
  show (if i < 0 then (i + (n : Int)).toNat else min i.toNat n) = _
  rw [if_neg (by omega)]
theorem cut_to {xs : List D} {i : Int} (h : 0 ≤ i) : cutD xs none (some i) = xs.take i.toNat := by
  unfold cutD
  rw [HT.sIx_none, sIx_int h]
  show xs.take (min i.toNat xs.length - 0) = _
  rw [Nat.sub_zero]
  rcases Nat.le_total i.toNat xs.length with z | z
  · rw [Nat.min_eq_left z]
  · rw [Nat.min_eq_right z, List.take_of_length_le (Nat.le_refl _), List.take_of_length_le z]
theorem cut_from {xs : List D} {i : Int} (h : 0 ≤ i) : cutD xs (some i) none = xs.drop i.toNat := by
  unfold cutD
  rw [HT.sIx_none, sIx_int h]
  rcases Nat.le_total i.toNat xs.length with z | z
  · rw [Nat.min_eq_left z, List.take_of_length_le (by rw [List.length_drop]; omega)]
  · rw [Nat.min_eq_right z, List.drop_eq_nil_of_le (Nat.le_refl _), List.drop_eq_nil_of_le z, List.take_nil]
theorem cut_mid {xs : List D} {i j : Int} (h : 0 ≤ i) (h' : 0 ≤ j) : cutD xs (some i) (some j) = (xs.take j.toNat).drop i.toNat := by
  unfold cutD
  rw [sIx_int h, sIx_int h', List.drop_take]
  rcases Nat.le_total i.toNat xs.length with z | z
  · rw [Nat.min_eq_left z]
    rcases Nat.le_total j.toNat xs.length with y | y
    · rw [Nat.min_eq_left y]
    · rw [Nat.min_eq_right y, List.take_of_length_le (by rw [List.length_drop]; omega), List.take_of_length_le (by rw [List.length_drop]; omega)]
  · rw [Nat.min_eq_right z, List.drop_eq_nil_of_le (Nat.le_refl _), List.drop_eq_nil_of_le z, List.take_nil, List.take_nil]
end
end DL
set_option Elab.async false
set_option linter.all false
set_option maxRecDepth 100000
namespace DL
open PySem PySem.Spec PyProof.Rows L2
/-- a def that nobody calls at this height -/
theorem no_ok {P : Program} {w : World} {K : PySem.W.Frag} {mg : Str → Option Value} {base : Heap} {x qual : Str} {st : Stmt} {f : Addr} {fd : FuncData} {N ps : List Str} {k : Nat} (F : Fun K x qual st f fd) (Sc : FnScope N ps (defScope st)) : FnOk P w K mg base CX0 (k + 1) f fd ps (spL K fun _ _ => False) :=
  F.ok Sc (fun vs H Q E ⟨_, _, _, h, _⟩ => h.elim) (fun cdv A outer s H vs Q E hr ⟨_, _, _, h, _⟩ => h.elim)
/-- the end of a law: the law's def keeps the promise spLaw-like on every script -/
theorem law_walk {l : PySem.W.OpenLaw} {n k : Nat} {q : Program} {loose : List Str} {XP : (Str → Option Value) → Heap → Prop} {YP : World → Heap → Prop} {d : DefRec} {KK : Params → PySem.W.Frag} {sp : SpD} {x : Str} (hm : l.most = some n) (hl : n ≤ sizeLine) (hdf : d.params.defaults = []) (rm : Room k callerA) (hY : ∀ (w : World) (h : Heap), YP w h → (KK w.params).In h)
    (F : ∀ (w : World) (mg : Str → Option Value) (fa : Addr) (h : Heap), (KK w.params).In h → h.Ns mainGlobals mg → mg d.name = some (.ref fa) → ∃ fd : FuncData, (∀ (s : Shared) (u : Value), BindsTo s fd ⟨[u], []⟩ [(x, u)]) ∧ ∀ base : Heap, (KK w.params).In base → base.Ns mainGlobals mg → FnOk l.prog w (KK w.params) mg base L2.CX0 k fa fd [x] (spL (KK w.params) sp))
    (hsp : ∀ (ns : List Int) (Q : D → List S → Prop), ns.length ≤ n → (∀ z ∈ ns, Builtin.Int.intBits z ≤ 1048576) → Q (.bool true) [] → sp [.d (.list (ns.map PyData.int))] Q) :
    PySem.W.WalkO q loose XP YP l.row.toRowW d [] (fun f vs => PySem.call f vs) := by
  refine Att.attach_callB hm hdf fun w s₀ s₁ mg mb fa o pm cd doc a vs ns G Y ho hd hcd hmg hobj hints hlen hbits hg => ?_
  have KX := hY w _ Y
  obtain ⟨fd, hb, hF⟩ := F w mg fa _ KX G.T.g hmg
  refine law_call KX G.T.g G.T.b G.T.builtins G.T.nolimit hg hobj hints (Nat.le_trans hlen hl) rm hF hb (fun H hO hS => ?_) (fun H e s' h => h)
  have hF : LsF (KK w.params) H a (ns.map V.int) := by
    rcases hS with (z | z) | ⟨ob, its, m, e, hc, hdd, hdt, hz, r⟩
    · rcases hO a with y | ⟨ob, xs, y⟩
      · rw [z] at y; cases y
      · rw [z] at y; cases y
    · exact .inl z
    · have e2 := KX _ _ e
      rw [hobj] at e2
      cases e2
      cases hdt
      exact .inr ⟨_, _, e, hz, r⟩
  refine ⟨[.d (.list (ns.map PyData.int))], [], fun d outs => d = .bool true, hsp ns _ hlen hbits rfl, .d (.lst hF (RpL.ofInts ns)) .nil, List.nodup_nil, fun d outs v H' h _ _ r => ?_⟩
  subst h
  cases r
  rfl
end DL
set_option Elab.async false
set_option linter.all false
set_option maxRecDepth 100000
set_option maxHeartbeats 3200000
/-! DL13: set(xs) of a list of ints, sorted(set(xs)), len(set(xs)). -/
namespace DL
open PySem PySem.Spec PyProof.Rows L2
end DL
namespace DL
open PySem PySem.Spec PyProof.Rows L2
section
variable {X : Cx} {G : Gh} {a : Expr} {pos p p1 p2 p3 : Pos}
/-- sorted(set(xs)), xs a list of fewer than 64 ints -/
def tSortSet (ta : TD) : TLd := fun E Q => ta E fun x E1 => match x with
  | .list xs => ∃ ns : List Int, xs = ns.map PyData.int ∧ ns.length < 64 ∧ ∀ zs : List Int, zs.Pairwise (· < ·) → (∀ k, k ∈ zs ↔ k ∈ ns) → Q (zs.map PyData.int) E1
  | _ => False
/-- len(set(xs)) -/
def tLenSet (ta : TD) : TD := fun E Q => ta E fun x E1 => match x with
  | .list xs => ∃ ns : List Int, xs = ns.map PyData.int ∧ ns.Nodup ∧ ns.length ≤ 4000 ∧ Q (.int (ns.length : Nat)) E1
  | _ => False
end
end DL
set_option Elab.async false
set_option linter.all false
set_option maxRecDepth 100000
/-! DL14: plain laws of data: shaped, == of encoded lists. -/
namespace DL
open PySem PySem.Spec PyProof.Rows L2
/-- n lists or tuples deep at most, no dict -/
def shOk : Nat → D → Bool
  | _, .none => true
  | _, .bool _ => true
  | _, .int _ => true
  | _, .str x => PyData.strOk x
  | n + 1, .tuple ds => ds.all (shOk n)
  | n + 1, .list ds => ds.all (shOk n)
  | _, _ => false
theorem shOk_all {n : Nat} (ih : ∀ d, shOk n d = true → d.canLay0 = true ∧ d.depth ≤ n) : ∀ ds : List D, ds.all (shOk n) = true → PyData.canLayAll0 ds = true ∧ PyData.depthAll ds ≤ n
  | [], _ => ⟨rfl, Nat.zero_le _⟩
  | d :: ds, h => by
    rw [List.all_cons, Bool.and_eq_true] at h
    have ⟨a, b⟩ := ih d h.1
    have ⟨c, e⟩ := shOk_all ih ds h.2
    exact ⟨by rw [PyData.canLayAll0, a, c]; rfl, by rw [PyData.depthAll]; omega⟩
theorem shOk_spec : ∀ (n : Nat) (d : D), shOk n d = true → d.canLay0 = true ∧ d.depth ≤ n
  | n, .none, _ => ⟨rfl, Nat.zero_le _⟩
  | n, .bool _, _ => ⟨rfl, Nat.zero_le _⟩
  | n, .int _, _ => ⟨rfl, Nat.zero_le _⟩
  | n, .str x, h => ⟨by cases n <;> exact h, Nat.zero_le _⟩
  | n + 1, .tuple ds, h => by
    have ⟨a, b⟩ := shOk_all (shOk_spec n) ds h
    exact ⟨by rw [PyData.canLay0]; exact a, by rw [PyData.depth]; omega⟩
  | n + 1, .list ds, h => by
    have ⟨a, b⟩ := shOk_all (shOk_spec n) ds h
    exact ⟨by rw [PyData.canLay0]; exact a, by rw [PyData.depth]; omega⟩
  | 0, .tuple _, h => by cases h
  | 0, .list _, h => by cases h
  | 0, .dict _, h => by cases h
  | n + 1, .dict _, h => by cases h
theorem shaped_of {n : Nat} {d : D} (h : shOk n d = true) (hn : n ≤ 64 := by decide) : SeqAt.shaped d = true := by
  have ⟨a, b⟩ := shOk_spec n d h
  show (d.canLay0 && decide (d.depth ≤ 64)) = true
  rw [a, decide_eq_true (show d.depth ≤ 64 by omega)]; rfl
theorem shOk_lst {n : Nat} {ds : List D} : shOk (n + 1) (.list ds) = ds.all (shOk n) := rfl
theorem shOk_tup {n : Nat} {ds : List D} : shOk (n + 1) (.tuple ds) = ds.all (shOk n) := rfl
theorem all_enc {α : Type} {n : Nat} {e : α → D} (he : ∀ a, shOk n (e a) = true) (xs : List α) : (xs.map e).all (shOk n) = true := by
  rw [List.all_map]; exact List.all_eq_true.mpr fun a _ => he a
theorem eqvAll_enc {α : Type} [DecidableEq α] {e : α → D} (he : ∀ a b, PyData.eqv (e a) (e b) = decide (a = b)) : ∀ xs ys : List α, PyData.eqvAll (xs.map e) (ys.map e) = decide (xs = ys)
  | [], [] => rfl
  | [], _ :: _ => rfl
  | _ :: _, [] => rfl
  | x :: xs, y :: ys => by
    rw [List.map_cons, List.map_cons, PyData.eqvAll, he, eqvAll_enc he xs ys]
    by_cases h1 : x = y <;> by_cases h2 : xs = ys <;> simp [h1, h2]
end DL
set_option Elab.async false
set_option linter.all false
set_option maxRecDepth 100000
set_option maxHeartbeats 1000000
/-! DL15: sorted(xs), sorted(xs, reverse=b): lists and tuples of any data that is alike. -/
namespace DL
open PySem PySem.Spec PyProof.Rows L2
section
variable {X : Cx} {G : Gh}
/-- sorted: the data in order -/
def sortD (rv : Bool) (xs : List D) : List D := xs.mergeSort (PySem.W.dataLe rv fun d : D => d)
def sortOk (xs : List D) : Prop := PySem.W.AllAlike xs ∧ PySem.W.Sortable xs ∧ ∀ d ∈ xs, d.depth ≤ 60 ∧ d.canLay0 = true
def caSorted : CaL := fun ds Q => match ds with
  | [.list xs] => sortOk xs ∧ Q (sortD false xs)
  | [.tuple xs] => sortOk xs ∧ Q (sortD false xs)
  | _ => False
end
end DL
set_option Elab.async false
set_option linter.all false
set_option maxRecDepth 100000
set_option maxHeartbeats 1000000
/-! DL16: enumerate(t) of a tuple; count, index. -/
namespace DL
open PySem PySem.Spec PyProof.Rows L2 AutoSeq1
section
theorem meets_enumT (l : Addr) (items : Array Value) (n : Nat) (dct : Option Addr) (sl : Array (Option Value)) :
    Meets (Builtin.«enumerate.__new__» ⟨[.type "enumerate", .ref l], []⟩) (fun _ R s => s.heap.get? l = some { cls := .type "tuple", dict := dct, data := .seq items n, slots := sl } ∧
      R (.ok (.ret (.ref (s.heap.push { cls := .type "tuple_iterator", data := .fields #[.ref l, .int 0 0] }).objs.size)))
        { s with heap := (s.heap.push { cls := .type "tuple_iterator", data := .fields #[.ref l, .int 0 0] }).push { cls := .type "enumerate", data := .fields #[.none, .bool false, .ref s.heap.objs.size, rawInt 0, .none, .none] } }) :=
  .of_wp fun prog w A R s h => by
    obtain ⟨hp, g, d, tk, os⟩ := s; obtain ⟨hl, h⟩ := h
    have subE := sub_enumerate; have isT : Heap.IsTuple (Shared.heap ⟨hp, g, d, tk, os⟩) l items := ⟨_, hl, rfl, n, rfl⟩
    wp_walk using wpAny_loadPart' hl
    refine wpAny_stack_any fun st => wpAny_pure ?_
    split
    · rename_i c _ _ _ _ _
      cases (c == Value.type "enumerate") <;> (wp_walk using wpAny_loadPart' hl, wpAny_pyIter_tuple isT; exact ⟨_, rfl, h⟩)
    · wp_walk using wpAny_loadPart' hl, wpAny_pyIter_tuple isT; exact ⟨_, rfl, h⟩
variable {prog : Program} {w : World} {A : Around} {E : Value → Shared → Prop} {s : Shared}
theorem call_enumT {l : Addr} {items : Array Value} {Q : Value → Shared → Prop} (hL : s.heap.IsTuple l items)
    (fin : ∀ h', IsEnum h' (s.heap.objs.size + 1) s.heap.objs.size 0 .none → h'.IsTupleIter s.heap.objs.size l 0 → (∀ b o, s.heap.get? b = some o → h'.get? b = some o) → Q (.ref (s.heap.objs.size + 1)) { s with heap := h' }) :
    wpAny (model prog w) A (call (.type "enumerate") [.ref l]) Q E s := by
  obtain ⟨⟨c, dct, dt, sl⟩, hl, hc, n, hd⟩ := hL
  obtain rfl : c = .type "tuple" := hc
  obtain rfl : dt = .seq items n := hd
  refine callType_new F.called_enumerate (by decide) (F.typeCall_enumerate_1 _) (F.newCall_enumerate_1 _) (fun obj => F.args_object_init_2 obj _) F.entry_enumerate_new (meets_enumT l items n dct sl) ⟨hl, ?_⟩
  have z1 : (s.heap.push { cls := .type "tuple_iterator", data := .fields #[.ref l, .int 0 0] }).objs.size = s.heap.objs.size + 1 := Heap.size_push ..
  show _ ∧ _
  rw [z1]
  have is : IsEnum ((s.heap.push { cls := .type "tuple_iterator", data := .fields #[.ref l, .int 0 0] }).push { cls := .type "enumerate", data := .fields #[.none, .bool false, .ref s.heap.objs.size, rawInt 0, .none, .none] }) (s.heap.objs.size + 1) s.heap.objs.size 0 .none := by
    have q := Heap.get?_push_size (s.heap.push { cls := .type "tuple_iterator", data := .fields #[.ref l, .int 0 0] }) (o := { cls := .type "enumerate", data := .fields #[.none, .bool false, .ref s.heap.objs.size, rawInt 0, .none, .none] }) rfl
    rw [z1] at q; exact q
  exact ⟨⟨_, is, rfl⟩, fin _ is ⟨_, Heap.get?_push_of_some _ (Heap.get?_push_size _ rfl), rfl, rfl⟩ fun b o x => Heap.get?_push_of_some _ (Heap.get?_push_of_some _ x)⟩
end
/-- the tuple at a, each item in a new pair with its number -/
def IteT (K : PySem.W.Frag) (a : Addr) : It :=
  ⟨fun i H => ∃ (xs : List V) (x : V), SqT K H a xs ∧ xs[i]? = some x, fun i H v H' => ∃ T x, v = .ref T ∧ H T = none ∧ H' = upd H T (.tup [.int (i : Nat), x]) ∧ ∀ xs, SqT K H a xs → xs[i]? = some x, fun i H => ∃ xs : List V, SqT K H a xs ∧ xs.length = i⟩
theorem turn_enumT {P : Program} {w : World} {K : PySem.W.Frag} {elts : List Expr} {kk : Nat} {tpos : Pos} (a e it : Addr) :
    Turn P w K (.Tuple elts kk tpos) (IteT K a) [e, it] e (fun i h => (∃ old, IsEnum h e it ((i : Nat) : Int) old) ∧ h.IsTupleIter it a i ∧ e ≠ it ∧ a ≠ it ∧ a ≠ e) where
  mem := by simp
  obj := fun i h st b hb => by
    obtain ⟨⟨old, he⟩, ⟨o, ho, hc, hd⟩, _⟩ := st
    rcases (show b = e ∨ b = it by simpa using hb) with z | z
    · rw [z]; exact ⟨_, he, fun v q => nomatch q⟩
    · rw [z]; exact ⟨o, ho, fun v q => by rw [hd] at q; cases q⟩
  keep := fun i h h' st k => let ⟨⟨old, he⟩, hi, hne⟩ := st; ⟨⟨old, k e (by simp) _ he⟩, hi.at fun o q => k it (by simp) o q, hne⟩
  item := by
    intro X hP hw hK hc i pins s σ H E I hf st hg
    subst hP hw hK
    obtain ⟨⟨old, he⟩, hit, hne, hai, hae⟩ := st
    obtain ⟨xs, x, hq, hx⟩ := hg
    obtain ⟨its, rv, p, hz⟩ := I.tuple hq
    obtain ⟨u, hu, ru⟩ := rv.get hx
    have hel : e < s.heap.objs.size := Heap.lt_size he
    have hil : it < s.heap.objs.size := by obtain ⟨_, q, _⟩ := hit; exact Heap.lt_size q
    have lt : i < its.toArray.size := by simpa using (List.getElem?_eq_some_iff.mp hu).1
    have nf : e ∉ [it, a] := by simp; exact ⟨hne, Ne.symm hae⟩
    refine wpAny_pyNext_enum_itemD (Draws.tuple (A := X.A.in1) (I.ok.hd hc) it a hai its.toArray) he ⟨hit, p⟩ lt hne nf fun u2 h' tk hP2 ho hit' hT hsz hk => ?_
    obtain rfl : u2 = u := by
      have : its[i]? = some u2 := by simpa using hP2
      rw [hu] at this; exact (Option.some.inj this).symm
    refine ⟨_, rfl, wpAny_letOwnedTupleGo_enum (s := { s with heap := h', toks := tk + 1 }) ho fun h'' he' sb => ?_⟩
    have hT2 : h''.get? s.heap.objs.size = some { cls := .type "tuple", data := .seq #[.int i tk, u2] } := (sb.2 _ (Nat.ne_of_gt hel)).trans hT
    have new : ObjOk X.prog X.w (upd H s.heap.objs.size (.tup [.int (i : Nat), x])) h'' s.heap.objs.size (.tup [.int (i : Nat), x]) := ⟨by show 2 ≤ sizeLine; decide, [.int i tk, u2], .cons ⟨_, rfl⟩ (.cons ru .nil), ⟨_, hT2, rfl, _, rfl⟩⟩
    have I1 : Inv X pins σ (upd H s.heap.objs.size (.tup [.int (i : Nat), x])) { s with heap := h'', toks := tk + 1 } :=
      I.turnedNew (ch := [e, it]) (fun b ob hb q => (sb.2 b (fun z => hb (by simp [z]))).trans (hk b ob (fun z => hb (by simp [z])) (fun z => hb (by simp [z])) q)) hf (Nat.le_refl _) new
    refine ⟨.ref s.heap.objs.size, _, I1, rfl, ⟨_, x, rfl, I.hok.fresh (Nat.le_refl _), rfl, fun ys hy => by rw [I.tuple_inj hy hq]; exact hx⟩, ⟨⟨u2, ?_⟩, hit'.1.at fun o q => (sb.2 it (Ne.symm hne)).trans q, hne, hai, hae⟩, fun b hb => ?_⟩
    · rw [show ((i + 1 : Nat) : Int) = (i : Int) + 1 by omega]; exact he'
    · have hb' : b < s.heap.objs.size := by rcases (show b = e ∨ b = it by simpa using hb) with z | z <;> rw [z] <;> assumption
      rw [upd_ne (Nat.ne_of_lt hb')]; exact (hf b hb).1
  done := by
    intro X hP hw hK hc i pins s σ H E I hf st hg
    subst hP hw hK
    obtain ⟨⟨old, he⟩, hit, hne, hai, hae⟩ := st
    obtain ⟨xs, hq, hx⟩ := hg
    obtain ⟨its, rv, p, hz⟩ := I.tuple hq
    obtain ⟨f0, f1, f2, f3, f4, f5⟩ := hf it (by simp)
    have hl := rv.length
    subst hx
    have hit2 : s.heap.IsTupleIter it a its.toArray.size := by rw [List.size_toArray, ← hl]; exact hit
    exact wpAny_pyNext_enum_endD (Draws.tuple (A := X.A.in1) (I.ok.hd hc) it a hai its.toArray) he ⟨hit2, p⟩ fun h' eb => ⟨rfl, I.turned (t' := s.toks) (fun b o hb q => eb b o hb q) f0 f1 f3 f4 f5⟩
  self := fun A i s Q E st h => let ⟨⟨_, he⟩, _⟩ := st; wpAny_pyIter_enum he h
section
variable {X : Cx} {G : Gh} {e : Expr} {p pos tpos : Pos} {elts : List Expr} {kk : Nat}
theorem pi_enumT {ta : TA} (hg : Gl X "enumerate") (hm : X.mg "enumerate" = none) (ha : PA X [e] ta) (hs : starEach [e] X.env = [(false, eval e X.env)] := by rfl) :
    PI X (.Tuple elts kk tpos) (.Call (.Name "enumerate" p) [e] [] pos) (fun σ H R => ta σ H fun vs H1 => ∃ a xs, vs = [.ref a] ∧ SqT X.K H1 a xs ∧ R (IteT X.K a) H1) := by
  refine ⟨fun pins s σ H R I h => Call_ (ld_blt I hg hm boot_enumerate (PyProof.Rows.callWith_type1 (thn (ha.run pos pins s σ H _ I h) fun us s1 ⟨vs, H1, I1, r1, q1⟩ => ?_) hs rfl))⟩
  obtain ⟨a, xs, rfl, hq, q⟩ := q1
  obtain rfl := Vals.ref1 r1
  obtain ⟨its, rv, pt, hz⟩ := I1.tuple hq
  have lta : a < s1.heap.objs.size := by obtain ⟨o, ho, _⟩ := pt; exact Heap.lt_size ho
  refine call_enumT pt fun h' he hit hk => wpAny_pyIter_enum he ?_
  have I2 : Inv X pins σ H1 { s1 with heap := h' } := I1.kept (t' := s1.toks) hk
  refine ⟨s1.heap.objs.size + 1, [s1.heap.objs.size + 1, s1.heap.objs.size], _, _, H1, rfl, I2, turn_enumT a (s1.heap.objs.size + 1) s1.heap.objs.size, ⟨⟨.none, he⟩, hit, Nat.succ_ne_self _, Nat.ne_of_lt lta, Nat.ne_of_lt (Nat.lt_succ_of_lt lta)⟩, fun b hb => ?_, q⟩
  have hle : s1.heap.objs.size ≤ b := by rcases (show b = s1.heap.objs.size + 1 ∨ b = s1.heap.objs.size by simpa using hb) with z | z <;> rw [z]; exact Nat.le_succ _; exact Nat.le_refl _
  exact I1.fpOk hle (I1.hok.fresh hle)
def enumD (xs : List D) : List D := xs.zipIdx.map fun p => .tuple [.int ((p.2 : Nat) : Int), p.1]
theorem enumD_len (xs : List D) : (enumD xs).length = xs.length := by simp [enumD]
theorem enumD_get {xs : List D} {i : Nat} {d : D} (h : xs[i]? = some d) : (enumD xs)[i]? = some (.tuple [.int (i : Int), d]) := by
  unfold enumD
  rw [List.getElem?_map, List.getElem?_zipIdx, h]; simp
def iEnumT (t : TD) : TDs := fun E Q => t E fun d E1 => match d with
  | .tuple ds => Q (enumD ds) E1
  | _ => False
def iEnumL (t : TD) : TDs := fun E Q => t E fun d E1 => match d with
  | .list ds => Q (enumD ds) E1
  | _ => False
theorem walkD_enumT {K : PySem.W.Frag} {H : Hp} {a : Addr} {vs : List V} {ds : List D} (h : SqT K H a vs) (l : RpL K H ds vs) : WalkD true K (IteT K a) H (enumD ds) where
  goes := fun i H' x hi => by
    rw [enumD_len, l.length] at hi
    exact ⟨vs, vs[i], SqT.ext x h, List.getElem?_eq_getElem hi⟩
  yld := fun i H' v H2 x hi hy => by
    obtain ⟨T, v1, rfl, hT, rfl, e1⟩ := hy
    obtain ⟨d, hd, p⟩ := l.getV (e1 vs (SqT.ext x h))
    have px := PExt.new (o := .tup [.int (i : Nat), v1]) hT
    exact ⟨px, _, enumD_get hd, .pair (SqT.of upd_same) (.cons (.int _) (.cons ((p.ext x).ext px.ext) .nil))⟩
  stops := fun H' x => ⟨vs, SqT.ext x h, by rw [enumD_len, l.length]⟩
theorem id_enumT {t : TD} (h : ED X G e t) (hg : Gl X "enumerate") (hm : X.mg "enumerate" = none) (hs : starEach [e] X.env = [(false, eval e X.env)] := by rfl) : ID X G true (.Tuple elts kk tpos) (.Call (.Name "enumerate" p) [e] [] pos) (iEnumT t) :=
  ⟨PI.weak (pi_enumT hg hm (pa_cons h.pe pa_nil hs) hs) fun σ H R ⟨E, QE, r, q, k⟩ => ⟨E, _, r, q, fun d E1 v H1 q1 x1 r1 p1 => by
    cases p1 with
    | tup hs l => exact ⟨_, _, rfl, hs.1, k _ _ _ _ q1 x1 r1 (walkD_enumT hs.1 l)⟩
    | _ => exact q1.elim⟩⟩
end
end DL
set_option Elab.async false
set_option linter.all false
set_option maxRecDepth 100000
set_option maxHeartbeats 1000000
/-! DL17: count, index; x or y, not x by truth; sorted(.., reverse=True). -/
namespace DL
open PySem PySem.Spec PyProof.Rows L2
section
variable {X : Cx} {G : Gh} {a b e o : Expr} {es : List Expr} {pos p apos cpos : Pos}
/-! ### methods of tuples -/
theorem SqD.is {pins : List (Addr × Obj)} {s : Shared} {σ : St} {H : Hp} {p : Addr} {xs : List V} (I : Inv X pins σ H s) (h : SqD X.K H p xs) : s.TypeIs (.ref p) "tuple" ∧ ∃ ob, s.heap.get? p = some ob ∧ ob.dict = none := by
  obtain ⟨its, r, ⟨o, ho, hc, _⟩, hz⟩ := I.tuple h.1
  refine ⟨⟨o, ho, hc⟩, ?_⟩
  rcases h.2 with ⟨o2, u, e2, d2⟩ | ⟨o2, e2, d2⟩
  · exact ⟨o2, (I.hok _ _ e2).1, d2⟩
  · exact ⟨o2, I.kIn _ _ e2, d2⟩
def okAll (xs : List D) (y : D) : Prop := xs.all (shOk 60) = true ∧ shOk 60 y = true
def cntD (xs : List D) (y : D) : Nat := xs.countP fun z => PyData.eqv z y
/-- xs.index(y): the first place of an equal one -/
def idxOk (xs : List D) (y : D) (j : Nat) : Prop := (∃ z, xs[j]? = some z ∧ PyData.eqv z y = true) ∧ ∀ m z, m < j → xs[m]? = some z → PyData.eqv z y = false
def tCountT (ta tb : TD) : TD := fun E Q => ta E fun x E1 => match x with
  | .tuple xs => tb E1 fun y E2 => okAll xs y ∧ Q (.int (cntD xs y : Nat)) E2
  | _ => False
def tCountL (ta tb : TD) : TD := fun E Q => ta E fun x E1 => match x with
  | .list xs => tb E1 fun y E2 => okAll xs y ∧ Q (.int (cntD xs y : Nat)) E2
  | _ => False
def tIndexT (ta tb : TD) : TD := fun E Q => ta E fun x E1 => match x with
  | .tuple xs => tb E1 fun y E2 => ∃ j, okAll xs y ∧ idxOk xs y j ∧ Q (.int (j : Nat)) E2
  | _ => False
def tIndexL (ta tb : TD) : TD := fun E Q => ta E fun x E1 => match x with
  | .list xs => tb E1 fun y E2 => ∃ j, okAll xs y ∧ idxOk xs y j ∧ Q (.int (j : Nat)) E2
  | _ => False
/-! ### truth -/
theorem tru_of {K : PySem.W.Frag} {H : Hp} {d : D} {v : V} {c : Bool} (h : Rp K H d v) (e : truD d = some c) (ok : okLen d) : TruV K v H c := by
  cases h with
  | non => cases e; rfl
  | bl b => cases e; rfl
  | int i => cases e; rfl
  | str x => cases e; exact ⟨ok, rfl⟩
  | tup hs l => cases e; exact .inr (.inl ⟨_, hs.1, by rw [isEmpty_RpL l]⟩)
  | lst hs l => cases e; exact .inl ⟨_, hs.sq, by rw [isEmpty_RpL l]⟩
  | dct _ _ _ _ => cases e
  | hdl _ => cases e
  | dck _ _ _ _ => cases e
def tOrT (t u : TD) : TD := fun E Q => t E fun x E1 => match truD x with
  | some c => okLen x ∧ if c = true then Q x E1 else u E1 Q
  | none => False
def tAndT (t u : TD) : TD := fun E Q => t E fun x E1 => match truD x with
  | some c => okLen x ∧ if c = true then u E1 Q else Q x E1
  | none => False
def tNotT (t : TD) : TD := fun E Q => t E fun x E1 => match truD x with
  | some c => okLen x ∧ Q (.bool (!c)) E1
  | none => False
theorem ed_orT {t u : TD} (h : ED X G a t) (hb : ED X G (.BoolOp .Or (b :: es) pos) u) : ED X G (.BoolOp .Or (a :: b :: es) pos) (DL.tOrT t u) :=
  ⟨PE.weak (pe_orT h.pe hb.pe) fun σ H Q ⟨E, QE, r, q, k⟩ => ⟨E, _, r, q, fun x E1 v H1 q1 x1 r1 p1 => by
    cases e : truD x with
    | none => rw [e] at q1; exact q1.elim
    | some c =>
      rw [e] at q1
      refine ⟨c, tru_of p1 e q1.1, ?_⟩
      cases c with
      | true => exact k _ _ _ _ q1.2 x1 r1 p1
      | false => exact ⟨E1, _, r1, q1.2, fun y E2 w H2 q2 x2 r2 p2 => k _ _ _ _ q2 (x1.trans x2) r2 p2⟩⟩⟩
/-! ### sorted(xs, reverse=True) -/
def tSortRev (ta : TD) : TLd := fun E Q => ta E fun x E1 => match x with
  | .list xs => sortOk xs ∧ Q (sortD true xs) E1
  | .tuple xs => sortOk xs ∧ Q (sortD true xs) E1
  | _ => False
end
end DL
set_option Elab.async false
set_option linter.all false
set_option maxRecDepth 100000
set_option maxHeartbeats 1000000
/-! DL18: a list of one's own is frozen where it is handed on; calls without arguments. -/
namespace DL
open PySem PySem.Spec PyProof.Rows L2
section
variable {K : PySem.W.Frag} {G : Gh} {H : Hp} {E : Env} {σ : St}
theorem RelX.freezeM {i : Nat} {s0 : S} {a : Addr} {u' : HO} {d : D} (r : RelE K G H E σ) (e : E[i]? = some s0) (m0 : s0.isMut = true) (hs : σ[i]? = some (some (.ref a))) (p : Rp K (upd H a u') d (.ref a)) :
    RelE K G (upd H a u') (E.set i (.d d)) σ := by
  obtain ⟨l, k, pn, dm, x0, A, h1, h2, h3⟩ := r
  obtain ⟨b, e1, e2, e3⟩ := (h3 i _ e).mut m0
  rw [hs] at e2
  have e2' : a = b := by injection e2 with z; injection z with z; injection z
  subst e2'
  obtain ⟨u0, g1, g2, g3⟩ := e3.soft
  have x : Ext H (upd H a u') := Ext.putS g1 g2 g3
  have own := h2 i a (by rw [e1]; simp)
  have hl : i < E.length := (List.getElem?_eq_some_iff.mp e).1
  refine ⟨by simpa using l, fun q u he ne => ?_, pn, fun q hq => ?_, x0.trans x, fun j => if j = i then [] else A j, fun j m b q1 q2 => ?_, fun j b q1 => ?_, fun j s he => ?_⟩
  · have : q ≠ a := by
      rintro rfl
      rcases own.1 with z | z
      · exact ne z
      · rw [z] at he; cases he
    rw [upd_ne this]; exact k q u he ne
  · by_cases z : q = a
    · subst z; rw [upd_same]; simp
    · rw [upd_ne z]; exact dm q hq
  · dsimp only at q1 q2
    split at q1
    · cases q1
    · split at q2
      · cases q2
      · exact h1 j m b q1 q2
  · dsimp only at q1
    split at q1
    · cases q1
    · exact h2 j b q1
  · by_cases z : j = i
    · subst z
      rw [List.getElem?_set_self hl] at he
      cases he
      simp only [if_true]
      exact ⟨rfl, _, hs, p⟩
    · rw [List.getElem?_set_ne (Ne.symm z)] at he
      simp only [z, if_false]
      exact (h3 j s he).move x fun c hc => upd_ne fun zz => z (h1 j i c hc (by rw [e1, zz]; simp))
theorem RelX.freezeV {i : Nat} {xs : List D} {a : Addr} {vs : List V} {o : Obj} (r : RelE K G H E σ) (e : E[i]? = some (.ol xs)) (hs : σ[i]? = some (some (.ref a))) (ha : H a = some (.lst vs)) (p : RpL K H xs vs) :
    RelE K G (upd H a (.frz o (.lst vs))) (E.set i (.d (.list xs))) σ :=
  r.freezeM e rfl hs (.lst (.of upd_same) (p.ext (Ext.put ha)))
end
section
variable {X : Cx} {G : Gh} {e : Expr} {pos p0 : Pos} {x : Str}
theorem PE.fzIf {t : TE} (h : PE X e t) : PE X e (fun σ H Q => t σ H fun v H1 => Q v H1 ∨ ∃ a u, v = .ref a ∧ H1 a = some u ∧ Mut (some u) ∧ ∀ o, Q v (upd H1 a (.frz o u))) :=
  ⟨fun pins s σ H Q I q => thn (h.run pins s σ H _ I q) fun u s1 ⟨v, H1, I1, r1, q1⟩ => by
    rcases q1 with q1 | ⟨a, xs, e1, e2, mu, q1⟩
    · exact ⟨v, _, I1, r1, q1⟩
    · obtain ⟨o, I2⟩ := I1.lock e2 mu
      exact ⟨v, _, I2, r1, q1 o⟩⟩
def tFzV (i : Nat) : TD := fun E Q => match E[i]? with
  | some (.d x) => Q x E
  | some (.ol xs) => Q (.list xs) (E.set i (.d (.list xs)))
  | some (.dt kvs) => Q (.dict kvs) (E.set i (.d (.dict kvs)))
  | _ => False
theorem ed_fzv (i : Nat) (hN : X.N[i]? = some x := by rfl) (hv : Vis X.env.scope x := by first | exact Or.inl rfl | exact Or.inr (Or.inl rfl) | exact Or.inr (Or.inr rfl)) (hd : (x == ("__debug__" : Str)) = false := by decide)
    (hcd : (x == ("__classdict__" : Str)) = false := by decide) : ED X G (.Name x p0) (tFzV i) :=
  ⟨PE.weak (PE.fzIf (pe_var hN hv hd hcd)) fun σ H Q ⟨E, QE, r, q, k⟩ => by
    unfold tFzV at q
    split at q
    · rename_i d0 he
      obtain ⟨v, e1, e2⟩ := r.data he
      exact ⟨v, e1, .inl (k _ _ _ _ q (Ext.refl _) r e2)⟩
    · rename_i xs he
      obtain ⟨a, vs, e1, e2, e3⟩ := r.ol he
      exact ⟨_, e1, .inr ⟨a, _, rfl, e2, trivial, fun o => k _ _ _ _ q (Ext.put e2) (r.freezeV he e1 e2 e3) (.lst (.of upd_same) (e3.ext (Ext.put e2)))⟩⟩
    · rename_i kvs he
      obtain ⟨a, e1, es, e2, l, nd, sm⟩ := r.mutAt he rfl
      refine ⟨_, e1, .inr ⟨a, _, rfl, e2, trivial, fun o => ?_⟩⟩
      have x : Ext H (upd H a (.frz o (dO a es))) := Ext.putS e2 (fun _ z => by cases z) (fun _ _ z => by cases z)
      have p : Rp X.K (upd H a (.frz o (dO a es))) (.dict kvs) (.ref a) := .dct upd_same (l.ext x) nd sm
      exact k _ _ _ _ q x (r.freezeM he rfl e1 p) p
    · exact q.elim⟩
end
end DL
set_option Elab.async false
set_option linter.all false
set_option maxRecDepth 100000
set_option maxHeartbeats 1000000
/-! DL19: x > y of any data that is alike. -/
namespace DL
open PySem PySem.Spec PyProof.Rows L2
section
variable {X : Cx}
theorem op_gtD (hu : X.A.units + 65 < cLine) : OpR X (compareOp .Gt) (fun x y H Q => ∃ d e, Dp X.K H x d ∧ Dp X.K H y e ∧ PySem.W.alike d e = true ∧ d ≠ .none ∧ d.depth ≤ 60 ∧ Q (.bl (PySem.W.dataLt e d)) H) := by
  intro pins s σ H x y v u Q I rx ry h
  obtain ⟨d, e, hd, he, al, nn, dp, q⟩ := h
  obtain ⟨as, r1⟩ := Dp.reads I d x v hd rx
  obtain ⟨bs, r2⟩ := Dp.reads I e y u he ry
  have : min d.depth e.depth ≤ d.depth := Nat.min_le_left _ _
  exact PySem.W.gt_data r1 r2 al nn (by omega) ⟨.bl _, H, I, rfl, q⟩
def opGtD : OpT := fun x y Q => (PySem.W.alike x y = true ∧ x ≠ .none ∧ x.depth ≤ 60 ∧ x.canLay0 = true ∧ y.canLay0 = true) ∧ Q (.bool (PySem.W.dataLt y x))
theorem od_gtD (hu : X.A.units + 65 < cLine) : OpD X (compareOp .Gt) opGtD := ⟨_, op_gtD hu, fun x y v u H QD Q hx hy q k => ⟨x, y, hx.dp q.1.2.2.2.1, hy.dp q.1.2.2.2.2, q.1.1, q.1.2.1, q.1.2.2.1, k _ _ _ q.2 (PExt.refl _) (.bl _)⟩⟩
end
end DL
set_option Elab.async false
set_option linter.all false
set_option maxRecDepth 100000
set_option maxHeartbeats 1000000
/-! DL20: sum, min, max of a tuple of ints. -/
namespace DL
open PySem PySem.Spec PyProof.Rows L2
section
variable {X : Cx}
def caSumT : CaT := fun ds Q => match ds with
  | [.tuple xs] => ∃ ns : List Int, xs = ns.map PyData.int ∧ Q (.int ns.sum)
  | _ => False
def caMaxT : CaT := fun ds Q => match ds with
  | [.tuple xs] => ∃ ns : List Int, xs = ns.map PyData.int ∧ 0 < ns.length ∧ ∀ m, m ∈ ns → (∀ y, y ∈ ns → y ≤ m) → Q (.int m)
  | _ => False
def caMinT : CaT := fun ds Q => match ds with
  | [.tuple xs] => ∃ ns : List Int, xs = ns.map PyData.int ∧ 0 < ns.length ∧ ∀ m, m ∈ ns → (∀ y, y ∈ ns → m ≤ y) → Q (.int m)
  | _ => False
end
end DL
set_option Elab.async false
set_option linter.all false
set_option maxRecDepth 100000
set_option maxHeartbeats 1000000
/-! DL21: zip of a list and a tuple. -/
namespace DL
open PySem PySem.Spec PyProof.Rows L2
section
variable {X : Cx} {G : Gh} {a b : Expr} {p pos tpos : Pos} {elts : List Expr} {kk : Nat}
def iZipM (ta tb : TD) : TDs := fun E Q => ta E fun x E1 => tb E1 fun y E2 => match x, y with
  | .list xs, .tuple ys => Q (zipD xs ys) E2
  | _, _ => False
end
end DL
set_option Elab.async false
set_option linter.all false
set_option maxRecDepth 100000
set_option maxHeartbeats 1000000
/-! DL22: t[::-1] of a tuple, str of an int, tuple * int, a chain of three comparisons, zip of three tuples, a comprehension with effects. -/
namespace DL
open PySem PySem.Spec PyProof.Rows L2
section
variable {X : Cx} {G : Gh} {a b c d e : Expr} {pos p p1 p2 p3 : Pos}
/-- t[::-1] of a tuple -/
def tRevT (ta : TD) : TD := fun E Q => ta E fun x E1 => match x with
  | .tuple xs => Q (.tuple xs.reverse) E1
  | _ => False
/-! ### str of an int -/
def caStr : CaT := fun ds Q => match ds with
  | [.int i] => i.natAbs.log2 < 1920 ∧ Q (.str (toString i))
  | _ => False
theorem cd_str : CaD X (.type "str") caStr := ⟨_, call_str_int, fun ds vs H QD Q hd q k => by
  match ds, q, hd with
  | [.int i], q, hd =>
    obtain ⟨v, rfl, h⟩ := hd.one
    rw [h.int]
    exact ⟨i, rfl, q.1, k _ _ _ q.2 (PExt.refl _) (.str _)⟩⟩
/-! ### tuple * int -/
def opRepT : OpT := fun x y Q => match x, y with
  | .tuple xs, .int k => (xs ≠ [] ∧ 2 ≤ k ∧ k ≤ 1000 ∧ xs.length ≤ 1000) ∧ Q (.tuple (List.replicate k.toNat xs).flatten)
  | _, _ => False
/-! ### a op b op' c op'' d -/
def tChain3D (o o' o'' : OpT) (ta tb tc td : TD) : TD := fun E Q => ta E fun x E1 => tb E1 fun y E2 => o x y fun z => match z with
  | .bool true => tc E2 fun w E3 => o' y w fun z' => match z' with
    | .bool true => td E3 fun u E4 => o'' w u fun r => Q r E4
    | .bool false => Q (.bool false) E3
    | _ => False
  | .bool false => Q (.bool false) E2
  | _ => False
end
/-! ### a comprehension with effects: an invariant of what was found and the environment -/
theorem compD_inv {g : TGd} {tt : TTd} {te : TD} {ms : List Nat} (I : Nat → List D → Env → Prop) : ∀ (ds : List D) (k : Nat) (acc : List D) (E : Env) (Q : List D → Env → Prop), acc.length ≤ k → k + ds.length ≤ sizeLine → I k acc E →
    (∀ (i : Nat) (d : D) (acc : List D) (E : Env), ds[i]? = some d → I (k + i) acc E → ∀ R : Option D → Env → Prop, (∀ E', I (k + i + 1) acc E' → R none E') → (∀ y E', I (k + i + 1) (acc ++ [y]) E' → R (some y) E') → turnD g tt te d (wipeE E ms) R) →
    (∀ acc E, I (k + ds.length) acc E → Q acc E) → compD g tt te ms ds acc E Q
  | [], k, acc, E, Q, _, _, h0, _, hd => hd _ _ h0
  | d :: ds, k, acc, E, Q, hl, hz, h0, hs, hd => by
    show turnD g tt te d (wipeE E ms) _
    rw [List.length_cons] at hz
    have hs' : ∀ (i : Nat) (d : D) (acc : List D) (E : Env), ds[i]? = some d → I (k + 1 + i) acc E → ∀ R : Option D → Env → Prop, (∀ E', I (k + 1 + i + 1) acc E' → R none E') → (∀ y E', I (k + 1 + i + 1) (acc ++ [y]) E' → R (some y) E') → turnD g tt te d (wipeE E ms) R := fun i d acc E e h => by
      have := hs (i + 1) d acc E (by simpa using e) (by rw [show k + (i + 1) = k + 1 + i by omega]; exact h)
      rw [show k + (i + 1) = k + 1 + i by omega] at this
      exact this
    have hd' : ∀ acc E, I (k + 1 + ds.length) acc E → Q acc E := fun acc E h => hd acc E (by rw [List.length_cons, show k + (ds.length + 1) = k + 1 + ds.length by omega]; exact h)
    refine hs 0 d acc E rfl h0 _ (fun E' h => compD_inv I ds (k + 1) acc E' Q (by omega) (by omega) h hs' hd') fun y E' h => ⟨by omega, compD_inv I ds (k + 1) (acc ++ [y]) E' Q (by rw [List.length_append, List.length_cons, List.length_nil]; omega) (by omega) h hs' hd'⟩
theorem comp_inv {ti : TDs} {g : TGd} {tt : TTd} {te : TD} {ms : List Nat} {E E1 : Env} {Q : List D → Env → Prop} (ds : List D) (I : Nat → List D → Env → Prop) (hi : ∀ R : List D → Env → Prop, R ds E1 → ti E R) (hz : ds.length ≤ sizeLine) (h0 : I 0 [] E1)
    (hs : ∀ (i : Nat) (d : D) (acc : List D) (E : Env), ds[i]? = some d → I i acc E → ∀ R : Option D → Env → Prop, (∀ E', I (i + 1) acc E' → R none E') → (∀ y E', I (i + 1) (acc ++ [y]) E' → R (some y) E') → turnD g tt te d (wipeE E ms) R)
    (hd : ∀ acc E2, I ds.length acc E2 → Q acc (restE E1 E2 ms)) : tComp ti g tt te ms E Q :=
  hi _ (compD_inv I ds 0 [] E1 _ (Nat.le_refl _) (by omega) h0 (fun i d acc E e h => by rw [Nat.zero_add] at h ⊢; exact hs i d acc E e h) fun acc E2 h => hd acc E2 (by rw [Nat.zero_add] at h; exact h))
end DL
set_option Elab.async false
set_option linter.all false
set_option maxRecDepth 100000
set_option maxHeartbeats 1000000
/-! DL23: zip of three tuples. -/
namespace DL
open PySem PySem.Spec PyProof.Rows L2
end DL
set_option Elab.async false
set_option linter.all false
set_option maxRecDepth 100000
set_option maxHeartbeats 1000000
/-! DL24: the module's own constants. -/
namespace DL
open PySem PySem.Spec PyProof.Rows L2
end DL
set_option Elab.async false
set_option linter.all false
set_option maxRecDepth 100000
set_option maxHeartbeats 1000000
/-! DL25: max of a list of alike data, x < y of alike data. -/
namespace DL
open PySem PySem.Spec PyProof.Rows L2
section
variable {X : Cx}
def opLtD : OpT := fun x y Q => (PySem.W.alike x y = true ∧ x ≠ .none ∧ x.depth ≤ 60 ∧ x.canLay0 = true ∧ y.canLay0 = true) ∧ Q (.bool (PySem.W.dataLt x y))
end
end DL
set_option Elab.async false
set_option linter.all false
set_option maxRecDepth 100000
set_option maxHeartbeats 3200000
/-! DL26: set(t) of a tuple of pairs of ints, len and sorted of it. -/
namespace DL
open PySem PySem.Spec PyProof.Rows L2
end DL
set_option Elab.async false
set_option linter.all false
set_option maxRecDepth 100000
set_option maxHeartbeats 3200000
/-! DL27: len(set(t)), sorted(set(t)) of a tuple of pairs of ints. -/
namespace DL
open PySem PySem.Spec PyProof.Rows L2
def pE (c : Int × Int) : D := .tuple [.int c.1, .int c.2]
def ltC (a b : Int × Int) : Prop := a.1 < b.1 ∨ (a.1 = b.1 ∧ a.2 < b.2)
section
variable {X : Cx} {G : Gh} {a : Expr} {pos p p1 p2 p3 : Pos}
def tLenSetP (ta : TD) : TD := fun E Q => ta E fun x E1 => match x with
  | .tuple xs => ∃ cs : List (Int × Int), xs = cs.map pE ∧ cs.length < 64 ∧ ∀ zs : List (Int × Int), zs.Nodup → (∀ c, c ∈ zs ↔ c ∈ cs) → Q (.int (zs.length : Nat)) E1
  | _ => False
def tSortSetP (ta : TD) : TLd := fun E Q => ta E fun x E1 => match x with
  | .tuple xs => ∃ cs : List (Int × Int), xs = cs.map pE ∧ cs.length < 64 ∧ (∀ c ∈ cs, (0 ≤ c.1 ∧ c.1 < 64) ∧ (0 ≤ c.2 ∧ c.2 < 64)) ∧ ∀ zs : List (Int × Int), zs.Pairwise ltC → (∀ c, c ∈ zs ↔ c ∈ cs) → Q (zs.map pE) E1
  | _ => False
end
end DL
set_option Elab.async false
set_option linter.all false
set_option maxRecDepth 100000
set_option maxHeartbeats 1000000
/-! DL28: chains of comparisons as tests. -/
namespace DL
open PySem PySem.Spec PyProof.Rows L2
section
variable {X : Cx} {G : Gh} {a b c d e : Expr} {pos p p1 p2 p3 : Pos}
theorem tBo_lift {t : TD} {σ : St} {H : Hp} {Q : Bool → Hp → Prop} (h : liftT X.K G (tBo t) σ H Q) : liftE X.K G t σ H fun x H' => ∃ k, x = .bl k ∧ Q k H' := by
  obtain ⟨E, QE, rel, q, k⟩ := h
  refine ⟨E, _, rel, q, fun d E' v H' q1 x1 r1 p1 => ?_⟩
  cases p1 with
  | bl b => exact ⟨b, rfl, k b E' H' q1 x1 r1⟩
  | _ => exact q1.elim
theorem eb_chain {op op' : CmpOp} {o o' : OpT} {ta tb tc : TD} (ho : OpD X (compareOp op) o) (ho' : OpD X (compareOp op') o') (ha : ED X G a ta) (hb : ED X G b tb) (hc : ED X G c tc)
    (h1 : lastMarks [op, op'] [b, c] = false := by with_unfolding_all rfl) : EB X G (.Compare a [op, op'] [b, c] pos) (tBo (tChainD o o' ta tb tc)) := by
  obtain ⟨r, hr, hq⟩ := ho
  obtain ⟨r', hr', hq'⟩ := ho'
  refine ⟨PT.weak (pt_chain hr hr' ha.pe hb.pe hc.pe h1) fun σ H Q h => ?_⟩
  obtain ⟨E, QE, rel, q, k⟩ := tBo_lift h
  refine ⟨E, _, rel, q, fun x E1 v H1 q1 x1 r1 p1 => ⟨E1, _, r1, q1, fun y E2 u H2 q2 x2 r2 p2 => ?_⟩⟩
  refine hq x y v u H2 _ _ (.inl (p1.ext x2)) (.inl p2) q2 fun z w H3 q3 px rz => ?_
  cases rz with
  | bl b =>
    refine ⟨b, rfl, ?_⟩
    cases b with
    | true =>
      refine iteT ⟨E2, _, r2.pext px, q3, fun c E3 w H4 q4 x4 r4 p4 => ?_⟩
      exact hq' y c u w H4 _ _ (.inl ((p2.ext px.ext).ext x4)) (.inl p4) q4 fun z w H5 q5 px5 rz5 => k _ _ _ _ q5 ((((x1.trans x2).trans px.ext).trans x4).trans px5.ext) (r4.pext px5) rz5
    | false => exact iteF (k _ _ _ _ q3 ((x1.trans x2).trans px.ext) (r2.pext px) (.bl false))
  | _ => exact q3.elim
end
end DL
set_option Elab.async false
set_option linter.all false
set_option maxRecDepth 100000
set_option maxHeartbeats 1000000
/-! DL29: dicts whose keys are tuples of ints (nested): look-up, store, in. -/
namespace DL
open PySem PySem.Spec PyProof.Rows L2
def valN (kvs : List (D × D)) (k : D) : Option D := (kvs.find? fun p => decide (nkOf p.1 = nkOf k)).map (·.2)
def putN (kvs : List (D × D)) (k v : D) : List (D × D) := if (valN kvs k).isSome then kvs.map (fun p => if nkOf p.1 = nkOf k then (p.1, v) else p) else kvs ++ [(k, v)]
theorem valN_cons (p : D × D) (kvs : List (D × D)) (k : D) : valN (p :: kvs) k = if nkOf p.1 = nkOf k then some p.2 else valN kvs k := by
  unfold valN
  rw [List.find?_cons]
  by_cases h : nkOf p.1 = nkOf k
  · simp [h]
  · simp [h]
theorem paired_app {α β : Type} {F : α → β → Prop} : ∀ {a c : List α} {b d : List β}, Paired F a b → Paired F c d → Paired F (a ++ c) (b ++ d)
  | _, _, _, _, .nil, h => h
  | _, _, _, _, .cons r t, h => .cons r (paired_app t h)
abbrev TR (K : PySem.W.Frag) (H : Hp) : List (D × D) → List (NestedKey × Addr × Value) → Prop :=
  Paired fun p x => (∃ l, p.1 = .tuple l) ∧ nkOf p.1 = some x.1 ∧ x.1.depth ≤ 8 ∧ Rp K H p.1 (.ref x.2.1) ∧ ∃ v, Rp K H p.2 v ∧ RelV v x.2.2
section
variable {K : PySem.W.Frag} {H : Hp} {P : Program} {w : World}
theorem RpD.tr (P : Program) (w : World) : ∀ {kvs : List (D × D)} {es : List DictEntry}, RpD K H kvs es → ∃ xs, TR K H kvs xs ∧ es = xs.map (entryOfKey (nestedKind P w))
  | _, _, .nil => ⟨[], .nil, rfl⟩
  | _, _, .cons (nk := nk) (b := b) (v := v) (e := e) t n1 n2 n3 e1 h g r l => by
    obtain ⟨xs, h1, rfl⟩ := RpD.tr P w l
    refine ⟨(nk, b, e.val) :: xs, .cons ⟨t, n1, n2, h, v, g, r⟩ h1, ?_⟩
    rw [List.map_cons]
    congr 1
    obtain ⟨eh, ek, ev⟩ := e
    have hh : eh = nk.hash w := n3 w
    have hk : ek = Value.ref b := e1
    subst hh hk
    rfl
theorem TR.ext {H' : Hp} (x : Ext H H') {kvs : List (D × D)} {xs : List (NestedKey × Addr × Value)} (h : TR K H kvs xs) : TR K H' kvs xs :=
  Paired.mapP h fun _ _ ⟨h1, h2, h3, h4, v, h5, h6⟩ => ⟨h1, h2, h3, h4.ext x, v, h5.ext x, h6⟩
theorem TR.keys {kvs : List (D × D)} {xs : List (NestedKey × Addr × Value)} (h : TR K H kvs xs) (nd : (kvs.map fun p => nkOf p.1).Nodup) : (xs.map (·.1)).Nodup := by
  have e : kvs.map (fun p => nkOf p.1) = (xs.map (·.1)).map some := by
    unfold TR at h
    induction h with
    | nil => rfl
    | cons q t ih => 
      rw [List.map_cons, List.map_cons, List.map_cons, q.2.1, ih (List.nodup_cons.mp (by simpa using nd)).2]
  rw [e] at nd
  exact (List.pairwise_map.mp nd).imp fun h z => h (by rw [z])
/-- what stands at a key -/
theorem TR.val {kvs : List (D × D)} {xs : List (NestedKey × Addr × Value)} (h : TR K H kvs xs) {k : D} {nk : NestedKey} (e : nkOf k = some nk) :
    (∀ d, valN kvs k = some d → ∃ p v, atKey xs nk = some p ∧ Rp K H d v ∧ RelV v p.2) ∧ (valN kvs k = none → atKey xs nk = none) := by
  unfold TR at h
  induction h with
  | nil => exact ⟨fun d hd => by simp [valN] at hd, fun _ => rfl⟩
  | @cons p x ps xs q t ih =>
    obtain ⟨h1, h2, h3, h4, v, h5, h6⟩ := q
    rw [valN_cons]
    by_cases hk : nkOf p.1 = nkOf k
    · have hx : x.1 = nk := by rw [h2, e] at hk; exact Option.some.inj hk
      rw [if_pos hk]
      refine ⟨fun d hd => ?_, fun z => nomatch z⟩
      cases hd
      exact ⟨x.2, v, by simp [atKey, hx], h5, h6⟩
    · have hx : ¬ x.1 = nk := fun z => hk (by rw [h2, e, z])
      rw [if_neg hk]
      have : atKey (x :: xs) nk = atKey xs nk := by simp [atKey, hx]
      rw [this]; exact ih
theorem TR.isSome {kvs : List (D × D)} {xs : List (NestedKey × Addr × Value)} (h : TR K H kvs xs) {k : D} {nk : NestedKey} (e : nkOf k = some nk) : (atKey xs nk).isSome = (valN kvs k).isSome := by
  obtain ⟨h1, h2⟩ := h.val e
  cases q : valN kvs k with
  | none => rw [h2 q]; rfl
  | some d => obtain ⟨p, v, hp, _⟩ := h1 d q; rw [hp]; rfl
theorem TR.put {kvs : List (D × D)} {xs : List (NestedKey × Addr × Value)} (h : TR K H kvs xs) {k d : D} {nk : NestedKey} {b : Addr} {v : V} {u : Value} (t : ∃ l, k = .tuple l) (e : nkOf k = some nk) (dp : nk.depth ≤ 8) (hk : Rp K H k (.ref b)) (hd : Rp K H d v) (r : RelV v u) :
    TR K H (putN kvs k d) (storedH xs nk b u) := by
  unfold putN storedH
  rw [h.isSome e]
  split
  · rename_i hs
    clear hs
    unfold TR at h ⊢
    induction h with
    | nil => exact .nil
    | @cons p x ps xs q tt ih =>
      obtain ⟨h1, h2, h3, h4, v', h5, h6⟩ := q
      rw [List.map_cons, List.map_cons]
      refine .cons ?_ ih
      by_cases hk' : nkOf p.1 = nkOf k
      · have hx : x.1 = nk := by rw [h2, e] at hk'; exact Option.some.inj hk'
        rw [if_pos hk', putAt, if_pos hx]
        exact ⟨h1, h2, h3, h4, v, hd, r⟩
      · have hx : ¬ x.1 = nk := fun z => hk' (by rw [h2, e, z])
        rw [if_neg hk', putAt, if_neg hx]
        exact ⟨h1, h2, h3, h4, v', h5, h6⟩
  · exact paired_app h (.cons ⟨t, e, dp, hk, v, hd, r⟩ .nil)
end
end DL
set_option Elab.async false
set_option linter.all false
set_option maxRecDepth 100000
set_option maxHeartbeats 1000000
/-! DL30: rules for dicts whose keys are tuples of ints. -/
namespace DL
open PySem PySem.Spec PyProof.Rows L2
section
variable {X : Cx} {G : Gh} {pins : List (Addr × Obj)} {σ : St} {H : Hp} {s : Shared}
mutual
theorem nested_of (I : Inv X pins σ H s) : ∀ {d : D} {v : V} {u : Value} {k : NestedKey}, nkOf d = some k → Rp X.K H d v → RelV v u → NestedIs s.heap k u
  | .int i, v, u, k, h, r, q => by
    unfold nkOf at h; cases h; cases r
    obtain ⟨t, rfl⟩ := (show ∃ t, u = Value.int i t from q)
    exact .int i t
  | .tuple xs, v, u, k, h, r, q => by
    unfold nkOf at h
    obtain ⟨ks, h1, rfl⟩ := Option.map_eq_some_iff.mp h
    cases r with
    | tup hs l =>
      rename_i a vs
      obtain rfl : u = Value.ref a := q
      obtain ⟨its, rv, ⟨o, ho, hc, n, hd⟩, hz⟩ := I.tuple hs.1
      exact .tup ho hc hd (by simpa using nested_all I h1 l rv)
  | .none, _, _, k, h, _, _ => by simp [nkOf] at h
  | .bool _, _, _, k, h, _, _ => by simp [nkOf] at h
  | .str _, _, _, k, h, _, _ => by simp [nkOf] at h
  | .list _, _, _, k, h, _, _ => by simp [nkOf] at h
  | .dict _, _, _, k, h, _, _ => by simp [nkOf] at h
theorem nested_all (I : Inv X pins σ H s) : ∀ {ds : List D} {vs : List V} {us : List Value} {ks : List NestedKey}, nksOf ds = some ks → RpL X.K H ds vs → Vals vs us → NestedAll s.heap ks us
  | [], _, _, ks, h, r, q => by unfold nksOf at h; cases h; cases r; cases q; exact .nil
  | d :: ds, _, _, ks, h, r, q => by
    unfold nksOf at h
    split at h
    · rename_i k ks' h1 h2
      cases h
      cases r with
      | cons r1 r2 =>
        cases q with
        | cons q1 q2 => exact .cons (nested_of I h1 r1 q1) (nested_all I h2 r2 q2)
    · cases h
end
/-- a key -/
def keyB (d : D) : Bool := match d with
  | .tuple xs => match nksOf xs with
    | some ks => decide (NestedKey.depthAll ks ≤ 7)
    | none => false
  | _ => false
/-- a dict that is read -/
def DN (K : PySem.W.Frag) (H : Hp) (a : Addr) (kvs : List (D × D)) : Prop := ∃ es, Rd H a (dO a es) ∧ RpD K H kvs es ∧ (kvs.map fun p => nkOf p.1).Nodup ∧ (a == sysModules) = false
theorem DN.at (I : Inv X pins σ H s) {a : Addr} {kvs : List (D × D)} (h : DN X.K H a kvs) : ∃ xs, TR X.K H kvs xs ∧ s.heap.DictOfH (nestedKind X.prog X.w) a xs ∧ (a == sysModules) = false := by
  obtain ⟨es, e, l, nd, sm⟩ := h
  obtain ⟨xs, tr, rfl⟩ := l.tr X.prog X.w
  obtain ⟨⟨o, ep, h1, h2, h3⟩, _⟩ := e.ok I.hok
  refine ⟨xs, tr, ⟨o, _, ep, h1, h2, h3, by simp, ?_, tr.keys nd⟩, sm⟩
  intro x hx
  have : ∀ (kvs : List (D × D)) (xs : List (NestedKey × Addr × Value)), TR X.K H kvs xs → ∀ x ∈ xs, (nestedKind X.prog X.w).is s.heap x.1 x.2.1 := by
    intro kvs xs t
    unfold TR at t
    induction t with
    | nil => intro x hx; cases hx
    | cons q t ih =>
      intro x hx
      rcases List.mem_cons.mp hx with rfl | hx
      · exact ⟨nested_of I q.2.1 q.2.2.2.1 rfl, q.2.2.1⟩
      · exact ih x hx
  exact this kvs xs tr x hx
/-! ### expressions -/
variable {o i e f value : Expr} {pos pos' tpos apos cpos : Pos} {td ty tv tx : TE}
end
end DL
set_option Elab.async false
set_option linter.all false
set_option maxRecDepth 100000
set_option maxHeartbeats 1000000
/-! DL31: dicts over data. -/
namespace DL
open PySem PySem.Spec PyProof.Rows L2
theorem keyB_2 (a b : Int) : keyB (.tuple [.int a, .int b]) = true := rfl
theorem keyB_3 (a b c : Int) : keyB (.tuple [.int a, .int b, .int c]) = true := rfl
theorem keyB_4 (a b c d : Int) : keyB (.tuple [.int a, .int b, .int c, .int d]) = true := rfl
def dictAt (E : Env) (i : Nat) : Option (List (D × D)) := match E[i]? with
  | some (.dt kvs) => some kvs
  | some (.d (.dict kvs)) => some kvs
  | _ => none
def tupKeys (kvs : List (D × D)) : Bool := kvs.all fun p => match p.1 with
  | .tuple _ => true
  | _ => false
def optQ {α : Type} (o : Option α) (Q : α → Prop) : Prop := match o with
  | some d => Q d
  | none => False
section
variable {K : PySem.W.Frag} {G : Gh} {H : Hp} {E : Env} {σ : St} {ex : List Addr}
theorem Rd.pext {H' : Hp} (p : PExt H H') {a : Addr} {u : HO} (h : Rd H a u) : Rd H' a u := by
  rcases h with h | ⟨o, h⟩
  · exact .inl (p _ _ h)
  · exact .inr ⟨o, p _ _ h⟩
end
section
variable {X : Cx} {G : Gh} {a b c e f : Expr} {es : List Expr} {pos pos' p0 apos cpos : Pos} {x : Str} {tk tv tx ta : TD}
/-- d[k], d a name -/
def tDGetV (i : Nat) (tk : TD) : TD := fun E Q => match dictAt E i with
  | some _ => tk E fun k E1 => match dictAt E1 i with
    | some kvs => keyB k = true ∧ optQ (valN kvs k) fun d => Q d E1
    | none => False
  | none => False
/-- d[k], d data -/
def tDGetD (ta tk : TD) : TD := fun E Q => ta E fun x E1 => tk E1 fun k E2 => match x with
  | .dict kvs => keyB k = true ∧ optQ (valN kvs k) fun d => Q d E2
  | _ => False
/-- d.get(k, x), d a name -/
def tDGet2V (i : Nat) (tk tx : TD) : TD := fun E Q => match dictAt E i with
  | some kvs0 => tupKeys kvs0 = true ∧ tk E fun k E1 => tx E1 fun z E2 => match dictAt E2 i with
    | some kvs => keyB k = true ∧ tupKeys kvs = true ∧ Q ((valN kvs k).getD z) E2
    | none => False
  | none => False
/-- k in d, d a name of a dict of one's own -/
def tInN (tk : TD) (i : Nat) : TTd := fun E Q => tk E fun k E1 => match E1[i]? with
  | some (.dt kvs) => keyB k = true ∧ Q (valN kvs k).isSome E1
  | _ => False
def tNotInN (tk : TD) (i : Nat) : TTd := fun E Q => tk E fun k E1 => match E1[i]? with
  | some (.dt kvs) => keyB k = true ∧ Q (!(valN kvs k).isSome) E1
  | _ => False
/-- d[k] = v -/
def sDPutV (i : Nat) (tk tv : TD) : TSd := fun DE E => tv E fun d E1 => match E1[i]? with
  | some (.dt _) => tk E1 fun k E2 => match E2[i]? with
    | some (.dt kvs) => keyB k = true ∧ kvs.length < sizeLine ∧ DE.nx (E2.set i (.dt (putN kvs k d)))
    | _ => False
  | _ => False
/-! ### new mutable things -/
abbrev TM := Env → (S → Env → Prop) → Prop
def liftM (K : PySem.W.Frag) (G : Gh) (t : TM) : TE := fun σ H Q => ∃ (E : Env) (QE : S → Env → Prop), RelE K G H E σ ∧ t E QE ∧
  ∀ s E' a H', QE s E' → Ext H H' → RelX K G [a] H' E' σ → G.H0 a = none → a ∉ G.addrs → RelM K H' s a → Q (.ref a) H'
structure EM (X : Cx) (G : Gh) (e : Expr) (t : TM) : Prop where
  pe : PE X e (liftM X.K G t)
def mDt : TM := fun E Q => Q (.dt []) E
def mDk : TM := fun E Q => Q (.dk []) E
def sSetM (i : Nat) (t : TM) : TSd := fun DE E => t E fun s E1 => DE.nx (E1.set i s)
theorem sd_setM {i : Nat} {t : TM} (hi : i ∉ G.slots) (hN : X.N.Nodup) (hx : X.N[i]? = some x) (hl : Loc X.env.scope x) (h : EM X G e t) (hs : swapsWith e (some (.Name x pos')) pos.line X.env = pure false := by rfl)
    (hf : X.fn x = true ∨ X.env.scope.names.lookup x = some .local := by first | exact .inl rfl | exact .inr rfl | assumption) : SD X G (.Assign [.Name x pos'] e pos) (sSetM i t) :=
  ⟨PS.weak (ps_set hN hx hl h.pe hs hf) fun F σ H ⟨E, DE, r, q, k1, k2, k3, k4⟩ => ⟨E, _, r, q, fun d E1 a H1 q1 x1 r1 h0 na p1 => k1 _ _ _ q1 x1 (r1.setM (by simp) hi h0 p1)⟩⟩
def pM (t : TM) (u : TPs) : TPs := fun E Q => t E fun s E1 => u E1 fun ss E2 => Q (s :: ss) E2
end
end DL
set_option Elab.async false
set_option linter.all false
set_option maxRecDepth 100000
set_option maxHeartbeats 1000000
/-! DL32: defs that may raise: raise X(), calls of such defs, try .. except X. -/
namespace DL
open PySem PySem.Spec PyProof.Rows L2
/-- X() -/
theorem pmk_own0 {X : Cx} {C : Addr} {bmB : List Value} {B newId initId : String} {x : Str} {p pos : Pos} (F : ExcBaseFacts B newId initId bmB) (q : PySem.W.excIn X.K C bmB newId = true) (gC : X.mg x = some (.ref C)) (kC : PySem.W.keepIn X.K (.ref C) = true) (r : Raises X (.ref C)) (hg : Gl X x)
    (hdb : (x == ("__debug__" : Str)) = false := by decide) : PMk X (.Call (.Name x p) [] [] pos) (fun _ H Q => Q (.ref C) none H) := by
  intro pins s σ H Q I h
  refine wpAny_Call_Name_kw (ld_glob I hg gC ?_ hdb)
  refine PySem.W.callWith_K0 I.kIn kC ?_
  show wpAny _ _ (call (.ref C) []) _ _ _
  obtain ⟨bm, N, nm, qn, bs, hdct, sn, sub, ab, col, dd, k0, k1, k2, k3, k5, mN, hC, hN, hni, T⟩ := exc_obj I.kIn q
  refine wpAny_call_exc_subT F T hC hN hni (fun h' e hm => ?_) (by show 0 ≤ sizeLine; exact Nat.zero_le _)
  exact mk_of I hm r h (I.hok.gone hm.new)
/-- an own class catches itself, and what stands below it -/
theorem exm_sub {K : PySem.W.Frag} {S T : Addr} {b : Bool} (h1 : PySem.W.subIn K (.ref T) (.type "BaseException") = some true) (h2 : PySem.W.isClsIn K T = true) (h3 : PySem.W.typeIn K (.ref T) = some (.type "type")) (h4 : PySem.W.subIn K (.ref S) (.ref T) = some b) : PySem.W.exmOne K (.ref S) (.ref T) = some b := by
  unfold PySem.W.exmOne
  rw [h1, if_pos (by rfl)]
  have e2 : ((PySem.W.clsIn K T).isSome && PySem.W.typeIn K (.ref T) == some (.type "type")) = true := by
    have h2' : (PySem.W.clsIn K T).isSome = true := h2
    rw [h2', h3] <;> rfl
  show (if ((PySem.W.clsIn K T).isSome && PySem.W.typeIn K (.ref T) == some (.type "type")) = true then PySem.W.subIn K (.ref S) (.ref T) else none) = some b
  rw [if_pos e2]
  exact h4
/-- a def's promise: what it gives, what it raises -/
abbrev SpX := List S → (D → List S → Prop) → (Value → List S → Prop) → Prop
def spLX (K : PySem.W.Frag) (sp : SpX) : Sp := fun vs H Q E => ∃ (ss : List S) (as : List Addr) (QD : D → List S → Prop) (QX : Value → List S → Prop), sp ss QD QX ∧ AR K H ss vs as ∧ as.Nodup ∧
  (∀ d outs v H', QD d outs → (∀ p o, H p = some o → p ∉ as → H' p = some o) → Paired (RelM K H') outs as → Rp K H' d v → Q v H') ∧
  ∀ cls outs H', QX cls outs → (∀ p o, H p = some o → p ∉ as → H' p = some o) → Paired (RelM K H') outs as → E cls none H'
/-- what is wished of an exception, over data -/
abbrev WDt := Value → Env → Prop
def Wish (K : PySem.W.Frag) (G : Gh) (WD : WDt) (W : WX) : Prop := ∀ cls E σ H, WD cls E → RelE K G H E σ → W cls none σ H
section
variable {X : Cx} {G : Gh} {e : Expr} {pos : Pos}
def sRaise (WD : WDt) (c : Value) : TSd := fun _ E => WD c E
theorem sd_raise {W : WX} {WD : WDt} {c : Value} (hc : X.calm = true) (tk : Takes X W) (hW : Wish X.K G WD W) (mk : PMk X e (fun _ H Q => Q c none H)) : SD X G (.Raise (some e) none pos) (sRaise WD c) :=
  ⟨PS.weak (ps_raise hc tk mk) fun F σ H ⟨E, DE, r, q, _⟩ => hW c E σ H q r⟩
theorem SDs.nox {st : List Stmt} {t : TSd} (h : SDs X.nox G st t) : SDs X G st t := ⟨PSs.nox h.pss⟩
theorem SD.nox {st : Stmt} {t : TSd} (h : SD X.nox G st t) : SDs X G [st] t := SDs.nox (sds_one h)
end
/-- THE RULE for a def that may raise -/
theorem fn_okX {P : Program} {w : World} {K : PySem.W.Frag} {mg : Str → Option Value} {base : Heap} {x qual : Str} {st : Stmt} {f : Addr} {fd : FuncData} {N ps : List Str} {k : Nat} {sp : SpX} {slots : List Nat} {tb : WDt → TSd}
    (F : Fun K x qual st f fd) (Sc : FnScope N ps (defScope st)) (shape : ∀ ss QD QX, sp ss QD QX → ss.length = ps.length ∧ mpos 0 ss = slots)
    (body : ∀ (cdv : Value) (A : Around) (outer : List PySem.Env) (s : Shared) (H : Hp) (E : XK), Room k (A.deeper (envOfC qual (defScope st) s.heap.objs.size f cdv)) → ∀ G : Gh, G.slots = slots → ∀ WD : WDt, Wish K G WD (fun cls d _ H' => E cls d H') →
      SDs (cxOf (L2.CX P w) P w K mg base N qual (defScope st) f cdv A outer s H E) G (defBody st) (tb WD))
    (read : ∀ ss QD QX, sp ss QD QX → tb (fun cls E' => finO slots E' (QX cls)) { nx := fun E' => finO slots E' (QD .none), rt := fun d E' => finO slots E' (QD d) } (ss ++ List.replicate (N.length - ps.length) .un)) :
    FnOk P w K mg base (L2.CX P w) (k + 1) f fd ps (spLX K sp) := by
  refine F.okX Sc (fun vs H Q E h => ?_) (fun cdv A outer s H vs Q E hr h => ?_)
  · obtain ⟨ss, as, QD, QX, h1, h2, _⟩ := h
    rw [← h2.length]; exact (shape ss QD QX h1).1
  · obtain ⟨ss, as, QD, QX, h1, h2, nd, h4, h5⟩ := h
    obtain ⟨hl, hm⟩ := shape ss QD QX h1
    have ml := h2.mlen 0
    have hG : (⟨H, (mpos 0 ss).zip as, fun _ => none, []⟩ : Gh).slots = slots := by show ((mpos 0 ss).zip as).map (·.1) = slots; rw [zip_fst ml, hm]
    have hA : (⟨H, (mpos 0 ss).zip as, fun _ => none, []⟩ : Gh).addrs = as := by show ((mpos 0 ss).zip as).map (·.2) ++ [] = as; rw [zip_snd ml, List.append_nil]
    have hW : Wish K ⟨H, (mpos 0 ss).zip as, fun _ => none, []⟩ (fun cls E' => finO slots E' (QX cls)) (fun cls d _ H' => E cls d H') := fun cls E' σ H' q r => by
      obtain ⟨outs, q1, p1⟩ := finO_rel r (as := as) (by rw [← hm]; exact ml) (by rw [← hm]; exact fun p hp => hp) q
      exact h5 cls outs H' q1 (fun p o e ne => r.keep p o e (by rw [hA]; exact ne)) p1
    refine ⟨_, (body cdv A outer s H E hr ⟨H, (mpos 0 ss).zip as, fun _ => none, []⟩ hG _ hW).pss, ?_⟩
    have hst : L2.start N vs = vs.map some ++ List.replicate (N.length - ps.length) none := by unfold L2.start; rw [← h2.length, hl]
    refine ⟨ss ++ List.replicate (N.length - ps.length) .un, { nx := fun E' => finO slots E' (QD .none), rt := fun d E' => finO slots E' (QD d) }, by rw [hst]; exact h2.start nd, read ss QD QX h1, fun E' σ' H' q x r => ?_, fun d E' v σ' H' q x r p => ?_, fun _ _ _ q => False.elim q, fun _ _ _ q => False.elim q⟩
    · obtain ⟨outs, q1, p1⟩ := finO_rel r (as := as) (by rw [← hm]; exact ml) (by rw [← hm]; exact fun p hp => hp) q
      exact h4 .none outs .non H' q1 (fun p o e ne => r.keep p o e (by rw [hA]; exact ne)) p1 .non
    · obtain ⟨outs, q1, p1⟩ := finO_rel r (as := as) (by rw [← hm]; exact ml) (by rw [← hm]; exact fun p hp => hp) q
      exact h4 d outs v H' q1 (fun p o e ne => r.keep p o e (by rw [hA]; exact ne)) p1 p
/-! ### a call of such a def -/
def tCallX (sp : SpX) (ta : TAd) (WD : WDt) : TD := fun E Q => ta E fun as E1 => match argS E1 as with
  | some ss => ndp (oixs as) = true ∧ sp ss (fun r outs => Q r (putO as outs E1)) (fun cls outs => WD cls (putO as outs E1))
  | none => False
section
variable {X : Cx} {G : Gh} {e : Expr} {es : List Expr} {pos p : Pos} {x : Str} {f : Addr} {fd : FuncData} {ps : List Str} {k : Nat} {sp : SpX} {ta : TAd}
theorem ed_callX {W : WX} {WD : WDt} (F : FnOk X.prog X.w X.K X.mg X.base (L2.CX X.prog X.w) k f fd ps (spLX X.K sp)) (tk : Takes X W) (hW : Wish X.K G WD W) (hr : Room k X.A) (hg : Gl X x) (hm : X.mg x = some (.ref f)) (hk : PySem.W.keepIn X.K (.ref f) = true) (hb : Binds X.K fd ps []) (ha : EA X G (e :: es) ta) (hdb : (x == ("__debug__" : Str)) = false := by decide)
    (hs : starEach (e :: es) X.env = (false, eval e X.env) :: starEach es X.env := by rfl) (hplain : (backTo pos (starEach es X.env)).any (·.1) = false := by rfl) : ED X G (.Call (.Name x p) (e :: es) [] pos) (tCallX sp ta WD) := by
  refine ⟨PE.weak (pe_callS (E := WE W) F hr hg hm hk hb (fun σ => passAt tk σ) ha.pa (hdb := hdb) (he := hs) (hpl := hplain)) fun σ H Q ⟨E0, QE, r, q, kk⟩ => ?_⟩
  refine ⟨E0, _, r, q, fun as E1 vs H1 q1 x1 r1 p1 => ?_⟩
  show spLX X.K sp vs H1 Q _
  split at q1
  · rename_i ss hs
    obtain ⟨nd, q1⟩ := q1
    obtain ⟨ad, ar, po⟩ := RelA.args r1 p1 hs
    have adn := addrs_nodup r1 nd po
    have islst : ∀ a ∈ ad, Soft H1 a := fun a ha => by
      obtain ⟨i, hi, e1, s, e2, m⟩ := Paired.mem2 po ha
      obtain ⟨b, f1, f2⟩ := r1.mutAt e2 m
      rw [e1] at f1; cases f1; exact f2.soft
    refine ⟨ss, ad, _, _, q1, ar, adn, fun d outs v H' q2 keep pr pd => ?_, fun cls outs H' q2 keep pr => ?_⟩
    · exact kk d _ v H' q2 (x1.trans (Ext.ofSoft keep islst)) (RelX.puts nd r1 keep islst pr po) pd
    · exact hW _ _ _ _ q2 (RelX.puts nd r1 keep islst pr po)
  · exact q1.elim
end
/-! ### try .. except X -/
section
variable {X : Cx} {G : Gh} {x : Str} {c : Value} {body suite : List Stmt} {b₀ : Stmt} {np pos pos' : Pos}
/-- m tells whether a class is caught -/
def sTry (m : Value → Option Bool) (Wo : WDt) (tb : WDt → TSd) (ts : TSd) : TSd := fun DE E => tb (fun cls E1 => match m cls with
  | some true => ts DE E1
  | some false => Wo cls E1
  | none => False) DE E
theorem RelX.mark {K : PySem.W.Frag} {H : Hp} {E : Env} {σ : St} (r : RelE K G H E σ) : RelE K { G with X0 := H } H E σ := by
  obtain ⟨l, k, pn, dm, x0, A, h1, h2, h3⟩ := r
  exact ⟨l, k, pn, dm, Ext.refl _, A, h1, h2, h3⟩
theorem RelX.unmark {K : PySem.W.Frag} {H0 H H1 : Hp} {E E0 : Env} {σ σ0 : St} (r0 : RelE K G H0 E0 σ0) (r : RelE K { G with X0 := H0 } H E σ) : RelE K G H E σ := by
  obtain ⟨l, k, pn, dm, x0, A, h1, h2, h3⟩ := r
  exact ⟨l, k, pn, dm, r0.ext.trans x0, A, h1, h2, h3⟩
theorem sd_try {m : Value → Option Bool} {Wo : WDt} {Wout : WX} {tb : WDt → TSd} {ts : TSd} (hm : ∀ cls b, m cls = some b → PySem.W.exmOne X.K cls c = some b) (hWo : Wish X.K G Wo Wout) (hs : X.stack = X.env :: X.outer) (hf : X.env.frame = some X.env.locals) (hc : Names X x c) (tk : Takes X Wout)
    (hb : ∀ (W : WX) (pn : List (Addr × Obj)) (xe : Value → Shared → Prop), Takes (X.tr pn xe) W → PassesOwn (model X.prog X.w) X.A X.env xe → ∀ G' : Gh, G'.slots = G.slots → ∀ WD : WDt, Wish X.K G' WD W → SDs (X.tr pn xe) G' body (tb WD))
    (hsu : ∀ (a : Addr) (oe : Obj) (pn : List (Addr × Obj)), SDs (X.suite a ((a, oe) :: pn)) G (b₀ :: suite) ts) :
    SD X G (.Try body [.ExceptHandler (some (.Name x np)) none (b₀ :: suite) pos'] [] [] pos) (sTry m Wo tb ts) := by
  let tB : WX → TS := fun W D σ H => ∃ (G' : Gh) (WD : WDt), G'.slots = G.slots ∧ Wish X.K G' WD W ∧ liftS X.K G' (tb WD) D σ H
  have hb' : ∀ (W : WX) (pn : List (Addr × Obj)) (xe : Value → Shared → Prop), Takes (X.tr pn xe) W → PassesOwn (model X.prog X.w) X.A X.env xe → PSs (X.tr pn xe) body (tB W) := fun W pn xe t p =>
    ⟨fun pins s σ H F I ⟨G', WD, hg, hw, q⟩ => (hb W pn xe t p G' hg WD hw).pss.run pins s σ H F I q⟩
  refine ⟨PS.weak (ps_try_only hs hf hc tk hb' (ts := fun _ _ _ => liftS X.K G ts) fun a oe cls d pn _ _ => (hsu a oe pn).pss) fun F σ H ⟨E, DE, r, q, k1, k2, k3, k4⟩ => ?_⟩
  refine ⟨{ G with X0 := H }, _, rfl, fun cls E1 σ1 H1 q1 r1 => ?_, E, DE, r.mark, q, fun E' σ' H' z x r' => k1 E' σ' H' z x (RelX.unmark (H1 := H) r r'), fun d E' v σ' H' z x r' p => k2 d E' v σ' H' z x (RelX.unmark (H1 := H) r r') p, fun E' σ' H' z x r' => k3 E' σ' H' z x (RelX.unmark (H1 := H) r r'), fun E' σ' H' z x r' => k4 E' σ' H' z x (RelX.unmark (H1 := H) r r')⟩
  have ext : Ext H H1 := r1.ext
  have r2 : RelE X.K G H1 E1 σ1 := RelX.unmark (H1 := H) r r1
  show wOnly X.K c _ Wout F cls none σ1 H1
  cases e : m cls with
  | none => rw [e] at q1; exact q1.elim
  | some b =>
    rw [e] at q1
    refine ⟨b, hm cls b e, fun hb a ha => ?_, fun hb => ?_⟩
    · subst hb
      exact ⟨E1, DE, r2, q1, fun E' σ' H' z x r => k1 E' σ' H' z (ext.trans x) r, fun d E' v σ' H' z x r => k2 d E' v σ' H' z (ext.trans x) r, fun E' σ' H' z x r => k3 E' σ' H' z (ext.trans x) r, fun E' σ' H' z x r => k4 E' σ' H' z (ext.trans x) r⟩
    · subst hb
      exact hWo _ _ _ _ q1 r2
end
end DL
set_option Elab.async false
set_option linter.all false
set_option maxRecDepth 100000
set_option maxHeartbeats 1000000
/-! DL33: a call without arguments. -/
namespace DL
open PySem PySem.Spec PyProof.Rows L2
def tCall0D (sp : SpD) : TD := fun E Q => sp [] fun r _ => Q r E
end DL
set_option Elab.async false
set_option linter.all false
set_option maxRecDepth 100000
set_option maxHeartbeats 1000000
/-! DL34: a call whose last argument is a new mutable thing; list(range(n)). -/
namespace DL
open PySem PySem.Spec PyProof.Rows L2
abbrev TAm := Env → (List D → S → Env → Prop) → Prop
def amM (t : TM) : TAm := fun E Q => t E fun s E1 => s.isMut = true ∧ Q [] s E1
def amV (t : TD) (u : TAm) : TAm := fun E Q => t E fun d E1 => u E1 fun ds s E2 => Q (d :: ds) s E2
def tCallM (sp : SpD) (ta : TAm) : TD := fun E Q => ta E fun ds s E1 => sp (ds.map S.d ++ [s]) fun r _ => Q r E1
theorem AR.data {K : PySem.W.Frag} {H : Hp} {s : S} {a : Addr} (hm : s.isMut = true) (h : RelM K H s a) : ∀ {ds : List D} {vs : List V}, RpL K H ds vs → AR K H (ds.map S.d ++ [s]) (vs ++ [.ref a]) [a]
  | _, _, .nil => .o hm h .nil
  | _, _, .cons p t => .d p (AR.data hm h t)
section
variable {X : Cx} {G : Gh} {e : Expr} {es : List Expr} {pos p p1 p2 : Pos} {x : Str} {f : Addr} {fd : FuncData} {ps : List Str} {k : Nat} {sp : SpD} {ta : TAm}
/-- list(range(n)) -/
def tListRg (ta : TD) : TLd := fun E Q => ta E fun d E1 => match d with
  | .int n => (0 ≤ n ∧ n ≤ 10000000) ∧ Q (rangeD 0 n.toNat) E1
  | _ => False
end
end DL
set_option Elab.async false
set_option linter.all false
set_option maxRecDepth 100000
set_option maxHeartbeats 1000000
/-! DL35: a, b = a list -/
namespace DL
open PySem PySem.Spec PyProof.Rows L2
section
variable {X : Cx} {G : Gh} {e : Expr} {es : List Expr} {pos : Pos}
def gLstD (n : Nat) (u : TGsd) : TGd := fun d E Q => match d with
  | .list ds => ds.length = n ∧ u ds E Q
  | _ => False
end
end DL
set_option Elab.async false
set_option linter.all false
set_option maxRecDepth 100000
set_option maxHeartbeats 1000000
/-! DL36: dicts as data, walked: keys, values, pairs; list(d), list(d.values()). -/
namespace DL
open PySem PySem.Spec PyProof.Rows L2
/-- what stands in the entries -/
abbrev KVs (ps : List (V × V)) (es : List DictEntry) : Prop := Paired (fun p e => RelV p.1 e.key ∧ RelV p.2 e.val) ps es
theorem RpD.kvs {K : PySem.W.Frag} {H : Hp} : ∀ {kvs : List (D × D)} {es : List DictEntry}, RpD K H kvs es → ∃ ps, KVs ps es ∧ RpL K H (kvs.map (·.1)) (ps.map (·.1)) ∧ RpL K H (kvs.map (·.2)) (ps.map (·.2))
  | _, _, .nil => ⟨[], .nil, .nil, .nil⟩
  | _, _, .cons (b := b) (v := v) t n1 n2 n3 e1 h g r l => by
    obtain ⟨ps, h1, h2, h3⟩ := RpD.kvs l
    exact ⟨(.ref b, v) :: ps, .cons ⟨by rw [e1]; rfl, r⟩ h1, .cons h h2, .cons g h3⟩
/-! over data -/
section
variable {K : PySem.W.Frag} {H : Hp}
def pairD (p : D × D) : D := .tuple [p.1, p.2]
variable {d : Addr} {o : Obj} {es : List DictEntry} {ps : List (V × V)} {kvs : List (D × D)}
end
section
variable {X : Cx} {G : Gh} {tg e : Expr} {ta : TD} {apos cpos : Pos}
def iDk (ta : TD) : TDs := fun E Q => ta E fun x E1 => match x with
  | .dict kvs => tupKeys kvs = true ∧ Q (kvs.map (·.1)) E1
  | _ => False
def iDv (ta : TD) : TDs := fun E Q => ta E fun x E1 => match x with
  | .dict kvs => tupKeys kvs = true ∧ Q (kvs.map (·.2)) E1
  | _ => False
def iDi (ta : TD) : TDs := fun E Q => ta E fun x E1 => match x with
  | .dict kvs => tupKeys kvs = true ∧ Q (kvs.map pairD) E1
  | _ => False
end
end DL
set_option Elab.async false
set_option linter.all false
set_option maxRecDepth 100000
set_option maxHeartbeats 1000000
/-! DL37: list(d), list(d.values()), if d, {k: v} of dicts with tuple keys; new mutable things frozen. -/
namespace DL
open PySem PySem.Spec PyProof.Rows L2
theorem RelX.putS {K : PySem.W.Frag} {G : Gh} {H : Hp} {E : Env} {σ : St} {a : Addr} {u u' : HO} (r : RelX K G [a] H E σ) (h0 : G.H0 a = none) (na : a ∉ G.addrs) (ha : H a = some u) (s1 : ∀ xs, u ≠ .tup xs) (s2 : ∀ o v, u ≠ .frz o v) : RelX K G [a] (upd H a u') E σ := by
  have x : Ext H (upd H a u') := Ext.putS ha s1 s2
  obtain ⟨l, k, pn, dm, x0, A, h1, h2, h3⟩ := r
  refine ⟨l, fun q w he ne => ?_, pn, fun q hq => ?_, x0.trans x, A, h1, h2, fun i s e => (h3 i s e).move x fun p hp => upd_ne (by rintro rfl; exact (h2 i p hp).2 (List.mem_singleton.mpr rfl))⟩
  · rw [upd_ne (by rintro rfl; rw [h0] at he; cases he)]; exact k q w he ne
  · rw [upd_ne (by rintro rfl; exact na hq)]; exact dm q hq
/-! ### if d -/
section
variable {X : Cx} {G : Gh} {e : Expr} {ta : TD} {p p1 p2 apos cpos pos : Pos}
def tTruDk (ta : TD) : TTd := fun E Q => ta E fun x E1 => match x with
  | .dict kvs => tupKeys kvs = true ∧ kvs.length ≤ sizeLine ∧ Q (!kvs.isEmpty) E1
  | _ => False
/-! ### list(d), list(d.values()) -/
def tLDk (ta : TD) : TLd := fun E Q => ta E fun x E1 => match x with
  | .dict kvs => tupKeys kvs = true ∧ kvs.length ≤ sizeLine ∧ Q (kvs.map (·.1)) E1
  | _ => False
def tLDv (ta : TD) : TLd := fun E Q => ta E fun x E1 => match x with
  | .dict kvs => tupKeys kvs = true ∧ kvs.length ≤ sizeLine ∧ Q (kvs.map (·.2)) E1
  | _ => False
/-! ### new mutable things: one entry; frozen -/
def mDt1 (tk tv : TD) : TM := fun E Q => tk E fun k E1 => tv E1 fun d E2 => keyB k = true ∧ Q (.dt [(k, d)]) E2
def tFzM (t : TM) : TD := fun E Q => t E fun s E1 => match s with
  | .dt kvs => Q (.dict kvs) E1
  | .ol xs => Q (.list xs) E1
  | _ => False
theorem EM.ed {t : TM} (h : EM X G e t) : ED X G e (tFzM t) :=
  ⟨PE.weak (PE.fzIf h.pe) fun σ H Q ⟨E, QE, r, q, k⟩ => ⟨E, _, r, q, fun s E1 a H1 q1 x1 r1 h0 na m => by
    split at q1
    · rename_i kvs
      obtain ⟨es, e2, l, nd, sm⟩ := m
      refine .inr ⟨a, _, rfl, e2, trivial, fun o => ?_⟩
      have x2 : Ext H1 (upd H1 a (.frz o (dO a es))) := Ext.putS e2 (fun _ z => by cases z) (fun _ _ z => by cases z)
      exact k _ _ _ _ q1 (x1.trans x2) (r1.freezeS h0 na e2 (fun _ z => by cases z) (fun _ _ z => by cases z)) (.dct upd_same (l.ext x2) nd sm)
    · rename_i xs
      obtain ⟨vs, e2, l⟩ := m
      refine .inr ⟨a, _, rfl, e2, trivial, fun o => ?_⟩
      exact k _ _ _ _ q1 (x1.trans (Ext.put e2)) (r1.freeze h0 na e2) (.lst (.of upd_same) (l.ext (Ext.put e2)))
    · exact q1.elim⟩⟩
end
end DL
set_option Elab.async false
set_option linter.all false
set_option maxRecDepth 100000
set_option maxHeartbeats 1000000
/-! DL38: objects: where they stand in the environment, and how they change. -/
namespace DL
open PySem PySem.Spec PyProof.Rows L2
def obsAt (E : Env) : List Nat → Option (List S)
  | [] => some []
  | j :: js => match E[j]?, obsAt E js with
    | some (.ob a C fs), some os => some (.ob a C fs :: os)
    | _, _ => none
def putOb : List Nat → List S → Env → Env
  | j :: js, s :: os, E => putOb js os (E.set j s)
  | _, _, E => E
theorem RelOb.soft {K : PySem.W.Frag} {H : Hp} {a C : Addr} {fs : List (Str × FS)} {fp : List Addr} (h : RelOb K H a C fs fp) : ∀ p ∈ fp, Soft H p := RelS.indom (s := .ob a C fs) (o := none) h
end DL
set_option Elab.async false
set_option linter.all false
set_option maxRecDepth 100000
set_option maxHeartbeats 1000000
/-! DL39: defs and methods over objects: promises, calls. -/
namespace DL
open PySem PySem.Spec PyProof.Rows L2
/-- a promise: arguments (data), objects; what it gives, what it raises -/
abbrev SpO := List D → List S → (D → List S → Prop) → (Value → List S → Prop) → Prop
/-! ### calls -/
/-- the objects that go along: js says where they stand -/
def tObs (sp : SpO) (ds : List D) (E : Env) (Q : D → Env → Prop) (WD : WDt) : Prop := ∃ js os, js.Nodup ∧ obsAt E js = some os ∧
  sp ds os (fun d os' => os'.length = js.length ∧ Q d (putOb js os' E)) (fun cls os' => os'.length = js.length ∧ WD cls (putOb js os' E))
end DL
set_option Elab.async false
set_option linter.all false
set_option maxRecDepth 100000
set_option maxHeartbeats 1000000
/-! DL40: objects: fields read and written, their lists, methods. -/
namespace DL
open PySem PySem.Spec PyProof.Rows L2
/-- whose name it is -/
def unH : D → Option Addr
  | .dict [(.none, .int (.ofNat a))] => some a
  | _ => none
theorem unH_hdl (a : Addr) : unH (hdl a) = some a := rfl
def obGet (a : Addr) : Env → Option (Addr × List (Str × FS))
  | [] => none
  | .ob b C fs :: E => if b = a then some (C, fs) else obGet a E
  | _ :: E => obGet a E
def setOb (a : Addr) (fs : List (Str × FS)) : Env → Env
  | [] => []
  | .ob b C gs :: E => if b = a then .ob b C fs :: E else .ob b C gs :: setOb a fs E
  | s :: E => s :: setOb a fs E
/-- the fields of the object that d names, of the class at C -/
def obD (C : Addr) (d : D) (E : Env) : Option (List (Str × FS)) := match unH d with
  | some a => match obGet a E with
    | some (C', fs) => if C' = C then some fs else none
    | none => none
  | none => none
def putOD (d : D) (fs : List (Str × FS)) (E : Env) : Env := match unH d with
  | some a => setOb a fs E
  | none => E
def putFS (f : Str) (x : FS) : List (Str × FS) → List (Str × FS)
  | [] => [(f, x)]
  | (g, y) :: r => if g = f then (g, x) :: r else (g, y) :: putFS f x r
section
variable {K : PySem.W.Frag} {H H' : Hp}
theorem lk_cons {α : Type} {f g : Str} {x : α} {r : List (Str × α)} : ((g, x) :: r).lookup f = if f = g then some x else r.lookup f := by
  by_cases h : f = g
  · subst h; simp [List.lookup]
  · have hb : (f == g) = false := beq_eq_false_iff_ne.mpr h
    rw [if_neg h]; simp only [List.lookup, hb]
theorem FsR.getD {f : Str} {x : D} : ∀ {fs : List (Str × FS)} {vs : List (Str × V)} {ls : List Addr}, FsR K H fs vs ls → fs.lookup f = some (.d x) → ∃ v, vs.lookup f = some v ∧ Rp K H x v
  | _, _, _, .nil, h => by cases h
  | _, _, _, FsR.d r t, h => by
    rw [lk_cons] at h ⊢
    split at h
    · rename_i e; cases h; rw [if_pos e]; exact ⟨_, rfl, r⟩
    · rename_i e; rw [if_neg e]; exact FsR.getD t h
  | _, _, _, FsR.l r q t, h => by
    rw [lk_cons] at h ⊢
    split at h
    · cases h
    · rename_i e; rw [if_neg e]; exact FsR.getD t h
theorem FsR.putL {f : Str} {xs : List D} {l : Addr} {us : List V} (hl : H l = some (.lst us)) (p : RpL K H xs us) : ∀ {fs : List (Str × FS)} {vs : List (Str × V)} {ls : List Addr}, FsR K H fs vs ls → ls.Nodup → l ∉ ls → ∃ ls', FsR K H (putFS f (.l xs) fs) (putF f (.ref l) vs) ls' ∧ ls'.Nodup ∧ ∀ b ∈ ls', b ∈ ls ∨ b = l
  | _, _, _, .nil, _, _ => ⟨[l], FsR.l hl p .nil, by simp, by simp⟩
  | _, _, _, FsR.d (f := g) r t, nd, ni => by
    unfold putFS putF
    by_cases e : g = f
    · rw [if_pos e, if_pos e]; exact ⟨_, FsR.l hl p t, List.nodup_cons.mpr ⟨ni, nd⟩, fun b hb => (List.mem_cons.mp hb).elim .inr .inl⟩
    · rw [if_neg e, if_neg e]
      obtain ⟨ls', h1, h2, h3⟩ := FsR.putL (f := f) hl p t nd ni
      exact ⟨_, FsR.d r h1, h2, h3⟩
  | _, _, _, FsR.l (f := g) (a := b0) r q t, nd, ni => by
    obtain ⟨n1, n2⟩ := List.nodup_cons.mp nd
    have ni2 : l ∉ _ := fun z => ni (List.mem_cons_of_mem _ z)
    unfold putFS putF
    by_cases e : g = f
    · rw [if_pos e, if_pos e]; exact ⟨_, FsR.l hl p t, List.nodup_cons.mpr ⟨ni2, n2⟩, fun b hb => (List.mem_cons.mp hb).elim .inr fun z => .inl (List.mem_cons_of_mem _ z)⟩
    · rw [if_neg e, if_neg e]
      obtain ⟨ls', h1, h2, h3⟩ := FsR.putL (f := f) hl p t n2 ni2
      refine ⟨_, FsR.l r q h1, List.nodup_cons.mpr ⟨fun z => ?_, h2⟩, fun b hb => ?_⟩
      · rcases h3 _ z with w | w
        · exact n1 w
        · exact ni (by rw [w]; exact List.mem_cons_self ..)
      · rcases List.mem_cons.mp hb with w | w
        · exact .inl (by rw [w]; exact List.mem_cons_self ..)
        · exact (h3 b w).elim (fun z => .inl (List.mem_cons_of_mem _ z)) .inr
end
/-! ### rules -/
def fldD (C : Addr) (f : Str) (d : D) (E : Env) : Option D := match obD C d E with
  | some fs => match fs.lookup f with
    | some (.d x) => some x
    | _ => none
  | none => none
def fldL (C : Addr) (f : Str) (d : D) (E : Env) : Option (List D) := match obD C d E with
  | some fs => match fs.lookup f with
    | some (.l x) => some x
    | _ => none
  | none => none
/-- x.f, data -/
def tFldD (C : Addr) (f : Str) (i : Nat) : TD := fun E Q => match E[i]? with
  | some (.d d) => match fldD C f d E with
    | some x => Q x E
    | none => False
  | _ => False
/-- x.f, a list of its own, read now -/
def tFldR (C : Addr) (f : Str) (i : Nat) : TD := fun E Q => match E[i]? with
  | some (.d d) => match fldL C f d E with
    | some xs => Q (.list xs) E
    | none => False
  | _ => False
/-- x.f = e -/
def sFldD (C : Addr) (f : Str) (i : Nat) (tv : TD) : TSd := fun DE E => tv E fun x E1 => match E1[i]? with
  | some (.d d) => match obD C d E1 with
    | some fs => fs.length < 1000 ∧ DE.nx (putOD d (putFS f (.d x) fs) E1)
    | none => False
  | _ => False
/-- x.f = a new list -/
def sFldL (C : Addr) (f : Str) (i : Nat) (tv : TLd) : TSd := fun DE E => tv E fun xs E1 => match E1[i]? with
  | some (.d d) => match obD C d E1 with
    | some fs => fs.length < 1000 ∧ DE.nx (putOD d (putFS f (.l xs) fs) E1)
    | none => False
  | _ => False
/-- x.f.append((x.g, y)) -/
def tAppF (C : Addr) (f g : Str) (i k : Nat) : TD := fun E Q => match E[i]? with
  | some (.d d) => match obD C d E, fldL C f d E, fldD C g d E, E[k]? with
    | some fs, some xs, some x, some (.d y) => xs.length < sizeLine ∧ Q .none (putOD d (putFS f (.l (xs ++ [.tuple [x, y]])) fs) E)
    | _, _, _, _ => False
  | _ => False
/-- x.f.pop() -/
def tPopF (C : Addr) (f : Str) (i : Nat) : TD := fun E Q => match E[i]? with
  | some (.d d) => match obD C d E, fldL C f d E with
    | some fs, some xs => match xs.getLast? with
      | some y => Q y (putOD d (putFS f (.l xs.dropLast) fs) E)
      | none => False
    | _, _ => False
  | _ => False
/-- o.m(..) -/
def tMethO (C : Addr) (m : Str) (sp : SpO) (to : TD) (ta : TDs) (WD : WDt) : TD := fun E Q => to E fun d E1 => (match obD C d E1 with
  | some fs => fs.lookup m = none
  | none => False) ∧ ta E1 fun ds E2 => tObs sp (d :: ds) E2 Q WD
/-! ### methods -/
end DL
set_option Elab.async false
set_option linter.all false
set_option maxRecDepth 100000
set_option maxHeartbeats 1000000
/-! DL41: objects are made; a def with defaults; a comprehension over a field's list. -/
namespace DL
open PySem PySem.Spec PyProof.Rows L2
/-! ### a new object -/
/-! ### a comprehension over a list that stands in the heap and may change later -/
end DL
set_option Elab.async false
set_option linter.all false
set_option maxRecDepth 100000
set_option maxHeartbeats 1000000
/-! DL42: except X as e: got = word(e); a def that tells an exception's class by a text. -/
namespace DL
open PySem PySem.Spec PyProof.Rows L2
/-! ### isinstance of it -/
/-! ### try .. except X as e: got = word(e) -/
end DL
set_option Elab.async false
set_option linter.all false
set_option maxRecDepth 100000
/-! DL43: small things for defs over objects. -/
namespace DL
open PySem PySem.Spec PyProof.Rows L2
end DL
set_option Elab.async false
set_option linter.all false
set_option maxRecDepth 100000
set_option maxHeartbeats 3200000
/-! DL44: tuple * int, any int from 0 on. -/
namespace DL
open PySem PySem.Spec PyProof.Rows L2
end DL
set_option Elab.async false
set_option linter.all false
set_option maxRecDepth 100000
set_option maxHeartbeats 3200000
/-! DL45: len(o), str(o) by own __len__, __str__; f-strings. -/
namespace DL
open PySem PySem.Spec PyProof.Rows L2
section
variable {X : Cx} {C f : Addr} {fd : FuncData} {ps : List Str} {n : Nat} {sp : SpO} {spv : Sp} {pins : List (Addr × Obj)} {σ : St} {H : Hp} {s : Shared}
theorem sub_self (h : Room n X.A) : Sub X n X.A := ⟨h, rfl⟩
end
/-! ### f-strings -/
end DL
set_option Elab.async false
set_option linter.all false
set_option maxRecDepth 100000
set_option maxHeartbeats 3200000
/-! DL46: own dicts with int and text keys: d[k]. -/
namespace DL
open PySem PySem.Spec PyProof.Rows L2
def keyOf : D → Option Key
  | .int i => some (.inl i)
  | .str x => some (.inr x)
  | _ => none
def valK (kvs : List (Key × D)) (k : Key) : Option D := (kvs.find? fun kv => decide (kv.1 = k)).map (·.2)
theorem valK_rel {K : PySem.W.Frag} {H : Hp} {k : Key} : ∀ {kvs : List (Key × D)} {us : List (Key × V)} {d : D}, us.map (·.1) = kvs.map (·.1) → RpL K H (kvs.map (·.2)) (us.map (·.2)) → valK kvs k = some d → ∃ v, valV us k = some v ∧ Rp K H d v
  | [], us, d, _, _, h => by simp [valK] at h
  | p :: kvs, [], d, h1, _, _ => by simp at h1
  | p :: kvs, u :: us, d, h1, h2, h3 => by
    simp only [List.map_cons, List.cons.injEq] at h1
    simp only [List.map_cons] at h2
    cases h2 with
    | cons r rs =>
      by_cases e : p.1 = k
      · have : valK (p :: kvs) k = some p.2 := by simp [valK, List.find?_cons, e]
        rw [this] at h3
        cases h3
        exact ⟨u.2, valV_pos (h1.1.trans e), r⟩
      · have : valK (p :: kvs) k = valK kvs k := by simp [valK, List.find?_cons, e]
        rw [this] at h3
        obtain ⟨v, a, b⟩ := valK_rel h1.2 rs h3
        exact ⟨v, (valV_neg (by rw [h1.1]; exact e)).trans a, b⟩
theorem keyOf_rel {K : PySem.W.Frag} {H : Hp} {d : D} {v : V} {k : Key} (h : keyOf d = some k) (r : Rp K H d v) : v = kV k := by
  cases d with
  | int i => cases h; cases r; rfl
  | str x => cases h; cases r; rfl
  | _ => cases h
def tDkGet (i : Nat) (tk : TD) : TD := fun E Q => match E[i]? with
  | some (.dk _) => tk E fun k E1 => match E1[i]?, keyOf k with
    | some (.dk kvs), some ky => optQ (valK kvs ky) fun d => Q d E1
    | _, _ => False
  | _ => False
section
variable {X : Cx} {G : Gh} {e : Expr} {pos p0 : Pos} {x : Str} {tk : TD}
theorem ed_dkGet (i : Nat) (hu : X.A.units + 65 < cLine) (hk : ED X G e tk) (hN : X.N[i]? = some x := by rfl) (hv : Vis X.env.scope x := by first | exact Or.inl rfl | exact Or.inr (Or.inl rfl) | exact Or.inr (Or.inr rfl)) (hd : (x == ("__debug__" : Str)) = false := by decide)
    (hcd : (x == ("__classdict__" : Str)) = false := by decide) (hs : NoSl e := by intro _ _; rfl) : ED X G (.Subscript (.Name x p0) e pos) (tDkGet i tk) :=
  ⟨PE.weak (pe_dget (by omega) (pe_var hN hv hd hcd) hk.pe hs) fun σ H Q ⟨E, QE, r, q, k⟩ => by
    unfold tDkGet at q
    split at q
    · rename_i kvs0 he0
      obtain ⟨p, e1, e2⟩ := r.mutAt he0 rfl
      refine ⟨_, e1, E, _, r, q, fun kd E1 v H1 q1 x1 r1 p1 => ?_⟩
      split at q1
      · rename_i kvs ky he hky
        obtain ⟨p', f1, us, f2, f3, f4⟩ := r1.mutAt he rfl
        rw [e1] at f1; cases f1
        cases hv : valK kvs ky with
        | none => rw [hv] at q1; exact q1.elim
        | some d =>
          rw [hv] at q1
          obtain ⟨v', g1, g2⟩ := valK_rel f3 f4 hv
          rw [keyOf_rel hky p1]
          exact ⟨p, v', rfl, by rw [← g1]; exact .k f2, k _ _ _ _ q1 x1 r1 g2⟩
      · exact q1.elim
    · exact q.elim⟩
end
end DL
set_option Elab.async false
set_option linter.all false
set_option maxRecDepth 100000
set_option maxHeartbeats 3200000
/-! DL47: {k: v, ..}: a new dict with int and text keys. -/
namespace DL
open PySem PySem.Spec PyProof.Rows L2
def putD2 (kvs : List (Key × D)) (k : Key) (v : D) : List (Key × D) :=
  if (kvs.any fun kv => decide (kv.1 = k)) = true then kvs.map (fun kv => if kv.1 = k then (kv.1, v) else kv) else kvs ++ [(k, v)]
def mergeD (kvs more : List (Key × D)) : List (Key × D) := more.foldl (fun acc kv => putD2 acc kv.1 kv.2) kvs
/-- keys alike, values stand for data -/
def KR (K : PySem.W.Frag) (H : Hp) (kvs : List (Key × D)) (us : List (Key × V)) : Prop := us.map (·.1) = kvs.map (·.1) ∧ RpL K H (kvs.map (·.2)) (us.map (·.2))
theorem KR.nil {K : PySem.W.Frag} {H : Hp} : KR K H [] [] := ⟨rfl, .nil⟩
theorem KR.cons {K : PySem.W.Frag} {H : Hp} {k : Key} {d : D} {v : V} {kvs : List (Key × D)} {us : List (Key × V)} (h : Rp K H d v) (r : KR K H kvs us) : KR K H ((k, d) :: kvs) ((k, v) :: us) := ⟨by simp [r.1], .cons h r.2⟩
theorem KR.ext {K : PySem.W.Frag} {H H' : Hp} {kvs : List (Key × D)} {us : List (Key × V)} (r : KR K H kvs us) (x : Ext H H') : KR K H' kvs us := ⟨r.1, r.2.ext x⟩
theorem KR.any {K : PySem.W.Frag} {H : Hp} {kvs : List (Key × D)} {us : List (Key × V)} (r : KR K H kvs us) (k : Key) : (us.any fun kv => decide (kv.1 = k)) = kvs.any fun kv => decide (kv.1 = k) := by
  have e1 : (us.any fun kv => decide (kv.1 = k)) = (us.map (·.1)).any fun j => decide (j = k) := by rw [List.any_map]; rfl
  have e2 : (kvs.any fun kv => decide (kv.1 = k)) = (kvs.map (·.1)).any fun j => decide (j = k) := by rw [List.any_map]; rfl
  rw [e1, e2, r.1]
theorem KR.mapPut {K : PySem.W.Frag} {H : Hp} {k : Key} {d : D} {v : V} (h : Rp K H d v) : ∀ {kvs : List (Key × D)} {us : List (Key × V)}, KR K H kvs us → KR K H (kvs.map fun kv => if kv.1 = k then (kv.1, d) else kv) (us.map fun kv => if kv.1 = k then (kv.1, v) else kv)
  | [], [], _ => .nil
  | [], u :: us, r => by have := r.1; simp at this
  | p :: kvs, [], r => by have := r.1; simp at this
  | (a, x) :: kvs, (b, y) :: us, r => by
    obtain ⟨r1, r2⟩ := r
    simp only [List.map_cons, List.cons.injEq] at r1
    obtain ⟨e, r1⟩ := r1
    have e : b = a := e
    subst e
    cases r2 with
    | cons q qs =>
      have ih := KR.mapPut (k := k) h (kvs := kvs) (us := us) ⟨r1, qs⟩
      simp only [List.map_cons]
      split
      · exact .cons h ih
      · exact .cons q ih
theorem KR.put {K : PySem.W.Frag} {H : Hp} {k : Key} {d : D} {v : V} {kvs : List (Key × D)} {us : List (Key × V)} (r : KR K H kvs us) (h : Rp K H d v) : KR K H (putD2 kvs k d) (putK us k v) := by
  unfold putD2 putK
  rw [r.any k]
  split
  · exact r.mapPut h
  · exact ⟨by simp [r.1], by rw [List.map_append, List.map_append]; exact r.2.append (.cons h .nil)⟩
theorem KR.merge {K : PySem.W.Frag} {H : Hp} : ∀ {ms : List (Key × D)} {ns : List (Key × V)} {kvs : List (Key × D)} {us : List (Key × V)}, KR K H ms ns → KR K H kvs us → KR K H (mergeD kvs ms) (mergeK us ns)
  | [], [], _, _, _, r => r
  | [], u :: us, _, _, r, _ => by have := r.1; simp at this
  | p :: kvs, [], _, _, r, _ => by have := r.1; simp at this
  | (a, x) :: ms, (b, y) :: ns, kvs, us, m, r => by
    obtain ⟨m1, m2⟩ := m
    simp only [List.map_cons, List.cons.injEq] at m1
    obtain ⟨e, m1⟩ := m1
    have e : b = a := e
    subst e
    cases m2 with
    | cons q qs => exact KR.merge (ms := ms) (ns := ns) ⟨m1, qs⟩ (r.put q)
end DL
set_option Elab.async false
set_option linter.all false
set_option maxRecDepth 100000
set_option maxHeartbeats 3200000
/-! DL48: {k: v, ..} as a new dict of one's own; d.update({..}); d[k] = v; d.get(k, x). -/
namespace DL
open PySem PySem.Spec PyProof.Rows L2
abbrev TDP := Env → (List (D × D) → Env → Prop) → Prop
def dpNil : TDP := fun E Q => Q [] E
def dpCons (tk tv : TD) (u : TDP) : TDP := fun E Q => tk E fun k E1 => tv E1 fun d E2 => u E2 fun r E3 => Q ((k, d) :: r) E3
/-- pairs of values for pairs of data -/
inductive PRp (K : PySem.W.Frag) (H : Hp) : List (D × D) → List (V × V) → Prop
  | nil : PRp K H [] []
  | cons {k d : D} {x y : V} {r : List (D × D)} {ps : List (V × V)} : Rp K H k x → Rp K H d y → PRp K H r ps → PRp K H ((k, d) :: r) ((x, y) :: ps)
structure EPP (X : Cx) (S : List Nat) (pos : Pos) (keys : List (Option Expr)) (values : List Expr) (t : TDP) : Prop where
  of : ∃ trs, PPs X pos keys values trs ∧ ∀ G : Gh, G.slots = S → ∀ σ H Q, (∃ (E : Env) (QE : List (D × D) → Env → Prop), RelE X.K G H E σ ∧ t E QE ∧ ∀ kds E' ps H', QE kds E' → Ext H H' → RelE X.K G H' E' σ → PRp X.K H' kds ps → Q ps H') → tPairs trs σ H Q
section
variable {X : Cx} {S : List Nat} {pos : Pos} {k v : Expr} {ks : List (Option Expr)} {vs : List Expr} {tk tv : TD} {u : TDP}
theorem epp_nil : EPP X S pos [] [] dpNil := ⟨[], pps_nil, fun G hG σ H Q ⟨E, QE, r, q, kk⟩ => kk _ _ _ _ q (Ext.refl _) r .nil⟩
theorem epp_cons (hk : ∀ G : Gh, G.slots = S → ED X G k tk) (hv : ∀ G : Gh, G.slots = S → ED X G v tv) (hr : EPP X S pos ks vs u) : EPP X S pos (some k :: ks) (v :: vs) (dpCons tk tv u) := by
  obtain ⟨trs, hp, ht⟩ := hr
  have pk : PE X k (fun σ H Q => ∃ G' : Gh, G'.slots = S ∧ liftE X.K G' tk σ H Q) := ⟨fun pins s σ H Q I ⟨G', hG, q⟩ => (hk G' hG).pe.run pins s σ H Q I q⟩
  have pv : PE X v (fun σ H Q => ∃ G' : Gh, G'.slots = S ∧ liftE X.K G' tv σ H Q) := ⟨fun pins s σ H Q I ⟨G', hG, q⟩ => (hv G' hG).pe.run pins s σ H Q I q⟩
  refine ⟨_, pps_cons pk pv hp, fun G hG σ H Q ⟨E, QE, r, q, kk⟩ => ?_⟩
  refine ⟨G, hG, E, _, r, q, fun kd E1 x H1 q1 x1 r1 p1 => ⟨G, hG, E1, _, r1, q1, fun d E2 y H2 q2 x2 r2 p2 => ?_⟩⟩
  exact ht G hG σ H2 _ ⟨E2, _, r2, q2, fun kds E3 ps H3 q3 x3 r3 p3 => kk _ _ _ _ q3 ((x1.trans x2).trans x3) r3 (.cons ((p1.ext x2).ext x3) (p2.ext x3) p3)⟩
end
/-- the keys of pairs -/
def keysOf : List (D × D) → Option (List (Key × D))
  | [] => some []
  | (k, d) :: r => match keyOf k, keysOf r with
    | some y, some l => some ((y, d) :: l)
    | _, _ => none
theorem keysOf_rel {K : PySem.W.Frag} {H : Hp} : ∀ {kds : List (D × D)} {ps : List (V × V)} {l : List (Key × D)}, PRp K H kds ps → keysOf kds = some l → ∃ us : List (Key × V), ps = us.map (fun kv => (kV kv.1, kv.2)) ∧ KR K H l us
  | _, _, _, .nil, h => by cases h; exact ⟨[], rfl, .nil⟩
  | (k, d) :: r, _, l, .cons p1 p2 p3, h => by
    unfold keysOf at h
    split at h
    · rename_i y l' hk hl
      cases h
      obtain ⟨us, e, kr⟩ := keysOf_rel p3 hl
      have := keyOf_rel hk p1
      subst this
      exact ⟨(y, _) :: us, by rw [e]; rfl, .cons p2 kr⟩
    · cases h
theorem KR.length {K : PySem.W.Frag} {H : Hp} {l : List (Key × D)} {us : List (Key × V)} (r : KR K H l us) : us.length = l.length := by
  have := congrArg List.length r.1
  simpa using this
def mDkD (t : TDP) : TM := fun E Q => t E fun kds E1 => optQ (keysOf kds) fun l => l.length ≤ 15 ∧ Q (.dk (mergeD [] l)) E1
section
variable {X : Cx} {G : Gh} {e : Expr} {pos p0 apos cpos : Pos} {keys : List (Option Expr)} {values : List Expr} {t : TDP} {x : Str}
theorem em_disp (h : EPP X G.slots pos keys values t) (hall : keys.all (·.isSome) = true := by rfl) (hl : keys.length = values.length := by rfl) (h0 : keys ≠ [] := by simp) (h15 : keys.length ≤ 15 := by decide) : EM X G (.Dict keys values pos) (mDkD t) := by
  obtain ⟨trs, hp, ht⟩ := h
  refine ⟨PE.weak (pe_disp hp hall hl h0 h15) fun σ H Q ⟨E, QE, r, q, kk⟩ p hp => ?_⟩
  obtain ⟨r2, h0, na⟩ := r.fresh (o := .dK []) hp
  have x0 : Ext H (upd H p (.dK [])) := (PExt.new hp).ext
  refine ht (pend G p (.dK [])) rfl σ _ _ ⟨E, _, r2.toPend upd_same na, q, fun kds E1 ps H1 q1 x1 r1 p1 => ?_⟩
  obtain ⟨r4, hp2⟩ := RelX.ofPend r1 h0 na
  cases hk : keysOf kds with
  | none => rw [hk] at q1; exact q1.elim
  | some l =>
    rw [hk] at q1
    obtain ⟨q1, q2⟩ := q1
    obtain ⟨us, e1, kr⟩ := keysOf_rel p1 hk
    refine ⟨hp2, us, e1, by rw [kr.length]; exact q1, ?_⟩
    have x3 : Ext H1 (upd H1 p (.dK (mergeK [] us))) := Ext.putS hp2 (fun _ z => by cases z) (fun _ _ z => by cases z)
    have kr2 := (KR.merge kr (KR.nil (K := X.K) (H := H1))).ext x3
    exact kk _ _ _ _ q2 ((x0.trans x1).trans x3) (r4.putS (u' := .dK (mergeK [] us)) h0 na hp2 (fun _ z => by cases z) (fun _ _ z => by cases z)) h0 na ⟨_, upd_same, kr2.1, kr2.2⟩
/-! ### d.update(other) -/
end
end DL
set_option Elab.async false
set_option linter.all false
set_option maxRecDepth 100000
set_option maxHeartbeats 3200000
/-! DL49: sets of things on the heap that are alike by a key of any kind; up to 76 of them. -/
namespace DL
open PySem PySem.Spec PyProof.Rows L2
section
variable {P : Program} {w : World} {κ : Type} [DecidableEq κ] {kd : HeapKind P w κ} {A : Around} {E : Value → Shared → Prop} {s : Shared}
abbrev Ent (κ : Type) := Addr × κ
def ents (kd : HeapKind P w κ) (M : List (Ent κ)) : List (Int × Value) := M.map fun q => (kd.hash q.2, Value.ref q.1)
def hshs (kd : HeapKind P w κ) (M : List (Ent κ)) : List Int := M.map fun q => kd.hash q.2
/-- at a stands a set with these members -/
structure SetG (kd : HeapKind P w κ) (h : Heap) (a : Addr) (M : List (Ent κ)) (ws : Array (Int × Value)) (g : Nat) (T : SetTable) : Prop where
  at_ : ∃ o, h.get? a = some o ∧ o.ExactSet ∧ o.data = .set ws g T
  ent : ws.toList = ents kd M
  tb : TabOk T (hshs kd M)
  nd : (M.map (·.2)).Nodup
  mem : ∀ q ∈ M, kd.is h q.2 q.1
  pl : T.plain = true
  ld : w.params.followText "set-order" = true ∨ T.led = true
  rm : M.length * 5 < T.mask * 3
variable {a : Addr} {M : List (Ent κ)} {ws : Array (Int × Value)} {g : Nat} {T : SetTable}
theorem SetG.get {h : Heap} (R : SetG kd h a M ws g T) {i : Nat} {q : Ent κ} (z : M[i]? = some q) : ws[i]? = some (kd.hash q.2, Value.ref q.1) := by
  rw [← Array.getElem?_toList, R.ent]
  unfold ents
  rw [List.getElem?_map, z]; rfl
end
end DL
set_option Elab.async false
set_option linter.all false
set_option maxRecDepth 100000
set_option maxHeartbeats 3200000
/-! DL50: adding to sets of any keys; set(xs). -/
namespace DL
open PySem PySem.Spec PyProof.Rows L2
end DL
set_option Elab.async false
set_option linter.all false
set_option maxRecDepth 100000
set_option maxHeartbeats 3200000
/-! DL51: set(xs) of lists and tuples of things that are alike by keys. -/
namespace DL
open PySem PySem.Spec PyProof.Rows L2
end DL
set_option Elab.async false
set_option linter.all false
set_option maxRecDepth 100000
set_option maxHeartbeats 3200000
/-! DL52: set(xs) as a call, sets as objects. -/
namespace DL
open PySem PySem.Spec PyProof.Rows L2
end DL
set_option Elab.async false
set_option linter.all false
set_option maxRecDepth 100000
set_option maxHeartbeats 3200000
/-! DL53: len(set(xs)), sorted(set(xs)) of things that are alike by keys. -/
namespace DL
open PySem PySem.Spec PyProof.Rows L2
end DL
set_option Elab.async false
set_option linter.all false
set_option maxRecDepth 100000
set_option maxHeartbeats 3200000
/-! DL54: len(set(xs)), sorted(set(xs)): lists and tuples of tuples of ints, up to 75 unlike ones. -/
namespace DL
open PySem PySem.Spec PyProof.Rows L2
end DL
set_option Elab.async false
set_option linter.all false
set_option maxRecDepth 100000
set_option maxHeartbeats 3200000
/-! DL55: len(set(xs)) of nested tuples of ints, truths and None, up to 75. -/
namespace DL
open PySem PySem.Spec PyProof.Rows L2
end DL
set_option Elab.async false
set_option linter.all false
set_option maxRecDepth 100000
set_option maxHeartbeats 3200000
/-! DL56: xs[a:c] = ys, ys any list. -/
namespace DL
open PySem PySem.Spec PyProof.Rows L2
section
variable {prog : Program} {w : World} {A : Around} {E : Value → Shared → Prop} {s : Shared}
theorem setItem_sliceG {l b sl : Addr} {items new : Array Value} {n : Nat} {vl vu : Value} {a c : Nat} {Q : Unit → Shared → Prop}
    (e : s.heap.get? l = some { cls := .type "list", data := .seq items n }) (hb : s.heap.IsList b new)
    (hs : s.heap.IsSliceOf sl vl vu .none) (pl : IsPart vl (some (a : Int))) (pu : IsPart vu (some (c : Int))) (hac : a ≤ c) (hc : c ≤ items.size)
    (hsz : items.size + new.size ≤ sizeLine) (h : Q () { s with heap := s.heap.update l (Obj.mapSeq fun xs => xs.extract 0 a ++ new ++ xs.extract c xs.size) }) :
    wpAny (model prog w) A (setItem (.ref l) (.ref sl) (.ref b)) Q E s := by
  have hl : s.heap.IsList l items := PySem.IsL.isList e
  obtain ⟨ob, hob, hcb, n2, hdb⟩ := id hb
  obtain ⟨os, hos, hcs, hds⟩ := id hs
  have hTs : s.TypeIs (.ref sl) "slice" := ⟨os, hos, hcs⟩
  have hstep : ¬ ((rawPart none == rawInt 0) = true) := Bool.false_ne_true
  have hmax : (max (a : Int) (c : Int)).toNat = c := by omega
  have hz' : ((fun xs : Array Value => xs.extract 0 a ++ new ++ xs.extract c xs.size) items).size ≤ sizeLine + 1 := by
    simp only [Array.size_append, Array.size_extract]
    omega
  unfold setItem
  try with_reducible refine wpAny_holding ?_
  first | refine wpAny_bind (wpAny_pure ?_) | skip
  refine wpAny_bind (wpAny_sequenceKey hl.typeIs (by decide) ?_)
  refine wpAny_bind (wpAny_callSpecial?_slot (name := Str.ofString "__setitem__") hl.typeIs slot_list_setitem
    (wpAny_call_entry slot_list_setitem hl.typeIs entry_list_setitem ?_ (args_list_setitem _ _ _)))
  show wpAny _ _ (Builtin.List.listSubscript? (.ref sl) >>= _) _ _ s
  refine wpAny_bind ?_
  unfold Builtin.List.listSubscript?
  refine wpAny_bind (wpAny_specialOf hTs slice_no_index ?_)
  simp only [Option.isNone_none, if_true]
  refine wpAny_pure ?_
  show wpAny _ _ (typeOf (.ref sl) >>= _) _ _ s
  refine wpAny_bind (wpAny_typeOf hTs ?_)
  first
    | rw [if_neg (by decide)]
    | refine PySem.W.KFB.if_not (by decide) ?_
  rw [listSliceParts_eq]
  refine wpAny_bind (wpAny_bind (wpAny_field hos hds (x := .none) rfl (wpAny_bind (wpAny_listPart .none ?_))))
  rw [if_neg hstep]
  refine wpAny_bind (wpAny_field hos hds (x := vl) rfl (wpAny_bind (wpAny_listPart pl ?_)))
  refine wpAny_bind (wpAny_field hos hds (x := vu) rfl (wpAny_bind (wpAny_listPart pu (wpAny_pure ?_))))
  cases hsame : Builtin.List.listSameRef (.ref l) (.ref b) with
  | false =>
    first
      | simp only [hsame, Bool.false_eq_true, if_false]
      | refine PySem.W.KFB.if_not hsame ?_
      | (dsimp only
         rw [if_neg (by rw [hsame]; exact Bool.false_ne_true)])
    refine wpAny_bind (m := Builtin.List.listAllItems (.ref b) "must assign iterable to extended slice") ?_
    unfold Builtin.List.listAllItems
    refine wpAny_bind (wpAny_typeOf hb.typeIs ?_)
    first
      | refine PySem.W.KFB.if_so (by decide) ?_
      | rw [if_pos (by decide)]
      | simp only [beq_self_eq_true, Bool.true_or, if_true]
    unfold Builtin.List.listItems
    refine wpAny_bind (wpAny_seqItems hob hdb (wpAny_pure ?_))
    refine wpAny_bind (wpAny_bind (wpAny_seqItems e rfl (wpAny_pure ?_)))
    refine wpAny_bind (wpAny_of_eq ((sliceIndices_raw (some (a : Int)) (some (c : Int)) none items.size (by simp)).trans (congrArg (pure : Int × Int × Int → Sem (Int × Int × Int)) (bounds_run hac hc))) ?_)
    show wpAny _ _ (if ((1 : Int) == 1) = true then _ else _) _ _ s
    rw [if_pos (by decide)]
    refine wpAny_bind (wpAny_rule ?_)
    first
      | simp only [notLongL hsz, Bool.false_eq_true, if_false]
      | refine PySem.W.KFB.if_not (notLongL hsz) ?_
    first | refine wpAny_bind (wpAny_pure ?_) | skip
    show wpAny _ _ (updateSeq l (fun xs => xs.extract 0 ((a : Int)).toNat ++ new ++ xs.extract (max (a : Int) (c : Int)).toNat xs.size) >>= _) _ _ s
    rw [hmax, Int.toNat_natCast]
    refine wpAny_bind (wpAny_updateSeq (hz := Nat.le_trans (Nat.le_add_right _ _) hsz) (_hz' := hz') e rfl ?_)
    refine wpAny_bind (wpAny_letGo ?_)
    first
      | exact wpAny_bind (wpAny_pure (wpAny_pure ⟨.none, rfl, wpAny_pure h⟩))
      | exact wpAny_pure ⟨.none, rfl, wpAny_pure h⟩
  | true =>
    first
      | simp only [hsame, if_true]
      | refine PySem.W.KFB.if_so hsame ?_
      | (dsimp only
         rw [if_pos hsame])
    refine wpAny_bind (m := Builtin.List.listItems (.ref b)) ?_
    unfold Builtin.List.listItems
    refine wpAny_bind (wpAny_seqItems hob hdb (wpAny_pure ?_))
    refine wpAny_bind (wpAny_bind (wpAny_seqItems e rfl (wpAny_pure ?_)))
    refine wpAny_bind (wpAny_of_eq ((sliceIndices_raw (some (a : Int)) (some (c : Int)) none items.size (by simp)).trans (congrArg (pure : Int × Int × Int → Sem (Int × Int × Int)) (bounds_run hac hc))) ?_)
    show wpAny _ _ (if ((1 : Int) == 1) = true then _ else _) _ _ s
    rw [if_pos (by decide)]
    refine wpAny_bind (wpAny_rule ?_)
    first
      | simp only [notLongL hsz, Bool.false_eq_true, if_false]
      | refine PySem.W.KFB.if_not (notLongL hsz) ?_
    first | refine wpAny_bind (wpAny_pure ?_) | skip
    show wpAny _ _ (updateSeq l (fun xs => xs.extract 0 ((a : Int)).toNat ++ new ++ xs.extract (max (a : Int) (c : Int)).toNat xs.size) >>= _) _ _ s
    rw [hmax, Int.toNat_natCast]
    refine wpAny_bind (wpAny_updateSeq (hz := Nat.le_trans (Nat.le_add_right _ _) hsz) (_hz' := hz') e rfl ?_)
    refine wpAny_bind (wpAny_letGo ?_)
    first
      | exact wpAny_bind (wpAny_pure (wpAny_pure ⟨.none, rfl, wpAny_pure h⟩))
      | exact wpAny_pure ⟨.none, rfl, wpAny_pure h⟩
end
section
variable {X : Cx} {G : Gh}
def rSetSl (K : PySem.W.Frag) : V → Option Int → Option Int → V → Hp → (Hp → Prop) → Prop := fun x lo hi v H Q => ∃ (l b : Addr) (xs ys : List V) (a c : Int), x = .ref l ∧ v = .ref b ∧ lo = some a ∧ hi = some c ∧ H l = some (.lst xs) ∧ SqL K H b ys ∧ 0 ≤ a ∧ a ≤ c ∧ c ≤ xs.length ∧ xs.length + ys.length ≤ sizeLine ∧
  Q (upd H l (.lst (xs.take a.toNat ++ ys ++ xs.drop c.toNat)))
theorem set_sliceG {pins : List (Addr × Obj)} {s : Shared} {σ : St} {H : Hp} {l b sl : Addr} {xs ys : List V} {a c : Int} {vl vu : Value} {Q : Unit → Shared → Prop} (I : Inv X pins σ H s)
    (hH : H l = some (.lst xs)) (hB : SqL X.K H b ys) (hs : s.heap.IsSliceOf sl vl vu .none) (pa : IsPart vl (some a)) (pc : IsPart vu (some c)) (h0 : 0 ≤ a) (hac : a ≤ c) (hc : c ≤ xs.length)
    (hz : xs.length + ys.length ≤ sizeLine) (h : ∀ s', Inv X pins σ (upd H l (.lst (xs.take a.toNat ++ ys ++ xs.drop c.toNat))) s' → Q () s') :
    wpAny (model X.prog X.w) X.A (setItem (.ref l) (.ref sl) (.ref b)) Q X.xe s := by
  obtain ⟨z, its, n, r, hl, e⟩ := I.lstM hH
  obtain ⟨its2, r2, ⟨ob, n2, ho2, hc2, hi2, hd2⟩, z2⟩ := I.list hB
  obtain ⟨a', rfl⟩ := Int.eq_ofNat_of_zero_le h0
  obtain ⟨c', rfl⟩ := Int.eq_ofNat_of_zero_le (Int.le_trans h0 hac)
  simp only [Int.toNat_natCast] at h
  have l1 := r.length
  have l2 := r2.length
  refine setItem_sliceG (a := a') (c := c') (new := its2.toArray) e ⟨ob, ho2, hc2, n2, hd2⟩ hs pa pc (by omega) (by rw [List.size_toArray]; omega) (by rw [List.size_toArray, List.size_toArray]; omega) (h _ ?_)
  refine I.lset (its' := its.take a' ++ its2 ++ its.drop c') (t' := s.toks) hH e ?_ (Vals.append (Vals.append (r.take _) r2) (r.drop _)) ?_
  · exact splice_eq its its2 a' c'
  · rw [List.length_append, List.length_append, List.length_take, List.length_drop]
    omega
theorem pg_setsl {o lo hi : Expr} {apos p2 : Pos} {to : TE} {tl th : TO} (ho : PE X o to) (hl : PO X (some lo) tl) (hu : PO X (some hi) th)
    (ha : ∀ v, assign (.Subscript o (.Slice (some lo) (some hi) none p2) apos) X.env v = (do
      let ov ← holding [v] (eval o X.env)
      let iv ← holding [v, ov] (eval (.Slice (some lo) (some hi) none p2) X.env)
      standAt apos
      holding [v, ov, iv] (setItem ov iv v)
      release [iv, v, ov] []) := by intro _; rfl) :
    PG X (.Subscript o (.Slice (some lo) (some hi) none p2) apos) (fun v σ H Q => to σ H fun x H1 => tl σ H1 fun i H2 => th σ H2 fun j H3 => rSetSl X.K x i j v H3 fun H4 => Q σ H4) := by
  refine ⟨fun pins s σ H v u Q I r h => ?_⟩
  rw [ha]
  refine wpAny_bind (wpAny_holding (thn (ho.run pins s σ H _ I h) fun ov s1 ⟨x, H1, I1, r1, q1⟩ => ?_))
  refine wpAny_bind (wpAny_holding (wpAny_Slice (thn (hl.run pins s1 σ H1 _ I1 q1) fun vl s2 ⟨i, H2, I2, pl, q2⟩ => thn (hu.run pins s2 σ H2 _ I2 q2) fun vu s3 ⟨j, H3, I3, pu, q3⟩ => ?_)))
  rw [evalPart_none]
  refine wpAny_pure ?_
  obtain ⟨l, b, xs, ys, a, c, rfl, rfl, rfl, rfl, hH, hB, h0, hac, hc, hz, q4⟩ := q3
  have I4 : Inv X pins σ H3 { s3 with heap := s3.heap.push { cls := .type "slice", data := .fields #[vl, vu, .none] } } := I3.kept (t' := s3.toks) fun b ob q => Heap.get?_push_of_some _ q
  cases r1
  cases r
  refine wpAny_bind (wpAny_standAt (wpAny_bind (wpAny_holding (set_sliceG I4 hH hB (Heap.IsSliceOf.new ..) pl pu h0 hac hc hz fun s' I5 => ?_))))
  exact wpAny_release ⟨σ, _, I5, q4⟩
end
end DL
set_option Elab.async false
set_option linter.all false
set_option maxRecDepth 100000
set_option maxHeartbeats 1600000
/-! DL57: lists that other things hold: by their handle. -/
namespace DL
open PySem PySem.Spec PyProof.Rows L2
section
variable {X : Cx} {G : Gh} {a e o ix : Expr} {es : List Expr} {pos p p0 apos cpos : Pos} {x : Str}
/-! ### made -/
/-! ### read -/
/-! ### frozen -/
/-! ### an item -/
/-! ### .append -/
/-! ### o[i] = e, o[i:j] = [..] -/
def slPut (xs ys : List D) (i j : Int) (Q : List D → Prop) : Prop := (0 ≤ i ∧ i ≤ j ∧ j ≤ xs.length ∧ xs.length + ys.length ≤ sizeLine) ∧ Q (xs.take i.toNat ++ ys ++ xs.drop j.toNat)
/-- a list of one's own at a name: x[i:j] = e -/
def sSetSlO (k : Nat) (ta tc te : TD) : TSd := fun DE E => te E fun z E1 => match z with
  | .list ys => (match E1[k]? with | some (.ol _) => True | _ => False) ∧ ta E1 fun i E3 => match i with
    | .int m => tc E3 fun j E4 => match j, E4[k]? with
      | .int n, some (.ol xs) => slPut xs ys m n fun zs => DE.nx (E4.set k (.ol zs))
      | _, _ => False
    | _ => False
  | _ => False
theorem sd_setSlO (k : Nat) {lo hi : Expr} {p2 : Pos} {ta tc te : TD} (hl : ED X G lo ta) (hh : ED X G hi tc) (he : ED X G e te) (hN : X.N[k]? = some x := by rfl) (hv : Vis X.env.scope x := by first | exact Or.inl rfl | exact Or.inr (Or.inl rfl) | exact Or.inr (Or.inr rfl)) (hd : (x == ("__debug__" : Str)) = false := by decide)
    (hcd : (x == ("__classdict__" : Str)) = false := by decide)
    (ha : ∀ v, assign (.Subscript (.Name x p0) (.Slice (some lo) (some hi) none p2) apos) X.env v = (do
      let ov ← holding [v] (eval (.Name x p0) X.env)
      let iv ← holding [v, ov] (eval (.Slice (some lo) (some hi) none p2) X.env)
      standAt apos
      holding [v, ov, iv] (setItem ov iv v)
      release [iv, v, ov] []) := by intro _; rfl)
    (hs : swapsWithSole [.Subscript (.Name x p0) (.Slice (some lo) (some hi) none p2) apos] e pos.line X.env = pure false := by rfl) (hw : swappedStores [.Subscript (.Name x p0) (.Slice (some lo) (some hi) none p2) apos] e X.env = pure none := by rfl)
    (hb : (assignEach [.Subscript (.Name x p0) (.Slice (some lo) (some hi) none p2) apos] X.env).map (·.2) = [assign (.Subscript (.Name x p0) (.Slice (some lo) (some hi) none p2) apos) X.env] := by rfl) :
    SD X G (.Assign [.Subscript (.Name x p0) (.Slice (some lo) (some hi) none p2) apos] e pos) (sSetSlO k ta tc te) := by
  refine ⟨PS.weak (ps_asg he.pe (pg_setsl (pe_var hN hv hd hcd) (po_some hl.pe) (po_some hh.pe) ha) hs hw hb) fun F σ H ⟨E, DE, r, q, k1, k2, k3, k4⟩ => ⟨E, _, r, q, fun z E1 b H1 q1 x1 r1 p1 => ?_⟩⟩
  cases p1 with
  | @lst b vs2 ys hls l2 =>
    dsimp only at q1
    obtain ⟨q0, q1⟩ := q1
    split at q0
    · rename_i xs0 he0
      obtain ⟨l0, vs0, e1, e2, e3⟩ := r1.ol he0
      refine ⟨_, e1, E1, _, r1, q1, fun i E3 v3 H3 q3 x3 r3 p3 => ?_⟩
      cases p3 with
      | int m =>
        dsimp only at q3
        refine ⟨m, rfl, E3, _, r3, q3, fun j E4 v4 H4 q4 x4 r4 p4 => ?_⟩
        split at q4
        · rename_i d0 o0 n xs he4
          cases p4
          obtain ⟨l', vs, f1, f2, f3⟩ := r4.ol he4
          rw [e1] at f1; cases f1
          obtain ⟨⟨c0, c1, c2, c3⟩, q4⟩ := q4
          have x14 := x3.trans x4
          have l4 := l2.ext x14
          have pp := RpL.append (RpL.append (f3.take m.toNat) l4) (f3.drop n.toNat)
          exact ⟨n, rfl, l0, b, vs, vs2, m, n, rfl, rfl, rfl, rfl, f2, (hls.ext x14).sq, c0, c1, by rw [← f3.length]; exact c2, by rw [← f3.length, ← l4.length]; exact c3, k1 _ _ _ q4 ((x1.trans x14).trans (Ext.put f2)) (r4.putL he4 e1 pp)⟩
        · exact q4.elim
      | _ => exact q3.elim
    · exact q0.elim
  | _ => exact q1.elim
end
end DL
set_option Elab.async false
set_option linter.all false
set_option maxRecDepth 100000
set_option maxHeartbeats 3200000
/-! DL58: == and != of own objects by their __eq__, isinstance of an own class. -/
namespace DL
open PySem PySem.Spec PyProof.Rows L2
/-- data whose type is told, no object -/
def plainTy : D → Option Value
  | .none => some (.type "NoneType")
  | .bool _ => some (.type "bool")
  | .int _ => some (.type "int")
  | .str _ => some (.type "str")
  | .tuple _ => some (.type "tuple")
  | _ => none
theorem TyX.of {K : PySem.W.Frag} {H : Hp} {d : D} {v : V} {t : Value} (h : plainTy d = some t) (r : Rp K H d v) : TyX K H v t := by
  cases d with
  | none => cases h; cases r; exact .base .non
  | bool b => cases h; cases r; exact .base (.bl b)
  | int b => cases h; cases r; exact .base (.int b)
  | str b => cases h; cases r; exact .base (.str b)
  | tuple xs =>
    cases h
    cases r with
    | tup hs l =>
      rcases hs.1 with (e | ⟨o, e⟩) | ⟨o, its, n, e, c, _⟩
      · exact .base (.tup e)
      · exact .fTuple e
      · exact .kTuple e c
  | list _ => cases h
  | dict _ => cases h
end DL
set_option Elab.async false
set_option linter.all false
set_option maxRecDepth 100000
set_option maxHeartbeats 3200000
/-! DL59: making by keywords; functions of one object or more. -/
namespace DL
open PySem PySem.Spec PyProof.Rows L2
/-- where a parameter's value comes from -/
inductive Src where
  | p : Nat → Src
  | d : Nat → Src
  | k : Nat → Src
def Src.get {α : Type} (vs ds zs : List α) : Src → Option α
  | .p i => vs[i]?
  | .d i => ds[i]?
  | .k i => zs[i]?
section
variable {X : Cx} {G : Gh} {e : Expr} {es : List Expr} {kws : List Keyword} {pos p kpos : Pos} {x : Str} {nm : Option Str} {C f : Addr} {fd : FuncData} {ps ks : List Str} {k n m : Nat} {sp : SpO} {ta tk : TDs} {dvs : List V} {its : List Value} {dd : List D} {pl : List Src}
theorem PK.weak {t t' : TA} (h : PK X kws t) (w : ∀ σ H Q, t' σ H Q → t σ H Q) : PK X kws t' := ⟨fun pos pins s σ H Q I q => h.run pos pins s σ H Q I (w σ H Q q)⟩
end
end DL
set_option Elab.async false
set_option linter.all false
set_option maxRecDepth 100000
set_option maxHeartbeats 3200000
/-! DL60: sets of texts: set(xs), sorted(set(xs)). -/
namespace DL
open PySem PySem.Spec PyProof.Rows L2
def txtOf (e : Int × Value) : Str := match e.2 with
  | .str k _ => k
  | _ => Str.empty
def TxtE (P : Program) (w : World) (e : Int × Value) : Prop := ∃ k tk, e.2 = Value.str k tk ∧ e.1 = (PySem.strKind P w).hash k
/-- at a stands a set of these texts -/
def SetS (P : Program) (w : World) (h : Heap) (a : Addr) (ks : List Str) : Prop :=
  ∃ o ws g T, h.get? a = some o ∧ o.ExactSet ∧ o.data = .set ws g T ∧ (∀ e ∈ ws.toList, TxtE P w e) ∧ ws.toList.map txtOf = ks ∧ ks.Nodup ∧
    ws.size < scanBound ∧ T.fits ws.size = true ∧ Ris T.place.toList ∧ (w.params.followText "set-order" = true ∨ T.led = true)
section
variable {P : Program} {w : World} {h h' : Heap} {a : Addr} {ks : List Str}
theorem SetS.at (R : SetS P w h a ks) (k : ∀ o, h.get? a = some o → h'.get? a = some o) : SetS P w h' a ks := by
  obtain ⟨o, ws, g, T, ho, r⟩ := R
  exact ⟨o, ws, g, T, k o ho, r⟩
theorem SetS.size (R : SetS P w h a ks) : ∃ o ws g T, h.get? a = some o ∧ o.data = .set ws g T ∧ ws.size = ks.length := by
  obtain ⟨o, ws, g, T, ho, _, hd, _, e, _⟩ := R
  exact ⟨o, ws, g, T, ho, hd, by rw [← e, List.length_map, Array.length_toList]⟩
end
/-! ### the rules -/
section
variable {X : Cx} {G : Gh} {a : Expr} {pos p p1 p2 : Pos}
theorem RpL.strs {K : PySem.W.Frag} {H : Hp} : ∀ {ns : List Str} {vs : List V}, RpL K H (ns.map PyData.str) vs → vs = ns.map V.str
  | [], _, .nil => rfl
  | _ :: _, _, .cons (.str _) t => by rw [RpL.strs t]; rfl
theorem RpL.ofStrs {K : PySem.W.Frag} {H : Hp} : ∀ (ns : List Str), RpL K H (ns.map PyData.str) (ns.map V.str)
  | [] => .nil
  | n :: ns => .cons (.str n) (RpL.ofStrs ns)
/-- sorted(set(xs)), xs a list of fewer than 64 texts -/
def tSortSetS (ta : TD) : TLd := fun E Q => ta E fun x E1 => match x with
  | .list xs => ∃ ns : List Str, xs = ns.map PyData.str ∧ ns.length < 64 ∧ ∀ ys : List Str, ys.Nodup → (∀ k, k ∈ ys ↔ k ∈ ns) → sortedS ys = true → Q (ys.map PyData.str) E1
  | _ => False
end
end DL
set_option Elab.async false
set_option linter.all false
set_option maxRecDepth 100000
set_option maxHeartbeats 3200000
/-! DL61: dicts with int and text keys: d.get(k, x), d[k] = v, k in d, sorted(d), frozen ones as data. -/
namespace DL
open PySem PySem.Spec PyProof.Rows L2
/-- as data -/
def dkD (kvs : List (Key × D)) : D := .dict (kvs.map fun p => (keyDt p.1, p.2))
theorem keyOf_keyDt (k : Key) : keyOf (keyDt k) = some k := by cases k <;> rfl
theorem keysOf_dk : ∀ kvs : List (Key × D), keysOf (kvs.map fun p => (keyDt p.1, p.2)) = some kvs
  | [] => rfl
  | (k, d) :: kvs => by
    rw [List.map_cons]
    unfold keysOf
    rw [keyOf_keyDt, keysOf_dk kvs]
theorem keysOf_back : ∀ {kds : List (D × D)} {l : List (Key × D)}, keysOf kds = some l → kds = l.map fun p => (keyDt p.1, p.2)
  | [], l, h => by cases h; rfl
  | (k, d) :: r, l, h => by
    unfold keysOf at h
    split at h
    · rename_i y l' hk hl
      cases h
      rw [List.map_cons, ← keysOf_back hl]
      cases k with
      | int i => cases hk; rfl
      | str x => cases hk; rfl
      | _ => cases hk
    · cases h
section
variable {K : PySem.W.Frag} {G : Gh} {H : Hp} {E : Env} {σ : St}
theorem rp_dk {a : Addr} {o : Obj} {us : List (Key × V)} {kvs : List (Key × D)} (h : H a = some (.frz o (.dK us))) (r : KR K H kvs us) (ne : kvs ≠ []) : Rp K H (dkD kvs) (.ref a) := by
  refine .dck h ?_ ?_ ?_
  · rw [List.map_map]
    have e : (us.map fun u => keyDt u.1) = (us.map (·.1)).map keyDt := by rw [List.map_map]; rfl
    rw [e, r.1, List.map_map]; rfl
  · rw [List.map_map]; exact r.2
  · intro z; exact ne (List.map_eq_nil_iff.mp z)
theorem dict_txt {kds : List (D × D)} {v : V} {l : List (Key × D)} (p : Rp K H (.dict kds) v) (e : keysOf kds = some l) (ne : l ≠ []) : ∃ a o us, v = .ref a ∧ H a = some (.frz o (.dK us)) ∧ KR K H l us := by
  obtain rfl := keysOf_back e
  generalize ez : PyData.dict (l.map fun p => (keyDt p.1, p.2)) = d at p
  cases l with
  | nil => exact absurd rfl ne
  | cons q l =>
    cases p with
    | dct h l' n m =>
      cases ez
      cases l' with
      | cons t _ _ _ _ _ _ _ _ =>
        obtain ⟨xs, hx⟩ := t
        cases hq : q.1 <;> rw [hq] at hx <;> cases hx
    | hdl a =>
      injection ez with ez
      rw [List.map_cons] at ez
      injection ez with e1 _
      injection e1 with e1 _
      cases hq : q.1 <;> rw [hq] at e1 <;> cases e1
    | dck h e1 l2 n =>
      cases ez
      rename_i us
      refine ⟨_, _, us, rfl, h, ?_, ?_⟩
      · rw [List.map_map] at e1
        have inj : ∀ (x y : List Key), x.map keyDt = y.map keyDt → x = y := by
          intro x
          induction x with
          | nil => intro y z; cases y with
            | nil => rfl
            | cons _ _ => cases z
          | cons a x ih => intro y z; cases y with
            | nil => cases z
            | cons b y =>
              rw [List.map_cons, List.map_cons] at z
              injection z with z1 z2
              rw [ih y z2]
              have : some a = some b := by rw [← keyOf_keyDt, ← keyOf_keyDt, z1]
              injection this with this
              rw [this]
        refine inj _ _ ?_
        rw [List.map_map, List.map_map]
        exact e1.symm
      · rw [List.map_map] at l2; exact l2
    | _ => cases ez
theorem valK_none : ∀ {kvs : List (Key × D)} {us : List (Key × V)} {k : Key}, us.map (·.1) = kvs.map (·.1) → valK kvs k = none → valV us k = none
  | [], [], k, _, _ => rfl
  | [], u :: us, k, h, _ => by cases h
  | p :: kvs, [], k, h, _ => by cases h
  | p :: kvs, u :: us, k, h, h3 => by
    simp only [List.map_cons, List.cons.injEq] at h
    by_cases e : p.1 = k
    · have : valK (p :: kvs) k = some p.2 := by simp [valK, List.find?_cons, e]
      rw [this] at h3; cases h3
    · have : valK (p :: kvs) k = valK kvs k := by simp [valK, List.find?_cons, e]
      rw [this] at h3
      exact (valV_neg (by rw [h.1]; exact e)).trans (valK_none h.2 h3)
end
section
variable {X : Cx} {G : Gh} {e f a : Expr} {pos pos' p p0 apos cpos : Pos} {x : Str} {tk tv tx ta : TD} {tg : Expr}
/-- a new dict as data -/
def tFzKM (t : TM) : TD := fun E Q => t E fun s E1 => match s with
  | .dk kvs => kvs ≠ [] ∧ Q (dkD kvs) E1
  | _ => False
theorem EM.edK {t : TM} (h : EM X G e t) : ED X G e (tFzKM t) :=
  ⟨PE.weak (PE.fzIf h.pe) fun σ H Q ⟨E, QE, r, q, k⟩ => ⟨E, _, r, q, fun s E1 b H1 q1 x1 r1 h0 na m => by
    split at q1
    · rename_i kvs
      obtain ⟨us, e2, e3, e4⟩ := m
      refine .inr ⟨b, _, rfl, e2, trivial, fun o => ?_⟩
      have x2 : Ext H1 (upd H1 b (.frz o (.dK us))) := Ext.putS e2 (fun _ z => by cases z) (fun _ _ z => by cases z)
      have kr : KR X.K (upd H1 b (.frz o (.dK us))) kvs us := KR.ext (H := H1) ⟨e3, e4⟩ x2
      exact k _ _ _ _ q1.2 (x1.trans x2) (r1.freezeS h0 na e2 (fun _ z => by cases z) (fun _ _ z => by cases z)) (rp_dk upd_same kr q1.1)
    · exact q1.elim⟩⟩
/-- d[k], d data -/
def tDkGetD (ta tk : TD) : TD := fun E Q => ta E fun x E1 => tk E1 fun k E2 => match x with
  | .dict kds => optQ (keysOf kds) fun l => l ≠ [] ∧ optQ (keyOf k) fun ky => optQ (valK l ky) fun d => Q d E2
  | _ => False
theorem ed_dkGetD (hu : X.A.units + 65 < cLine) (ha : ED X G a ta) (hk : ED X G e tk) (hs : NoSl e := by intro _ _; rfl) : ED X G (.Subscript a e pos) (tDkGetD ta tk) :=
  ⟨PE.weak (pe_dget (by omega) ha.pe hk.pe hs) fun σ H Q ⟨E, QE, r, q, k⟩ => ⟨E, _, r, q, fun x E1 v H1 q1 x1 r1 p1 => ⟨E1, _, r1, q1, fun kd E2 w H2 q2 x2 r2 p2 => by
    split at q2
    · rename_i kds
      cases h1 : keysOf kds with
      | none => rw [h1] at q2; exact q2.elim
      | some l =>
        rw [h1] at q2
        obtain ⟨ne, q2⟩ := q2
        cases h2 : keyOf kd with
        | none => rw [h2] at q2; exact q2.elim
        | some ky =>
          rw [h2] at q2
          cases h3 : valK l ky with
          | none => exact (show optQ (valK l ky) _ from q2) |> fun z => by rw [h3] at z; exact z.elim
          | some d =>
            have q3 : optQ (valK l ky) (fun d => QE d E2) := q2
            rw [h3] at q3
            obtain ⟨b, o, us, rfl, hd, kr⟩ := dict_txt (p1.ext x2) h1 ne
            obtain ⟨v', g1, g2⟩ := valK_rel kr.1 kr.2 h3
            rw [keyOf_rel h2 p2]
            exact ⟨b, v', rfl, .inl ⟨us, ky, .inr ⟨o, hd⟩, rfl, g1.symm⟩, k _ _ _ _ q3 (x1.trans x2) r2 g2⟩
    · exact q2.elim⟩⟩⟩
/-- d.values() walked, d data -/
def iDvK (ta : TD) : TDs := fun E Q => ta E fun x E1 => match x with
  | .dict kds => optQ (keysOf kds) fun l => l ≠ [] ∧ Q (l.map (·.2)) E1
  | _ => False
/-- d.get(k, x), d a name of one's own -/
def tDkGet2 (i : Nat) (tk tx : TD) : TD := fun E Q => match E[i]? with
  | some (.dk _) => tk E fun k E1 => tx E1 fun z E2 => match E2[i]?, keyOf k with
    | some (.dk kvs), some ky => Q ((valK kvs ky).getD z) E2
    | _, _ => False
  | _ => False
/-- k in d -/
def tInDk (tk : TD) (i : Nat) : TTd := fun E Q => tk E fun k E1 => match E1[i]?, keyOf k with
  | some (.dk kvs), some ky => Q (valK kvs ky).isSome E1
  | _, _ => False
theorem eb_inDk (i : Nat) (hu : X.A.units + 65 < cLine) (hk : ED X G e tk) (hN : X.N[i]? = some x := by rfl) (hv : Vis X.env.scope x := by first | exact Or.inl rfl | exact Or.inr (Or.inl rfl) | exact Or.inr (Or.inr rfl)) (hd : (x == ("__debug__" : Str)) = false := by decide)
    (hcd : (x == ("__classdict__" : Str)) = false := by decide) : EB X G (.Compare e [.In] [.Name x p0] pos) (tInDk tk i) :=
  ⟨PT.weak (pt_cmp (pc_din (by omega) hk.pe (pe_var hN hv hd hcd))) fun σ H Q ⟨E, QE, r, q, k⟩ => ⟨E, _, r, q, fun kd E1 v H1 q1 x1 r1 p1 => by
    split at q1
    · rename_i kvs ky he hky
      obtain ⟨b, e1, us, e2, e3, e4⟩ := r1.mutAt he rfl
      rw [keyOf_rel hky p1]
      refine ⟨_, e1, b, valV us ky, rfl, .inl ⟨us, ky, .inl e2, rfl, rfl⟩, _, rfl, ?_⟩
      have : (valV us ky).isSome = (valK kvs ky).isSome := by
        cases h3 : valK kvs ky with
        | none => rw [valK_none e3 h3]; rfl
        | some d =>
          obtain ⟨v', g1, g2⟩ := valK_rel e3 e4 h3
          rw [g1]; rfl
      rw [this]
      exact k _ _ _ q1 x1 r1
    · exact q1.elim⟩⟩
/-- d[k] = v -/
def sDkPut (i : Nat) (tk tv : TD) : TSd := fun DE E => tv E fun d E1 => match E1[i]? with
  | some (.dk _) => tk E1 fun k E2 => match E2[i]?, keyOf k with
    | some (.dk kvs), some ky => kvs.length < sizeLine ∧ DE.nx (E2.set i (.dk (putD2 kvs ky d)))
    | _, _ => False
  | _ => False
/-- sorted(d), all keys texts -/
def tSortDk (i : Nat) : TLd := fun E Q => match E[i]? with
  | some (.dk kvs) => ∃ ks : List Str, kvs.map (·.1) = ks.map Sum.inr ∧ ks.length < 64 ∧ ∀ ys : List Str, ys.Perm ks → sortedS ys = true → Q (ys.map PyData.str) E
  | _ => False
end
/-! ### texts in their order: one row only -/
end DL
set_option Elab.async false
set_option linter.all false
set_option maxRecDepth 100000
set_option maxHeartbeats 3200000
/-! DL62: texts: order, find, split, join, turned about, repeated, int(text), walked by signs. -/
namespace DL
open PySem PySem.Spec PyProof.Rows L2
section
variable {X : Cx} {G : Gh} {a b e : Expr} {pos p p1 p2 p3 apos : Pos} {ta tb : TD} {tg : Expr}
/-! ### order -/
def opLeS : OpT := fun x y Q => match x, y with
  | .str i, .str j => Q (.bool (!decide (j.cps.toList < i.cps.toList)))
  | _, _ => False
theorem od_leS : OpD X (compareOp .LtE) opLeS := ⟨_, op_le_str, fun x y v u H QD Q hx hy q k => by
  cases x with
  | str i =>
    cases y with
    | str j => rw [hx.str, hy.str]; exact ⟨i, j, rfl, rfl, k _ _ _ q (PExt.refl _) (.bl _)⟩
    | _ => exact q.elim
  | _ => exact q.elim⟩
/-! ### find -/
def tFind (ta tb : TD) : TD := fun E Q => ta E fun x E1 => match x with
  | .str i => tb E1 fun y E2 => match y with
    | .str j => Q (.int (Txt.find i j)) E2
    | _ => False
  | _ => False
theorem ed_find (ha : ED X G a ta) (hb : ED X G b tb) (hs : starEach [b] X.env = [(false, eval b X.env)] := by rfl) (hbase : attributeBase a "find" X.env (eval a X.env) = eval a X.env := by rfl) (hline : (apos.endLine == pos.line) = true := by rfl) :
    ED X G (.Call (.Attribute a "find" apos) [b] [] pos) (tFind ta tb) :=
  ⟨PE.weak (pe_m1 F.slot_str_find F.type_str_find mt_find ha.pe hb.pe hs hbase hline) fun σ H Q ⟨E, QE, r, q, k⟩ => ⟨E, _, r, q, fun x E1 v H1 q1 x1 r1 p1 => by
    cases p1 with
    | str i => exact ⟨⟨i, rfl⟩, E1, _, r1, q1, fun y E2 u H2 q2 x2 r2 p2 => by
        cases p2 with
        | str j => exact ⟨i, j, rfl, rfl, k _ _ _ _ q2 (x1.trans x2) r2 (.int _)⟩
        | _ => exact q2.elim⟩
    | _ => exact q1.elim⟩⟩
/-! ### split -/
def tSplit (ta tb : TD) : TLd := fun E Q => ta E fun x E1 => match x with
  | .str i => tb E1 fun y E2 => match y with
    | .str j => (j.length == 0) = false ∧ i.length + 2 ≤ sizeLine ∧ Q ((Txt.split i j).map PyData.str) E2
    | _ => False
  | _ => False
theorem el_split (ha : ED X G a ta) (hb : ED X G b tb) (hs : starEach [b] X.env = [(false, eval b X.env)] := by rfl) (hbase : attributeBase a "split" X.env (eval a X.env) = eval a X.env := by rfl) (hline : (apos.endLine == pos.line) = true := by rfl) :
    EL X G (.Call (.Attribute a "split" apos) [b] [] pos) (tSplit ta tb) :=
  ⟨PE.weak (pe_split ha.pe hb.pe hs hbase hline) fun σ H Q ⟨E, QE, r, q, k⟩ => ⟨E, _, r, q, fun x E1 v H1 q1 x1 r1 p1 => by
    cases p1 with
    | str i => exact ⟨⟨i, rfl⟩, E1, _, r1, q1, fun y E2 u H2 q2 x2 r2 p2 => by
        cases p2 with
        | str j =>
          refine ⟨i, j, rfl, rfl, q2.1, q2.2.1, fun p' hp => ?_⟩
          obtain ⟨r3, h0, na⟩ := r2.fresh (o := .lst ((Txt.split i j).map V.str)) hp
          exact k _ _ _ _ _ q2.2.2 ((x1.trans x2).trans (PExt.new hp).ext) r3 h0 na upd_same (RpL.ofStrs _)
        | _ => exact q2.elim⟩
    | _ => exact q1.elim⟩⟩
/-! ### join -/
def tJoinS (ta tb : TD) : TD := fun E Q => ta E fun x E1 => match x with
  | .str i => tb E1 fun y E2 => match y with
    | .list ys => ∃ zs : List Str, ys = zs.map PyData.str ∧ (zs.map (·.length)).sum + zs.length * i.length ≤ 16777216 ∧ Q (.str (Txt.join i zs)) E2
    | _ => False
  | _ => False
theorem ed_joinS (ha : ED X G a ta) (hb : ER X G b tb) (hs : starEach [b] X.env = [(false, eval b X.env)] := by rfl) (hbase : attributeBase a "join" X.env (eval a X.env) = eval a X.env := by rfl) (hline : (apos.endLine == pos.line) = true := by rfl) :
    ED X G (.Call (.Attribute a "join" apos) [b] [] pos) (tJoinS ta tb) :=
  ⟨PE.weak (pe_join ha.pe hb.pe hs hbase hline) fun σ H Q ⟨E, QE, r, q, k⟩ => ⟨E, _, r, q, fun x E1 v H1 q1 x1 r1 p1 => by
    cases p1 with
    | str i => exact ⟨⟨i, rfl⟩, E1, _, r1, q1, fun y E2 u H2 q2 x2 r2 p2 => by
        cases y with
        | list ys =>
          obtain ⟨zs, rfl, hz, q2⟩ := q2
          obtain ⟨c, us, rfl, sq, rl⟩ := p2.list
          rw [rl.strs] at sq
          exact ⟨i, c, zs, rfl, rfl, .inl sq, hz, k _ _ _ _ q2 (x1.trans x2) r2 (.str _)⟩
        | _ => exact q2.elim⟩
    | _ => exact q1.elim⟩⟩
/-! ### int(text) -/
def caIntS : CaT := fun ds Q => match ds with
  | [.str i] => ∃ n, PySem.intText? i = some n ∧ i.length ≤ 640 ∧ Q (.int n)
  | _ => False
theorem cd_intS : CaD X (.type "int") caIntS := ⟨_, call_int_str, fun ds vs H QD Q hd q k => by
  match ds, q, hd with
  | [.str i], ⟨n, h1, h2, q⟩, hd =>
    obtain ⟨v, rfl, h⟩ := hd.one
    rw [h.str]
    exact ⟨i, n, rfl, h1, h2, k _ _ _ q (PExt.refl _) (.int _)⟩⟩
/-! ### walked by its signs -/
def sgn (c : Nat) : Str := ⟨#[c]⟩
def signsD (x : Str) : List D := x.cps.toList.map fun c => PyData.str (sgn c)
def iStrD (ta : TD) : TDs := fun E Q => ta E fun x E1 => match x with
  | .str i => Q (signsD i) E1
  | _ => False
theorem walk_str {K : PySem.W.Frag} {H : Hp} (x : Str) : WalkD false K (Its x) H (signsD x) where
  goes := fun i H' _ hi => by unfold signsD at hi; rw [List.length_map, Array.length_toList] at hi; exact hi
  yld := fun i H' v H2 _ hi hy => by
    obtain ⟨rfl, c, hc, rfl⟩ := hy
    refine ⟨PExt.refl _, .str (sgn c), ?_, .str _⟩
    unfold signsD
    rw [List.getElem?_map, Array.getElem?_toList, hc]; rfl
  stops := fun H' _ => by
    show x.cps.size ≤ (signsD x).length
    unfold signsD
    rw [List.length_map, Array.length_toList]; exact Nat.le_refl _
theorem id_str (h : ED X G a ta) : ID X G false tg a (iStrD ta) :=
  ⟨PI.weak (pi_str h.pe) fun σ H R ⟨E, QE, r, q, k⟩ => ⟨E, _, r, q, fun x E1 v H1 q1 x1 r1 p1 => by
    cases p1 with
    | str i => exact ⟨i, rfl, k _ _ _ _ q1 x1 r1 (walk_str i)⟩
    | _ => exact q1.elim⟩⟩
/-! ### text * int -/
def repS (x : Str) (n : Int) : Str := if n < 1 then Str.empty else if (n == 1 || x.length == 0) = true then x else ⟨(List.replicate n.toNat x.cps).foldl (· ++ ·) #[]⟩
def opMulS : OpT := fun x y Q => match x, y with
  | .str i, .int n => (0 ≤ n ∧ n ≤ 1000 ∧ i.length ≤ 1000) ∧ Q (.str (repS i n))
  | _, _ => False
/-! ### text[::-1] -/
def revS (x : Str) : Str := ⟨x.cps.toList.reverse.toArray⟩
def tRevS (ta : TD) : TD := fun E Q => ta E fun x E1 => match x with
  | .str i => i.length ≤ sizeLine ∧ Q (.str (revS i)) E1
  | _ => False
end
end DL
set_option Elab.async false
set_option linter.all false
set_option maxRecDepth 100000
set_option maxHeartbeats 3200000
/-! DL63: exceptions that leave a comprehension. -/
namespace DL
open PySem PySem.Spec PyProof.Rows L2
/-- fresh, or noted by whomever -/
def SkyA (B : Heap) (l : List PySem.Env) (a : Addr) (Z : Obj → Prop) (h : Heap) : Prop :=
  (B.StaysIn h ∧ B.get? a = none ∧ h.FunFrames B l ∧ ∃ oe vs, h.get? a = some oe ∧ Z oe ∧ oe.data = .fields vs ∧ vs[1]? = some .none) ∨
  (B.StaysIn h ∧ B.get? a = none ∧ h.FunFrames B l ∧ ∃ fl, HandSPX.TracedZ h B a Z fl)
theorem SkyA.of {B : Heap} {l : List PySem.Env} {a L : Addr} {Z : Obj → Prop} {h : Heap} (x : Sky B l a Z L h) : SkyA B l a Z h := by
  rcases x with x | ⟨x1, x2, x3, x4⟩ | ⟨x1, x2, x3, x4⟩
  · exact .inl x
  · exact .inr ⟨x1, x2, x3, _, x4⟩
  · exact .inr ⟨x1, x2, x3, _, x4⟩
def XEA (X : Cx) (W : WX) (u : Value) (s' : Shared) : Prop :=
  ∃ (a : Addr) (B : Heap) (sI : Shared) (pins : List (Addr × Obj)) (σ : L2.St) (H : Hp) (cls : Value) (d : Option Addr),
    u = .ref a ∧ Inv X pins σ H sI ∧ (∀ b o, sI.heap.get? b = some o → b ∉ frs X.stack → B.get? b = some o) ∧ sI.heap.UpToSlots s'.heap ∧
      SkyA B X.stack a (Zc cls d) s'.heap ∧ H a = none ∧ s'.os = sI.os ∧ AllBare s'.gens ∧ W cls d σ H
def TakesA (X : Cx) (W : WX) : Prop := ∀ u s', XEA X W u s' → X.xe u s'
section
variable {M : Model} {A : Around} {E : Value → Shared → Prop} {s : Shared} {Z : Obj → Prop} {base : Heap} {env : PySem.Env} {outer l : List PySem.Env} {L e : Addr}
theorem upRefl (h : Heap) : h.UpToSlots h := fun b o e _ => ⟨o.slots, e⟩
/-- noted by this frame, by whomever it was noted before -/
theorem note_any {fl : Value} {Q : Unit → Shared → Prop} (hZ : HandSPX.Steady Z) (hfr : A.frames = some (env :: outer)) (hf : env.frame = some L) (hkb : base.StaysIn s.heap) (hen : base.get? e = none) (hl : s.heap.FunFrames base (env :: outer)) (ht : HandSPX.TracedZ s.heap base e Z fl)
    (hQ : ∀ h', HandSPX.HeldZ base (env :: outer) e Z L h' → s.heap.UpToSlots h' → Q () { s with heap := h' }) : wpAny M A (noteFrame (.ref e) env) Q E s := by
  by_cases c : (fl == rawInt L) = true
  · have c : fl = rawInt L := eq_of_beq c
    subst c
    exact HandSPX.againZ hf ht (hQ s.heap ⟨hkb, hen, hl, ht⟩ (upRefl _))
  · obtain ⟨oe, vs, T, oT, ts, he, hz, hd, h1, hnT, hTe, hT, hdT, h3⟩ := ht
    unfold noteFrame
    simp only [hf]
    refine wpAny_bind (wpAny_field he hd h1 ?_)
    rw [if_pos (show (Value.ref T != Value.none) = true from by simp)]
    refine wpAny_bind (wpAny_field hT hdT h3 ?_)
    rw [if_neg c]
    refine wpAny_bind (wpAny_setField hT hdT (Array.getElem?_eq_some_iff.mp h3).1 ?_)
    have oth : ∀ b, b ≠ T → (s.heap.update T (Obj.mapFields (·.setIfInBounds 3 Value.none))).get? b = s.heap.get? b := fun b hb => Heap.get?_update_other _ _ (Ne.symm hb)
    have noRec : ∀ b o, s.heap.get? b = some o → (∀ vs, o.data ≠ .fields vs) → b ≠ T := fun b o hb hnf q => by
      rw [q, hT] at hb; injection hb with hb; subst hb; exact hnf ts hdT
    refine HandSPX.wpAny_entryZ hZ hfr (hl.of_keeps fun b o hb hnf => ⟨o, (oth b (noRec b o hb hnf)).trans hb, rfl⟩) hf ((oth e (Ne.symm hTe)).trans he)
      (fun b o hbo => (oth b fun q => by rw [q, hnT] at hbo; cases hbo).trans (hkb b o hbo)) hen hd (Array.getElem?_eq_some_iff.mp h1).1 hz fun h' hN => ?_
    obtain ⟨x1, x2, x3, x4⟩ := hN
    exact hQ h' ⟨x1, hen, x2, x3⟩ fun b o hb hnf => x4 b o ((oth b (noRec b o hb hnf)).trans hb) hnf
theorem note_sky {Q : Unit → Shared → Prop} (hZ : HandSPX.Steady Z) (hfr : A.frames = some (env :: outer)) (hf : env.frame = some L) (x : SkyA base (env :: outer) e Z s.heap)
    (hQ : ∀ h', HandSPX.HeldZ base (env :: outer) e Z L h' → s.heap.UpToSlots h' → Q () { s with heap := h' }) : wpAny M A (noteFrame (.ref e) env) Q E s := by
  rcases x with ⟨hB, hn, hl, oe, vs, he, hz, hd, h1⟩ | ⟨hB, hn, hl, fl, ht⟩
  · exact HandSPX.look_newZ hZ hfr hl hf he hB hn hd h1 hz hQ
  · exact note_any hZ hfr hf hB hn hl ht hQ
theorem leaves_sky {Q : Unit → Shared → Prop} (hZ : HandSPX.Steady Z) (hfr : A.frames = some (env :: outer)) (hf : env.frame = some L) (x : SkyA base (env :: outer) e Z s.heap)
    (hQ : ∀ h', HandSPX.FlyingZ base outer e Z h' → s.heap.UpToSlots h' → Q () { s with heap := h' }) : wpAny M A (leaving env (.ref e)) Q E s := by
  unfold leaving
  refine wpAny_bind (note_sky hZ hfr hf x fun h1 hh up => ?_)
  refine HandSPX.landsZ hh fun h' hfl k => ?_
  obtain ⟨k1, k2, ⟨_, _, k3⟩, k4⟩ := hfl
  exact hQ h' ⟨k1, k2, k3, k4⟩ (up.trans k)
end
section
variable {X : Cx} {pins : List (Addr × Obj)} {σ : L2.St} {H : Hp} {sI s s' : Shared} {B : Heap} {W : WX} {E : XK}
theorem XEA.leave (hs : X.stack = X.env :: X.outer) (hf : X.env.frame = some X.env.locals) (hex : X.ex = []) {E₁ : Value → Shared → Prop} (hW : ∀ cls d σ H, W cls d σ H → E cls d H) {u : Value} (x : XEA X W u s') :
    wpAny (model X.prog X.w) X.A (leaving X.env u) (fun _ s'' => CX X.prog X.w X.outer X.H_0 X.s_0 E u s'') E₁ s' := by
  obtain ⟨a, B, sI, pins, σ, H, cls, d, rfl, I, nb, up, sky, na, os, ag, w⟩ := x
  have hfr : X.A.frames = some (X.env :: X.outer) := by rw [I.ok.frames, hs]
  have nst : ∀ b o, X.s_0.heap.get? b = some o → b ∉ X.fs → b ∉ frs X.stack := fun b o e hb hm => by
    rcases List.mem_cons.mp (I.stkSub b hm) with z | z
    · have h1 := Heap.lt_size e
      have h2 := I.ok.above
      rw [z] at h1
      exact absurd (Nat.lt_of_lt_of_le h1 h2) (Nat.lt_irrefl _)
    · exact hb z
  have hex' : ∀ b, b ∉ X.ex := fun b hb => by rw [hex] at hb; cases hb
  have hokB := I.inGround nb
  rw [hs] at sky
  refine leaves_sky Zc.steady hfr hf sky fun h' fl up' => ?_
  refine ⟨a, B, H, cls, d, rfl, fl, hokB, ⟨fun b o e n hb => nb b o (I.base.keep b o e n hb (hex' b)) (nst b o e hb), fun b o e hb => ?_, fun b o e n => I.base.free b o e n (hex' b), fun b o e hb => ?_, I.base.tups, I.base.frzs, I.base.tbls⟩,
      na, os.trans I.os, ag, hW _ _ _ _ w⟩
  · obtain ⟨_, o₀, e₀, hnf⟩ := I.ok.funs.mem hb
    rw [e] at e₀; cases e₀
    obtain ⟨sl, e1⟩ := I.base.slot b o e (I.ok.frf b hb) hb (hex' b)
    obtain ⟨sl2, e2⟩ := up b _ e1 hnf
    obtain ⟨sl3, e3⟩ := up' b _ e2 hnf
    exact ⟨sl3, e3⟩
  · obtain ⟨o', e1⟩ := I.base.there b o e (hex' b)
    exact ⟨o', nb b o' e1 (nst b o e hb)⟩
theorem takesA_of (hs : X.stack = X.env :: X.outer) (hf : X.env.frame = some X.env.locals) (hex : X.ex = []) {E₁ : Value → Shared → Prop}
    (hx : X.xe = fun e s' => wpAny (model X.prog X.w) X.A (leaving X.env e) (fun _ s'' => CX X.prog X.w X.outer X.H_0 X.s_0 E e s'') E₁ s') : TakesA X (fun cls d _ H => E cls d H) := fun u s' x => by
  rw [hx]
  exact XEA.leave (W := fun cls d _ H => E cls d H) (E := E) hs hf hex (fun _ _ _ _ h => h) x
end
/-! ### the block -/
/-- what is wished, whatever the slots -/
abbrev WB := Value → Option Addr → Hp → Prop
abbrev wB (Wb : WB) : WX := fun c d _ H => Wb c d H
abbrev blkX (X : Cx) (Wb : WB) (s : Shared) (H : Hp) (scope : Scope) (cenv : PySem.Env) (fp : List Addr) : Cx := (X.blk s H scope cenv fp).wish fun u s' => XE (X.blk s H scope cenv fp) (wB Wb) u s'
theorem takes_blkX {X : Cx} {Wb : WB} {s : Shared} {H : Hp} {scope : Scope} {cenv : PySem.Env} {fp : List Addr} : Takes (blkX X Wb s H scope cenv fp) (wB Wb) := fun u s' ⟨a, B, sI, pins, σ, H', cls, d, e, I, rest⟩ => ⟨a, B, sI, pins, σ, H', cls, d, e, I.unwish, rest⟩
theorem funFrames_but {B B2 h h2 : Heap} {C : Addr} (hB : ∀ b, B.get? b = none → B2.get? b = none) (hC : B.get? C ≠ none) (sb : ∀ b o, b ≠ C → h.get? b = some o → h2.get? b = some o) : ∀ {l : List PySem.Env}, h.FunFrames B l → h2.FunFrames B2 l
  | [], _ => trivial
  | env :: l, x => by
    obtain ⟨hk, ⟨L, o, hf, hn, ho, hd⟩, hr⟩ := x
    exact ⟨hk, ⟨L, o, hf, hB L hn, sb L o (fun z => hC (by rw [← z]; exact hn)) ho, hd⟩, funFrames_but hB hC sb hr⟩
section
variable {X : Cx} {G : Gh} {tg iter e elt : Expr} {ifs : List Expr} {scope : Scope} {pos : Pos}
theorem pe_lcX {Wb : WB} {own : List (Str × Nat)} {wi : TI} {g : TG} {tt : TT} {te : TE} (hc : X.calm = true) (hN : X.N.Nodup) (hi : PI X tg iter wi) (ok : BlkOk X.N X.env.scope scope own) (tk : TakesA X (wB Wb)) (hst : X.stack = X.env :: X.outer) (hff : X.env.frame = some X.env.locals)
    (hg : ∀ (s : Shared) (H : Hp) (C : Addr) (cl : List (Str × Addr)) (fp : List Addr), PG (X.blk s H scope (compEnvC scope cl C X.env) fp) tg g) (ht : ∀ (s : Shared) (H : Hp) (C : Addr) (cl : List (Str × Addr)) (fp : List Addr), PTs (X.blk s H scope (compEnvC scope cl C X.env) fp) ifs tt)
    (he : ∀ (s : Shared) (H : Hp) (C : Addr) (cl : List (Str × Addr)) (fp : List Addr), PE (blkX X Wb s H scope (compEnvC scope cl C X.env) fp) elt te) (hs : ∀ x, foldedSetIterable iter X.env x = pure x := by intro _; rfl) :
    PE X (.ListComp elt [⟨tg, iter, ifs, 0⟩] scope pos) (tLc wi g tt te (own.map (·.2))) := by
  refine ⟨fun pins s σ H Q I h => ?_⟩
  rw [eval_ListComp]
  have hfree : ∀ y ∈ scope.names, y.2 = .free → ∃ c, X.env.cells.lookup y.1 = some c := fun y hy e => by
    rcases ok.free y hy e with k | k
    · exact I.ok.has _ (.inl k)
    · exact I.ok.has _ (.inr k)
  refine wpAny_comprehension_free (use := none) rfl hs (closure_ok hfree) ok.kind (fun y hy e => by rw [ok.uniq y hy, e])
    (thn (hi.run pins s σ H _ I h) fun xv s1 hx => thn hx fun itv s2 h2 => ?_)
  obtain ⟨it, fp, tn, J, H2, e, I2, T, st2, f2, q⟩ := h2
  subst e
  refine wpAny_newObj_type (newEnv_comp ?_) (by show 0 ≤ sizeLine; decide)
  generalize hD : s2.heap.objs.size = D
  have hDn : H2 D = none := I2.hok.fresh (Nat.le_of_eq hD)
  obtain ⟨W, ⟨m0, w0⟩, turn⟩ := q D hDn
  generalize hs3 : ({ s2 with heap := s2.heap.push { cls := .type "list", data := .seq ([] : List Value).toArray } } : Shared) = s3
  have I3 : Inv X pins σ (upd H2 D (.lst [])) s3 := by
    rw [← hs3]
    refine I2.laid (t' := s2.toks) (fun b o e => Heap.get?_push_of_some _ e) (Nat.le_of_eq hD) ⟨Nat.zero_le _, [], 0, .nil, ?_⟩
    rw [← hD]
    exact Heap.get?_push_size _ rfl
  have h3 : s3.heap = s2.heap.push { cls := .type "list", data := .seq ([] : List Value).toArray } := by rw [← hs3]
  have sz : ∀ b ∈ fp, b < s2.heap.objs.size := fun b hb => by
    obtain ⟨o, e, _⟩ := T.obj _ _ st2 b hb
    exact Heap.lt_size e
  have f3 : ∀ b ∈ fp, FpOk X pins (upd H2 D (.lst [])) b ∧ b < s3.heap.objs.size := fun b hb => by
    have hlt := sz b hb
    refine ⟨⟨?_, (f2 b hb).2⟩, by rw [h3, Heap.size_push]; exact Nat.lt_succ_of_lt hlt⟩
    rw [upd_ne (by rw [← hD]; exact Nat.ne_of_lt hlt)]
    exact (f2 b hb).1
  have st3 : tn 0 s3.heap := T.keep _ _ _ st2 fun b _ o e => by rw [h3]; exact Heap.get?_push_of_some _ e
  have I4 := block_start I3 ok hN f3
  have pg := hg s3 (upd H2 D (.lst [])) s3.heap.objs.size (cellsFrom (s3.heap.objs.size + 1) scope.names (cloFrom X.env.cells scope.names [])) fp
  have pt := ht s3 (upd H2 D (.lst [])) s3.heap.objs.size (cellsFrom (s3.heap.objs.size + 1) scope.names (cloFrom X.env.cells scope.names [])) fp
  have pe := he s3 (upd H2 D (.lst [])) s3.heap.objs.size (cellsFrom (s3.heap.objs.size + 1) scope.names (cloFrom X.env.cells scope.names [])) fp
  show codeAny _ _ (.compStart (.ListComp elt [⟨tg, iter, ifs, 0⟩] scope pos) 0 (.ref it) (.ref D) (compEnvC scope (cellsFrom (s3.heap.objs.size + 1) scope.names (cloFrom X.env.cells scope.names [])) s3.heap.objs.size X.env)) (compPost (model X.prog X.w) X.A X.xe none (EP X pins σ Q) (.ref D) s3.heap.objs.size) { s3 with heap := pushCells (s3.heap.push { cls := .type "dict", data := .dict #[] }) scope.names }
  have nfp : ∀ b ∈ fp, (upd H2 D (.lst [])) b = none := fun b hb => (f3 b hb).1.1
  have cfr : (compEnvC scope (cellsFrom (s3.heap.objs.size + 1) scope.names (cloFrom X.env.cells scope.names [])) s3.heap.objs.size X.env).frame = X.env.frame := rfl
  generalize hce : compEnvC scope (cellsFrom (s3.heap.objs.size + 1) scope.names (cloFrom X.env.cells scope.names [])) s3.heap.objs.size X.env = ce at I4 pg pt pe cfr ⊢
  have cL : ce.locals = s3.heap.objs.size := by subst hce; rfl
  generalize hH3 : upd H2 D (.lst []) = H3 at I3 I4 pg pt pe w0 nfp f3
  generalize hs4 : ({ s3 with heap := pushCells (s3.heap.push { cls := .type "dict", data := .dict #[] }) scope.names } : Shared) = s4 at I4 ⊢
  have st4 : tn 0 s4.heap := T.keep _ _ _ st3 fun b _ o e => by rw [← hs4]; exact pushCells_keeps _ _ _ _ (Heap.get?_push_of_some _ e)
  have stat : ∀ {σ' : L2.St} {H' : Hp} {s' : Shared}, Inv (X.blk s3 H3 scope ce fp) [] σ' H' s' → (∀ b ∈ fp, H' b = none) → ∀ b ∈ fp, FpOk (X.blk s3 H3 scope ce fp) [] H' b := fun {σ' H' s'} I' hn b hb =>
    ⟨hn b hb, (I'.ok.exf b hb).1, I'.ok.exfs b hb, .inl hb, fun x c e => (I'.ok.exf b hb).2 x c e, fun p hp => absurd (show p ∈ ([] : List (Addr × Obj)) ++ [] from hp) (by simp)⟩
  -- an exception of the element's
  have fails : ∀ (u : Value) (s' : Shared), XE (X.blk s3 H3 scope ce fp) (wB Wb) u s' → notedBy (model X.prog X.w) X.A ce (fun e s' => compPost (model X.prog X.w) X.A X.xe none (EP X pins σ Q) (.ref D) s3.heap.objs.size (.error e) s') u s' := by
    rintro u s' ⟨a, B, sI, pins', σ', H', cls, d, rfl, J', nb, up, sky, na, os, ag, w⟩
    show wpAny _ _ (noteFrame (.ref a) ce) _ _ s'
    rw [noteFrame_env _ (env := X.env) cfr]
    have hfr : X.A.frames = some (X.env :: X.outer) := by rw [I.ok.frames, hst]
    have sky : SkyA B (X.env :: X.outer) a (Zc cls d) s'.heap := by
      have z := SkyA.of sky
      rw [← hst]; exact z
    refine note_sky Zc.steady hfr hff sky fun h1 hh up1 => ?_
    obtain ⟨m, hn, _⟩ := J'.loc
    have hn : sI.heap.Ns ce.locals m := hn
    rw [cL] at hn
    refine ⟨m, hn.upToSlots (up.trans up1), fun h2 sb cenv' _ => ?_⟩
    obtain ⟨st1, n1, fr1, oe, vs, Tb, oT, ts, hea, hz, hd, ht1, hnT, hTe, hT, hdT, h3'⟩ := hh
    obtain ⟨oL, hoL⟩ : ∃ o, sI.heap.get? s3.heap.objs.size = some o := by obtain ⟨oL, es, ep, hoL, _⟩ := hn; exact ⟨oL, hoL⟩
    have nfr : s3.heap.objs.size ∉ frs X.stack := fun hm => by
      obtain ⟨_, o, e, _⟩ := I3.stack.mem hm
      exact absurd (Heap.lt_size e) (Nat.lt_irrefl _)
    have hBC : B.get? s3.heap.objs.size = some oL := nb _ _ hoL nfr
    have haC : a ≠ s3.heap.objs.size := fun z => by rw [z, hBC] at n1; cases n1
    have hTC : Tb ≠ s3.heap.objs.size := fun z => by rw [z, hBC] at hnT; cases hnT
    have hide : ∀ {h : Heap} {b : Addr} {o : Obj}, (PySem.W.hideAll h [s3.heap.objs.size]).get? b = some o → h.get? b = some o ∧ b ≠ s3.heap.objs.size := fun {h b o} e =>
      ⟨PySem.W.of_hideAll _ e, fun z => by
        rw [PySem.W.hideAll_none [s3.heap.objs.size] (by rw [z]; exact List.mem_singleton.mpr rfl)] at e; cases e⟩
    have show_ : ∀ {h : Heap} {b : Addr} {o : Obj}, h.get? b = some o → b ≠ s3.heap.objs.size → (PySem.W.hideAll h [s3.heap.objs.size]).get? b = some o := fun e ne => PySem.W.hideAll_get _ e fun z => ne (List.mem_singleton.mp z)
    have hB2 : ∀ b, B.get? b = none → (PySem.W.hideAll B [s3.heap.objs.size]).get? b = none := fun b e => by
      cases q : (PySem.W.hideAll B [s3.heap.objs.size]).get? b with
      | none => rfl
      | some o => rw [(hide q).1] at e; cases e
    have sb' : ∀ b o, b ≠ s3.heap.objs.size → h1.get? b = some o → h2.get? b = some o := fun b o ne e => (sb.2 b ne).trans e
    have fr2 : h2.FunFrames (PySem.W.hideAll B [s3.heap.objs.size]) (X.env :: X.outer) := funFrames_but hB2 (by rw [hBC]; simp) sb' fr1
    have st2' : (PySem.W.hideAll B [s3.heap.objs.size]).StaysIn h2 := fun b o e => sb' b o (hide e).2 (st1 b o (hide e).1)
    have tr2 : HandSPX.TracedZ h2 (PySem.W.hideAll B [s3.heap.objs.size]) a (Zc cls d) (rawInt X.env.locals) := ⟨oe, vs, Tb, oT, ts, sb' _ _ haC hea, hz, hd, ht1, hB2 _ hnT, hTe, sb' _ _ hTC hT, hdT, h3'⟩
    unfold PySem.passOn
    refine wpAny_bind (wpAny_field (sb' _ _ haC hea) hd ht1 ?_)
    rw [if_neg (show ¬ ((Value.ref Tb == Value.none) = true) from by simp)]
    refine wpAny_bind (HandSPX.setFlight_anyZ (fr := cenv'.frame) st2' fr2 tr2 fun h4 st4 fr4 tr4 up4 => wpAny_throw ?_)
    have I7 : Inv X pins σ H' sI := I3.call' (ch := fp) J'.os J'.base J'.hok J'.bare fun b hb => ⟨(f3 b hb).1.2.2.2.1, (f3 b hb).1.2.1, (f3 b hb).1.2.2.2.2.1, (f3 b hb).1.2.2.2.2.2⟩
    have nC : H' s3.heap.objs.size = none := by
      have z : H' ce.locals = none := J'.free
      rw [cL] at z
      exact z
    obtain ⟨f0, f1, f2', f3', f4, f5⟩ := I3.fpOk (Nat.le_refl _) nC
    have I8 := I7.turned (t' := sI.toks) (h' := PySem.W.hideAll sI.heap [s3.heap.objs.size]) (fun b o hb e => show_ e hb) f0 f1 f3' f4 f5
    refine tk _ _ ⟨a, PySem.W.hideAll B [s3.heap.objs.size], _, pins, σ, H', cls, d, rfl, I8, fun b o e hb => show_ (nb b o (hide e).1 hb) (hide e).2, fun b o e hnf => ?_, .inr ⟨st4, hB2 _ n1, by rw [hst]; exact fr4, _, tr4⟩, na, os, ag, w⟩
    obtain ⟨e1, ne⟩ := hide e
    obtain ⟨sl1, g1⟩ := (up.trans up1) b o e1 hnf
    exact up4 b { o with slots := sl1 } (sb' b _ ne g1) hnf
  have loop : codeAny (model X.prog X.w) X.A (.compLoop (.ListComp elt [⟨tg, iter, ifs, 0⟩] scope pos) 0 (.ref it) (.ref D) ce) (compPost (model X.prog X.w) X.A X.xe none (EP X pins σ Q) (.ref D) s3.heap.objs.size) s4 := by
    refine compLoop_any (fun n s' => ∃ i H', Inv (X.blk s3 H3 scope ce fp) [] (L2.wipe σ (own.map (·.2))) H' s' ∧ tn i s'.heap ∧ (∀ b ∈ fp, H' b = none) ∧ W i n H') ?_ m0 ⟨0, H3, I4, st4, nfp, w0⟩
    rintro n s5 ⟨i, H5, I5, st5, n5, w5⟩
    rcases turn i n H5 w5 with ⟨stop, qq⟩ | ⟨go, Nx, hNx, step⟩
    · have td := T.done (X.blk s3 H3 scope ce fp) rfl rfl rfl hc i [] s5 _ H5 (fun _ _ => False) I5 (stat I5 n5) st5 stop
      refine thnF td fun r s6 ⟨hr, I6⟩ => ?_
      subst hr
      have I7 : Inv X pins σ H5 s6 := I3.call' (ch := fp) I6.os I6.base I6.hok I6.bare fun b hb => ⟨(f3 b hb).1.2.2.2.1, (f3 b hb).1.2.1, (f3 b hb).1.2.2.2.2.1, (f3 b hb).1.2.2.2.2.2⟩
      have nC : H5 s3.heap.objs.size = none := by
        have z : H5 ce.locals = none := I6.free
        rw [cL] at z
        exact z
      obtain ⟨m, hn, _⟩ := I6.loc
      have hn : s6.heap.Ns ce.locals m := hn
      rw [cL] at hn
      refine ⟨m, hn, fun h'' sb => ?_⟩
      obtain ⟨f0, f1, f2', f3', f4, f5⟩ := I3.fpOk (Nat.le_refl _) nC
      exact ⟨.ref D, H5, I7.turned (t' := s6.toks) (fun b o hb e => (sb.2 b hb).trans e) f0 f1 f3' f4 f5, rfl, qq⟩
    · have ti := T.item (X.blk s3 H3 scope ce fp) rfl rfl rfl hc i [] s5 _ H5 (fun _ _ => False) I5 (stat I5 n5) st5 go
      refine thnF ti fun r s6 ⟨u, hr, h6⟩ => ?_
      subst hr
      refine thnF h6 fun _ s7 ⟨x, H7, I7, r7, y7, st7, n7⟩ => ?_
      have I7' := I7.pinned (stat I7 n7) (T.obj _ _ st7)
      refine thnF (pg.run _ s7 _ H7 x u _ I7' r7 (step x H7 y7)) fun _ s8 ⟨σ8, H8, I8, hw8, q8⟩ => ?_
      refine thnF (pt.run _ s8 σ8 H8 _ I8 q8) fun b s9 ⟨H9, I9, q9⟩ => ?_
      have fin : ∀ {s' : Shared} {H' : Hp}, Inv (X.blk s3 H3 scope ce fp) ([] ++ pinsAt fp s7.heap) σ8 H' s' → Nx H' → ∃ m, m < n ∧ ∃ i H', Inv (X.blk s3 H3 scope ce fp) [] (L2.wipe σ (own.map (·.2))) H' s' ∧ tn i s'.heap ∧ (∀ b ∈ fp, H' b = none) ∧ W i m H' := fun {s' H'} I' nx => by
        obtain ⟨m', hm, w'⟩ := hNx H' nx
        have pin' : ∀ b ∈ fp, ∀ o, s7.heap.get? b = some o → s'.heap.get? b = some o ∧ H' b = none := fun b hb o e =>
          let z := I'.pin (b, o) (List.mem_append_right _ (List.mem_append_right _ (mem_pinsAt hb e)))
          ⟨z.1, z.2.1⟩
        have hl : (L2.wipe σ (own.map (·.2))).length = σ8.length := by rw [← hw8, wipe_length]
        refine ⟨m', hm, i + 1, H', (I'.unpinned (pins := [])).weak hl (fun j v e => ?_), T.keep _ _ _ st7 fun b hb o e => (pin' b hb o e).1, fun b hb => ?_, w'⟩
        · rw [← hw8] at e
          exact (wipe_some e).1
        · obtain ⟨o, e, _⟩ := T.obj _ _ st7 b hb
          exact (pin' b hb o e).2
      cases b with
      | false =>
        simp only [Bool.false_eq_true, if_false] at q9 ⊢
        exact fin I9 q9
      | true =>
        simp only [if_true] at q9 ⊢
        refine wpAny_mono (pe.run _ s9 σ8 H9 _ (I9.wish _) q9) (fun z s10 ⟨yv, H10, I10, r10, acc, hD10, hz10, nx⟩ => ?_) fails
        exact app_ok (X := X.blk s3 H3 scope ce fp) I10.unwish hD10 hz10 r10 fun s11 I11 => fin I11 nx
  exact codeAny_compStart_list loop (T.self X.A 0 _ _ _ st4 loop)
end
end DL
set_option Elab.async false
set_option linter.all false
set_option maxRecDepth 100000
set_option maxHeartbeats 3200000
/-! DL64: comprehensions that may raise, over data; defs that have such; small things for texts. -/
namespace DL
open PySem PySem.Spec PyProof.Rows L2
abbrev anyX (K : PySem.W.Frag) (G : Gh) (Wb : WB) (te : WDt → TD) : TE := fun σ H Q => ∃ (G' : Gh) (WD' : WDt), G'.slots = G.slots ∧ Wish K G' WD' (wB Wb) ∧ liftE K G' (te WD') σ H Q
theorem wipe_wipe (σ : L2.St) (l : List Nat) : L2.wipe (L2.wipe σ l) l = L2.wipe σ l := by
  have : ∀ (τ : L2.St) (l k : List Nat), (∀ j ∈ l, j ∈ k) → (∀ j ∈ k, ∀ v, τ[j]? = some v → v = none) → L2.wipe τ l = τ := by
    intro τ l
    induction l with
    | nil => intro _ _ _; rfl
    | cons v vs ih =>
      intro k hk hn
      show (L2.wipe τ vs).set v none = τ
      rw [ih k (fun j hj => hk j (List.mem_cons_of_mem _ hj)) hn]
      refine List.ext_getElem? fun j => ?_
      by_cases hv : v = j
      · subst hv
        by_cases hl : v < τ.length
        · rw [List.getElem?_set_self hl]
          have := hn v (hk v (List.mem_cons_self ..)) _ (List.getElem?_eq_getElem hl)
          rw [List.getElem?_eq_getElem hl, this]
        · rw [List.getElem?_eq_none (by simpa using hl), List.getElem?_eq_none (by simpa using hl)]
      · rw [List.getElem?_set_ne hv]
  refine this _ l l (fun j hj => hj) fun j hj v e => ?_
  cases v with
  | none => rfl
  | some y => exact absurd hj (wipe_some e).2
section
variable {X : Cx} {G : Gh} {tg iter : Expr} {pos : Pos}
theorem lift_compX {W : Bool} {Wb : WB} {WD : WDt} {ti : TDs} {g : TGd} {tt : TTd} {te : WDt → TD} {ms : List Nat} (hW : Wish X.K G WD (wB Wb)) (hE : ∀ cls E E', WD cls E → WD cls E') (hm : ∀ i ∈ ms, i ∉ G.slots) (σ : L2.St) (H : Hp) (Q : VK)
    (h : liftL X.K G (tComp ti g tt (te fun cls _ => WD cls []) ms) σ H Q) : tLc (liftI W X.K G ti) (anyG W X.K G ms g) (anyT X.K G tt) (anyX X.K G Wb te) ms σ H Q := by
  obtain ⟨E, QE, r, q, k⟩ := h
  refine ⟨E, _, r, q, fun ds E1 J H1 q1 x1 r1 wk L hL => ?_⟩
  obtain ⟨rL, h0, na⟩ := r1.fresh (o := .lst []) hL
  refine ⟨fun i m H' => ∃ (E' : Env) (σ' : L2.St) (acc : List D) (vs : List V), i + m = ds.length ∧ Ext (upd H1 L (.lst [])) H' ∧ RelX X.K G [L] H' E' σ' ∧ L2.wipe σ' ms = L2.wipe σ ms ∧ H' L = some (.lst vs) ∧ RpL X.K H' acc vs ∧
    compD g tt (te fun cls _ => WD cls []) ms (ds.drop i) acc E' fun xs E2 => QE xs (restE E1 E2 ms), ⟨ds.length, E1, σ, [], [], by omega, Ext.refl _, rL, rfl, upd_same, .nil, q1⟩, fun i m H2 hW2 => ?_⟩
  obtain ⟨E2, σ2, acc, vs, hm2, x2, r2, w2, a2, p2, q2⟩ := hW2
  have xL : Ext H1 H2 := (PExt.new hL).ext.trans x2
  by_cases hi : i < ds.length
  · obtain ⟨d, hd⟩ : ∃ d, ds[i]? = some d := ⟨ds[i], List.getElem?_eq_getElem hi⟩
    have hdr : ds.drop i = d :: ds.drop (i + 1) := by
      rw [List.drop_eq_getElem_cons hi]
      rw [List.getElem?_eq_getElem hi] at hd
      rw [Option.some.inj hd]
    rw [hdr] at q2
    refine .inr ⟨wk.goes i H2 xL hi, fun H' => ∃ (E' : Env) (σ' : L2.St) (acc : List D) (vs : List V), Ext (upd H1 L (.lst [])) H' ∧ RelX X.K G [L] H' E' σ' ∧ L2.wipe σ' ms = L2.wipe σ ms ∧ H' L = some (.lst vs) ∧ RpL X.K H' acc vs ∧
      compD g tt (te fun cls _ => WD cls []) ms (ds.drop (i + 1)) acc E' fun xs E2 => QE xs (restE E1 E2 ms), fun H' ⟨E', σ', acc, vs, b1, b2, b3, b4, b5, b6⟩ => ⟨m - 1, by omega, E', σ', acc, vs, by omega, b1, b2, b3, b4, b5, b6⟩, fun x H3 hy => ?_⟩
    obtain ⟨px, d', hd', p⟩ := wk.yld i H2 x H3 xL hi hy
    rw [hd] at hd'; cases hd'
    have hs0 : (pend G L (.lst vs)).slots = G.slots := rfl
    have r3 : RelE X.K (pend G L (.lst vs)) H3 (wipeE E2 ms) (L2.wipe σ ms) := by
      have := ((r2.pext px).wipe hm).toPend (px _ _ a2) na
      rw [w2] at this; exact this
    refine ⟨pend G L (.lst vs), hs0, _, d, _, r3, p, q2, fun E4 σ4 H4 q4 x4 r4 w4 => ?_⟩
    refine ⟨by rw [w4]; exact wipe_wipe σ ms, pend G L (.lst vs), hs0, E4, _, r4, q4, fun b E5 H5 q5 x5 r5 => ?_⟩
    have w45 : L2.wipe σ4 ms = L2.wipe σ ms := by rw [w4]; exact wipe_wipe σ ms
    have x5' : Ext (upd H1 L (.lst [])) H5 := ((x2.trans px.ext).trans x4).trans x5
    cases b with
    | false =>
      rw [if_neg Bool.false_ne_true] at q5
      refine iteF ?_
      obtain ⟨r6, a6⟩ := RelX.ofPend r5 h0 na
      exact ⟨E5, σ4, acc, vs, x5', r6, w45, a6, p2.ext ((px.ext.trans x4).trans x5), q5⟩
    | true =>
      rw [if_pos rfl] at q5
      refine iteT ?_
      refine ⟨pend G L (.lst vs), fun cls _ => WD cls [], hs0, fun cls E' σ' H' w r' => hW cls E' σ' H' (hE cls [] E' w) (RelX.ofPend r' h0 na).1.weak, E5, _, r5, q5, fun y E6 u H6 q6 x6 r6 p6 => ?_⟩
      obtain ⟨r7, a7⟩ := RelX.ofPend r6 h0 na
      have pv := p2.ext (((px.ext.trans x4).trans x5).trans x6)
      have xp : Ext H6 (upd H6 L (.lst (vs ++ [u]))) := Ext.put a7
      refine ⟨vs, a7, by rw [← pv.length]; exact q6.1, E6, σ4, acc ++ [y], vs ++ [u], (x5'.trans x6).trans xp, ?_, w45, upd_same, (RpL.append pv (.cons p6 .nil)).ext xp, q6.2⟩
      obtain ⟨l, kk, pn, dm, x0, A, h1, h2, h3⟩ := r7
      refine ⟨l, fun p o e ne => ?_, pn, fun p hp => ?_, x0.trans xp, fun j => if E6[j]? = none then [] else A j, fun i j b e1 e2 => ?_, fun i b e => ?_, fun j s e => ?_⟩
      · have : p ≠ L := by rintro rfl; rw [h0] at e; cases e
        rw [upd_ne this]; exact kk p o e ne
      · have : p ≠ L := by rintro rfl; exact na hp
        rw [upd_ne this]; exact dm p hp
      · dsimp only at e1 e2
        split at e1
        · cases e1
        · split at e2
          · cases e2
          · exact h1 i j b e1 e2
      · dsimp only at e
        split at e
        · cases e
        · exact h2 i b e
      · have : E6[j]? ≠ none := by rw [e]; simp
        simp only [this, if_false]
        exact (h3 j s e).move xp fun p hp => upd_ne (by rintro rfl; exact (h2 j p hp).2 (by simp))
  · have e0 : ds.drop i = [] := List.drop_eq_nil_of_le (by omega)
    have ei : i = ds.length := by omega
    rw [e0] at q2
    exact .inl ⟨by rw [ei]; exact wk.stops H2 xL, k _ _ _ _ _ q2 (x1.trans xL) (RelX.rest r1 xL r2 w2 hm) h0 na a2 p2⟩
theorem el_compX {W : Bool} {Wb : WB} {WD : WDt} {elt : Expr} {ifs : List Expr} {scope : Scope} {ti : TDs} {g : TGd} {tt : TTd} {te : WDt → TD} {ms : List Nat} (own : List (Str × Nat)) (tk : TakesA X (wB Wb)) (hW : Wish X.K G WD (wB Wb)) (hE : ∀ cls E E', WD cls E → WD cls E') (hst : X.stack = X.env :: X.outer) (hff : X.env.frame = some X.env.locals)
    (hc : X.calm = true) (hN : X.N.Nodup) (hms : own.map (·.2) = ms) (hm : ∀ i ∈ ms, i ∉ G.slots) (hi : ID X G W tg iter ti) (ok : BlkOk X.N X.env.scope scope own)
    (hg : ∀ (G' : Gh), G'.slots = G.slots → ∀ (s : Shared) (H : Hp) (C : Addr) (cl : List (Str × Addr)) (fp : List Addr), GD (X.blk s H scope (compEnvC scope cl C X.env) fp) G' W ms tg g)
    (ht : ∀ (G' : Gh), G'.slots = G.slots → ∀ (s : Shared) (H : Hp) (C : Addr) (cl : List (Str × Addr)) (fp : List Addr), EBs (X.blk s H scope (compEnvC scope cl C X.env) fp) G' ifs tt)
    (he : ∀ (G' : Gh), G'.slots = G.slots → ∀ (WD' : WDt), Wish X.K G' WD' (wB Wb) → ∀ (s : Shared) (H : Hp) (C : Addr) (cl : List (Str × Addr)) (fp : List Addr), Takes (blkX X Wb s H scope (compEnvC scope cl C X.env) fp) (wB Wb) → ED (blkX X Wb s H scope (compEnvC scope cl C X.env) fp) G' elt (te WD')) (hs : ∀ x, foldedSetIterable iter X.env x = pure x := by intro _; rfl) :
    EL X G (.ListComp elt [⟨tg, iter, ifs, 0⟩] scope pos) (tComp ti g tt (te fun cls _ => WD cls []) ms) := by
  have Pg : ∀ (s : Shared) (H : Hp) (C : Addr) (cl : List (Str × Addr)) (fp : List Addr), PG (X.blk s H scope (compEnvC scope cl C X.env) fp) tg (anyG W X.K G ms g) := fun s H C cl fp => ⟨fun pins s' σ H' v x Q I r ⟨G', hG', q⟩ => (hg G' hG' s H C cl fp).pg.run pins s' σ H' v x Q I r q⟩
  have Pt : ∀ (s : Shared) (H : Hp) (C : Addr) (cl : List (Str × Addr)) (fp : List Addr), PTs (X.blk s H scope (compEnvC scope cl C X.env) fp) ifs (anyT X.K G tt) := fun s H C cl fp => ⟨fun pins s' σ H' Q I ⟨G', hG', q⟩ => (ht G' hG' s H C cl fp).pt.run pins s' σ H' Q I q⟩
  have Pe : ∀ (s : Shared) (H : Hp) (C : Addr) (cl : List (Str × Addr)) (fp : List Addr), PE (blkX X Wb s H scope (compEnvC scope cl C X.env) fp) elt (anyX X.K G Wb te) := fun s H C cl fp => ⟨fun pins s' σ H' Q I ⟨G', WD', hG', hW', q⟩ => (he G' hG' WD' hW' s H C cl fp takes_blkX).pe.run pins s' σ H' Q I q⟩
  refine ⟨PE.weak (pe_lcX hc hN hi.pi ok tk hst hff Pg Pt Pe hs) fun σ H Q h => ?_⟩
  rw [hms]; exact lift_compX hW hE hm σ H Q h
end
/-- THE RULE for a def that may raise, and has no mutable parameters -/
theorem fn_okXE {P : Program} {w : World} {K : PySem.W.Frag} {mg : Str → Option Value} {base : Heap} {x qual : Str} {st : Stmt} {f : Addr} {fd : FuncData} {N ps : List Str} {k : Nat} {sp : SpX} {tb : WDt → TSd}
    (F : Fun K x qual st f fd) (Sc : FnScope N ps (defScope st)) (shape : ∀ ss QD QX, sp ss QD QX → ss.length = ps.length ∧ mpos 0 ss = [])
    (body : ∀ (cdv : Value) (A : Around) (outer : List PySem.Env) (s : Shared) (H : Hp) (E : XK), Room k (A.deeper (envOfC qual (defScope st) s.heap.objs.size f cdv)) → ∀ G : Gh, G.slots = [] → ∀ WD : WDt, Wish K G WD (fun cls d _ H' => E cls d H') → (∀ cls E E', WD cls E → WD cls E') →
      SDs (cxOf (L2.CX P w) P w K mg base N qual (defScope st) f cdv A outer s H E) G (defBody st) (tb WD))
    (read : ∀ ss QD QX, sp ss QD QX → tb (fun cls _ => QX cls []) { nx := fun E' => finO [] E' (QD .none), rt := fun d E' => finO [] E' (QD d) } (ss ++ List.replicate (N.length - ps.length) .un)) :
    FnOk P w K mg base (L2.CX P w) (k + 1) f fd ps (spLX K sp) := by
  refine F.okX Sc (fun vs H Q E h => ?_) (fun cdv A outer s H vs Q E hr h => ?_)
  · obtain ⟨ss, as, QD, QX, h1, h2, _⟩ := h
    rw [← h2.length]; exact (shape ss QD QX h1).1
  · obtain ⟨ss, as, QD, QX, h1, h2, nd, h4, h5⟩ := h
    obtain ⟨hl, hm⟩ := shape ss QD QX h1
    have ml := h2.mlen 0
    have hG : (⟨H, (mpos 0 ss).zip as, fun _ => none, []⟩ : Gh).slots = [] := by show ((mpos 0 ss).zip as).map (·.1) = []; rw [zip_fst ml, hm]
    have hA : (⟨H, (mpos 0 ss).zip as, fun _ => none, []⟩ : Gh).addrs = as := by show ((mpos 0 ss).zip as).map (·.2) ++ [] = as; rw [zip_snd ml, List.append_nil]
    have hW : Wish K ⟨H, (mpos 0 ss).zip as, fun _ => none, []⟩ (fun cls _ => QX cls []) (fun cls d _ H' => E cls d H') := fun cls E' σ H' q r => by
      obtain ⟨outs, q1, p1⟩ := finO_rel (slots := []) (Q := QX cls) r (as := as) (by rw [← hm]; exact ml) (by rw [← hm]; exact fun p hp => hp) q
      exact h5 cls outs H' q1 (fun p o e ne => r.keep p o e (by rw [hA]; exact ne)) p1
    refine ⟨_, (body cdv A outer s H E hr ⟨H, (mpos 0 ss).zip as, fun _ => none, []⟩ hG _ hW fun _ _ _ h => h).pss, ?_⟩
    have hst : L2.start N vs = vs.map some ++ List.replicate (N.length - ps.length) none := by unfold L2.start; rw [← h2.length, hl]
    refine ⟨ss ++ List.replicate (N.length - ps.length) .un, { nx := fun E' => finO [] E' (QD .none), rt := fun d E' => finO [] E' (QD d) }, by rw [hst]; exact h2.start nd, read ss QD QX h1, fun E' σ' H' q x r => ?_, fun d E' v σ' H' q x r p => ?_, fun _ _ _ q => False.elim q, fun _ _ _ q => False.elim q⟩
    · obtain ⟨outs, q1, p1⟩ := finO_rel (slots := []) (Q := QD .none) r (as := as) (by rw [← hm]; exact ml) (by rw [← hm]; exact fun p hp => hp) q
      exact h4 .none outs .non H' q1 (fun p o e ne => r.keep p o e (by rw [hA]; exact ne)) p1 .non
    · obtain ⟨outs, q1, p1⟩ := finO_rel (slots := []) (Q := QD d) r (as := as) (by rw [← hm]; exact ml) (by rw [← hm]; exact fun p hp => hp) q
      exact h4 d outs v H' q1 (fun p o e ne => r.keep p o e (by rw [hA]; exact ne)) p1 p
/-! ### slices of a list of one's own -/
section
variable {X : Cx} {G : Gh} {a b e f : Expr} {pos p p0 p2 apos cpos tpos : Pos} {x : Str} {elts : List Expr} {kk : Nat} {keys : List (Option Expr)} {values : List Expr}
def tSlO (i : Nat) (tl th : TOd) : TLd := fun E Q => match E[i]? with
  | some (.ol _) => tl E fun l E1 => th E1 fun u E2 => match E2[i]? with
    | some (.ol xs) => Q (cutD xs l u) E2
    | _ => False
  | _ => False
theorem el_slO (i : Nat) {lo hi : Option Expr} {tl th : TOd} (hl : EO X G lo tl) (hh : EO X G hi th) (hN : X.N[i]? = some x := by rfl) (hv : Vis X.env.scope x := by first | exact Or.inl rfl | exact Or.inr (Or.inl rfl) | exact Or.inr (Or.inr rfl)) (hd : (x == ("__debug__" : Str)) = false := by decide)
    (hcd : (x == ("__classdict__" : Str)) = false := by decide) : EL X G (.Subscript (.Name x p0) (.Slice lo hi none p2) pos) (tSlO i tl th) := by
  refine ⟨PE.weak (pe_slice sl_list (pe_var hN hv hd hcd) hl.po hh.po) fun σ H Q ⟨E, QE, r, q, k⟩ => ?_⟩
  unfold tSlO at q
  split at q
  · rename_i xs0 he0
    obtain ⟨c, vs0, e1, _, _⟩ := r.ol he0
    refine ⟨_, e1, E, _, r, q, fun l E2 H2 q2 x2 r2 => ⟨E2, _, r2, q2, fun u E3 H3 q3 x3 r3 => ?_⟩⟩
    split at q3
    · rename_i xs he
      obtain ⟨c', vs, f1, f2, ll⟩ := r3.ol he
      rw [e1] at f1; cases f1
      refine ⟨_, _, rfl, SqL.of f2, fun p' hp => ?_⟩
      obtain ⟨r4, h0, na⟩ := r3.fresh (o := .lst (cutV _ l u)) hp
      exact k _ _ _ _ _ q3 ((x2.trans x3).trans (PExt.new hp).ext) r4 h0 na upd_same ((ll.cut l u).ext (PExt.new hp).ext)
    · exact q3.elim
  · exact q.elim
/-! ### {..}.get(k, x) -/
def tDkGet2M (t : TM) (tk tx : TD) : TD := fun E Q => t E fun s E1 => match s with
  | .dk kvs => kvs ≠ [] ∧ tk E1 fun k E2 => tx E2 fun z E3 => optQ (keyOf k) fun ky => Q ((valK kvs ky).getD z) E3
  | _ => False
theorem ed_dkGet2M {t : TM} {tk tx : TD} (hu : X.A.units + 65 < cLine) (ha : EM X G a t) (hk : ED X G e tk) (hx : ED X G f tx) (m : M2 X a "get" apos e f cpos := by exact ⟨rfl, rfl, rfl, rfl⟩) : ED X G (.Call (.Attribute a "get" apos) [e, f] [] cpos) (tDkGet2M t tk tx) :=
  ⟨PE.weak (pe_dget2 (by omega) (PE.fzIf ha.pe) hk.pe hx.pe m) fun σ H Q ⟨E, QE, r, q, k⟩ => ⟨E, _, r, q, fun s E1 b H1 q1 x1 r1 h0 na mm => by
    split at q1
    · rename_i kvs
      obtain ⟨ne, q1⟩ := q1
      obtain ⟨us, e2, e3, e4⟩ := mm
      refine .inr ⟨b, _, rfl, e2, trivial, fun o => ?_⟩
      have xf : Ext H1 (upd H1 b (.frz o (.dK us))) := Ext.putS e2 (fun _ z => by cases z) (fun _ _ z => by cases z)
      have r1f := r1.freezeS (u' := .frz o (.dK us)) h0 na e2 (fun _ z => by cases z) (fun _ _ z => by cases z)
      refine ⟨b, rfl, .inl ⟨us, .inr ⟨o, upd_same⟩⟩, E1, _, r1f, q1, fun kd E2 w H2 q2 x2 r2 p2 => ⟨E2, _, r2, q2, fun z E3 w3 H3 q3 x3 r3 p3 => ?_⟩⟩
      cases h2 : keyOf kd with
      | none => rw [h2] at q3; exact q3.elim
      | some ky =>
        rw [h2] at q3
        have q3 : QE ((valK kvs ky).getD z) E3 := q3
        have kr3 : KR X.K H3 kvs us := KR.ext (KR.ext (KR.ext (H := H1) ⟨e3, e4⟩ xf) x2) x3
        have hd3 := x3.frz _ _ _ (x2.frz b o _ upd_same)
        rw [keyOf_rel h2 p2]
        refine ⟨valV us ky, .inl ⟨us, ky, .inr ⟨o, hd3⟩, rfl, rfl⟩, ?_⟩
        have xx := ((x1.trans xf).trans x2).trans x3
        cases h3 : valK kvs ky with
        | none =>
          rw [h3] at q3
          rw [valK_none kr3.1 h3]
          exact k _ _ _ _ q3 xx r3 p3
        | some d =>
          rw [h3] at q3
          obtain ⟨v', g1, g2⟩ := valK_rel kr3.1 kr3.2 h3
          rw [g1]
          exact k _ _ _ _ q3 xx r3 g2
    · exact q1.elim⟩⟩
end
end DL
set_option Elab.async false
set_option linter.all false
set_option maxRecDepth 100000
set_option maxHeartbeats 1000000
/-! DL65: zip of a tuple and a list. -/
namespace DL
open PySem PySem.Spec PyProof.Rows L2
section
variable {X : Cx} {G : Gh} {a b : Expr} {p pos tpos : Pos} {elts : List Expr} {kk : Nat}
def iZipN (ta tb : TD) : TDs := fun E Q => ta E fun x E1 => tb E1 fun y E2 => match x, y with
  | .tuple xs, .list ys => Q (zipD xs ys) E2
  | _, _ => False
end
end DL
set_option Elab.async false
set_option linter.all false
set_option maxRecDepth 100000
set_option maxHeartbeats 4000000
/-! FnBase: _law_draw, _law_pick, _law_same -/
namespace DL
open PySem PySem.Spec PyProof.Rows L2
local macro_rules | `(tactic| walk_at "dl") => `(tactic| simp only [tV, tVr, tFzV, turnD, DL.wipeE, tK, tOpD, tUnD, tBo, tAndD, tOrD, tNotD, tIfE, DL.tAndV, DL.tOrV, DL.tNotV, tTru, truD, okLen, sSet, sSetL, sExpr, sRet, sIf, sNx, tTupD, dNil, dCons, tLstD, tFzD, tApp, tExtd, tPopAt, sSetIx, tIxO, tChainD, tChain3D, tRevT, caStr, opRepT, opAdd, opSub, opMul, opDiv, opMod, opPow, DL.opI, DL.opI0, opB0, opLt, opLe, opGt, opGtD, opLtD, opGe, opEq, opNe, opIs, opIsN, isNone, opIn, opNotIn, opIx, atD_0, atD_1, atD_2, atD_3, putD_0, unNeg, tCa1, tCa2, tCaL1, caLen, caAbs, caMax2, caMin2, caSum, caMax, caMin, caSumT, caMaxT, caMinT, caAll, caTuple, caList, caInt, tIsi, isInt, isBool, isStr, isTuple, isList, notDict, sAsg, gSet, gTupD, gsNil, gsCons, sPar, pNil, pD, pL, setAll, tCallD, aNil, aV, aO, argS, oixs, ndp, putO, tOpL, opCat, opRep, tSlD, slD, tSlL, oNo, oE, tRevD, iLstD, iTupD, iRange1, iRange2, iZipD, iZipM, finO, tTrue, Option.map, eqv_int, eqv_bool, eqv_none, shaped_int, shaped_bool, shaped_none, tLenRange, tSortSet, tLenSet, tLenSetP, tSortSetP, tCountL, tCountT, tIndexL, tIndexT, DL.tOrT, DL.tAndT, DL.tNotT, tSortRev, caSorted, iEnumL, iEnumT, decide_eq_true_eq, and_self, List.cons_append, List.nil_append, List.replicate, List.getElem?_cons_zero, List.getElem?_cons_succ, List.set_cons_zero, List.set_cons_succ, List.length_cons, List.length_nil, true_and, and_true, if_true, if_false, Bool.false_eq_true, List.contains_nil, Bool.not_false, Bool.not_true, Bool.and_self, Bool.and_true, Bool.true_and, decide_true, decide_false, beq_self_eq_true])
def tb_law_draw : TSd :=
  sSeq (sIf (tNotD (tTru (tVr 1))) (sExpr (tApp 1 (tCa1 caMax (tFzD (tOpL opCat (tFzD (tComp (iLstD (tV 0)) (gSet 4) (tTrue) (tCa1 caAbs (tV 4)) [4])) (tFzD (tLstD (dCons (tK (.int 0)) (dNil))))))))) (sNx))
      (sSeq (sExpr (tApp 1 (tK (.int 0))))
      (sSeq (sSet 3 (tCa1 caLen (tVr 1)))
      (sSeq (sSet 4 (tIfE (tTru (tV 0)) (tOpD opIx (tV 0) (tOpD opMod (tV 3) (tCa1 caLen (tV 0)))) (tK (.int 0))))
      (sSeq (sSet 5 (tOpD opMod (tIxO 1 (tK (.int 0))) (tK (.int 65536))))
      (sSeq (sSetIx 1 (tK (.int 0)) (tOpD opDiv (tIxO 1 (tK (.int 0))) (tK (.int 65536))))
      (sSeq (sSet 6 (tOpD opMod (tOpD opAdd (tOpD opAdd (tV 4) (tOpD opMul (tK (.int 40503)) (tV 5))) (tOpD opMul (tK (.int 104729)) (tV 3))) (tK (.int 4294967291))))
      (sSeq (sSet 6 (tOpD opMod (tOpD opMul (tOpD opMod (tOpD opMul (tV 6) (tV 6)) (tK (.int 4294967279))) (tK (.int 48271))) (tK (.int 4294967291))))
      (sSeq (sSet 7 (tOpD opMod (tOpD opMul (tOpD opMod (tOpD opMul (tV 6) (tV 6)) (tK (.int 4294967279))) (tK (.int 69621))) (tK (.int 4294967291))))
      (sRet (tOpD opMod (tOpD opAdd (tOpD opMul (tOpD opDiv (tV 6) (tK (.int 64))) (tK (.int 67108864))) (tOpD opDiv (tV 7) (tK (.int 64)))) (tV 2)))))))))))
def tb_law_pick (sp_law_draw : SpD) : TSd :=
  sRet (tOpD opIx (tV 2) (tCallD sp_law_draw (aV (tV 0) (aO 1 (aV (tCa1 caLen (tV 2)) (aNil))))))
def tb_law_same (sp_law_same : SpD) : TSd :=
  sSeq (sIf (tBo (tOpD opIs (tV 1) (tK .none))) (sRet (tOpD opIs (tV 0) (tK .none))) (sNx))
      (sSeq (sIf (tTru (tIsi isBool (tV 1))) (sRet (tAndV (tIsi isBool (tV 0)) (tOpD opEq (tV 0) (tV 1)))) (sNx))
      (sSeq (sIf (tTru (tIsi isTuple (tV 1))) (sSeq (sIf (tOrD (tNotD (tTru (tIsi isTuple (tV 0)))) (tBo (tOpD opNe (tCa1 caLen (tV 0)) (tCa1 caLen (tV 1))))) (sRet (tK (.bool false))) (sNx))
      (sRet (tCa1 caAll (tFzD (tComp (iZipD (tV 0) (tV 1)) (gTupD 2 (gsCons (gSet 2) (gsCons (gSet 3) (gsNil)))) (tTrue) (tCallD sp_law_same (aV (tV 2) (aV (tV 3) (aNil)))) [2, 3]))))) (sNx))
      (sSeq (sIf (tTru (tIsi isStr (tV 1))) (sRet (tAndV (tIsi isStr (tV 0)) (tOpD opEq (tV 0) (tV 1)))) (sNx))
      (sRet (tAndV (tIsi isInt (tV 0)) (tAndV (tNotV (tIsi isBool (tV 0))) (tOpD opEq (tV 0) (tV 1))))))))
def TownOk (t : List D) (b : Nat) : Prop := t.length ≤ b ∧ (t = [] ∨ ∃ (h : Int) (r : List D), t = .int h :: r)
theorem TownOk.mono {t : List D} {b b' : Nat} (h : TownOk t b) (hb : b ≤ b') : TownOk t b' := ⟨Nat.le_trans h.1 hb, h.2⟩
def spDraw : SpD := fun ss Q => ∃ (ns : List Int) (t : List D) (m : Int) (b : Nat), ss = [.d (.list (ns.map PyData.int)), .ol t, .d (.int m)] ∧ 0 < m ∧ ns.length ≤ 63 ∧ TownOk t b ∧ b ≤ 10000000 ∧
  ∀ r t', 0 ≤ r → r < m → TownOk t' (b + 2) → Q (.int r) [.ol t']
theorem small_line {n : Nat} (h : n ≤ 10000010) : n ≤ sizeLine := by rw [sizeLine_eq]; omega
theorem cmul_small {i j : Int} (h1 : i.natAbs < 2 ^ 64) (h2 : j.natAbs < 2 ^ 64) : CMulW i j := wide_mul (a := 64) (b := 64) h1 h2 (by decide) (by decide) (by decide)
theorem cdiv_small {i j : Int} (h0 : 0 < j) (h1 : j < 2 ^ 64) : CDivW i j := wide_div (b := 64) h0 (by omega) (by decide) (by decide)
theorem rd_law_draw : ∀ ss QD, spDraw ss QD → tb_law_draw { nx := fun E' => finO [1] E' (QD .none), rt := fun d E' => finO [1] E' (QD d) } (ss ++ List.replicate 5 .un) := by
  rintro ss QD ⟨ns, t, m, b, rfl, hm, hn, ht, hb, k⟩
  unfold tb_law_draw
  refine seq_step fun R hR => ?_
  have main : ∀ (h : Int) (r : List D), (h' : (PyData.int h :: r).length ≤ b + 1) → R [.d (.list (ns.map PyData.int)), .ol (.int h :: r), .d (.int m), .un, .un, .un, .un, .un] := by
    intro h r h'
    refine hR _ ?_
    rw [List.length_cons] at h'
    refine seq_step fun R hR => ?_
    walk_at "dl"
    refine ⟨Nat.lt_of_lt_of_le (show r.length + 1 < 10000002 by omega) (small_line (by omega)), hR _ ?_⟩
    refine seq_step fun R hR => ?_
    walk_at "dl"
    refine hR _ ?_
    generalize hk : (((r ++ [PyData.int 0]).length + 1 : Nat) : Int) = kk
    have hkk : 0 ≤ kk ∧ kk ≤ 10000003 := by rw [List.length_append, List.length_cons, List.length_nil] at hk; omega
    refine seq_step fun R hR => ?_
    have c4 : ∀ c : Int, R [.d (.list (ns.map PyData.int)), .ol (.int h :: (r ++ [.int 0])), .d (.int m), .d (.int kk), .d (.int c), .un, .un, .un] := by
      intro c
      refine hR _ ?_
      refine seq_step fun R hR => ?_
      walk_at "dl"
      refine ⟨by decide, hR _ ?_⟩
      have hd0 : 0 ≤ h % 65536 := Int.emod_nonneg _ (by decide)
      have hd1 : h % 65536 < 65536 := Int.emod_lt_of_pos _ (by decide)
      generalize h % 65536 = dg at hd0 hd1 ⊢
      refine seq_step fun R hR => ?_
      walk_at "dl"
      refine ⟨cdiv_small (by decide) (by decide), hR _ ?_⟩
      generalize h / 65536 = h2
      refine seq_step fun R hR => ?_
      walk_at "dl"
      refine ⟨cmul_small (by omega) (by omega), cmul_small (by omega) (by omega), by decide, hR _ ?_⟩
      generalize hn1 : (c + 40503 * dg + 104729 * kk) % 4294967291 = n1
      have h10 : 0 ≤ n1 := by rw [← hn1]; exact Int.emod_nonneg _ (by decide)
      have h11 : n1 < 4294967291 := by rw [← hn1]; exact Int.emod_lt_of_pos _ (by decide)
      refine seq_step fun R hR => ?_
      walk_at "dl"
      have g0 : 0 ≤ n1 * n1 % 4294967279 := Int.emod_nonneg _ (by decide)
      have g1 : n1 * n1 % 4294967279 < 4294967279 := Int.emod_lt_of_pos _ (by decide)
      generalize n1 * n1 % 4294967279 = n2 at g0 g1 ⊢
      refine ⟨cmul_small (by omega) (by omega), by decide, cmul_small (by omega) (by omega), by decide, hR _ ?_⟩
      generalize hn3 : n2 * 48271 % 4294967291 = n3
      have h30 : 0 ≤ n3 := by rw [← hn3]; exact Int.emod_nonneg _ (by decide)
      have h31 : n3 < 4294967291 := by rw [← hn3]; exact Int.emod_lt_of_pos _ (by decide)
      refine seq_step fun R hR => ?_
      walk_at "dl"
      have g0 : 0 ≤ n3 * n3 % 4294967279 := Int.emod_nonneg _ (by decide)
      have g1 : n3 * n3 % 4294967279 < 4294967279 := Int.emod_lt_of_pos _ (by decide)
      generalize n3 * n3 % 4294967279 = n4 at g0 g1 ⊢
      refine ⟨cmul_small (by omega) (by omega), by decide, cmul_small (by omega) (by omega), by decide, hR _ ?_⟩
      generalize n4 * 69621 % 4294967291 = n5
      walk_at "dl"
      refine ⟨cdiv_small (by decide) (by decide), cmul_small (by omega) (by omega), cdiv_small (by decide) (by decide), hm, ?_⟩
      refine k _ _ (Int.emod_nonneg _ (by omega)) (Int.emod_lt_of_pos _ hm) ⟨?_, .inr ⟨_, _, rfl⟩⟩
      rw [List.length_cons, List.length_append, List.length_cons, List.length_nil]; omega
    walk_at "dl"
    refine ifB (fun e => ?_) (fun e => c4 0)
    have hp : 0 < ns.length := by
      cases ns with
      | nil => simp at e
      | cons a l => simp
    rw [List.length_map]
    refine ⟨by omega, ?_⟩
    have i0 : 0 ≤ kk % (ns.length : Int) := Int.emod_nonneg _ (by omega)
    have i1 : kk % (ns.length : Int) < ns.length := Int.emod_lt_of_pos _ (by omega)
    exact atD_at i0 (getElem_map_int (by omega)) (c4 _)
  walk_at "dl"
  refine ifB (fun e => ?_) (fun e => ?_)
  · have e0 : t = [] := by
      cases t with
      | nil => rfl
      | cons a l => simp at e
    subst e0
    refine comp_map (E1 := [.d (.list (ns.map PyData.int)), .ol [], .d (.int m), .un, .un, .un, .un, .un]) ns PyData.int (fun i => .int (if i < 0 then -i else i)) (fun R h => h) (un1 rfl) (small_line (by omega)) (fun i _ R hq => hq _ rfl) ?_
    · refine ⟨small_line (by omega), ?_, (ns.map fun i => if i < 0 then -i else i) ++ [0], ?_, ?_, fun mm _ _ => ?_⟩
      · rw [List.length_map]; exact small_line (by omega)
      · rw [List.map_append, List.map_map]; rfl
      · simp
      · refine ⟨small_line (by decide), ?_⟩
        exact main mm [] (by rw [List.length_cons, List.length_nil]; omega)
  · rcases ht.2 with e0 | ⟨h, r, e0⟩
    · subst e0; simp at e
    · subst e0
      exact main h r (by have := ht.1; omega)
theorem sh_law_draw : ∀ ss QD, spDraw ss QD → ss.length = 3 ∧ mpos 0 ss = [1] := by
  rintro ss QD ⟨ns, t, m, b, rfl, _⟩
  exact ⟨rfl, rfl⟩
/-- some[..]: any item -/
def spPick : SpD := fun ss Q => ∃ (ns : List Int) (t : List D) (sm : D) (xs : List D) (b : Nat), ss = [.d (.list (ns.map PyData.int)), .ol t, .d sm] ∧ (sm = .list xs ∨ sm = .tuple xs) ∧ xs ≠ [] ∧ ns.length ≤ 63 ∧ TownOk t b ∧ b ≤ 10000000 ∧
  ∀ x t', x ∈ xs → TownOk t' (b + 2) → Q x [.ol t']
theorem sh_law_pick : ∀ ss QD, spPick ss QD → ss.length = 3 ∧ mpos 0 ss = [1] := by
  rintro ss QD ⟨ns, t, sm, xs, b, rfl, _⟩
  exact ⟨rfl, rfl⟩
theorem rd_law_pick : ∀ ss QD, spPick ss QD → tb_law_pick spDraw { nx := fun E' => finO [1] E' (QD .none), rt := fun d E' => finO [1] E' (QD d) } (ss ++ List.replicate 0 .un) := by
  rintro ss QD ⟨ns, t, sm, xs, b, rfl, hs, hx, hn, ht, hb, k⟩
  unfold tb_law_pick
  have hp : 0 < xs.length := by
    cases xs with
    | nil => exact absurd rfl hx
    | cons a l => simp
  have mem : ∀ (r : Int) (t' : List D), 0 ≤ r → r < xs.length → TownOk t' (b + 2) → atD xs r fun x => QD x [.ol t'] := fun r t' h0 h1 h2 =>
    atD_at (d := xs[r.toNat]) h0 (List.getElem?_eq_getElem (by omega)) (k _ _ (List.getElem_mem _) h2)
  rcases hs with rfl | rfl
  · walk_at "dl"
    exact ⟨ns, t, _, b, rfl, by omega, hn, ht, hb, mem⟩
  · walk_at "dl"
    exact ⟨ns, t, _, b, rfl, by omega, hn, ht, hb, mem⟩
/-- data without lists, n tuples deep at most -/
def sameOk : Nat → D → Bool
  | _, .none => true
  | _, .bool _ => true
  | _, .int _ => true
  | _, .str x => PyData.strOk x
  | n + 1, .tuple ds => ds.all (sameOk n) && decide (ds.length ≤ 10000000)
  | _, _ => false
def spSame (n : Nat) : SpD := fun ss Q => ∃ d, ss = [.d d, .d d] ∧ sameOk n d = true ∧ Q (.bool true) []
theorem sh_law_same (n : Nat) : ∀ ss QD, spSame n ss QD → ss.length = 2 ∧ mpos 0 ss = [] := by
  rintro ss QD ⟨d, rfl, _⟩
  exact ⟨rfl, rfl⟩
def spNo : SpD := fun _ _ => False
theorem eqv_scal {d : D} (h : (match d with | .tuple _ => False | .list _ => False | .dict _ => False | _ => True)) : PyData.eqv d d = true := by
  cases d <;> first | exact h.elim | simp [PyData.eqv]
theorem zip_self {α : Type} : ∀ l : List α, l.zip l = l.map fun x => (x, x)
  | [] => rfl
  | a :: l => by rw [List.zip_cons_cons, zip_self l]; rfl
theorem rd_law_same (n : Nat) (sp : SpD) (hsp : ∀ m, n = m + 1 → sp = spSame m) : ∀ ss QD, spSame n ss QD → tb_law_same sp { nx := fun E' => finO [] E' (QD .none), rt := fun d E' => finO [] E' (QD d) } (ss ++ List.replicate 2 .un) := by
  rintro ss QD ⟨d, rfl, hd, q⟩
  unfold tb_law_same
  cases d with
  | none => exact q
  | bool b =>
    refine seq_step fun R hR => ?_
    walk_at "dl"
    refine hR _ ?_
    refine seq_step fun R hR => ?_
    walk_at "dl"
    exact q
  | int i =>
    refine seq_step fun R hR => ?_
    walk_at "dl"
    refine hR _ ?_
    refine seq_step fun R hR => ?_
    walk_at "dl"
    refine hR _ ?_
    refine seq_step fun R hR => ?_
    walk_at "dl"
    refine hR _ ?_
    refine seq_step fun R hR => ?_
    walk_at "dl"
    refine hR _ ?_
    walk_at "dl"
    exact q
  | str x =>
    refine seq_step fun R hR => ?_
    walk_at "dl"
    refine hR _ ?_
    refine seq_step fun R hR => ?_
    walk_at "dl"
    refine hR _ ?_
    refine seq_step fun R hR => ?_
    walk_at "dl"
    refine hR _ ?_
    refine seq_step fun R hR => ?_
    have hs : SeqAt.shaped (.str x) = true := by
      have : PyData.strOk x = true := by cases n <;> exact hd
      show (PyData.strOk x && decide ((0 : Nat) ≤ 64)) = true
      rw [this]; rfl
    walk_at "dl"
    refine ⟨hs, ?_⟩
    rw [eqv_scal trivial]; exact q
  | list _ => cases n <;> cases hd
  | dict _ => cases n <;> cases hd
  | tuple ds =>
    cases n with
    | zero => cases hd
    | succ m =>
      have hsp := hsp m rfl
      subst hsp
      have hd : (ds.all (sameOk m) && decide (ds.length ≤ 10000000)) = true := hd
      rw [Bool.and_eq_true] at hd
      have hl : ds.length ≤ 10000000 := of_decide_eq_true hd.2
      have ha := List.all_eq_true.mp hd.1
      refine seq_step fun R hR => ?_
      walk_at "dl"
      refine hR _ ?_
      refine seq_step fun R hR => ?_
      walk_at "dl"
      refine hR _ ?_
      refine seq_step fun R hR => ?_
      refine ⟨trivial, trivial, ifT (b := isTuple (.tuple ds)) rfl ?_⟩
      refine seq_step fun R2 hR2 => ?_
      walk_at "dl"
      refine hR2 _ ?_
      show tComp _ _ _ _ _ _ _
      refine comp_map (E1 := [.d (.tuple ds), .d (.tuple ds), .un, .un]) ds (fun x => PyData.tuple [x, x]) (fun _ => PyData.bool true) (fun R h => ?_) (un2 rfl rfl) (small_line (by omega)) (fun x hx R hq => ?_) ?_
      · show R (zipD ds ds) _
        unfold zipD
        rw [zip_self, List.map_map]
        exact h
      · exact ⟨rfl, rfl, x, rfl, ha x hx, hq _ rfl⟩
      · refine ⟨ds.map fun _ => true, by rw [List.map_map]; rfl, ?_⟩
        have : (ds.map fun _ => true).all id = true := by simp
        rw [this]; exact q
end DL
set_option Elab.async false
set_option linter.all false
set_option maxRecDepth 100000
set_option maxHeartbeats 4000000
namespace DL
open PySem PySem.Spec PyProof.Rows L2
local macro_rules | `(tactic| walk_at "dl") => `(tactic| simp only [tV, tVr, tFzV, turnD, DL.wipeE, tK, tOpD, tUnD, tBo, tAndD, tOrD, tNotD, tIfE, DL.tAndV, DL.tOrV, DL.tNotV, tTru, truD, okLen, sSet, sSetL, sExpr, sRet, sIf, sNx, tTupD, dNil, dCons, tLstD, tFzD, tApp, tExtd, tPopAt, sSetIx, tIxO, tChainD, tChain3D, tRevT, caStr, opRepT, opAdd, opSub, opMul, opDiv, opMod, opPow, DL.opI, DL.opI0, opB0, opLt, opLe, opGt, opGtD, opLtD, opGe, opEq, opNe, opIs, opIsN, isNone, opIn, opNotIn, opIx, atD_0, atD_1, atD_2, atD_3, putD_0, unNeg, tCa1, tCa2, tCaL1, caLen, caAbs, caMax2, caMin2, caSum, caMax, caMin, caSumT, caMaxT, caMinT, caAll, caTuple, caList, caInt, tIsi, isInt, isBool, isStr, isTuple, isList, notDict, sAsg, gSet, gTupD, gsNil, gsCons, sPar, pNil, pD, pL, setAll, tCallD, aNil, aV, aO, argS, oixs, ndp, putO, tOpL, opCat, opRep, tSlD, slD, tSlL, oNo, oE, tRevD, iLstD, iTupD, iRange1, iRange2, iZipD, iZipM, finO, tTrue, Option.map, eqv_int, eqv_bool, eqv_none, shaped_int, shaped_bool, shaped_none, tLenRange, tSortSet, tLenSet, tCountL, tCountT, tIndexL, tIndexT, DL.tOrT, DL.tAndT, DL.tNotT, tSortRev, caSorted, iEnumL, iEnumT, decide_eq_true_eq, and_self, List.cons_append, List.nil_append, List.replicate, List.getElem?_cons_zero, List.getElem?_cons_succ, List.set_cons_zero, List.set_cons_succ, List.length_cons, List.length_nil, true_and, and_true, if_true, if_false, Bool.false_eq_true, List.contains_nil, Bool.not_false, Bool.not_true, Bool.and_self, Bool.and_true, Bool.true_and, decide_true, decide_false, beq_self_eq_true])
/-! ### _law_bent -/
/-- n deep at most, each row of 1000 at most -/
def bnd : Nat → D → Bool
  | _, .none => true
  | _, .bool _ => true
  | _, .int _ => true
  | _, .str x => PyData.strOk x && decide (x.length ≤ 1000)
  | n + 1, .tuple ds => ds.all (bnd n) && decide (ds.length ≤ 1000)
  | n + 1, .list ds => ds.all (bnd n) && decide (ds.length ≤ 1000)
  | _, _ => false
theorem bnd_sh : ∀ (n : Nat) (d : D), bnd n d = true → shOk n d = true
  | n, .none, _ => by cases n <;> rfl
  | n, .bool _, _ => by cases n <;> rfl
  | n, .int _, _ => by cases n <;> rfl
  | n, .str x, h => by
    have h2 : (PyData.strOk x && decide (x.length ≤ 1000)) = true := by cases n <;> exact h
    rw [Bool.and_eq_true] at h2
    have h3 := h2.1
    cases n <;> exact h3
  | n + 1, .tuple ds, h => by
    have h : (ds.all (bnd n) && decide (ds.length ≤ 1000)) = true := h
    rw [Bool.and_eq_true] at h
    rw [shOk_tup]
    exact List.all_eq_true.mpr fun x hx => bnd_sh n x (List.all_eq_true.mp h.1 x hx)
  | n + 1, .list ds, h => by
    have h : (ds.all (bnd n) && decide (ds.length ≤ 1000)) = true := h
    rw [Bool.and_eq_true] at h
    rw [shOk_lst]
    exact List.all_eq_true.mpr fun x hx => bnd_sh n x (List.all_eq_true.mp h.1 x hx)
  | 0, .tuple _, h => by cases h
  | 0, .list _, h => by cases h
  | 0, .dict _, h => by cases h
  | n + 1, .dict _, h => by cases h
end DL
set_option Elab.async false
set_option linter.all false
set_option maxRecDepth 100000
set_option maxHeartbeats 1000000
/-! FnCallsT: rows of calls, plain Lean. -/
namespace DL
open PySem PySem.Spec PyProof.Rows L2
theorem snoc_ind {α : Type} {P : List α → Prop} (h0 : P []) (hs : ∀ l a, P l → P (l ++ [a])) : ∀ l, P l := by
  have : ∀ l : List α, P l.reverse := by
    intro l
    induction l with
    | nil => exact h0
    | cons a l ih => rw [List.reverse_cons]; exact hs _ _ ih
  intro l
  have := this l.reverse
  rwa [List.reverse_reverse] at this
inductive Call where
  | pass
  | dbl
  | rdb
  | bid (l s : Int)
deriving DecidableEq
namespace Call
def enc : Call → D
  | .pass => .str "pass"
  | .dbl => .str "double"
  | .rdb => .str "redouble"
  | .bid l s => .tuple [.int l, .int s]
def isBid : Call → Bool
  | .bid _ _ => true
  | _ => false
def said : Call → Bool
  | .pass => false
  | _ => true
end Call
open Call
theorem ok_pass : PyData.strOk "pass" = true := by decide +kernel
theorem ok_dbl : PyData.strOk "double" = true := by decide +kernel
theorem ok_rdb : PyData.strOk "redouble" = true := by decide +kernel
theorem enc_eqv (c d : Call) : PyData.eqv c.enc d.enc = decide (c = d) := by
  cases c <;> cases d <;> first | rfl | (simp [enc, PyData.eqv, PyData.eqvAll]; done) | (simp [enc, PyData.eqv]; decide) | skip
  rename_i l s l' s'
  show PyData.eqv (.tuple [.int l, .int s]) (.tuple [.int l', .int s']) = _
  rw [eqv_tup, PyData.eqvAll, PyData.eqvAll, PyData.eqvAll, eqv_int, eqv_int, Bool.and_true]
  by_cases h1 : l = l' <;> by_cases h2 : s = s' <;> simp [h1, h2]
theorem sh_enc (n : Nat) (c : Call) : shOk (n + 1) c.enc = true := by
  cases c with
  | pass => exact ok_pass
  | dbl => exact ok_dbl
  | rdb => exact ok_rdb
  | bid l s => cases n <;> rfl
theorem same_enc (n : Nat) (c : Call) : sameOk (n + 1) c.enc = true := by
  cases c with
  | pass => exact ok_pass
  | dbl => exact ok_dbl
  | rdb => exact ok_rdb
  | bid l s => cases n <;> rfl
/-! ### places -/
def ixOf (p : Call → Bool) (cs : List Call) : List Nat := (cs.zipIdx.filter fun q => p q.1).map (·.2)
theorem ixOf_snoc (p : Call → Bool) (cs : List Call) (c : Call) : ixOf p (cs ++ [c]) = ixOf p cs ++ if p c = true then [cs.length] else [] := by
  unfold ixOf
  rw [List.zipIdx_append, List.filter_append, List.map_append]
  simp
  split <;> simp_all
def lastIx (p : Call → Bool) (cs : List Call) : Option Nat := (ixOf p cs).getLast?
def lastC (p : Call → Bool) (cs : List Call) : Option Call := (cs.filter p).getLast?
theorem lastIx_snoc (p : Call → Bool) (cs : List Call) (c : Call) : lastIx p (cs ++ [c]) = if p c = true then some cs.length else lastIx p cs := by
  unfold lastIx
  rw [ixOf_snoc]
  split <;> simp
theorem lastC_snoc (p : Call → Bool) (cs : List Call) (c : Call) : lastC p (cs ++ [c]) = if p c = true then some c else lastC p cs := by
  unfold lastC
  rw [List.filter_append]
  cases h : p c <;> simp [h]
theorem last_spec (p : Call → Bool) (cs : List Call) : (lastIx p cs = none ∧ lastC p cs = none ∧ ixOf p cs = []) ∨ ∃ j c, lastIx p cs = some j ∧ lastC p cs = some c ∧ cs[j]? = some c ∧ p c = true := by
  induction cs using snoc_ind with
  | h0 => exact .inl ⟨rfl, rfl, rfl⟩
  | hs cs c ih =>
    rw [lastIx_snoc, lastC_snoc, ixOf_snoc]
    by_cases h : p c = true
    · rw [if_pos h, if_pos h]
      exact .inr ⟨_, _, rfl, rfl, by simp, h⟩
    · rw [if_neg h, if_neg h, if_neg h, List.append_nil]
      rcases ih with ih | ⟨j, d, e1, e2, e3, e4⟩
      · exact .inl ih
      · refine .inr ⟨j, d, e1, e2, ?_, e4⟩
        have := (List.getElem?_eq_some_iff.mp e3).1
        rw [List.getElem?_append_left this]; exact e3
theorem ixOf_mem {p : Call → Bool} {cs : List Call} {j : Nat} : j ∈ ixOf p cs ↔ ∃ c, cs[j]? = some c ∧ p c = true := by
  unfold ixOf
  constructor
  · intro h
    obtain ⟨⟨c, k⟩, h1, h2⟩ := List.mem_map.mp h
    have h3 := List.mem_filter.mp h1
    have h4 := List.mem_zipIdx_iff_getElem?.mp h3.1
    simp only at h2 h4
    subst h2
    exact ⟨c, h4, h3.2⟩
  · rintro ⟨c, h1, h2⟩
    exact List.mem_map.mpr ⟨(c, j), List.mem_filter.mpr ⟨List.mem_zipIdx_iff_getElem?.mpr h1, h2⟩, rfl⟩
/-- passes at the end -/
def quiet (cs : List Call) : Int := (cs.length : Int) - 1 - (match lastIx said cs with | some j => (j : Int) | none => -1)
theorem quiet_nil : quiet [] = 0 := rfl
theorem quiet_snoc (cs : List Call) (c : Call) : quiet (cs ++ [c]) = if c = .pass then quiet cs + 1 else 0 := by
  unfold quiet
  rw [lastIx_snoc, List.length_append, List.length_cons, List.length_nil]
  cases c with
  | pass => simp only [said, if_true, Bool.false_eq_true, if_false]; omega
  | _ => simp [said]
theorem quiet_nn (cs : List Call) : 0 ≤ quiet cs := by
  induction cs using snoc_ind with
  | h0 => rw [quiet_nil]; omega
  | hs cs c ih => rw [quiet_snoc]; split <;> omega
theorem quiet_le (cs : List Call) : quiet cs ≤ cs.length := by
  induction cs using snoc_ind with
  | h0 => rw [quiet_nil]; simp
  | hs cs c ih => rw [quiet_snoc, List.length_append]; simp; split <;> omega
theorem said_nil {cs : List Call} : ixOf said cs = [] ↔ quiet cs = cs.length := by
  unfold quiet
  rcases last_spec said cs with ⟨e1, e2, e3⟩ | ⟨j, c, e1, e2, e3, e4⟩
  · rw [e1, e3]; simp
  · rw [e1]
    constructor
    · intro h
      have : j ∈ ixOf said cs := ixOf_mem.mpr ⟨c, e3, e4⟩
      rw [h] at this; cases this
    · intro h
      have h : (cs.length : Int) - 1 - (j : Int) = cs.length := h
      omega
def isOver (cs : List Call) : Bool := decide (4 ≤ cs.length) && decide (cs.drop (cs.length - 3) = [.pass, .pass, .pass])
theorem tail3 (cs : List Call) : 3 ≤ cs.length → (cs.drop (cs.length - 3) = [Call.pass, .pass, .pass] ↔ 3 ≤ quiet cs) := by
  intro h
  obtain ⟨a, x, y, z, rfl⟩ : ∃ a x y z, cs = a ++ [x] ++ [y] ++ [z] := by
    refine ⟨cs.take (cs.length - 3), cs[cs.length - 3], cs[cs.length - 2], cs[cs.length - 1], ?_⟩
    have e : cs.drop (cs.length - 3) = [cs[cs.length - 3], cs[cs.length - 2], cs[cs.length - 1]] := by
      rw [List.drop_eq_getElem_cons (by omega), List.drop_eq_getElem_cons (by omega), List.drop_eq_getElem_cons (by omega), List.drop_eq_nil_of_le (by omega)]
      congr 1
      · congr 1
        · congr 1; omega
        · congr 1
          congr 1; omega
    rw [List.append_assoc, List.append_assoc]
    show cs = _ ++ [cs[cs.length - 3], cs[cs.length - 2], cs[cs.length - 1]]
    rw [← e, List.take_append_drop]
  rw [quiet_snoc, quiet_snoc, quiet_snoc]
  have e : (a ++ [x] ++ [y] ++ [z]).drop ((a ++ [x] ++ [y] ++ [z]).length - 3) = [x, y, z] := by
    rw [show (a ++ [x] ++ [y] ++ [z]).length - 3 = a.length by simp, List.append_assoc, List.append_assoc, List.drop_left]; rfl
  rw [e]
  have := quiet_nn a
  by_cases h1 : z = .pass <;> by_cases h2 : y = .pass <;> by_cases h3 : x = .pass <;> simp [h1, h2, h3] <;> omega
theorem over_iff (cs : List Call) : isOver cs = true ↔ 4 ≤ cs.length ∧ 3 ≤ quiet cs := by
  unfold isOver
  rw [Bool.and_eq_true, decide_eq_true_eq, decide_eq_true_eq]
  constructor
  · rintro ⟨a, b⟩; exact ⟨a, (tail3 cs (by omega)).mp b⟩
  · rintro ⟨a, b⟩; exact ⟨a, (tail3 cs (by omega)).mpr b⟩
/-! ### bids -/
def allB (L : Nat) : List (Int × Int) := (List.range L).flatMap fun l : Nat => (List.range 5).map fun s : Nat => ((l : Int) + 1, (s : Int))
def gtB (x y : Int × Int) : Bool := decide (y.1 < x.1 ∨ (y.1 = x.1 ∧ y.2 < x.2))
def bidOf : Call → Int × Int
  | .bid l s => (l, s)
  | _ => (0, 4)
def lastB (cs : List Call) : Int × Int := match lastC isBid cs with
  | some c => bidOf c
  | none => (0, 4)
def encB (b : Int × Int) : Call := .bid b.1 b.2
/-- what may be said, by the law -/
def mayL (L : Nat) (cs : List Call) : List Call :=
  if quiet cs = 4 ∨ (ixOf said cs ≠ [] ∧ quiet cs = 3) then []
  else [.pass] ++ (if ixOf said cs ≠ [] ∧ quiet cs ≠ 1 ∧ lastC said cs ≠ some .rdb then [if lastC said cs = some .dbl then Call.rdb else .dbl] else [])
    ++ ((allB L).filter fun b => gtB b (lastB cs)).map encB
def dblP (n : Nat) : Option Nat → Option Call → List Call
  | some j, some c => if ((n : Int) - j) % 2 = 1 then (if c.isBid = true then [.dbl] else if c = .dbl then [.rdb] else []) else []
  | _, _ => []
theorem dblP_len (n : Nat) (o : Option Nat) (c : Option Call) : (dblP n o c).length ≤ 1 := by
  unfold dblP
  split
  · split
    · split
      · simp
      · split <;> simp
    · simp
  · simp
/-- what may be said, by the program -/
def mayP (L : Nat) (cs : List Call) : List Call :=
  if isOver cs = true then []
  else [.pass] ++ dblP cs.length (lastIx said cs) (lastC said cs)
    ++ ((allB L).filter fun b => gtB b (lastB cs)).map encB
/-! ### rows that came about by what may be said -/
inductive Reach (L : Nat) : List Call → Prop
  | nil : Reach L []
  | snoc {cs : List Call} {c : Call} : Reach L cs → c ∈ mayL L cs → Reach L (cs ++ [c])
/-- where a row stands: no bid, a bid, doubled, redoubled; 4: none of these -/
def stepS (s : Nat) (c : Call) : Nat := match c with
  | .pass => s
  | .bid _ _ => if s = 4 then 4 else 1
  | .dbl => if s = 1 then 2 else 4
  | .rdb => if s = 2 then 3 else 4
def stand (cs : List Call) : Nat := cs.foldl stepS 0
theorem stand_snoc (cs : List Call) (c : Call) : stand (cs ++ [c]) = stepS (stand cs) c := by unfold stand; rw [List.foldl_append]; rfl
theorem stand_last (cs : List Call) : stand cs ≠ 4 → (stand cs = 0 ∧ lastC said cs = none ∧ lastC isBid cs = none) ∨ (stand cs = 1 ∧ ∃ l s, lastC said cs = some (.bid l s) ∧ lastC isBid cs = some (.bid l s)) ∨ (stand cs = 2 ∧ lastC said cs = some .dbl ∧ lastC isBid cs ≠ none) ∨ (stand cs = 3 ∧ lastC said cs = some .rdb ∧ lastC isBid cs ≠ none) := by
  induction cs using snoc_ind with
  | h0 => intro _; exact .inl ⟨rfl, rfl, rfl⟩
  | hs cs c ih =>
    rw [stand_snoc, lastC_snoc, lastC_snoc]
    cases c with
    | pass => intro h; simpa [stepS, said, isBid] using ih h
    | bid l s =>
      intro h
      have h4 : stand cs ≠ 4 := fun e => h (by simp [stepS, e])
      refine .inr (.inl ⟨by simp [stepS, h4], l, s, by simp [said], by simp [isBid]⟩)
    | dbl =>
      intro h
      have h1 : stand cs = 1 := by
        by_cases e : stand cs = 1
        · exact e
        · exact absurd (by simp [stepS, e]) h
      rcases ih (by omega) with ⟨a, _⟩ | ⟨a, l, s, b, c⟩ | ⟨a, _⟩ | ⟨a, _⟩
      · omega
      · exact .inr (.inr (.inl ⟨by simp [stepS, h1], by simp [said], by simp [isBid, c]⟩))
      · omega
      · omega
    | rdb =>
      intro h
      have h1 : stand cs = 2 := by
        by_cases e : stand cs = 2
        · exact e
        · exact absurd (by simp [stepS, e]) h
      rcases ih (by omega) with ⟨a, _⟩ | ⟨a, l, s, b, c⟩ | ⟨a, b, c⟩ | ⟨a, _⟩
      · omega
      · omega
      · exact .inr (.inr (.inr ⟨by simp [stepS, h1], by simp [said], by simpa [isBid] using c⟩))
      · omega
theorem mem_mayL {L : Nat} {cs : List Call} {c : Call} (h : c ∈ mayL L cs) : ¬ (quiet cs = 4 ∨ (ixOf said cs ≠ [] ∧ quiet cs = 3)) ∧ (c = .pass ∨ (c = .dbl ∧ lastC said cs ≠ some .rdb ∧ lastC said cs ≠ some .dbl ∧ ixOf said cs ≠ []) ∨ (c = .rdb ∧ lastC said cs = some .dbl) ∨ ∃ l s, c = .bid l s) := by
  unfold mayL at h
  split at h
  · cases h
  · rename_i h0
    refine ⟨h0, ?_⟩
    rcases List.mem_append.mp h with h | h
    · rcases List.mem_append.mp h with h | h
      · exact .inl (by simpa using h)
      · split at h
        · rename_i h1
          by_cases e : lastC said cs = some .dbl
          · rw [if_pos e] at h
            exact .inr (.inr (.inl ⟨by simpa using h, e⟩))
          · rw [if_neg e] at h
            exact .inr (.inl ⟨by simpa using h, h1.2.2, e, h1.1⟩)
        · cases h
    · obtain ⟨b, _, rfl⟩ := List.mem_map.mp h
      exact .inr (.inr (.inr ⟨_, _, rfl⟩))
theorem said_last {cs : List Call} : ixOf said cs = [] ↔ lastC said cs = none := by
  rcases last_spec said cs with ⟨e1, e2, e3⟩ | ⟨j, c, e1, e2, e3, e4⟩
  · simp [e2, e3]
  · constructor
    · intro h
      have : j ∈ ixOf said cs := ixOf_mem.mpr ⟨c, e3, e4⟩
      rw [h] at this; cases this
    · intro h; rw [h] at e2; cases e2
structure Good (cs : List Call) : Prop where
  st : stand cs ≠ 4
  q : (ixOf said cs = [] → cs.length ≤ 4) ∧ (ixOf said cs ≠ [] → quiet cs ≤ 3)
theorem Reach.good {L : Nat} {cs : List Call} (h : Reach L cs) : Good cs := by
  induction h with
  | nil => exact ⟨by decide, fun _ => by decide, fun e => absurd rfl e⟩
  | snoc h hc ih =>
    rename_i cs c
    obtain ⟨h0, hc⟩ := mem_mayL hc
    have sl := stand_last cs ih.st
    constructor
    · rw [stand_snoc]
      rcases hc with rfl | ⟨rfl, h1, h2, h3⟩ | ⟨rfl, h1⟩ | ⟨l, s, rfl⟩
      · exact ih.st
      · rcases sl with ⟨a, b, _⟩ | ⟨a, _⟩ | ⟨a, b, _⟩ | ⟨a, b, _⟩
        · exact absurd (said_last.mpr b) h3
        · simp [stepS, a]
        · exact absurd b h2
        · exact absurd b h1
      · rcases sl with ⟨a, b, _⟩ | ⟨a, l, s, b, _⟩ | ⟨a, b, _⟩ | ⟨a, b, _⟩
        · rw [b] at h1; cases h1
        · rw [b] at h1; cases h1
        · simp [stepS, a]
        · rw [b] at h1; cases h1
      · have := ih.st; simp [stepS, this]
    · rw [ixOf_snoc, quiet_snoc, List.length_append, List.length_cons, List.length_nil]
      have qn := quiet_nn cs
      rcases hc with rfl | ⟨rfl, h1⟩ | ⟨rfl, h1⟩ | ⟨l, s, rfl⟩
      · simp only [said, Bool.false_eq_true, if_false, List.append_nil, if_true]
        refine ⟨fun e => ?_, fun e => ?_⟩
        · have h1 := said_nil.mp e
          have h2 := ih.q.1 e
          have h3 : quiet cs ≠ 4 := fun z => h0 (.inl z)
          omega
        · have h1 := ih.q.2 e
          have h3 : quiet cs ≠ 3 := fun z => h0 (.inr ⟨e, z⟩)
          omega
      · simp [said]
      · simp [said]
      · simp [said]
theorem Good.over {cs : List Call} (h : Good cs) : isOver cs = true ↔ (quiet cs = 4 ∨ (ixOf said cs ≠ [] ∧ quiet cs = 3)) := by
  rw [over_iff]
  have qn := quiet_le cs
  by_cases e : ixOf said cs = []
  · have h1 := said_nil.mp e
    have h2 := h.q.1 e
    constructor
    · intro z; exact .inl (by omega)
    · rintro (z | z)
      · exact ⟨by omega, by omega⟩
      · exact absurd e z.1
  · have h1 := h.q.2 e
    have h2 : quiet cs ≠ cs.length := fun z => e (said_nil.mpr z)
    constructor
    · intro z; exact .inr ⟨e, by omega⟩
    · rintro (z | ⟨_, z⟩)
      · exact ⟨by omega, by omega⟩
      · exact ⟨by omega, by omega⟩
theorem may_eq {L : Nat} {cs : List Call} (h : Good cs) : mayP L cs = mayL L cs := by
  unfold mayP mayL
  by_cases ho : isOver cs = true
  · rw [if_pos ho, if_pos (h.over.mp ho)]
  · have ho2 : ¬ (quiet cs = 4 ∨ (ixOf said cs ≠ [] ∧ quiet cs = 3)) := fun z => ho (h.over.mpr z)
    rw [if_neg ho, if_neg ho2]
    congr 2
    have qn := quiet_nn cs
    rcases last_spec said cs with ⟨e1, e2, e3⟩ | ⟨j, c, e1, e2, e3, e4⟩
    · rw [e1, e2, e3]; simp [dblP]
    · have hne : ixOf said cs ≠ [] := fun z => by have := said_last.mp z; rw [e2] at this; cases this
      have hq : quiet cs = (cs.length : Int) - 1 - j := by unfold quiet; rw [e1]
      have h3 := h.q.2 hne
      have h4 : quiet cs ≠ 3 := fun z => ho2 (.inr ⟨hne, z⟩)
      rw [e1, e2]
      unfold dblP
      have par : ((cs.length : Int) - j) % 2 = 1 ↔ quiet cs ≠ 1 := by omega
      by_cases hp : quiet cs ≠ 1
      · simp only [par.mpr hp, if_true, hne, ne_eq, not_false_eq_true, hp, true_and]
        cases c with
        | pass => cases e4
        | bid l s => simp [isBid]
        | dbl => simp [isBid]
        | rdb => simp [isBid]
      · have hp2 : ¬ ((cs.length : Int) - j) % 2 = 1 := fun z => hp (par.mp z)
        simp only [hp2, if_false]
        rw [if_neg (fun z => hp z.2.1)]
/-! ### contracts -/
def strAt (cs : List Call) (k : Nat) : Int := (bidOf (cs.getD k .pass)).2
def qual (cs : List Call) (s : Int) (b k : Nat) : Bool := (cs.getD k .pass).isBid && (decide (strAt cs k = s) && decide (k % 2 = b % 2))
end DL
set_option Elab.async false
set_option linter.all false
set_option maxRecDepth 100000
set_option maxHeartbeats 4000000
namespace DL
open PySem PySem.Spec PyProof.Rows L2
local macro_rules | `(tactic| walk_at "dl") => `(tactic| simp only [tV, tVr, tFzV, turnD, DL.wipeE, tK, tOpD, tUnD, tBo, tAndD, tOrD, tNotD, tIfE, DL.tAndV, DL.tOrV, DL.tNotV, tTru, truD, okLen, sSet, sSetL, sExpr, sRet, sIf, sNx, tTupD, dNil, dCons, tLstD, tFzD, tApp, tExtd, tPopAt, sSetIx, tIxO, tChainD, tChain3D, tRevT, caStr, opRepT, opAdd, opSub, opMul, opDiv, opMod, opPow, DL.opI, DL.opI0, opB0, opLt, opLe, opGt, opGtD, opLtD, opGe, opEq, opNe, opIs, opIsN, isNone, opIn, opNotIn, opIx, atD_0, atD_1, atD_2, atD_3, putD_0, unNeg, tCa1, tCa2, tCaL1, caLen, caAbs, caMax2, caMin2, caSum, caMax, caMin, caSumT, caMaxT, caMinT, caAll, caTuple, caList, caInt, tIsi, isInt, isBool, isStr, isTuple, isList, notDict, sAsg, gSet, gTupD, gsNil, gsCons, sPar, pNil, pD, pL, setAll, tCallD, aNil, aV, aO, argS, oixs, ndp, putO, tOpL, opCat, opRep, tSlD, slD, tSlL, oNo, oE, tRevD, iLstD, iTupD, iRange1, iRange2, iZipD, iZipM, finO, tTrue, Option.map, eqv_int, eqv_bool, eqv_none, shaped_int, shaped_bool, shaped_none, tLenRange, tSortSet, tLenSet, tLenSetP, tSortSetP, tCountL, tCountT, tIndexL, tIndexT, DL.tOrT, DL.tAndT, DL.tNotT, tSortRev, caSorted, iEnumL, iEnumT, decide_eq_true_eq, and_self, List.cons_append, List.nil_append, List.replicate, List.getElem?_cons_zero, List.getElem?_cons_succ, List.set_cons_zero, List.set_cons_succ, List.length_cons, List.length_nil, true_and, and_true, if_true, if_false, Bool.false_eq_true, List.contains_nil, Bool.not_false, Bool.not_true, Bool.and_self, Bool.and_true, Bool.true_and, decide_true, decide_false, beq_self_eq_true])
def tb_is_over : TSd :=
  sRet (tAndV (tOpD opGe (tCa1 caLen (tV 0)) (tK (.int 4))) (tOpD opEq (tSlD (tV 0) (oE (tUnD unNeg (tK (.int 3)))) (oNo)) (tTupD (dCons (tK (.str "pass")) (dCons (tK (.str "pass")) (dCons (tK (.str "pass")) (dNil)))))))
def tb_last_but_pass : TSd :=
  sSeq (sSet 1 (tK .none))
      (sSeq (sFor (iEnumT (tV 0)) (gTupD 2 (gsCons (gSet 2) (gsCons (gSet 3) (gsNil)))) (sIf (tBo (tOpD opNe (tV 3) (tK (.str "pass")))) (sSet 1 (tV 2)) (sNx)))
      (sRet (tV 1)))
def tb_last_bid : TSd :=
  sSeq (sSet 1 (tK .none))
      (sSeq (sFor (iEnumT (tV 0)) (gTupD 2 (gsCons (gSet 2) (gsCons (gSet 3) (gsNil)))) (sIf (tTru (tIsi isTuple (tV 3))) (sSet 1 (tV 2)) (sNx)))
      (sRet (tV 1)))
def tb_all_bids : TSd :=
  sSeq (sSetL 1 (tLstD (dNil)))
      (sSeq (sFor (iRange2 (tK (.int 1)) (tOpD opAdd (tV 0) (tK (.int 1)))) (gSet 2) (sExpr (tExtd 1 (tComp (iRange1 (tK (.int 5))) (gSet 3) (tTrue) (tTupD (dCons (tV 2) (dCons (tV 3) (dNil)))) [3]))))
      (sRet (tFzV 1)))
def tb_may_call (sp_all_bids : SpD) (sp_last_but_pass : SpD) (sp_last_bid : SpD) (sp_is_over : SpD) : TSd :=
  sSeq (sIf (tTru (tCallD sp_is_over (aV (tV 1) (aNil)))) (sRet (tTupD (dNil))) (sNx))
      (sSeq (sSetL 2 (tLstD (dCons (tK (.str "pass")) (dNil))))
      (sSeq (sPar [3, 4] (pD (tCallD sp_last_but_pass (aV (tV 1) (aNil))) (pD (tCallD sp_last_bid (aV (tV 1) (aNil))) (pNil))))
      (sSeq (sIf (tAndD (tBo (tOpD opIsN (tV 3) (tK .none))) (tBo (tOpD opEq (tOpD opMod (tOpD opSub (tCa1 caLen (tV 1)) (tV 3)) (tK (.int 2))) (tK (.int 1))))) (sIf (tTru (tIsi isTuple (tOpD opIx (tV 1) (tV 3)))) (sExpr (tApp 2 (tK (.str "double")))) (sIf (tBo (tOpD opEq (tOpD opIx (tV 1) (tV 3)) (tK (.str "double")))) (sExpr (tApp 2 (tK (.str "redouble")))) (sNx))) (sNx))
      (sRet (tCa1 caTuple (tFzD (tOpL opCat (tFzV 2) (tFzD (tComp (iLstD (tCallD sp_all_bids (aV (tV 0) (aNil)))) (gSet 5) (tOrD (tBo (tOpD opIs (tV 4) (tK .none))) (tBo (tOpD opGtD (tV 5) (tOpD opIx (tV 1) (tV 4))))) (tV 5) [5])))))))))
def tb_law_all_bids : TSd :=
  sSeq (sSet 1 (tFzD (tLstD (dNil))))
      (sSeq (sFor (iRange2 (tK (.int 1)) (tOpD opAdd (tV 0) (tK (.int 1)))) (gSet 2) (sSet 1 (tFzD (tOpL opCat (tV 1) (tFzD (tComp (iRange1 (tK (.int 5))) (gSet 3) (tTrue) (tTupD (dCons (tV 2) (dCons (tV 3) (dNil)))) [3]))))))
      (sRet (tV 1)))
def tb_law_may_call (sp_law_all_bids : SpD) : TSd :=
  sSeq (sSet 2 (tFzD (tComp (iEnumT (tV 1)) (gTupD 2 (gsCons (gSet 6) (gsCons (gSet 7) (gsNil)))) (tBo (tOpD opNe (tV 7) (tK (.str "pass")))) (tV 6) [6, 7])))
      (sSeq (sSet 3 (tFzD (tComp (iTupD (tV 1)) (gSet 7) (tTru (tIsi isTuple (tV 7))) (tV 7) [7])))
      (sSeq (sSet 4 (tOpD opSub (tOpD opSub (tCa1 caLen (tV 1)) (tK (.int 1))) (tOpD opIx (tOrT (tV 2) (tFzD (tLstD (dCons (tUnD unNeg (tK (.int 1))) (dNil))))) (tUnD unNeg (tK (.int 1))))))
      (sSeq (sIf (tOrD (tBo (tOpD opEq (tV 4) (tK (.int 4)))) (tAndD (tTru (tV 2)) (tBo (tOpD opEq (tV 4) (tK (.int 3)))))) (sRet (tTupD (dNil))) (sNx))
      (sSeq (sSetL 5 (tLstD (dCons (tK (.str "pass")) (dNil))))
      (sSeq (sIf (tAndD (tTru (tV 2)) (tAndD (tBo (tOpD opNe (tV 4) (tK (.int 1)))) (tBo (tOpD opNe (tOpD opIx (tV 1) (tOpD opIx (tV 2) (tUnD unNeg (tK (.int 1))))) (tK (.str "redouble")))))) (sExpr (tApp 5 (tIfE (tBo (tOpD opEq (tOpD opIx (tV 1) (tOpD opIx (tV 2) (tUnD unNeg (tK (.int 1))))) (tK (.str "double")))) (tK (.str "redouble")) (tK (.str "double"))))) (sNx))
      (sRet (tCa1 caTuple (tFzD (tOpL opCat (tFzV 5) (tFzD (tComp (iLstD (tCallD sp_law_all_bids (aV (tV 0) (aNil)))) (gSet 8) (tBo (tOpD opGtD (tV 8) (tOpD opIx (tOrT (tV 3) (tFzD (tLstD (dCons (tTupD (dCons (tK (.int 0)) (dCons (tK (.int 4)) (dNil)))) (dNil))))) (tUnD unNeg (tK (.int 1)))))) (tV 8) [8])))))))))))
def tb_law_drawn_calls (sp_law_pick : SpD) (sp_law_draw : SpD) (sp_law_may_call : SpD) : TSd :=
  sSeq (sSet 4 (tTupD (dNil)))
      (sSeq (sFor (iRange1 (tV 3)) (gSet 5) (sSeq (sSet 6 (tCallD sp_law_may_call (aV (tV 2) (aV (tV 4) (aNil)))))
      (sIf (tTru (tV 6)) (sSeq (sSet 7 (tCallD sp_law_draw (aV (tV 0) (aO 1 (aV (tK (.int 5)) (aNil))))))
      (sSeq (sSet 8 (tIfE (tBo (tOpD opLt (tV 7) (tK (.int 2)))) (tK (.str "pass")) (tCallD sp_law_pick (aV (tV 0) (aO 1 (aV (tSlD (tV 6) (oNo) (oE (tOpD opAdd (tK (.int 1)) (tOpD opMul (tK (.int 2)) (tV 7))))) (aNil)))))))
      (sSet 4 (tOpD opAdd (tV 4) (tTupD (dCons (tV 8) (dNil))))))) (sNx))))
      (sRet (tV 4)))
open Call
theorem cut_neg {xs : List D} {k : Nat} (h : 0 < k) : cutD xs (some (-(k : Int))) none = xs.drop (xs.length - k) := by
  unfold cutD
  rw [HT.sIx_none]
  have e : HT.sIx xs.length 0 (some (-(k : Int))) = xs.length - k := by
    show (if -(k : Int) < 0 then (-(k : Int) + (xs.length : Int)).toNat else _) = _
    rw [if_pos (by omega)]; omega
  rw [e, List.take_of_length_le (by rw [List.length_drop]; omega)]
def rowD (cs : List Call) : D := .tuple (cs.map enc)
theorem sh_row (cs : List Call) : shOk 2 (rowD cs) = true := all_enc (sh_enc 0) cs
theorem sh_map (n : Nat) (cs : List Call) : (cs.map enc).all (shOk (n + 1)) = true := all_enc (sh_enc n) cs
theorem same_row {cs : List Call} (h : cs.length ≤ 10000000) : sameOk 2 (rowD cs) = true := by
  show ((cs.map enc).all (sameOk 1) && decide ((cs.map enc).length ≤ 10000000)) = true
  rw [List.length_map, decide_eq_true h, Bool.and_true, List.all_map]
  exact List.all_eq_true.mpr fun c _ => same_enc 0 c
theorem eqv_rows (a b : List Call) : PyData.eqv (rowD a) (rowD b) = decide (a = b) := by unfold rowD; rw [eqv_tup, eqvAll_enc enc_eqv]
theorem enum_row (cs : List Call) : enumD (cs.map enc) = cs.zipIdx.map fun p => .tuple [.int ((p.2 : Nat) : Int), p.1.enc] := by
  unfold enumD
  rw [List.zipIdx_map, List.map_map]; rfl
theorem get_row {cs : List Call} {i : Nat} {c : Call} (h : cs[i]? = some c) : (cs.map enc)[i]? = some c.enc := by rw [List.getElem?_map, h]; rfl
def optD : Option Nat → D
  | none => .none
  | some j => .int (j : Int)
/-! ### is_over -/
def spOver : SpD := fun ss Q => ∃ cs, ss = [.d (rowD cs)] ∧ Q (.bool (isOver cs)) []
theorem sh_is_over : ∀ ss QD, spOver ss QD → ss.length = 1 ∧ mpos 0 ss = [] := by rintro ss QD ⟨cs, rfl, _⟩; exact ⟨rfl, rfl⟩
theorem rd_is_over : ∀ ss QD, spOver ss QD → tb_is_over { nx := fun E' => finO [] E' (QD .none), rt := fun d E' => finO [] E' (QD d) } (ss ++ List.replicate 0 .un) := by
  rintro ss QD ⟨cs, rfl, q⟩
  unfold tb_is_over rowD
  walk_at "dl"
  rw [List.length_map]
  unfold isOver at q
  by_cases h : (4 : Int) ≤ cs.length
  · rw [decide_eq_true h]
    rw [decide_eq_true (show 4 ≤ cs.length by omega), Bool.true_and] at q
    refine ⟨small_line (by decide), ⟨shaped_of (n := 2) ?_, shaped_of (n := 2) (sh_row [.pass, .pass, .pass])⟩, ?_⟩
    · rw [show (-3 : Int) = -((3 : Nat) : Int) from rfl, cut_neg (by decide), ← List.map_drop]; exact sh_row _
    · rw [show (-3 : Int) = -((3 : Nat) : Int) from rfl, cut_neg (by decide), ← List.map_drop, List.length_map]
      rw [show (PyData.tuple [.str "pass", .str "pass", .str "pass"]) = rowD [.pass, .pass, .pass] from rfl, show PyData.tuple ((cs.drop (cs.length - 3)).map enc) = rowD (cs.drop (cs.length - 3)) from rfl, eqv_rows]
      exact q
  · rw [decide_eq_false h]
    rw [decide_eq_false (show ¬ 4 ≤ cs.length by omega), Bool.false_and] at q
    exact q
/-! ### last_but_pass, last_bid -/
def spLastP : SpD := fun ss Q => ∃ cs, ss = [.d (rowD cs)] ∧ Q (optD (lastIx said cs)) []
def spLastB : SpD := fun ss Q => ∃ cs, ss = [.d (rowD cs)] ∧ Q (optD (lastIx isBid cs)) []
theorem sh_last_but_pass : ∀ ss QD, spLastP ss QD → ss.length = 1 ∧ mpos 0 ss = [] := by rintro ss QD ⟨cs, rfl, _⟩; exact ⟨rfl, rfl⟩
theorem sh_last_bid : ∀ ss QD, spLastB ss QD → ss.length = 1 ∧ mpos 0 ss = [] := by rintro ss QD ⟨cs, rfl, _⟩; exact ⟨rfl, rfl⟩
theorem take_next {cs : List Call} {i : Nat} {c : Call} (h : cs[i]? = some c) : cs.take (i + 1) = cs.take i ++ [c] := by rw [List.take_add_one, h]; rfl
theorem enum_next {cs : List Call} {i : Nat} {d : D} (h : (enumD (cs.map enc))[i]? = some d) : ∃ c, cs[i]? = some c ∧ d = .tuple [.int (i : Int), c.enc] := by
  have hl : i < cs.length := by have := (List.getElem?_eq_some_iff.mp h).1; rwa [enumD_len, List.length_map] at this
  refine ⟨cs[i], List.getElem?_eq_getElem hl, ?_⟩
  rw [enumD_get (get_row (List.getElem?_eq_getElem hl))] at h
  exact (Option.some.inj h).symm
theorem said_ne (c : Call) : (!PyData.eqv c.enc (.str "pass")) = c.said := by
  rw [show (PyData.str "pass") = Call.pass.enc from rfl, enc_eqv]
  cases c <;> rfl
theorem rd_last_but_pass : ∀ ss QD, spLastP ss QD → tb_last_but_pass { nx := fun E' => finO [] E' (QD .none), rt := fun d E' => finO [] E' (QD d) } (ss ++ List.replicate 3 .un) := by
  rintro ss QD ⟨cs, rfl, q⟩
  unfold tb_last_but_pass rowD
  refine seq_step fun R hR => ?_
  walk_at "dl"
  refine hR _ ?_
  refine seq_step fun R hR => ?_
  refine for_inv (ds := enumD (cs.map enc)) (E1 := [.d (.tuple (cs.map enc)), .d .none, .un, .un]) (fun Q h => h)
    (fun i E => ∃ a2 a3, E = [.d (.tuple (cs.map enc)), .d (optD (lastIx said (cs.take i))), a2, a3]) ⟨_, _, rfl⟩ (fun i d E hd hE R2 hR2 => ?_) (fun E hE => ?_)
  · obtain ⟨a2, a3, rfl⟩ := hE
    obtain ⟨c, hc, rfl⟩ := enum_next hd
    walk_at "dl"
    refine ⟨⟨shaped_of (sh_enc 0 c), shaped_of (n := 1) (sh_enc 0 .pass)⟩, ?_⟩
    rw [said_ne]
    refine ifB (fun e => hR2 _ ⟨.d (.int (i : Int)), .d c.enc, ?_⟩) (fun e => hR2 _ ⟨.d (.int (i : Int)), .d c.enc, ?_⟩)
    · rw [take_next hc, lastIx_snoc, if_pos e, List.length_take, Nat.min_eq_left (by have := (List.getElem?_eq_some_iff.mp hc).1; omega)]; rfl
    · rw [take_next hc, lastIx_snoc, if_neg (by rw [e]; decide)]
  · obtain ⟨a2, a3, rfl⟩ := hE
    rw [enumD_len, List.length_map, List.take_length]
    exact hR _ q
theorem rd_last_bid : ∀ ss QD, spLastB ss QD → tb_last_bid { nx := fun E' => finO [] E' (QD .none), rt := fun d E' => finO [] E' (QD d) } (ss ++ List.replicate 3 .un) := by
  rintro ss QD ⟨cs, rfl, q⟩
  unfold tb_last_bid rowD
  refine seq_step fun R hR => ?_
  walk_at "dl"
  refine hR _ ?_
  refine seq_step fun R hR => ?_
  refine for_inv (ds := enumD (cs.map enc)) (E1 := [.d (.tuple (cs.map enc)), .d .none, .un, .un]) (fun Q h => h)
    (fun i E => ∃ a2 a3, E = [.d (.tuple (cs.map enc)), .d (optD (lastIx isBid (cs.take i))), a2, a3]) ⟨_, _, rfl⟩ (fun i d E hd hE R2 hR2 => ?_) (fun E hE => ?_)
  · obtain ⟨a2, a3, rfl⟩ := hE
    obtain ⟨c, hc, rfl⟩ := enum_next hd
    have fin : ∀ b : Bool, b = c.isBid → if b = true then R2 [.d (.tuple (cs.map enc)), .d (.int (i : Int)), .d (.int (i : Int)), .d c.enc] else R2 [.d (.tuple (cs.map enc)), .d (optD (lastIx isBid (cs.take i))), .d (.int (i : Int)), .d c.enc] := fun b hb => by
      refine ifB (fun e => hR2 _ ⟨.d (.int (i : Int)), .d c.enc, ?_⟩) (fun e => hR2 _ ⟨.d (.int (i : Int)), .d c.enc, ?_⟩)
      · rw [take_next hc, lastIx_snoc, if_pos (by rw [← hb]; exact e), List.length_take, Nat.min_eq_left (by have := (List.getElem?_eq_some_iff.mp hc).1; omega)]; rfl
      · rw [take_next hc, lastIx_snoc, if_neg (by rw [← hb, e]; decide)]
    cases c with
    | bid l s => exact ⟨rfl, trivial, trivial, fin true rfl⟩
    | _ => exact ⟨rfl, trivial, trivial, fin false rfl⟩
  · obtain ⟨a2, a3, rfl⟩ := hE
    rw [enumD_len, List.length_map, List.take_length]
    exact hR _ q
/-! ### all_bids -/
def bE (b : Int × Int) : D := .tuple [.int b.1, .int b.2]
theorem allB_len (L : Nat) : (allB L).length = 5 * L := by
  unfold allB
  induction L with
  | zero => rfl
  | succ n ih => rw [show List.range (n + 1) = List.range n ++ [n] from List.range_succ, List.flatMap_append, List.length_append, ih]; simp; omega
theorem allB_succ (L : Nat) : allB (L + 1) = allB L ++ (List.range 5).map fun s : Nat => ((L : Int) + 1, (s : Int)) := by
  unfold allB
  rw [show List.range (L + 1) = List.range L ++ [L] from List.range_succ, List.flatMap_append]; simp
theorem allB_pos {L : Nat} {b : Int × Int} (h : b ∈ allB L) : 1 ≤ b.1 ∧ b.1 ≤ L ∧ 0 ≤ b.2 ∧ b.2 ≤ 4 := by
  unfold allB at h
  obtain ⟨l, h1, h2⟩ := List.mem_flatMap.mp h
  obtain ⟨s, h3, rfl⟩ := List.mem_map.mp h2
  have := List.mem_range.mp h1
  have := List.mem_range.mp h3
  dsimp only
  omega
def spBids : SpD := fun ss Q => ∃ L : Nat, ss = [.d (.int L)] ∧ L ≤ 1000 ∧ Q (.list ((allB L).map bE)) []
theorem sh_all_bids : ∀ ss QD, spBids ss QD → ss.length = 1 ∧ mpos 0 ss = [] := by rintro ss QD ⟨L, rfl, _⟩; exact ⟨rfl, rfl⟩
theorem range_0 (n : Nat) : rangeD 0 n = (List.range n).map fun i : Nat => PyData.int (i : Int) := by
  unfold rangeD; exact List.map_congr_left fun i _ => by rw [show (0 : Int) + (i : Int) = i by omega]
theorem rd_all_bids : ∀ ss QD, spBids ss QD → tb_all_bids { nx := fun E' => finO [] E' (QD .none), rt := fun d E' => finO [] E' (QD d) } (ss ++ List.replicate 3 .un) := by
  rintro ss QD ⟨L, rfl, hL, q⟩
  unfold tb_all_bids
  refine seq_step fun R hR => ?_
  walk_at "dl"
  refine ⟨small_line (by decide), hR _ ?_⟩
  refine seq_step fun R hR => ?_
  refine for_inv (ds := rangeD 1 L) (E1 := [.d (.int L), .ol [], .un, .un]) (fun Q h => ⟨⟨by decide, by decide, by omega, by omega⟩, by rw [show ((L : Int) + 1 - 1).toNat = L by omega]; exact h⟩)
    (fun i E => ∃ a2, E = [.d (.int L), .ol ((allB i).map bE), a2, .un]) ⟨_, rfl⟩ (fun i d E hd hE R2 hR2 => ?_) (fun E hE => ?_)
  · obtain ⟨a2, rfl⟩ := hE
    have hi : i < L := by have := (List.getElem?_eq_some_iff.mp hd).1; rwa [rangeD_length] at this
    rw [rangeD_get hi] at hd
    cases hd
    walk_at "dl"
    refine comp_map (E1 := [.d (.int L), .ol ((allB i).map bE), .d (.int (1 + (i : Int))), .un]) (List.range 5) (fun s : Nat => .int (s : Int)) (fun s : Nat => bE (1 + (i : Int), (s : Int))) (fun Q h => ⟨⟨by decide, by decide⟩, by rw [show ((5 : Int)).toNat = 5 from rfl, range_0]; exact h⟩) (un1 rfl) (small_line (by decide)) (fun x hx R hq => ?_) ?_
    · exact ⟨small_line (by simp), hq _ rfl⟩
    · refine ⟨?_, hR2 _ ⟨.d (.int (1 + (i : Int))), ?_⟩⟩
      · rw [List.length_map, allB_len, List.length_map, List.length_range]; exact small_line (by omega)
      · rw [allB_succ, List.map_append, List.map_map, Int.add_comm (i : Int) 1]; rfl
  · obtain ⟨a2, rfl⟩ := hE
    rw [rangeD_length]
    exact hR _ q
theorem sh_law_all_bids : ∀ ss QD, spBids ss QD → ss.length = 1 ∧ mpos 0 ss = [] := sh_all_bids
theorem rd_law_all_bids : ∀ ss QD, spBids ss QD → tb_law_all_bids { nx := fun E' => finO [] E' (QD .none), rt := fun d E' => finO [] E' (QD d) } (ss ++ List.replicate 3 .un) := by
  rintro ss QD ⟨L, rfl, hL, q⟩
  unfold tb_law_all_bids
  refine seq_step fun R hR => ?_
  walk_at "dl"
  refine ⟨small_line (by decide), hR _ ?_⟩
  refine seq_step fun R hR => ?_
  refine for_inv (ds := rangeD 1 L) (E1 := [.d (.int L), .d (.list []), .un, .un]) (fun Q h => ⟨⟨by decide, by decide, by omega, by omega⟩, by rw [show ((L : Int) + 1 - 1).toNat = L by omega]; exact h⟩)
    (fun i E => ∃ a2, E = [.d (.int L), .d (.list ((allB i).map bE)), a2, .un]) ⟨_, rfl⟩ (fun i d E hd hE R2 hR2 => ?_) (fun E hE => ?_)
  · obtain ⟨a2, rfl⟩ := hE
    have hi : i < L := by have := (List.getElem?_eq_some_iff.mp hd).1; rwa [rangeD_length] at this
    rw [rangeD_get hi] at hd
    cases hd
    walk_at "dl"
    refine comp_map (E1 := [.d (.int L), .d (.list ((allB i).map bE)), .d (.int (1 + (i : Int))), .un]) (List.range 5) (fun s : Nat => .int (s : Int)) (fun s : Nat => bE (1 + (i : Int), (s : Int))) (fun Q h => ⟨⟨by decide, by decide⟩, by rw [show ((5 : Int)).toNat = 5 from rfl, range_0]; exact h⟩) (un1 rfl) (small_line (by decide)) (fun x hx R hq => ?_) ?_
    · exact ⟨small_line (by simp), hq _ rfl⟩
    · refine ⟨?_, hR2 _ ⟨.d (.int (1 + (i : Int))), ?_⟩⟩
      · rw [List.length_map, allB_len, List.length_map, List.length_range]; exact small_line (by omega)
      · rw [allB_succ, List.map_append, List.map_map, Int.add_comm (i : Int) 1]; rfl
  · obtain ⟨a2, rfl⟩ := hE
    rw [rangeD_length]
    exact hR _ q
/-! ### may_call -/
theorem row_app (pre : List Call) (bs : List (Int × Int)) : PyData.tuple (pre.map enc ++ bs.map bE) = rowD (pre ++ bs.map encB) := by
  unfold rowD; rw [List.map_append, List.map_map]; rfl
def spMay : SpD := fun ss Q => ∃ (L : Nat) (cs : List Call), ss = [.d (.int L), .d (rowD cs)] ∧ L ≤ 1000 ∧ cs.length ≤ 1000 ∧ Q (rowD (mayP L cs)) []
theorem sh_may_call : ∀ ss QD, spMay ss QD → ss.length = 2 ∧ mpos 0 ss = [] := by rintro ss QD ⟨L, cs, rfl, _⟩; exact ⟨rfl, rfl⟩
theorem lastB_none {cs : List Call} (h : lastC isBid cs = none) {L : Nat} {b : Int × Int} (hb : b ∈ allB L) : gtB b (lastB cs) = true := by
  unfold lastB; rw [h]
  have := allB_pos hb
  unfold gtB
  exact decide_eq_true (.inl (by dsimp only; omega))
theorem gt_bid (b : Int × Int) (l s : Int) : PySem.W.dataLt (.tuple [.int l, .int s]) (bE b) = gtB b (l, s) := by
  unfold bE gtB; rw [PySem.W.dataLt_ii]
theorem alike_bid (b : Int × Int) (l s : Int) : PySem.W.alike (bE b) (.tuple [.int l, .int s]) = true := rfl
theorem bE_ok (b : Int × Int) {l s : Int} : bE b ≠ .none ∧ (bE b).depth ≤ 60 ∧ (bE b).canLay0 = true ∧ (PyData.tuple [.int l, .int s]).canLay0 = true := by
  unfold bE
  exact ⟨(fun h => nomatch h), by simp [PyData.depth, PyData.depthAll], by simp [PyData.canLay0, PyData.canLayAll0], by simp [PyData.canLay0, PyData.canLayAll0]⟩
theorem rd_may_call : ∀ ss QD, spMay ss QD → tb_may_call spBids spLastP spLastB spOver { nx := fun E' => finO [] E' (QD .none), rt := fun d E' => finO [] E' (QD d) } (ss ++ List.replicate 4 .un) := by
  rintro ss QD ⟨L, cs, rfl, hL, hc, q⟩
  unfold tb_may_call
  refine seq_step fun R hR => ?_
  walk_at "dl"
  refine ⟨cs, rfl, ?_⟩
  walk_at "dl"
  refine ifB (fun e => ⟨small_line (by decide), ?_⟩) (fun e => hR _ ?_)
  · unfold mayP at q; rw [if_pos e] at q; exact q
  unfold mayP at q
  rw [if_neg (by rw [e]; decide)] at q
  have hml := dblP_len cs.length (lastIx said cs) (lastC said cs)
  generalize hmid : dblP cs.length (lastIx said cs) (lastC said cs) = mid at q hml
  refine seq_step fun R hR => ?_
  walk_at "dl"
  refine ⟨small_line (by decide), hR _ ?_⟩
  refine seq_step fun R hR => ?_
  walk_at "dl"
  refine ⟨cs, rfl, ?_⟩
  walk_at "dl"
  refine ⟨cs, rfl, ?_⟩
  walk_at "dl"
  refine hR _ ?_
  refine seq_step fun R hR => ?_
  have main : R [.d (.int L), .d (rowD cs), .ol (([Call.pass] ++ mid).map enc), .d (optD (lastIx said cs)), .d (optD (lastIx isBid cs)), .un] := by
    refine hR _ ?_
    unfold rowD
    walk_at "dl"
    refine comp_filter (E1 := [.d (.int L), .d (.tuple (cs.map enc)), .d (.list (([Call.pass] ++ mid).map enc)), .d (optD (lastIx said cs)), .d (optD (lastIx isBid cs)), .un]) (allB L) bE (fun b => gtB b (lastB cs)) bE (fun Q h => ⟨rfl, L, rfl, hL, h⟩) (un1 rfl) (by rw [allB_len]; exact small_line (by omega)) (fun b hb R2 hq => ?_) ?_
    · rcases last_spec isBid cs with ⟨e1, e2, e3⟩ | ⟨j, c, e1, e2, e3, e4⟩
      · rw [lastB_none e2 hb, e1] at hq
        rw [e1]
        exact hq _ rfl
      · rw [e1] at hq ⊢
        have hj := (List.getElem?_eq_some_iff.mp e3).1
        cases c with
        | bid l s =>
          refine atD_at (d := (Call.bid l s).enc) (by omega) (by rw [Int.toNat_natCast]; exact get_row e3) ⟨⟨alike_bid b l s, bE_ok b⟩, ?_⟩
          show if PySem.W.dataLt (.tuple [.int l, .int s]) (bE b) = true then R2 (some (bE b)) _ else R2 none _
          have hlb : lastB cs = (l, s) := by unfold lastB; rw [e2]; rfl
          rw [gt_bid, ← hlb]
          refine ifB (fun g => ?_) (fun g => ?_)
          · rw [g] at hq; exact hq _ rfl
          · rw [g] at hq; exact hq _ rfl
        | _ => cases e4
    · refine ⟨?_, ?_⟩
      · have := List.length_filter_le (fun b => gtB b (lastB cs)) (allB L)
        rw [allB_len] at this
        rw [List.length_map, List.length_map]
        show mid.length + 1 + _ ≤ _
        exact small_line (by omega)
      · rw [row_app]
        exact q
  rcases last_spec said cs with ⟨e1, e2, e3⟩ | ⟨j, c, e1, e2, e3, e4⟩
  · rw [e1, e2] at hmid
    rw [e1] at main ⊢
    rw [← hmid] at main
    walk_at "dl"
    exact main
  · rw [e1, e2] at hmid
    rw [e1] at main ⊢
    have hj := (List.getElem?_eq_some_iff.mp e3).1
    unfold optD
    unfold rowD
    walk_at "dl"
    rw [List.length_map]
    refine ⟨by decide, ?_⟩
    have at_j : ∀ {P : D → Prop}, P c.enc → atD (cs.map enc) (j : Int) P := fun q => atD_at (by omega) (by rw [Int.toNat_natCast]; exact get_row e3) q
    have one : 0 + 1 < sizeLine := Nat.lt_of_lt_of_le (show 0 + 1 < 3 by decide) (small_line (by decide))
    simp only [dblP] at hmid
    by_cases hp : ((cs.length : Int) - j) % 2 = 1
    · rw [if_pos hp] at hmid ⊢
      refine at_j ?_
      cases c with
      | pass => cases e4
      | bid l s => subst hmid; exact ⟨trivial, one, main⟩
      | dbl =>
        subst hmid
        refine ⟨trivial, at_j ⟨⟨shaped_of (n := 1) (sh_enc 0 .dbl), shaped_of (n := 1) (sh_enc 0 .dbl)⟩, ?_⟩⟩
        rw [show PyData.eqv Call.dbl.enc (.str "double") = true from enc_eqv .dbl .dbl]
        exact ⟨one, main⟩
      | rdb =>
        subst hmid
        refine ⟨trivial, at_j ⟨⟨shaped_of (n := 1) (sh_enc 0 .rdb), shaped_of (n := 1) (sh_enc 0 .dbl)⟩, ?_⟩⟩
        rw [show PyData.eqv Call.rdb.enc (.str "double") = false from enc_eqv .rdb .dbl]
        exact main
    · rw [if_neg hp] at hmid ⊢
      subst hmid
      exact main
/-! ### _law_may_call -/
theorem atD_last {xs : List D} {d : D} {Q : D → Prop} (h : xs.getLast? = some d) (q : Q d) : atD xs (-1) Q := by
  have h1 : 0 < xs.length := by
    cases xs with
    | nil => cases h
    | cons a l => simp
  rw [List.getLast?_eq_getElem?] at h
  refine atD_neg (by decide) (by omega) ?_ q
  rw [show ((-1 : Int) + xs.length).toNat = xs.length - 1 by omega]; exact h
def ixD (p : Call → Bool) (cs : List Call) : List D := (ixOf p cs).map fun j : Nat => .int (j : Int)
theorem ixD_last {p : Call → Bool} {cs : List Call} {j : Nat} (h : lastIx p cs = some j) : (ixD p cs).getLast? = some (.int (j : Int)) := by
  unfold ixD; rw [List.getLast?_map]; unfold lastIx at h; rw [h]; rfl
theorem ixD_full {p : Call → Bool} {cs : List Call} {j : Nat} (h : lastIx p cs = some j) : (ixD p cs).isEmpty = false := by
  have := ixD_last h
  cases e : ixD p cs with
  | nil => rw [e] at this; cases this
  | cons a l => rfl
def spLMay : SpD := fun ss Q => ∃ (L : Nat) (cs : List Call), ss = [.d (.int L), .d (rowD cs)] ∧ L ≤ 1000 ∧ cs.length ≤ 1000 ∧ Q (rowD (mayL L cs)) []
theorem sh_law_may_call : ∀ ss QD, spLMay ss QD → ss.length = 2 ∧ mpos 0 ss = [] := by rintro ss QD ⟨L, cs, rfl, _⟩; exact ⟨rfl, rfl⟩
theorem rd_law_may_call : ∀ ss QD, spLMay ss QD → tb_law_may_call spBids { nx := fun E' => finO [] E' (QD .none), rt := fun d E' => finO [] E' (QD d) } (ss ++ List.replicate 7 .un) := by
  rintro ss QD ⟨L, cs, rfl, hL, hc, q⟩
  unfold tb_law_may_call rowD
  refine seq_step fun R hR => ?_
  refine comp_filter (E1 := [.d (.int L), .d (.tuple (cs.map enc)), .un, .un, .un, .un, .un, .un, .un]) cs.zipIdx (fun p => .tuple [.int ((p.2 : Nat) : Int), p.1.enc]) (fun p => p.1.said) (fun p => .int ((p.2 : Nat) : Int)) (fun Q h => by show Q (enumD (cs.map enc)) _; rw [enum_row]; exact h) (un2 rfl rfl) (by rw [List.length_zipIdx]; exact small_line (by omega)) (fun x hx R2 hq => ?_) ?_
  · refine ⟨rfl, ⟨shaped_of (sh_enc 0 x.1), shaped_of (n := 1) (sh_enc 0 .pass)⟩, ?_⟩
    show if (!PyData.eqv x.1.enc (.str "pass")) = true then R2 (some (.int ((x.2 : Nat) : Int))) _ else R2 none _
    rw [said_ne]
    refine ifB (fun g => ?_) (fun g => ?_)
    · rw [g] at hq; exact hq _ rfl
    · rw [g] at hq; exact hq _ rfl
  refine hR _ ?_
  have e0 : (cs.zipIdx.filter fun p => p.1.said).map (fun p : Call × Nat => PyData.int ((p.2 : Nat) : Int)) = ixD said cs := by unfold ixD ixOf; rw [List.map_map]; rfl
  rw [e0]
  refine seq_step fun R hR => ?_
  refine comp_filter (E1 := [.d (.int L), .d (.tuple (cs.map enc)), .d (.list (ixD said cs)), .un, .un, .un, .un, .un, .un]) cs enc isBid enc (fun Q h => h) (un1 rfl) (small_line (by omega)) (fun x hx R2 hq => ?_) ?_
  · cases x with
    | bid l s => exact ⟨trivial, trivial, hq _ rfl⟩
    | _ => exact ⟨trivial, trivial, hq _ rfl⟩
  refine hR _ ?_
  refine seq_step fun R hR => ?_
  have st4 : R [.d (.int L), .d (.tuple (cs.map enc)), .d (.list (ixD said cs)), .d (.list ((cs.filter isBid).map enc)), .d (.int (quiet cs)), .un, .un, .un, .un] := by
    refine hR _ ?_
    -- over
    refine seq_step fun R hR => ?_
    have go : ¬ (quiet cs = 4 ∨ (ixOf said cs ≠ [] ∧ quiet cs = 3)) → R [.d (.int L), .d (.tuple (cs.map enc)), .d (.list (ixD said cs)), .d (.list ((cs.filter isBid).map enc)), .d (.int (quiet cs)), .un, .un, .un, .un] := by
      intro hno
      unfold mayL at q
      rw [if_neg hno] at q
      refine hR _ ?_
      refine seq_step fun R hR => ?_
      walk_at "dl"
      refine ⟨small_line (by decide), hR _ ?_⟩
      refine seq_step fun R hR => ?_
      generalize hmid : (if ixOf said cs ≠ [] ∧ quiet cs ≠ 1 ∧ lastC said cs ≠ some Call.rdb then [if lastC said cs = some Call.dbl then Call.rdb else .dbl] else []) = mid at q
      have hml : mid.length ≤ 1 := by rw [← hmid]; split <;> simp
      have main : R [.d (.int L), .d (.tuple (cs.map enc)), .d (.list (ixD said cs)), .d (.list ((cs.filter isBid).map enc)), .d (.int (quiet cs)), .ol (([Call.pass] ++ mid).map enc), .un, .un, .un] := by
        refine hR _ ?_
        walk_at "dl"
        refine comp_filter (E1 := [.d (.int L), .d (.tuple (cs.map enc)), .d (.list (ixD said cs)), .d (.list ((cs.filter isBid).map enc)), .d (.int (quiet cs)), .d (.list (([Call.pass] ++ mid).map enc)), .un, .un, .un]) (allB L) bE (fun b => gtB b (lastB cs)) bE (fun Q h => ⟨rfl, L, rfl, hL, h⟩) (un1 rfl) (by rw [allB_len]; exact small_line (by omega)) (fun b hb R2 hq => ?_) ?_
        · have fin : ∀ l s : Int, lastB cs = (l, s) → ∀ E', wipeE E' [8] = wipeE [.d (.int L), .d (.tuple (cs.map enc)), .d (.list (ixD said cs)), .d (.list ((cs.filter isBid).map enc)), .d (.int (quiet cs)), .d (.list (([Call.pass] ++ mid).map enc)), .un, .un, .un] [8] → (PySem.W.alike (bE b) (.tuple [.int l, .int s]) = true ∧ bE b ≠ .none ∧ (bE b).depth ≤ 60 ∧ (bE b).canLay0 = true ∧ (PyData.tuple [.int l, .int s]).canLay0 = true) ∧ if PySem.W.dataLt (.tuple [.int l, .int s]) (bE b) = true then R2 (some (bE b)) E' else R2 none E' := by
            intro l s hlb E' hE'
            refine ⟨⟨alike_bid b l s, bE_ok b⟩, ?_⟩
            rw [gt_bid, ← hlb]
            refine ifB (fun g => ?_) (fun g => ?_)
            · rw [g] at hq; exact hq _ hE'
            · rw [g] at hq; exact hq _ hE'
          rcases last_spec isBid cs with ⟨e1, e2, e3⟩ | ⟨j, c, e1, e2, e3, e4⟩
          · have hb0 : cs.filter isBid = [] := by
              cases hf : cs.filter isBid with
              | nil => rfl
              | cons a l => unfold lastC at e2; rw [hf] at e2; simp at e2
            rw [hb0] at fin ⊢
            walk_at "dl"
            refine ⟨small_line (by decide), small_line (by decide), atD_last rfl ?_⟩
            exact fin 0 4 (by unfold lastB; rw [e2]) _ rfl
          · have hb1 : ((cs.filter isBid).map enc).getLast? = some c.enc := by
              rw [List.getLast?_map]; unfold lastC at e2; rw [e2]; rfl
            have hb2 : ((cs.filter isBid).map enc).isEmpty = false := by
              cases hf : (cs.filter isBid).map enc with
              | nil => rw [hf] at hb1; cases hb1
              | cons a l => rfl
            walk_at "dl"
            rw [hb2]
            cases c with
            | bid l s => exact atD_last hb1 (fin l s (by unfold lastB; rw [e2]; rfl) _ rfl)
            | _ => cases e4
        · refine ⟨?_, ?_⟩
          · have := List.length_filter_le (fun b => gtB b (lastB cs)) (allB L)
            rw [allB_len] at this
            rw [List.length_map, List.length_map]
            show mid.length + 1 + _ ≤ _
            exact small_line (by omega)
          · rw [row_app]
            exact q
      have one : 0 + 1 < sizeLine := Nat.lt_of_lt_of_le (show 0 + 1 < 3 by decide) (small_line (by decide))
      rcases last_spec said cs with ⟨e1, e2, e3⟩ | ⟨j, c, e1, e2, e3, e4⟩
      · have h0 : ixD said cs = [] := by unfold ixD; rw [e3]; rfl
        rw [if_neg (fun z => z.1 e3)] at hmid
        subst hmid
        rw [h0] at main ⊢
        walk_at "dl"
        exact main
      · have hne : ixOf said cs ≠ [] := fun z => by have := said_last.mp z; rw [e2] at this; cases this
        have at_j : ∀ {P : D → Prop}, P c.enc → atD (cs.map enc) (j : Int) P := fun q => atD_at (by omega) (by rw [Int.toNat_natCast]; exact get_row e3) q
        walk_at "dl"
        rw [ixD_full e1]
        refine ifT rfl ?_
        by_cases hq1 : quiet cs = 1
        · rw [if_neg (fun z => z.2.1 hq1)] at hmid
          subst hmid
          rw [decide_eq_true hq1]
          exact main
        · rw [decide_eq_false hq1]
          refine ifT rfl (atD_last (ixD_last e1) (at_j ?_))
          cases c with
          | pass => cases e4
          | rdb =>
            rw [if_neg (fun z => z.2.2 e2)] at hmid
            subst hmid
            refine ⟨⟨shaped_of (n := 1) (sh_enc 0 .rdb), shaped_of (n := 1) (sh_enc 0 .rdb)⟩, ?_⟩
            rw [show PyData.eqv Call.rdb.enc (.str "redouble") = true from enc_eqv .rdb .rdb]
            exact main
          | dbl =>
            rw [if_pos ⟨hne, hq1, by rw [e2]; simp⟩, if_pos e2] at hmid
            subst hmid
            refine ⟨⟨shaped_of (n := 1) (sh_enc 0 .dbl), shaped_of (n := 1) (sh_enc 0 .rdb)⟩, ?_⟩
            rw [show PyData.eqv Call.dbl.enc (.str "redouble") = false from enc_eqv .dbl .rdb]
            refine ifT rfl (atD_last (ixD_last e1) (at_j ⟨⟨shaped_of (n := 1) (sh_enc 0 .dbl), shaped_of (n := 1) (sh_enc 0 .dbl)⟩, ?_⟩))
            rw [show PyData.eqv Call.dbl.enc (.str "double") = true from enc_eqv .dbl .dbl]
            exact ⟨one, main⟩
          | bid l s =>
            rw [if_pos ⟨hne, hq1, by rw [e2]; simp⟩, if_neg (by rw [e2]; simp)] at hmid
            subst hmid
            refine ⟨⟨shaped_of (n := 1) (sh_enc 0 (.bid l s)), shaped_of (n := 1) (sh_enc 0 .rdb)⟩, ?_⟩
            rw [show PyData.eqv (Call.bid l s).enc (.str "redouble") = false from enc_eqv (.bid l s) .rdb]
            refine ifT rfl (atD_last (ixD_last e1) (at_j ⟨⟨shaped_of (n := 1) (sh_enc 0 (.bid l s)), shaped_of (n := 1) (sh_enc 0 .dbl)⟩, ?_⟩))
            rw [show PyData.eqv (Call.bid l s).enc (.str "double") = false from enc_eqv (.bid l s) .dbl]
            exact ⟨one, main⟩
    walk_at "dl"
    have stop : (quiet cs = 4 ∨ (ixOf said cs ≠ [] ∧ quiet cs = 3)) → QD (.tuple []) [] := fun z => by
      unfold mayL at q; rw [if_pos z] at q; exact q
    by_cases h4 : quiet cs = 4
    · rw [if_pos h4]; exact ⟨Nat.zero_le _, stop (.inl h4)⟩
    · rw [if_neg h4]
      by_cases he : ixOf said cs = []
      · have h0 : ixD said cs = [] := by unfold ixD; rw [he]; rfl
        refine ifF (by rw [h0]; rfl) (go fun z => ?_)
        rcases z with z | z
        · exact h4 z
        · exact z.1 he
      · have h0 : (!(ixD said cs).isEmpty) = true := by
          unfold ixD
          cases hx : ixOf said cs with
          | nil => exact absurd hx he
          | cons a l => rfl
        refine ifT h0 ?_
        by_cases h3 : quiet cs = 3
        · rw [if_pos h3]; exact ⟨Nat.zero_le _, stop (.inr ⟨he, h3⟩)⟩
        · rw [if_neg h3]
          exact go fun z => by
            rcases z with z | z
            · exact h4 z
            · exact h3 z.2
  rcases last_spec said cs with ⟨e1, e2, e3⟩ | ⟨j, c, e1, e2, e3, e4⟩
  · have : ixD said cs = [] := by unfold ixD; rw [e3]; rfl
    rw [this] at st4 ⊢
    unfold quiet at st4
    rw [e1] at st4
    walk_at "dl"
    rw [List.length_map]
    refine ⟨small_line (by decide), atD_last rfl ?_⟩
    exact st4
  · walk_at "dl"
    rw [List.length_map, ixD_full e1]
    unfold quiet at st4
    rw [e1] at st4
    exact atD_last (ixD_last e1) st4
/-! ### _law_drawn_calls -/
def spDrawnC : SpD := fun ss Q => ∃ (ns : List Int) (t : List D) (L M b : Nat), ss = [.d (.list (ns.map PyData.int)), .ol t, .d (.int L), .d (.int M)] ∧ L ≤ 1000 ∧ M ≤ 1000 ∧ ns.length ≤ 63 ∧ TownOk t b ∧ b ≤ 9000000 ∧
  ∀ cs t', Reach L cs → cs.length ≤ M → TownOk t' (b + 4 * M) → Q (rowD cs) [.ol t']
theorem sh_law_drawn_calls : ∀ ss QD, spDrawnC ss QD → ss.length = 4 ∧ mpos 0 ss = [1] := by rintro ss QD ⟨ns, t, L, M, b, rfl, _⟩; exact ⟨rfl, rfl⟩
theorem may_pass {L : Nat} {cs : List Call} (h : mayL L cs ≠ []) : Call.pass ∈ mayL L cs := by
  unfold mayL at h ⊢
  split
  · rename_i z; rw [if_pos z] at h; exact absurd rfl h
  · simp
theorem rd_law_drawn_calls : ∀ ss QD, spDrawnC ss QD → tb_law_drawn_calls spPick spDraw spLMay { nx := fun E' => finO [1] E' (QD .none), rt := fun d E' => finO [1] E' (QD d) } (ss ++ List.replicate 5 .un) := by
  rintro ss QD ⟨ns, t, L, M, b, rfl, hL, hM, hn, ht, hb, q⟩
  unfold tb_law_drawn_calls
  refine seq_step fun R hR => ?_
  walk_at "dl"
  refine ⟨small_line (by decide), hR _ ?_⟩
  refine seq_step fun R hR => ?_
  refine for_inv (ds := rangeD 0 M) (E1 := [.d (.list (ns.map PyData.int)), .ol t, .d (.int L), .d (.int M), .d (rowD []), .un, .un, .un, .un]) (fun Q h => ⟨⟨by omega, by omega⟩, by rw [show ((M : Int)).toNat = M by omega]; exact h⟩)
    (fun i E => ∃ t cs a5 a6 a7 a8, E = [.d (.list (ns.map PyData.int)), .ol t, .d (.int L), .d (.int M), .d (rowD cs), a5, a6, a7, a8] ∧ Reach L cs ∧ cs.length ≤ i ∧ TownOk t (b + 4 * i)) ⟨_, _, _, _, _, _, rfl, .nil, Nat.le_refl _, ht⟩ (fun i d E hd hE R2 hR2 => ?_) (fun E hE => ?_)
  · obtain ⟨t, cs, a5, a6, a7, a8, rfl, hr, hl, ht⟩ := hE
    have hi : i < M := by have := (List.getElem?_eq_some_iff.mp hd).1; rwa [rangeD_length] at this
    refine seq_step fun R3 hR3 => ?_
    walk_at "dl"
    refine ⟨L, cs, rfl, hL, by omega, ?_⟩
    walk_at "dl"
    refine hR3 _ ?_
    unfold rowD
    by_cases he : mayL L cs = []
    · rw [he]
      walk_at "dl"
      exact hR2 _ ⟨_, _, _, _, _, _, rfl, hr, by omega, ht.mono (by omega)⟩
    · have h0 : (!((mayL L cs).map enc).isEmpty) = true := by
        cases hx : mayL L cs with
        | nil => exact absurd hx he
        | cons a l => rfl
      refine ⟨trivial, ifT h0 ?_⟩
      refine seq_step fun R4 hR4 => ?_
      walk_at "dl"
      refine ⟨ns, t, 5, _, rfl, by decide, hn, ht, by omega, fun way t2 w0 w1 ht2 => ?_⟩
      walk_at "dl"
      refine hR4 _ ?_
      refine seq_step fun R5 hR5 => ?_
      have fin : ∀ (c : Call) (t3 : List D), c ∈ mayL L cs → TownOk t3 (b + 4 * i + 2 + 2) → R5 [.d (.list (ns.map PyData.int)), .ol t3, .d (.int L), .d (.int M), .d (.tuple (cs.map enc)), .d d, .d (.tuple ((mayL L cs).map enc)), .d (.int way), .d c.enc] := by
        intro c t3 hc ht3
        refine hR5 _ ?_
        walk_at "dl"
        have er : PyData.tuple (cs.map enc ++ [c.enc]) = rowD (cs ++ [c]) := by unfold rowD; rw [List.map_append]; rfl
        rw [er]
        refine ⟨small_line (by simp), ?_, hR2 _ ⟨t3, cs ++ [c], _, _, _, _, rfl, .snoc hr hc, by rw [List.length_append]; simp; omega, ht3.mono (by omega)⟩⟩
        rw [List.length_map]; exact small_line (by omega)
      walk_at "dl"
      by_cases hw : way < 2
      · rw [if_pos hw]
        exact fin .pass t2 (may_pass he) (ht2.mono (by omega))
      · rw [if_neg hw]
        refine ⟨cmul_small (by omega) (by omega), ?_⟩
        rw [cut_to (by omega), ← List.map_take]
        refine ⟨ns, t2, _, ((mayL L cs).take (1 + 2 * way).toNat).map enc, _, rfl, .inr rfl, ?_, hn, ht2, by omega, fun x t3 hx ht3 => ?_⟩
        · cases hx : mayL L cs with
          | nil => exact absurd hx he
          | cons a l =>
            rw [show (1 + 2 * way).toNat = ((1 + 2 * way).toNat - 1) + 1 by omega]
            simp
        · obtain ⟨c, hc, rfl⟩ := List.mem_map.mp hx
          exact fin c t3 (List.mem_of_mem_take hc) ht3
  · obtain ⟨t, cs, a5, a6, a7, a8, rfl, hr, hl, ht⟩ := hE
    rw [rangeD_length] at hl ht
    exact hR _ (q cs t hr hl ht)
/-! ### contract_of -/
theorem any_enc (xs : List Call) (c : Call) : ((xs.map enc).any fun z => PyData.eqv z c.enc) = decide (c ∈ xs) := by
  induction xs with
  | nil => rfl
  | cons a l ih =>
    rw [List.map_cons, List.any_cons, ih, enc_eqv]
    by_cases h1 : a = c
    · simp [h1]
    · have h1' : ¬ c = a := fun e => h1 e.symm
      by_cases h2 : c ∈ l <;> simp [h1, h1', h2]
/-! ### _law_contract -/
end DL
set_option Elab.async false
set_option linter.all false
set_option maxRecDepth 100000
set_option maxHeartbeats 4000000
namespace DL
open PySem PySem.Spec PyProof.Rows L2
local macro_rules | `(tactic| walk_at "dl") => `(tactic| simp only [tV, tVr, tFzV, turnD, DL.wipeE, tK, tOpD, tUnD, tBo, tAndD, tOrD, tNotD, tIfE, DL.tAndV, DL.tOrV, DL.tNotV, tTru, truD, okLen, sSet, sSetL, sExpr, sRet, sIf, sNx, tTupD, dNil, dCons, tLstD, tFzD, tApp, tExtd, tPopAt, sSetIx, tIxO, tChainD, tChain3D, tRevT, caStr, opRepT, opAdd, opSub, opMul, opDiv, opMod, opPow, DL.opI, DL.opI0, opB0, opLt, opLe, opGt, opGtD, opLtD, opGe, opEq, opNe, opIs, opIsN, isNone, opIn, opNotIn, opIx, atD_0, atD_1, atD_2, atD_3, putD_0, unNeg, tCa1, tCa2, tCaL1, caLen, caAbs, caMax2, caMin2, caSum, caMax, caMin, caSumT, caMaxT, caMinT, caAll, caTuple, caList, caInt, tIsi, isInt, isBool, isStr, isTuple, isList, notDict, sAsg, gSet, gTupD, gsNil, gsCons, sPar, pNil, pD, pL, setAll, tCallD, aNil, aV, aO, argS, oixs, ndp, putO, tOpL, opCat, opRep, tSlD, slD, tSlL, oNo, oE, tRevD, iLstD, iTupD, iRange1, iRange2, iZipD, iZipM, finO, tTrue, Option.map, eqv_int, eqv_bool, eqv_none, shaped_int, shaped_bool, shaped_none, tLenRange, tSortSet, tLenSet, tLenSetP, tSortSetP, tCountL, tCountT, tIndexL, tIndexT, DL.tOrT, DL.tAndT, DL.tNotT, tSortRev, caSorted, iEnumL, iEnumT, decide_eq_true_eq, and_self, List.cons_append, List.nil_append, List.replicate, List.getElem?_cons_zero, List.getElem?_cons_succ, List.set_cons_zero, List.set_cons_succ, List.length_cons, List.length_nil, true_and, and_true, if_true, if_false, Bool.false_eq_true, List.contains_nil, Bool.not_false, Bool.not_true, Bool.and_self, Bool.and_true, Bool.true_and, decide_true, decide_false, beq_self_eq_true])
def tb_is_whole : TSd :=
  sRet (tAndV (tIsi isInt (tV 0)) (tNotV (tIsi isBool (tV 0))))
def tb_is_bid (sp_is_whole : SpD) : TSd :=
  sSeq (sIf (tOrD (tNotD (tTru (tIsi isTuple (tV 1)))) (tOrD (tBo (tOpD opNe (tCa1 caLen (tV 1)) (tK (.int 2)))) (tOrD (tNotD (tTru (tCallD sp_is_whole (aV (tOpD opIx (tV 1) (tK (.int 0))) (aNil))))) (tNotD (tTru (tCallD sp_is_whole (aV (tOpD opIx (tV 1) (tK (.int 1))) (aNil)))))))) (sRet (tK (.bool false))) (sNx))
      (sRet (tAndV (tChainD opLe opLe (tK (.int 1)) (tOpD opIx (tV 1) (tK (.int 0))) (tV 0)) (tChainD opLe opLe (tK (.int 0)) (tOpD opIx (tV 1) (tK (.int 1))) (tK (.int 4)))))
def tb_is_call (sp_is_bid : SpD) : TSd :=
  sSeq (sIf (tTru (tIsi isStr (tV 1))) (sRet (tOpD opIn (tV 1) (tTupD (dCons (tK (.str "pass")) (dCons (tK (.str "double")) (dCons (tK (.str "redouble")) (dNil))))))) (sNx))
      (sRet (tCallD sp_is_bid (aV (tV 0) (aV (tV 1) (aNil)))))
def tb_calls_fault (sp_is_call : SpD) (sp_may_call : SpD) : TSd :=
  sSeq (sFor (iEnumT (tV 1)) (gTupD 2 (gsCons (gSet 2) (gsCons (gSet 3) (gsNil)))) (sIf (tOrD (tNotD (tTru (tCallD sp_is_call (aV (tV 0) (aV (tV 3) (aNil)))))) (tBo (tOpD opNotIn (tV 3) (tCallD sp_may_call (aV (tV 0) (aV (tSlD (tV 1) (oNo) (oE (tV 2))) (aNil))))))) (sRet (tV 2)) (sNx)))
      (sRet (tK .none))
open Call
def wholeD : D → Bool
  | .int _ => true
  | _ => false
def isBidD (L : Int) : D → Bool
  | .tuple [.int a, .int b] => decide (1 ≤ a) && (decide (a ≤ L) && (decide (0 ≤ b) && decide (b ≤ 4)))
  | _ => false
def isCallD (L : Int) : D → Bool
  | .str x => ([.str "pass", .str "double", .str "redouble"] : List D).any fun z => PyData.eqv z (.str x)
  | d => isBidD L d
def spWhole : SpD := fun ss Q => ∃ d, ss = [.d d] ∧ notDict d ∧ Q (.bool (wholeD d)) []
theorem sh_is_whole : ∀ ss QD, spWhole ss QD → ss.length = 1 ∧ mpos 0 ss = [] := by rintro ss QD ⟨d, rfl, _⟩; exact ⟨rfl, rfl⟩
theorem rd_is_whole : ∀ ss QD, spWhole ss QD → tb_is_whole { nx := fun E' => finO [] E' (QD .none), rt := fun d E' => finO [] E' (QD d) } (ss ++ List.replicate 0 .un) := by
  rintro ss QD ⟨d, rfl, hd, q⟩
  unfold tb_is_whole
  cases d with
  | dict _ => exact hd.elim
  | int i => exact ⟨trivial, trivial, q⟩
  | bool i => exact ⟨trivial, trivial, q⟩
  | _ => exact ⟨trivial, q⟩
theorem nd_of {n : Nat} {d : D} (h : shOk n d = true) : notDict d := by
  cases d with
  | dict _ => cases n <;> cases h
  | _ => trivial
def spIsBid : SpD := fun ss Q => ∃ (L : Int) (d : D) (n : Nat), ss = [.d (.int L), .d d] ∧ shOk n d = true ∧ Q (.bool (isBidD L d)) []
theorem sh_is_bid : ∀ ss QD, spIsBid ss QD → ss.length = 2 ∧ mpos 0 ss = [] := by rintro ss QD ⟨L, d, n, rfl, _⟩; exact ⟨rfl, rfl⟩
theorem rd_is_bid : ∀ ss QD, spIsBid ss QD → tb_is_bid spWhole { nx := fun E' => finO [] E' (QD .none), rt := fun d E' => finO [] E' (QD d) } (ss ++ List.replicate 0 .un) := by
  rintro ss QD ⟨L, d, n, rfl, hd, q⟩
  unfold tb_is_bid
  refine seq_step fun R hR => ?_
  cases d with
  | dict _ => cases n <;> cases hd
  | tuple ds =>
    cases n with
    | zero => cases hd
    | succ n =>
      rw [shOk_tup] at hd
      by_cases h2 : ds.length = 2
      · match ds, h2, hd, q with
        | [x, y], _, hd, q =>
          have hx : shOk n x = true ∧ shOk n y = true := by simpa using hd
          walk_at "dl"
          refine ⟨x, rfl, nd_of hx.1, ?_⟩
          walk_at "dl"
          have fq : isBidD L (.tuple [x, y]) = false → QD (.bool false) [] := fun h => by rw [h] at q; exact q
          by_cases hx1 : wholeD x = true
          · refine ifF (by rw [hx1]; rfl) ⟨y, rfl, nd_of hx.2, ?_⟩
            walk_at "dl"
            by_cases hy1 : wholeD y = true
            · refine ifF (by rw [hy1]; rfl) (hR _ ?_)
              cases x with
              | int a =>
                cases y with
                | int b =>
                  have q : QD (.bool (decide (1 ≤ a) && (decide (a ≤ L) && (decide (0 ≤ b) && decide (b ≤ 4))))) [] := q
                  walk_at "dl"
                  by_cases h1 : 1 ≤ a
                  · rw [decide_eq_true h1, Bool.true_and] at q
                    rw [decide_eq_true h1]
                    by_cases h3 : a ≤ L
                    · rw [decide_eq_true h3, Bool.true_and] at q
                      rw [decide_eq_true h3]
                      by_cases h4 : 0 ≤ b
                      · rw [decide_eq_true h4, Bool.true_and] at q
                        rw [decide_eq_true h4]
                        exact q
                      · rw [decide_eq_false h4, Bool.false_and] at q
                        rw [decide_eq_false h4]
                        exact q
                    · rw [decide_eq_false h3, Bool.false_and] at q
                      rw [decide_eq_false h3]
                      exact q
                  · rw [decide_eq_false h1, Bool.false_and] at q
                    rw [decide_eq_false h1]
                    exact q
                | _ => cases hy1
              | _ => cases hx1
            · refine ifT (by rw [show wholeD y = false by simpa using hy1]; rfl) (fq ?_)
              cases x with
              | int a =>
                cases y with
                | int b => exact absurd rfl hy1
                | _ => rfl
              | _ => rfl
          · refine ifT (by rw [show wholeD x = false by simpa using hx1]; rfl) (fq ?_)
            cases x with
            | int a => exact absurd rfl hx1
            | _ => rfl
      · walk_at "dl"
        refine ifT (by rw [decide_eq_false (by omega)]; rfl) ?_
        have fq : isBidD L (.tuple ds) = false := by
          match ds, h2 with
          | [], _ => rfl
          | [x], _ => cases x <;> rfl
          | [x, y], h2 => exact absurd rfl h2
          | x :: y :: z :: r, _ => cases x <;> cases y <;> rfl
        rw [fq] at q
        exact q
  | _ => exact ⟨trivial, trivial, q⟩
def spIsCall : SpD := fun ss Q => ∃ (L : Int) (d : D) (n : Nat), ss = [.d (.int L), .d d] ∧ shOk n d = true ∧ n ≤ 64 ∧ Q (.bool (isCallD L d)) []
theorem sh_is_call : ∀ ss QD, spIsCall ss QD → ss.length = 2 ∧ mpos 0 ss = [] := by rintro ss QD ⟨L, d, n, rfl, _⟩; exact ⟨rfl, rfl⟩
theorem rd_is_call : ∀ ss QD, spIsCall ss QD → tb_is_call spIsBid { nx := fun E' => finO [] E' (QD .none), rt := fun d E' => finO [] E' (QD d) } (ss ++ List.replicate 0 .un) := by
  rintro ss QD ⟨L, d, n, rfl, hd, hn, q⟩
  unfold tb_is_call
  refine seq_step fun R hR => ?_
  cases d with
  | dict _ => cases n <;> cases hd
  | str x => exact ⟨trivial, trivial, small_line (by decide), ⟨shaped_of hd hn, shaped_of (n := 2) (sh_row [.pass, .dbl, .rdb])⟩, q⟩
  | _ => exact ⟨trivial, trivial, hR _ ⟨rfl, L, _, n, rfl, hd, q⟩⟩
theorem isCall_enc (L : Int) (c : Call) : isCallD L c.enc = match c with
    | .bid l s => decide (1 ≤ l) && (decide (l ≤ L) && (decide (0 ≤ s) && decide (s ≤ 4)))
    | _ => true := by
  cases c with
  | bid l s => rfl
  | pass => exact (any_enc [.pass, .dbl, .rdb] .pass).trans (decide_eq_true (by decide))
  | dbl => exact (any_enc [.pass, .dbl, .rdb] .dbl).trans (decide_eq_true (by decide))
  | rdb => exact (any_enc [.pass, .dbl, .rdb] .rdb).trans (decide_eq_true (by decide))
theorem isCall_allB {L : Nat} {b : Int × Int} (h : b ∈ allB L) : isCallD L (encB b).enc = true := by
  have := allB_pos h
  rw [isCall_enc]
  unfold encB
  dsimp only
  simp only [Bool.and_eq_true, decide_eq_true_eq]
  omega
theorem isCall_mayP {L : Nat} {cs : List Call} {c : Call} (h : c ∈ mayP L cs) : isCallD L c.enc = true := by
  unfold mayP at h
  split at h
  · cases h
  · rcases List.mem_append.mp h with h | h
    · cases c with
      | bid l s =>
        exfalso
        rcases List.mem_append.mp h with h | h
        · simp at h
        · unfold dblP at h
          split at h
          · split at h
            · split at h
              · simp at h
              · split at h <;> simp at h
            · cases h
          · cases h
      | _ => rw [isCall_enc]
    · obtain ⟨b, hb, rfl⟩ := List.mem_map.mp h
      exact isCall_allB (List.mem_filter.mp hb).1
/-! ### calls_fault -/
theorem notin_enc (xs : List Call) (c : Call) : (!(xs.map enc).any fun z => PyData.eqv z c.enc) = !decide (c ∈ xs) := by rw [any_enc]
/-! ### _law_end_holds -/
end DL
set_option Elab.async false
set_option linter.all false
set_option maxRecDepth 100000
set_option maxHeartbeats 1000000
/-! FnCallsU: more of rows of calls: their length, faults. -/
namespace DL
open PySem PySem.Spec PyProof.Rows L2
open Call
def nb (cs : List Call) : Nat := (cs.filter isBid).length
/-! ### faults -/
theorem Reach.at {L : Nat} {cs : List Call} (h : Reach L cs) : ∀ k, k < cs.length → cs.getD k .pass ∈ mayL L (cs.take k) := by
  induction h with
  | nil => intro k hk; simp at hk
  | snoc h hc ih =>
    rename_i cs c
    intro k hk
    rw [List.length_append] at hk
    simp only [List.length_cons, List.length_nil] at hk
    rcases Nat.lt_or_ge k cs.length with z | z
    · rw [List.getD_eq_getElem?_getD, List.getElem?_append_left z, List.take_append_of_le_length (by omega), ← List.getD_eq_getElem?_getD]
      exact ih k z
    · have : k = cs.length := by omega
      subst this
      rw [List.take_left' rfl, List.getD_eq_getElem?_getD]
      simpa using hc
theorem reach_take {L : Nat} {cs : List Call} (h : Reach L cs) (n : Nat) : Reach L (cs.take n) := by
  induction h with
  | nil => rw [List.take_nil]; exact .nil
  | snoc h hc ih =>
    rename_i cs c
    rcases Nat.lt_or_ge cs.length n with z | z
    · rw [List.take_of_length_le (by rw [List.length_append]; simp; omega)]; exact .snoc h hc
    · rw [List.take_append_of_le_length z]; exact ih
end DL
set_option Elab.async false
set_option linter.all false
set_option maxRecDepth 100000
set_option maxHeartbeats 4000000
namespace DL
open PySem PySem.Spec PyProof.Rows L2
local macro_rules | `(tactic| walk_at "dl") => `(tactic| simp only [tV, tVr, tFzV, turnD, DL.wipeE, tK, tOpD, tUnD, tBo, tAndD, tOrD, tNotD, tIfE, DL.tAndV, DL.tOrV, DL.tNotV, tTru, truD, okLen, sSet, sSetL, sExpr, sRet, sIf, sNx, tTupD, dNil, dCons, tLstD, tFzD, tApp, tExtd, tPopAt, sSetIx, tIxO, tChainD, tChain3D, tRevT, caStr, opRepT, opAdd, opSub, opMul, opDiv, opMod, opPow, DL.opI, DL.opI0, opB0, opLt, opLe, opGt, opGtD, opLtD, opGe, opEq, opNe, opIs, opIsN, isNone, opIn, opNotIn, opIx, atD_0, atD_1, atD_2, atD_3, putD_0, unNeg, tCa1, tCa2, tCaL1, caLen, caAbs, caMax2, caMin2, caSum, caMax, caMin, caSumT, caMaxT, caMinT, caAll, caTuple, caList, caInt, tIsi, isInt, isBool, isStr, isTuple, isList, notDict, sAsg, gSet, gTupD, gsNil, gsCons, sPar, pNil, pD, pL, setAll, tCallD, aNil, aV, aO, argS, oixs, ndp, putO, tOpL, opCat, opRep, tSlD, slD, tSlL, oNo, oE, tRevD, iLstD, iTupD, iRange1, iRange2, iZipD, iZipM, finO, tTrue, Option.map, eqv_int, eqv_bool, eqv_none, shaped_int, shaped_bool, shaped_none, tLenRange, tSortSet, tLenSet, tLenSetP, tSortSetP, tCountL, tCountT, tIndexL, tIndexT, DL.tOrT, DL.tAndT, DL.tNotT, tSortRev, caSorted, iEnumL, iEnumT, decide_eq_true_eq, and_self, List.cons_append, List.nil_append, List.replicate, List.getElem?_cons_zero, List.getElem?_cons_succ, List.set_cons_zero, List.set_cons_succ, List.length_cons, List.length_nil, true_and, and_true, if_true, if_false, Bool.false_eq_true, List.contains_nil, Bool.not_false, Bool.not_true, Bool.and_self, Bool.and_true, Bool.true_and, decide_true, decide_false, beq_self_eq_true])
open Call
theorem enc_inj {c d : Call} (h : c.enc = d.enc) : c = d := by
  have h1 := enc_eqv c d
  have h2 := enc_eqv d d
  rw [h, h2] at h1
  exact of_decide_eq_true (h1.symm.trans (decide_eq_true rfl))
theorem map_enc_inj : ∀ {a b : List Call}, a.map enc = b.map enc → a = b
  | [], [], _ => rfl
  | [], _ :: _, h => by cases h
  | _ :: _, [], h => by cases h
  | x :: a, y :: b, h => by
    rw [List.map_cons, List.map_cons] at h
    injection h with h1 h2
    rw [enc_inj h1, map_enc_inj h2]
/-- the first fault of a row of any things -/
inductive FaultAt (L : Nat) : List D → Option Nat → Prop
  | non {cs : List Call} : Reach L cs → FaultAt L (cs.map enc) none
  | stop {cs : List Call} {d : D} {rest : List D} : Reach L cs → (∀ c ∈ mayL L cs, c.enc ≠ d) → FaultAt L (cs.map enc ++ d :: rest) (some cs.length)
theorem fault_ge {L : Nat} {cs cs' : List Call} {d : D} {rest rest' : List D} (h : Reach L cs') (hn : ∀ c ∈ mayL L cs, c.enc ≠ d) (e : cs.map enc ++ d :: rest = cs'.map enc ++ rest') : cs'.length ≤ cs.length := by
  rcases Nat.lt_or_ge cs.length cs'.length with hlt | hge
  · exfalso
    have h1 : (cs'.take cs.length).map enc = cs.map enc := by
      have := congrArg (List.take cs.length) e
      rw [List.take_append_of_le_length (by rw [List.length_map]; exact Nat.le_refl _), List.take_append_of_le_length (by rw [List.length_map]; omega), List.take_of_length_le (by rw [List.length_map]; exact Nat.le_refl _), ← List.map_take] at this
      exact this.symm
    have h2 := map_enc_inj h1
    have h3 := h.at cs.length hlt
    rw [h2] at h3
    refine hn _ h3 ?_
    have h4 := congrArg (fun l : List D => l[cs.length]?) e
    have h4 : (cs.map enc ++ d :: rest)[cs.length]? = (cs'.map enc ++ rest')[cs.length]? := h4
    rw [List.getElem?_append_right (by rw [List.length_map]; exact Nat.le_refl _), List.length_map, Nat.sub_self, List.getElem?_cons_zero, List.getElem?_append_left (by rw [List.length_map]; exact hlt), List.getElem?_map] at h4
    rw [List.getD_eq_getElem?_getD]
    rw [List.getElem?_eq_getElem hlt] at h4 ⊢
    exact (Option.some.inj h4).symm
  · exact hge
theorem fault_one {L : Nat} {ds : List D} {o o' : Option Nat} (h : FaultAt L ds o) (h' : FaultAt L ds o') : o = o' := by
  cases h with
  | @non cs hr =>
    generalize e : cs.map enc = ds at h'
    cases h' with
    | non _ => rfl
    | @stop cs' d rest hr' hn' =>
      have := fault_ge hr hn' (by rw [List.append_nil]; exact e.symm : cs'.map enc ++ d :: rest = cs.map enc ++ [])
      have hl := congrArg List.length e
      rw [List.length_map, List.length_append, List.length_map, List.length_cons] at hl
      omega
  | @stop cs d rest hr hn =>
    generalize e : cs.map enc ++ d :: rest = ds at h'
    cases h' with
    | @non cs' hr' =>
      have := fault_ge hr' hn (by rw [List.append_nil]; exact e : cs.map enc ++ d :: rest = cs'.map enc ++ [])
      have hl := congrArg List.length e
      rw [List.length_map, List.length_append, List.length_map, List.length_cons] at hl
      omega
    | @stop cs' d' rest' hr' hn' =>
      have h1 := fault_ge hr' hn e
      have h2 := fault_ge hr hn' e.symm
      rw [show cs.length = cs'.length by omega]
theorem allB_mem {L : Nat} {a b : Int} (h : 1 ≤ a ∧ a ≤ L ∧ 0 ≤ b ∧ b ≤ 4) : (a, b) ∈ allB L := by
  unfold allB
  refine List.mem_flatMap.mpr ⟨(a - 1).toNat, List.mem_range.mpr (by omega), List.mem_map.mpr ⟨b.toNat, List.mem_range.mpr (by omega), ?_⟩⟩
  refine Prod.ext ?_ ?_
  · show (((a - 1).toNat : Nat) : Int) + 1 = a
    omega
  · show ((b.toNat : Nat) : Int) = b
    omega
/-- a call that is one is one of ours -/
theorem isCall_is {L : Nat} {d : D} (h : isCallD L d = true) : ∃ c : Call, d = c.enc := by
  cases d with
  | str x =>
    have h : ([Call.pass.enc, Call.dbl.enc, Call.rdb.enc].any fun z => PyData.eqv z (.str x)) = true := h
    obtain ⟨z, hz, he⟩ := List.any_eq_true.mp h
    have key : ∀ y : Str, PyData.eqv (.str y) (.str x) = true → x = y := fun y hy => by
      rw [eqv_str] at hy
      exact (eq_of_beq hy).symm
    rcases List.mem_cons.mp hz with rfl | hz
    · exact ⟨.pass, by rw [key _ he]; rfl⟩
    rcases List.mem_cons.mp hz with rfl | hz
    · exact ⟨.dbl, by rw [key _ he]; rfl⟩
    rcases List.mem_cons.mp hz with rfl | hz
    · exact ⟨.rdb, by rw [key _ he]; rfl⟩
    · cases hz
  | tuple ds =>
    have h : isBidD L (.tuple ds) = true := h
    match ds, h with
    | [.int a, .int b], _ => exact ⟨.bid a b, rfl⟩
  | none => cases h
  | bool _ => cases h
  | int _ => cases h
  | list _ => cases h
  | dict _ => cases h
theorem isCall_mayL {L : Nat} {cs : List Call} (hr : Reach L cs) {c : Call} (h : c ∈ mayL L cs) : isCallD L c.enc = true := by
  rw [← may_eq hr.good] at h
  exact isCall_mayP h
def spFaultG : SpD := fun ss Q => ∃ (L : Nat) (ds : List D), ss = [.d (.int L), .d (.tuple ds)] ∧ L ≤ 1000 ∧ ds.length ≤ 1000 ∧ (∀ x ∈ ds, bnd 20 x = true) ∧ ∀ o, FaultAt L ds o → Q (optD o) []
theorem enum_nextD {ds : List D} {i : Nat} {d : D} (h : (enumD ds)[i]? = some d) : ∃ x, ds[i]? = some x ∧ d = .tuple [.int (i : Int), x] := by
  have hi := (List.getElem?_eq_some_iff.mp h).1
  rw [enumD_len] at hi
  refine ⟨ds[i], List.getElem?_eq_getElem hi, ?_⟩
  rw [enumD_get (List.getElem?_eq_getElem hi)] at h
  exact (Option.some.inj h).symm
theorem split_at {ds : List D} {i : Nat} {x : D} (h : ds[i]? = some x) : ds = ds.take i ++ x :: ds.drop (i + 1) := by
  have hi := (List.getElem?_eq_some_iff.mp h).1
  rw [← (List.getElem?_eq_some_iff.mp h).2, ← List.drop_eq_getElem_cons hi, List.take_append_drop]
theorem stop_at {L : Nat} {ds : List D} {i : Nat} {x : D} {cs : List Call} (hx : ds[i]? = some x) (hr : Reach L cs) (hp : ds.take i = cs.map enc) (hn : ∀ c ∈ mayL L cs, c.enc ≠ x) : FaultAt L ds (some i) := by
  have hi := (List.getElem?_eq_some_iff.mp hx).1
  have e := split_at hx
  rw [hp] at e
  have hl : cs.length = i := by
    have := congrArg List.length hp
    rw [List.length_take, List.length_map] at this
    omega
  rw [e, ← hl]
  exact .stop hr hn
theorem take_nextD {ds : List D} {i : Nat} {x : D} (h : ds[i]? = some x) : ds.take (i + 1) = ds.take i ++ [x] := by rw [List.take_add_one, h]; rfl
theorem go_at {L : Nat} {ds : List D} {i : Nat} {c : Call} {cs : List Call} (hx : ds[i]? = some c.enc) (hr : Reach L cs) (hp : ds.take i = cs.map enc) (hn : c ∈ mayL L cs) : Reach L (cs ++ [c]) ∧ ds.take (i + 1) = (cs ++ [c]).map enc :=
  ⟨.snoc hr hn, by rw [take_nextD hx, hp, List.map_append]; rfl⟩
theorem rd_calls_fault_g : ∀ ss QD, spFaultG ss QD → tb_calls_fault spIsCall spMay { nx := fun E' => finO [] E' (QD .none), rt := fun d E' => finO [] E' (QD d) } (ss ++ List.replicate 2 .un) := by
  rintro ss QD ⟨L, ds, rfl, hL, hc, hb, q⟩
  unfold tb_calls_fault
  refine seq_step fun R hR => ?_
  refine for_inv (ds := enumD ds) (E1 := [.d (.int L), .d (.tuple ds), .un, .un]) (fun Q h => h)
    (fun i E => ∃ a2 a3 cs, E = [.d (.int L), .d (.tuple ds), a2, a3] ∧ Reach L cs ∧ ds.take i = cs.map enc) ⟨_, _, [], rfl, .nil, rfl⟩ (fun i d E hd hE R2 hR2 => ?_) (fun E hE => ?_)
  · obtain ⟨a2, a3, cs, rfl, hr, hp⟩ := hE
    obtain ⟨x, hx, rfl⟩ := enum_nextD hd
    have hi := (List.getElem?_eq_some_iff.mp hx).1
    have hcl : cs.length ≤ 1000 := by
      have := congrArg List.length hp
      rw [List.length_take, List.length_map] at this
      omega
    walk_at "dl"
    refine ⟨L, x, 20, rfl, bnd_sh 20 x (hb x (List.mem_of_getElem? hx)), by decide, ?_⟩
    walk_at "dl"
    by_cases h1 : isCallD L x = true
    · refine ifF (by rw [h1]; rfl) ?_
      obtain ⟨c, rfl⟩ := isCall_is h1
      rw [cut_to (by omega), Int.toNat_natCast, hp]
      refine ⟨L, cs, rfl, hL, hcl, ?_⟩
      unfold rowD
      walk_at "dl"
      refine ⟨⟨shaped_of (n := 1) (sh_enc 0 c), shaped_of (n := 2) (sh_row _)⟩, ?_⟩
      rw [notin_enc, may_eq hr.good]
      refine ifB (fun g => ?_) (fun g => ?_)
      · exact q _ (stop_at hx hr hp fun c' hc' e => by
          rw [enc_inj e] at hc'
          rw [decide_eq_true hc'] at g; cases g)
      · have hm : c ∈ mayL L cs := by
          rw [Bool.not_eq_false'] at g
          exact of_decide_eq_true g
        obtain ⟨z1, z2⟩ := go_at hx hr hp hm
        exact hR2 _ ⟨_, _, _, rfl, z1, z2⟩
    · refine ifT (by rw [show isCallD L x = false by simpa using h1]; rfl) ?_
      exact q _ (stop_at hx hr hp fun c' hc' e => h1 (by rw [← e]; exact isCall_mayL hr hc'))
  · obtain ⟨a2, a3, cs, rfl, hr, hp⟩ := hE
    rw [enumD_len, List.take_of_length_le (Nat.le_refl _)] at hp
    refine hR _ ?_
    refine q none ?_
    rw [hp]
    exact .non hr
/-! ### _law_is_call, _law_fault -/
theorem sh_calls_fault_g : ∀ ss QD, spFaultG ss QD → ss.length = 2 ∧ mpos 0 ss = [] := by rintro ss QD ⟨L, d, rfl, _⟩; exact ⟨rfl, rfl⟩
end DL
set_option Elab.async false
set_option linter.all false
set_option maxRecDepth 100000
set_option maxHeartbeats 4000000
/-! FnTxtT: texts of small lengths and of true signs (plain). -/
namespace DL
open PySem PySem.Spec PyProof.Rows L2
def chOk (x : Str) : Prop := ∀ c ∈ TL.tl x, c < 1114112
theorem strOk_iff (x : Str) : PyData.strOk x = true ↔ chOk x := by
  unfold PyData.strOk chOk
  rw [Array.all_eq_true']
  constructor
  · intro h c hc; exact of_decide_eq_true (h c (Array.mem_toList_iff.mp hc))
  · intro h c hc; exact decide_eq_true (h c (Array.mem_toList_iff.mpr hc))
theorem chOk_app {x y : Str} (h : chOk x) (h' : chOk y) : chOk (x ++ y) := fun c hc => by
  rw [TL.tl_append] at hc
  exact (List.mem_append.mp hc).elim (h c) (h' c)
theorem chOk_cut {x : Str} (h : chOk x) (lo hi : Option Int) : chOk (cutS x lo hi) := fun c hc => h c (List.mem_of_mem_drop (List.mem_of_mem_take hc))
theorem mem_joinL {S : List Nat} : ∀ {ps : List (List Nat)} {c : Nat}, c ∈ TL.joinL S ps → c ∈ S ∨ ∃ p ∈ ps, c ∈ p
  | [], c, h => by cases h
  | [p], c, h => .inr ⟨p, List.mem_singleton.mpr rfl, h⟩
  | p :: q :: r, c, h => by
    have h : c ∈ p ++ (S ++ TL.joinL S (q :: r)) := h
    rcases List.mem_append.mp h with h | h
    · exact .inr ⟨p, List.mem_cons_self .., h⟩
    · rcases List.mem_append.mp h with h | h
      · exact .inl h
      · rcases mem_joinL h with h | ⟨z, hz, h⟩
        · exact .inl h
        · exact .inr ⟨z, List.mem_cons_of_mem _ hz, h⟩
theorem joinL_mem {S : List Nat} : ∀ {ps : List (List Nat)} {p : List Nat} {c : Nat}, p ∈ ps → c ∈ p → c ∈ TL.joinL S ps
  | [], p, c, h, _ => by cases h
  | [q], p, c, h, hc => by rw [← List.mem_singleton.mp h]; exact hc
  | a :: q :: r, p, c, h, hc => by
    show c ∈ a ++ (S ++ TL.joinL S (q :: r))
    rcases List.mem_cons.mp h with rfl | h
    · exact List.mem_append_left _ hc
    · exact List.mem_append_right _ (List.mem_append_right _ (joinL_mem h hc))
theorem chOk_join {y : Str} (h : chOk y) {ps : List Str} (hp : ∀ p ∈ ps, chOk p) : chOk (Txt.join y ps) := fun c hc => by
  rw [TL.join_eq, TL.tl_join] at hc
  rcases mem_joinL hc with k | ⟨p, k, k'⟩
  · exact h c k
  · obtain ⟨q, hq, rfl⟩ := List.mem_map.mp k
    exact hp q hq c k'
theorem chOk_split {x y : Str} (h : chOk x) : ∀ p ∈ Txt.split x y, chOk p := fun p hp c hc => by
  refine h c ?_
  rw [← StrLaws.join_split x y, TL.tl_join]
  exact joinL_mem (List.mem_map.mpr ⟨p, hp, rfl⟩) hc
theorem len_app (x y : Str) : (x ++ y).length = x.length + y.length := by
  rw [TL.len_tl, TL.tl_append, List.length_append, ← TL.len_tl, ← TL.len_tl]
theorem joinL_len (S : List Nat) : ∀ ps : List (List Nat), (TL.joinL S ps).length ≤ (ps.map List.length).sum + ps.length * S.length
  | [] => by simp [TL.joinL]
  | [p] => by simp [TL.joinL]
  | p :: q :: r => by
    have ih := joinL_len S (q :: r)
    show (p ++ (S ++ TL.joinL S (q :: r))).length ≤ _
    rw [List.length_append, List.length_append, List.map_cons, List.sum_cons, List.length_cons, Nat.succ_mul]
    omega
theorem join_len (y : Str) (ps : List Str) : (Txt.join y ps).length ≤ (ps.map (·.length)).sum + ps.length * y.length := by
  rw [TL.join_eq, TL.len_tl, TL.tl_join]
  refine Nat.le_trans (joinL_len _ _) ?_
  rw [List.map_map, List.length_map]
  have : (List.map (List.length ∘ TL.tl) ps) = ps.map (·.length) := List.map_congr_left fun p _ => (TL.len_tl p).symm
  rw [this, TL.len_tl y]
  exact Nat.le_refl _
theorem sum_le_mul {α : Type} {f : α → Nat} {B : Nat} : ∀ {l : List α}, (∀ x ∈ l, f x ≤ B) → (l.map f).sum ≤ l.length * B
  | [], _ => by simp
  | a :: l, h => by
    have := sum_le_mul (l := l) fun x hx => h x (List.mem_cons_of_mem _ hx)
    have := h a (List.mem_cons_self ..)
    rw [List.map_cons, List.sum_cons, List.length_cons, Nat.succ_mul]; omega
/-- what `find` of one sign tells -/
theorem find_out {x : Str} {c : Nat} (h : c ∉ TL.tl x) : Txt.find x (sgn c) = -1 := by
  have := StrLaws.found_one x c
  rw [decide_eq_false h] at this
  unfold Txt.find
  cases q : Builtin.Str.occurrences x (sgn c) 0 x.length 1 with
  | nil => rfl
  | cons a l =>
    unfold sgn at q
    rw [q] at this; simp at this
theorem shaped_str {x : Str} (h : chOk x) : SeqAt.shaped (.str x) = true := by
  have := (strOk_iff x).mpr h
  show ((PyData.str x).canLay0 && decide ((PyData.str x).depth ≤ 64)) = true
  rw [show (PyData.str x).canLay0 = PyData.strOk x from rfl, this]; rfl
/-- a comprehension of which an element may raise: f says what it gives -/
theorem compD_try {α : Type} {g : TGd} {te : TD} {ms : List Nat} {W : Env} (enc : α → D) (f : α → Option D) : ∀ (xs : List α) (acc : List D) (E : Env) (Q : List D → Env → Prop), wipeE E ms = W →
    (∀ x ∈ xs, ∀ R : D → Env → Prop, (∀ y E', f x = some y → wipeE E' ms = W → R y E') → g (enc x) W fun E1 => te E1 R) → acc.length + xs.length ≤ sizeLine → (∀ ys E', wipeE E' ms = W → xs.map f = ys.map some → Q (acc ++ ys) E') → compD g tTrue te ms (xs.map enc) acc E Q
  | [], acc, E, Q, hE, _, _, q => by have := q [] E hE rfl; rw [List.append_nil] at this; exact this
  | x :: xs, acc, E, Q, hE, hf, hl, q => by
    show turnD g tTrue te (enc x) (wipeE E ms) _
    rw [hE]
    rw [List.length_cons] at hl
    refine hf x (List.mem_cons_self ..) _ fun y E' hy hE' => ?_
    refine ⟨by omega, compD_try enc f xs (acc ++ [y]) E' Q hE' (fun d hd => hf d (List.mem_cons_of_mem _ hd)) (by rw [List.length_append]; simp; omega) fun ys E2 h2 e => ?_⟩
    have := q (y :: ys) E2 h2 (by rw [List.map_cons, List.map_cons, hy, e])
    rw [List.append_assoc]; exact this
theorem comp_try {α : Type} {ti : TDs} {g : TGd} {te : TD} {ms : List Nat} {E E1 : Env} {Q : List D → Env → Prop} (xs : List α) (enc : α → D) (f : α → Option D) (hi : ∀ R : List D → Env → Prop, R (xs.map enc) E1 → ti E R)
    (hE : ∀ i ∈ ms, E1[i]? = some .un ∨ (∃ x, E1[i]? = some (.d x))) (hl : xs.length ≤ sizeLine)
    (hf : ∀ x ∈ xs, ∀ R : D → Env → Prop, (∀ y E', f x = some y → wipeE E' ms = wipeE E1 ms → R y E') → g (enc x) (wipeE E1 ms) fun E1 => te E1 R) (q : ∀ ys, xs.map f = ys.map some → Q ys E1) : tComp ti g tTrue te ms E Q :=
  hi _ (compD_try enc f xs [] E1 _ rfl hf (by simpa using hl) fun ys E' hE' e => by rw [rest_wipe hE' hE]; exact q ys e)
end DL
set_option Elab.async false
set_option linter.all false
set_option maxRecDepth 100000
set_option maxHeartbeats 4000000
/-! FnCTxT: calls as texts (plain). -/
namespace DL
open PySem PySem.Spec PyProof.Rows L2 Call
abbrev c_STRAINS : D := .str "CDHSN"
def stC (s : Int) : Nat := if s = 0 then 67 else if s = 1 then 68 else if s = 2 then 72 else if s = 3 then 83 else 78
def callT : Call → Str
  | .pass => "P"
  | .dbl => "X"
  | .rdb => "XX"
  | .bid l s => (toString l : Str) ++ sgn (stC s)
def okC : Call → Prop
  | .bid l s => 1 ≤ l ∧ l ≤ 7 ∧ 0 ≤ s ∧ s ≤ 4
  | _ => True
def allK : List Call := [.pass, .dbl, .rdb] ++ (allB 7).map encB
theorem okC_mem {c : Call} (h : okC c) : c ∈ allK := by
  cases c with
  | bid l s =>
    obtain ⟨h1, h2, h3, h4⟩ := h
    refine List.mem_append_right _ (List.mem_map.mpr ⟨(l, s), allB_mem ⟨h1, h2, h3, h4⟩, rfl⟩)
  | _ => simp [allK]
theorem mem_okC {c : Call} (h : c ∈ allK) : okC c := by
  unfold allK at h
  rcases List.mem_append.mp h with h | h
  · simp only [List.mem_cons, List.not_mem_nil, or_false] at h
    rcases h with rfl | rfl | rfl <;> trivial
  · obtain ⟨b, hb, rfl⟩ := List.mem_map.mp h
    obtain ⟨h1, h2, h3, h4⟩ := allB_pos hb
    exact ⟨h1, h2, h3, h4⟩
def stOf (b : Nat) : Option Int := if b = 67 then some 0 else if b = 68 then some 1 else if b = 72 then some 2 else if b = 83 then some 3 else if b = 78 then some 4 else none
def callW (w : Str) : Option Call :=
  if w = "P" then some .pass else if w = "X" then some .dbl else if w = "XX" then some .rdb else
  match w.cps.toList with
  | [a, b] => (stOf b).bind fun s => if 49 ≤ a ∧ a ≤ 55 then some (.bid ((a : Int) - 48) s) else none
  | _ => none
theorem callW_all : ∀ c ∈ allK, callW (callT c) = some c ∧ (callT c).length ≤ 2 ∧ PyData.strOk (callT c) = true ∧ 32 ∉ TL.tl (callT c) ∧ callT c ≠ "-" := by decide +kernel
theorem stOf_some {b : Nat} {s : Int} (h : stOf b = some s) : b ∈ [67, 68, 72, 83, 78] := by
  unfold stOf at h
  simp only [List.mem_cons, List.not_mem_nil, or_false]
  split at h
  · exact .inl (by assumption)
  · split at h
    · exact .inr (.inl (by assumption))
    · split at h
      · exact .inr (.inr (.inl (by assumption)))
      · split at h
        · exact .inr (.inr (.inr (.inl (by assumption))))
        · split at h
          · exact .inr (.inr (.inr (.inr (by assumption))))
          · cases h
theorem bid_txt : ∀ b ∈ [67, 68, 72, 83, 78], ∀ a ∈ [49, 50, 51, 52, 53, 54, 55], ∀ s ∈ stOf b, (⟨#[a, b]⟩ : Str) = callT (.bid ((a : Int) - 48) s) ∧ (Call.bid ((a : Int) - 48) s) ∈ allK := by decide +kernel
theorem two_txt {w : Str} {a b : Nat} (h : w.cps.toList = [a, b]) : w = ⟨#[a, b]⟩ := TL.ext_tl h
theorem callW_inv {w : Str} {c : Call} (h : callW w = some c) : c ∈ allK ∧ w = callT c := by
  unfold callW at h
  split at h
  · rename_i e; cases h; exact ⟨by decide, e⟩
  · split at h
    · rename_i e; cases h; exact ⟨by decide, e⟩
    · split at h
      · rename_i e; cases h; exact ⟨by decide, e⟩
      · split at h
        · rename_i a b e
          cases q : stOf b with
          | none => rw [q] at h; cases h
          | some s =>
            rw [q] at h
            have h : (if 49 ≤ a ∧ a ≤ 55 then some (Call.bid ((a : Int) - 48) s) else none) = some c := h
            split at h
            · rename_i r
              cases h
              have ha : a ∈ [49, 50, 51, 52, 53, 54, 55] := by
                simp only [List.mem_cons, List.not_mem_nil, or_false]; omega
              have := bid_txt b (stOf_some q) a ha s q
              rw [two_txt e]
              exact ⟨this.2, this.1⟩
            · cases h
        · cases h
theorem callW_iff {w : Str} {c : Call} (h : c ∈ allK) : w = callT c ↔ callW w = some c := ⟨fun e => by rw [e]; exact (callW_all c h).1, fun e => (callW_inv e).2⟩
/-! ### rows -/
def rowT (cs : List Call) : Str := if cs = [] then "-" else Txt.join " " (cs.map callT)
def goW (L : Nat) : List Call → List Str → Option (List Call)
  | cs, [] => some cs
  | cs, w :: ws => match callW w with
    | none => none
    | some c => if c ∈ mayL L cs then goW L (cs ++ [c]) ws else none
def wordsW (t : Str) : List Str := if t = "-" then [] else Txt.split t " "
def readF (L : Nat) (t : Str) : Option (List Call) := goW L [] (wordsW t)
theorem reach_ok {L : Nat} (hL : L ≤ 7) {cs : List Call} (h : Reach L cs) : ∀ c ∈ cs, okC c := by
  intro c hc
  obtain ⟨k, hk, e⟩ := List.getElem_of_mem hc
  have := h.at k hk
  rw [List.getD_eq_getElem?_getD, List.getElem?_eq_getElem hk, Option.getD_some, e] at this
  have h2 := isCall_mayL (reach_take h k) this
  rw [isCall_enc] at h2
  cases c with
  | bid l s =>
    simp at h2
    exact ⟨by omega, by omega, by omega, by omega⟩
  | _ => trivial
theorem goW_row {L : Nat} (hL : L ≤ 7) : ∀ (ys pre : List Call), Reach L (pre ++ ys) → goW L pre (ys.map callT) = some (pre ++ ys)
  | [], pre, _ => by show some pre = _; rw [List.append_nil]
  | c :: ys, pre, h => by
    have hc := h.at pre.length (by rw [List.length_append, List.length_cons]; omega)
    rw [List.getD_eq_getElem?_getD, List.getElem?_append_right (Nat.le_refl _), Nat.sub_self, List.getElem?_cons_zero, Option.getD_some, List.take_left' rfl] at hc
    have hk := okC_mem (reach_ok hL h c (List.mem_append_right _ (List.mem_cons_self ..)))
    show (match callW (callT c) with | none => none | some c => if c ∈ mayL L pre then goW L (pre ++ [c]) (ys.map callT) else none) = _
    rw [(callW_all c hk).1]
    show (if c ∈ mayL L pre then _ else _) = _
    rw [if_pos hc, goW_row hL ys (pre ++ [c]) (by rw [List.append_assoc]; exact h), List.append_assoc]; rfl
theorem split_sp (cs : List Call) (h : ∀ c ∈ cs, okC c) (hne : cs ≠ []) : Txt.split (Txt.join " " (cs.map callT)) " " = cs.map callT :=
  TL.split_join (y := " ") (s := 32) (S := []) (by decide) (by decide +kernel) (fun e => hne (List.map_eq_nil_iff.mp e)) fun p hp => by
    obtain ⟨c, hc, rfl⟩ := List.mem_map.mp hp
    exact (callW_all c (okC_mem (h c hc))).2.2.2.1
theorem words_row {cs : List Call} (h : ∀ c ∈ cs, okC c) : wordsW (rowT cs) = cs.map callT := by
  unfold wordsW rowT
  by_cases e : cs = []
  · rw [if_pos e, if_pos rfl, e]; rfl
  · rw [if_neg e]
    have hs := split_sp cs h e
    split
    · rename_i q
      rw [q] at hs
      obtain ⟨c, l, rfl⟩ := List.exists_cons_of_ne_nil e
      have d : Txt.split "-" " " = [("-" : Str)] := TL.split_join (y := " ") (s := 32) (S := []) (by decide) (by decide +kernel) (parts := [("-" : Str)]) (by simp) fun p hp => by
        rw [List.mem_singleton.mp hp]; decide
      rw [d] at hs
      injection hs with h1 h2
      exact absurd h1.symm (callW_all c (okC_mem (h c (List.mem_cons_self ..)))).2.2.2.2
    · exact hs
theorem read_row {L : Nat} (hL : L ≤ 7) {cs : List Call} (h : Reach L cs) : readF L (rowT cs) = some cs := by
  unfold readF
  rw [words_row (reach_ok hL h), goW_row hL cs [] h]; rfl
theorem goW_none {L : Nat} : ∀ (ws : List Str) (pre : List Call), (∃ w ∈ ws, callW w = none) → goW L pre ws = none
  | [], _, ⟨w, h, _⟩ => by cases h
  | v :: ws, pre, ⟨w, h, e⟩ => by
    unfold goW
    cases q : callW v with
    | none => rfl
    | some c =>
      show (if c ∈ mayL L pre then _ else _) = none
      rcases List.mem_cons.mp h with rfl | h
      · rw [q] at e; cases e
      · rw [goW_none ws (pre ++ [c]) ⟨w, h, e⟩]; split <;> rfl
theorem goW_fault {L : Nat} : ∀ (ys pre : List Call) (ws : List Str), Reach L pre → ws.map callW = ys.map some → ∃ o, FaultAt L ((pre ++ ys).map enc) o ∧ goW L pre ws = if o = none then some (pre ++ ys) else none
  | [], pre, ws, h, e => by
    have : ws = [] := by cases ws with | nil => rfl | cons _ _ => cases e
    subst this
    rw [List.append_nil]
    exact ⟨none, .non h, rfl⟩
  | c :: ys, pre, ws, h, e => by
    cases ws with
    | nil => cases e
    | cons w ws =>
      rw [List.map_cons, List.map_cons] at e
      injection e with e1 e2
      unfold goW
      rw [e1]
      show ∃ o, _ ∧ (if c ∈ mayL L pre then goW L (pre ++ [c]) ws else none) = _
      by_cases hc : c ∈ mayL L pre
      · obtain ⟨o, h1, h2⟩ := goW_fault ys (pre ++ [c]) ws (.snoc h hc) e2
        rw [List.append_assoc] at h1 h2
        exact ⟨o, h1, by rw [if_pos hc]; exact h2⟩
      · refine ⟨some pre.length, ?_, by rw [if_neg hc]; rfl⟩
        rw [List.map_append, List.map_cons]
        exact .stop h fun d hd q => hc (by rw [← enc_inj q]; exact hd)
theorem rowT_ok {cs : List Call} (h : ∀ c ∈ cs, okC c) : chOk (rowT cs) ∧ (rowT cs).length ≤ 3 * cs.length + 1 := by
  unfold rowT
  split
  · exact ⟨(strOk_iff _).mp (by decide +kernel), by show 1 ≤ _; omega⟩
  · refine ⟨chOk_join ((strOk_iff _).mp (by decide +kernel)) fun p hp => ?_, Nat.le_trans (join_len _ _) ?_⟩
    · obtain ⟨c, hc, rfl⟩ := List.mem_map.mp hp
      exact (strOk_iff _).mp (callW_all c (okC_mem (h c hc))).2.2.1
    · have := sum_le_mul (f := fun x : Str => x.length) (l := cs.map callT) (B := 2) fun p hp => by
        obtain ⟨c, hc, rfl⟩ := List.mem_map.mp hp
        exact (callW_all c (okC_mem (h c hc))).2.1
      rw [List.length_map] at this ⊢
      rw [show (" " : Str).length = 1 from by decide]
      omega
/-! ### strains found -/
theorem find_five : ∀ b ∈ [67, 68, 72, 83, 78], ∀ s ∈ stOf b, Txt.find "CDHSN" (sgn b) = s := by decide +kernel
theorem find_strain (b : Nat) : Txt.find "CDHSN" (sgn b) = (stOf b).getD (-1) := by
  cases q : stOf b with
  | some s => exact find_five b (stOf_some q) s q
  | none =>
    refine find_out fun h => ?_
    have h : b ∈ [67, 68, 72, 83, 78] := h
    unfold stOf at q
    simp only [List.mem_cons, List.not_mem_nil, or_false] at h
    rcases h with rfl | rfl | rfl | rfl | rfl <;> cases q
end DL
set_option Elab.async false
set_option linter.all false
set_option maxRecDepth 100000
set_option maxHeartbeats 4000000
namespace DL
open PySem PySem.Spec PyProof.Rows L2
local macro_rules | `(tactic| walk_at "dl") => `(tactic| simp only [tV, tVr, tFzV, turnD, DL.wipeE, tK, tOpD, tUnD, tBo, tAndD, tOrD, tNotD, tIfE, DL.tAndV, DL.tOrV, DL.tNotV, tTru, truD, okLen, sSet, sSetL, sExpr, sRet, sIf, sNx, tTupD, dNil, dCons, tLstD, tFzD, tApp, tExtd, tPopAt, sSetIx, tIxO, tChainD, tChain3D, tRevT, caStr, opRepT, opAdd, opSub, opMul, opDiv, opMod, opPow, DL.opI, DL.opI0, opB0, opLt, opLe, opGt, opGtD, opLtD, opGe, opEq, opNe, opIs, opIsN, isNone, opIn, opNotIn, opIx, atD_0, atD_1, atD_2, atD_3, putD_0, unNeg, tCa1, tCa2, tCaL1, caLen, caAbs, caMax2, caMin2, caSum, caMax, caMin, caSumT, caMaxT, caMinT, caAll, caTuple, caList, caInt, tIsi, isInt, isBool, isStr, isTuple, isList, notDict, sAsg, gSet, gTupD, gLstD, gsNil, gsCons, sPar, pNil, pD, pL, setAll, tCallD, aNil, aV, aO, argS, oixs, ndp, putO, tOpL, opCat, opRep, tSlD, slD, tSlL, oNo, oE, tRevD, iLstD, iTupD, iRange1, iRange2, iZipD, iZipM, finO, tTrue, Option.map, eqv_int, eqv_bool, eqv_none, shaped_int, shaped_bool, shaped_none, tLenRange, tSortSet, tSortSetS, tSortDk, tDkGet2, tDkGetD, tDkGet2M, sDkPut, tInDk, tDkGet, iDvK, keyOf, optQ, mDkD, tFzKM, opLeS, tFind, tSplit, tJoinS, caIntS, iStrD, opMulS, tRevS, tSlO, iZipN, tLenSet, tLenSetP, tSortSetP, tCountL, tCountT, tIndexL, tIndexT, DL.tOrT, DL.tAndT, DL.tNotT, tSortRev, caSorted, iEnumL, iEnumT, tDGetV, tDGetD, tDGet2V, dictAt, sDPutV, sSetM, mDt, mDk, pM, tInN, tNotInN, tCallM, amM, amV, tListRg, iDk, iDv, iDi, tLDk, tLDv, tTruDk, mDt1, tFzM, tCall0D, tFldD, tFldR, fldD, fldL, obD, unH_hdl, obGet, setOb, putOD, sFldD, sFldL, tMethO, tAppF, tPopF, sRaise, keyB_2, keyB_3, keyB_4, decide_eq_true_eq, and_self, List.cons_append, List.nil_append, List.replicate, List.getElem?_cons_zero, List.getElem?_cons_succ, List.set_cons_zero, List.set_cons_succ, List.length_cons, List.length_nil, true_and, and_true, if_true, if_false, Bool.false_eq_true, List.contains_nil, Bool.not_false, Bool.not_true, Bool.and_self, Bool.and_true, Bool.true_and, decide_true, decide_false, beq_self_eq_true])
def tb_number_of (c_NoText : Value) (WD : WDt) : TSd :=
  sSeq (sIf (tOrD (tNotD (tBo (tChainD opLe opLe (tK (.int 1)) (tCa1 caLen (tV 0)) (tK (.int 9))))) (tOrD (tNotD (tTru (tCa1 caAll (tFzD (tComp (iStrD (tV 0)) (gSet 1) (tTrue) (tChainD opLeS opLeS (tK (.str "0")) (tV 1) (tK (.str "9"))) [1]))))) (tBo (tOpD opNe (tCa1 caStr (tCa1 caIntS (tV 0))) (tV 0))))) (sRaise WD c_NoText) (sNx))
      (sRet (tCa1 caIntS (tV 0)))
def tb_call_text : TSd :=
  sSeq (sIf (tTru (tIsi isTuple (tV 0))) (sRet (tOpD opAdd (tCa1 caStr (tOpD opIx (tV 0) (tK (.int 0)))) (tOpD opIx (tK c_STRAINS) (tOpD opIx (tV 0) (tK (.int 1)))))) (sNx))
      (sRet (tDkGetD (tFzKM (mDkD (dpCons (tK (.str "pass")) (tK (.str "P")) (dpCons (tK (.str "double")) (tK (.str "X")) (dpCons (tK (.str "redouble")) (tK (.str "XX")) (dpNil)))))) (tV 0)))
def tb_call_of (sp_is_call : SpD) (sp_number_of : SpX) (c_NoText : Value) (WD : WDt) : TSd :=
  sSeq (sSetM 1 (mDkD (dpCons (tK (.str "P")) (tK (.str "pass")) (dpCons (tK (.str "X")) (tK (.str "double")) (dpCons (tK (.str "XX")) (tK (.str "redouble")) (dpNil))))))
      (sSeq (sIf (tInDk (tV 0) 1) (sRet (tDkGet 1 (tV 0))) (sNx))
      (sSeq (sIf (tOrD (tBo (tOpD opNe (tCa1 caLen (tV 0)) (tK (.int 2)))) (tBo (tOpD opLt (tFind (tK c_STRAINS) (tOpD opIx (tV 0) (tK (.int 1)))) (tK (.int 0))))) (sRaise WD c_NoText) (sNx))
      (sSeq (sSet 2 (tTupD (dCons (tCallX sp_number_of (aV (tOpD opIx (tV 0) (tK (.int 0))) (aNil)) WD) (dCons (tFind (tK c_STRAINS) (tOpD opIx (tV 0) (tK (.int 1)))) (dNil)))))
      (sSeq (sIf (tNotD (tTru (tCallD sp_is_call (aV (tK (.int 7)) (aV (tV 2) (aNil)))))) (sRaise WD c_NoText) (sNx))
      (sRet (tV 2))))))
def tb_calls_text (sp_call_text : SpD) : TSd :=
  sSeq (sIf (tNotD (tTru (tV 0))) (sRet (tK (.str "-"))) (sNx))
      (sRet (tJoinS (tK (.str " ")) (tFzD (tComp (iTupD (tV 0)) (gSet 1) (tTrue) (tCallD sp_call_text (aV (tV 1) (aNil))) [1]))))
def tb_read_calls (sp_calls_fault : SpD) (sp_call_of : SpX) (c_NoText : Value) (WD : WDt) : TSd :=
  sSeq (sIf (tBo (tOpD opEq (tV 1) (tK (.str "-")))) (sRet (tTupD (dNil))) (sNx))
      (sSeq (sSet 2 (tCa1 caTuple (tFzD (tComp (iLstD (tFzD (tSplit (tV 1) (tK (.str " "))))) (gSet 3) (tTrue) (tCallX sp_call_of (aV (tV 3) (aNil)) (fun cls _ => WD cls [])) [3]))))
      (sSeq (sIf (tBo (tOpD opIsN (tCallD sp_calls_fault (aV (tV 0) (aV (tV 2) (aNil)))) (tK .none))) (sRaise WD c_NoText) (sNx))
      (sRet (tV 2))))
def tb_law_call_text : TSd :=
  sSeq (sIf (tTru (tIsi isTuple (tV 0))) (sRet (tOpD opAdd (tCa1 caStr (tOpD opIx (tV 0) (tK (.int 0)))) (tOpD opIx (tK (.str "CDHSN")) (tOpD opIx (tV 0) (tK (.int 1)))))) (sNx))
      (sRet (tDkGetD (tFzKM (mDkD (dpCons (tK (.str "pass")) (tK (.str "P")) (dpCons (tK (.str "double")) (tK (.str "X")) (dpCons (tK (.str "redouble")) (tK (.str "XX")) (dpNil)))))) (tV 0)))
def tb_law_read_call : TSd :=
  sSeq (sFor (iRange2 (tK (.int 1)) (tK (.int 8))) (gSet 1) (sFor (iRange1 (tK (.int 5))) (gSet 2) (sIf (tBo (tOpD opEq (tV 0) (tOpD opAdd (tCa1 caStr (tV 1)) (tOpD opIx (tK (.str "CDHSN")) (tV 2))))) (sRet (tTupD (dCons (tV 1) (dCons (tV 2) (dNil))))) (sNx))))
      (sRet (tDkGet2M (mDkD (dpCons (tK (.str "P")) (tK (.str "pass")) (dpCons (tK (.str "X")) (tK (.str "double")) (dpCons (tK (.str "XX")) (tK (.str "redouble")) (dpNil))))) (tV 0) (tK .none)))
def tb_law_or_refused : TSd :=
  sRet (tIfE (tBo (tOpD opIs (tV 0) (tK .none))) (tK (.str "NoText")) (tV 0))
def tb_law_read (sp_law_may_call : SpD) (sp_law_read_call : SpD) : TSd :=
  sSeq (sSet 2 (tTupD (dNil)))
      (sSeq (sFor (iLstD (tIfE (tBo (tOpD opNe (tV 1) (tK (.str "-")))) (tFzD (tSplit (tV 1) (tK (.str " ")))) (tFzD (tLstD (dNil))))) (gSet 3) (sSeq (sSet 4 (tCallD sp_law_read_call (aV (tV 3) (aNil))))
      (sSeq (sIf (tOrD (tBo (tOpD opIs (tV 4) (tK .none))) (tBo (tOpD opNotIn (tV 4) (tFzD (tCaL1 caList (tCallD sp_law_may_call (aV (tV 0) (aV (tV 2) (aNil))))))))) (sRet (tK .none)) (sNx))
      (sSet 2 (tOpD opAdd (tV 2) (tTupD (dCons (tV 4) (dNil))))))))
      (sRet (tV 2)))
def tb_law_told (sp_read_calls : SpX) (m_NoText : Value → Option Bool) : TSd :=
  sSeq (sSet 2 (tK .none))
      (sSeq (sTry m_NoText (fun _ _ => False) (fun WD => sSet 2 (tCallX sp_read_calls (aV (tV 0) (aV (tV 1) (aNil))) WD)) (sSet 2 (tK (.str "NoText"))))
      (sRet (tV 2)))
local macro_rules | `(tactic| walk_at "cx") => `(tactic| simp only [tCallX, dpCons, dpNil, mDkD, tFzKM, tDkGetD, tDkGet2M, optQ, tV, tVr, tFzV, turnD, DL.wipeE, tK, tOpD, tUnD, tBo, tAndD, tOrD, tNotD, tIfE, DL.tAndV, DL.tOrV, DL.tNotV, tTru, truD, okLen, sSet, sSetL, sExpr, sRet, sIf, sNx, tTupD, dNil, dCons, tLstD, tFzD, tApp, tExtd, tPopAt, sSetIx, tIxO, tChainD, tChain3D, tRevT, caStr, opRepT, opAdd, opSub, opMul, opDiv, opMod, opPow, DL.opI, DL.opI0, opB0, opLt, opLe, opGt, opGtD, opLtD, opGe, opEq, opNe, opIs, opIsN, isNone, opIn, opNotIn, opIx, atD_0, atD_1, atD_2, atD_3, putD_0, unNeg, tCa1, tCa2, tCaL1, caLen, caAbs, caMax2, caMin2, caSum, caMax, caMin, caSumT, caMaxT, caMinT, caAll, caTuple, caList, caInt, tIsi, isInt, isBool, isStr, isTuple, isList, notDict, sAsg, gSet, gTupD, gLstD, gsNil, gsCons, sPar, pNil, pD, pL, setAll, tCallD, aNil, aV, aO, argS, oixs, ndp, putO, tOpL, opCat, opRep, tSlD, slD, tSlL, oNo, oE, tRevD, iLstD, iTupD, iRange1, iRange2, iZipD, iZipM, finO, tTrue, Option.map, eqv_int, eqv_bool, eqv_none, shaped_int, shaped_bool, shaped_none, tLenRange, tSortSet, tSortSetS, tSortDk, tDkGet2, tDkGetD, tDkGet2M, sDkPut, tInDk, tDkGet, iDvK, keyOf, optQ, mDkD, tFzKM, opLeS, tFind, tSplit, tJoinS, caIntS, iStrD, opMulS, tRevS, tSlO, iZipN, tLenSet, tLenSetP, tSortSetP, tCountL, tCountT, tIndexL, tIndexT, DL.tOrT, DL.tAndT, DL.tNotT, tSortRev, caSorted, iEnumL, iEnumT, tDGetV, tDGetD, tDGet2V, dictAt, sDPutV, sSetM, mDt, mDk, pM, tInN, tNotInN, tCallM, amM, amV, tListRg, iDk, iDv, iDi, tLDk, tLDv, tTruDk, mDt1, tFzM, tCall0D, tFldD, tFldR, fldD, fldL, obD, unH_hdl, obGet, setOb, putOD, sFldD, sFldL, tMethO, tAppF, tPopF, sRaise, keyB_2, keyB_3, keyB_4, decide_eq_true_eq, and_self, List.cons_append, List.nil_append, List.replicate, List.getElem?_cons_zero, List.getElem?_cons_succ, List.set_cons_zero, List.set_cons_succ, List.length_cons, List.length_nil, true_and, and_true, if_true, if_false, Bool.false_eq_true, List.contains_nil, Bool.not_false, Bool.not_true, Bool.and_self, Bool.and_true, Bool.true_and, decide_true, decide_false, beq_self_eq_true])
theorem sgn_lt (a b : Nat) : decide ((sgn a).cps.toList < (sgn b).cps.toList) = decide (a < b) := by
  show decide ([a] < [b]) = decide (a < b)
  refine decide_eq_decide.mpr ?_
  rw [List.cons_lt_cons_iff]
  constructor
  · rintro (h | ⟨_, h⟩)
    · exact h
    · cases h
  · exact .inl
theorem digs : ∀ k ∈ List.range 10, PySem.intText? (sgn (48 + k)) = some (k : Int) ∧ ((toString (k : Int) : String) : Str) = sgn (48 + k) ∧ (sgn (48 + k)).length = 1 ∧ PyData.strOk (sgn (48 + k)) = true := by decide +kernel
theorem digs_at {a : Nat} (h : 48 ≤ a ∧ a ≤ 57) : PySem.intText? (sgn a) = some ((a : Int) - 48) ∧ ((toString ((a : Int) - 48) : String) : Str) = sgn a ∧ (sgn a).length = 1 ∧ PyData.strOk (sgn a) = true := by
  have := digs (a - 48) (List.mem_range.mpr (by omega))
  rw [show 48 + (a - 48) = a by omega, show ((a - 48 : Nat) : Int) = (a : Int) - 48 by omega] at this
  exact this
/-! ### number_of, of one sign -/
def spNum1 (N : Value) : SpX := fun ss Q QX => ∃ a : Nat, ss = [.d (.str (sgn a))] ∧ (48 ≤ a ∧ a ≤ 57 → Q (.int ((a : Int) - 48)) []) ∧ (¬ (48 ≤ a ∧ a ≤ 57) → QX N [])
theorem sh_number_of (N : Value) : ∀ ss QD QX, spNum1 N ss QD QX → ss.length = 1 ∧ mpos 0 ss = [] := by rintro ss QD QX ⟨a, rfl, _⟩; exact ⟨rfl, rfl⟩
theorem rd_number_of (N : Value) : ∀ ss QD QX, spNum1 N ss QD QX → tb_number_of N (fun cls E' => finO [] E' (QX cls)) { nx := fun E' => finO [] E' (QD .none), rt := fun d E' => finO [] E' (QD d) } (ss ++ List.replicate 1 .un) := by
  rintro ss QD QX ⟨a, rfl, q1, q2⟩
  have l1 : (sgn a).length = 1 := rfl
  unfold tb_number_of
  refine seq_step fun R hR => ?_
  walk_at "dl"
  rw [l1]
  refine ⟨small_line (by decide), ?_⟩
  refine ifF rfl ?_
  refine comp_map [a] (fun a => PyData.str (sgn a)) (fun a => .bool (decide (48 ≤ a ∧ a ≤ 57))) (fun Q h => h) (un1 rfl) (small_line (by show 1 ≤ _; omega)) (fun x hx R4 h4 => ?_) ?_
  · walk_at "dl"
    have e1 : (!decide ((sgn x).cps.toList < (Str.ofString "0").cps.toList)) = decide (48 ≤ x) := by
      rw [show (Str.ofString "0") = sgn 48 from rfl, sgn_lt, Bool.eq_iff_iff]; simp
    have e2 : (!decide ((Str.ofString "9").cps.toList < (sgn x).cps.toList)) = decide (x ≤ 57) := by
      rw [show (Str.ofString "9") = sgn 57 from rfl, sgn_lt, Bool.eq_iff_iff]; simp
    rw [e1, e2]
    by_cases g : 48 ≤ x
    · rw [decide_eq_true g]
      have := h4 [S.d (.str (sgn a)), S.d (.str (sgn x))] rfl
      rw [show decide (48 ≤ x ∧ x ≤ 57) = decide (x ≤ 57) by rw [Bool.eq_iff_iff]; simp [g]] at this
      exact this
    · rw [decide_eq_false g]
      have := h4 [S.d (.str (sgn a)), S.d (.str (sgn x))] rfl
      rw [decide_eq_false (show ¬ (48 ≤ x ∧ x ≤ 57) by omega)] at this
      exact this
  · refine ⟨[decide (48 ≤ a ∧ a ≤ 57)], rfl, ?_⟩
    by_cases g : 48 ≤ a ∧ a ≤ 57
    · rw [decide_eq_true g]
      obtain ⟨d1, d2, d3, d4⟩ := digs_at g
      refine ifF rfl ?_
      have hb : ((a : Int) - 48).natAbs.log2 < 1920 := by
        exact Nat.lt_of_le_of_lt (Nat.log2_le_self _) (by omega)
      refine ⟨_, d1, by rw [d3]; decide, hb, ⟨?_, ?_⟩, ?_⟩
      · rw [show Str.ofString (toString ((a : Int) - 48)) = sgn a from d2]; exact shaped_str ((strOk_iff _).mp d4)
      · exact shaped_str ((strOk_iff _).mp d4)
      · rw [show Str.ofString (toString ((a : Int) - 48)) = sgn a from d2, eqv_str]
        refine ifF (by simp) (hR _ ?_)
        walk_at "dl"
        exact ⟨_, d1, by rw [d3]; decide, q1 g⟩
    · rw [decide_eq_false g]
      exact ifT rfl (q2 g)
def d3 (a b c x y z : Str) : List (Key × D) := [(Sum.inr a, .str x), (Sum.inr b, .str y), (Sum.inr c, .str z)]
theorem val3 (a b c x y z w : Str) : valK (d3 a b c x y z) (Sum.inr w) = if w = a then some (.str x) else if w = b then some (.str y) else if w = c then some (.str z) else none := by
  have e : ∀ k : Str, decide ((Sum.inr k : Key) = Sum.inr w) = decide (w = k) := fun k => decide_eq_decide.mpr ⟨fun h => (Sum.inr.inj h).symm, fun h => by rw [h]⟩
  unfold d3 valK
  simp only [List.find?_cons, e]
  by_cases h1 : w = a
  · rw [decide_eq_true h1, if_pos h1]; rfl
  · rw [decide_eq_false h1, if_neg h1]
    by_cases h2 : w = b
    · rw [decide_eq_true h2, if_pos h2]; rfl
    · rw [decide_eq_false h2, if_neg h2]
      by_cases h3 : w = c
      · rw [decide_eq_true h3, if_pos h3]; rfl
      · rw [decide_eq_false h3, if_neg h3]; rfl
theorem merge3 {a b c x y z : Str} (h1 : a ≠ b) (h2 : a ≠ c) (h3 : b ≠ c) : mergeD [] (d3 a b c x y z) = d3 a b c x y z := by
  unfold mergeD d3
  simp [putD2, h1, h2, h3]
theorem merge_txt : mergeD [] [(Sum.inr (Str.ofString "pass"), PyData.str (Str.ofString "P")), (Sum.inr (Str.ofString "double"), PyData.str (Str.ofString "X")), (Sum.inr (Str.ofString "redouble"), PyData.str (Str.ofString "XX"))] = d3 "pass" "double" "redouble" "P" "X" "XX" := merge3 (by decide +kernel) (by decide +kernel) (by decide +kernel)
theorem bnd_enc (c : Call) : bnd 20 c.enc = true := by
  cases c with
  | bid l s => rfl
  | _ => decide +kernel
/-! ### call_text -/
def spCallT : SpD := fun ss Q => ∃ c : Call, ss = [.d c.enc] ∧ okC c ∧ Q (.str (callT c)) []
theorem sh_call_text : ∀ ss QD, spCallT ss QD → ss.length = 1 ∧ mpos 0 ss = [] := by rintro ss QD ⟨c, rfl, _⟩; exact ⟨rfl, rfl⟩
theorem sh_law_call_text : ∀ ss QD, spCallT ss QD → ss.length = 1 ∧ mpos 0 ss = [] := sh_call_text
theorem at_strain {s : Int} (h0 : 0 ≤ s) (h4 : s ≤ 4) : atI (("CDHSN" : Str)).cps.toList s = some (stC s) := by
  have : s = 0 ∨ s = 1 ∨ s = 2 ∨ s = 3 ∨ s = 4 := by omega
  rcases this with rfl | rfl | rfl | rfl | rfl <;> rfl
theorem rd_call_text : ∀ ss QD, spCallT ss QD → tb_call_text { nx := fun E' => finO [] E' (QD .none), rt := fun d E' => finO [] E' (QD d) } (ss ++ List.replicate 0 .un) := by
  rintro ss QD ⟨c, rfl, hc, q⟩
  unfold tb_call_text
  cases c with
  | bid l s =>
    obtain ⟨h1, h2, h3, h4⟩ := hc
    refine seq_step fun R hR => ?_
    walk_at "dl"
    refine ⟨trivial, ifT rfl ?_⟩
    show match PyData.tuple [.int l, .int s], PyData.int 0 with | _, _ => _
    walk_at "dl"
    refine ⟨Nat.lt_of_le_of_lt (Nat.log2_le_self _) (by omega), ?_⟩
    show match atI (("CDHSN" : Str)).cps.toList s with | some c => _ | none => False
    rw [at_strain h3 h4]
    have hk := callW_all (.bid l s) (okC_mem ⟨h1, h2, h3, h4⟩)
    refine ⟨small_line (by decide), ?_⟩
    show (_ ∧ _)
    refine ⟨?_, q⟩
    have h5 := hk.2.1
    have : (callT (.bid l s)).length = (Str.ofString (toString l)).length + 1 := by
      show ((Str.ofString (toString l)) ++ sgn (stC s)).length = _
      rw [len_app]; rfl
    show _ + 1 ≤ _
    exact small_line (by omega)
  | pass =>
    refine seq_step fun R hR => ?_
    walk_at "dl"
    refine ⟨trivial, ifF rfl (hR _ ?_)⟩
    clear hR
    unfold Call.enc
    walk_at "cx"
    show match some (d3 "pass" "double" "redouble" "P" "X" "XX") with | some d => _ | none => False
    refine ⟨by decide, ?_⟩
    rw [merge_txt]
    refine ⟨by simp [d3], ?_⟩
    unfold dkD
    dsimp only
    rw [keysOf_dk]
    refine ⟨by simp [d3], ?_⟩
    rw [val3]
    exact q
  | dbl =>
    refine seq_step fun R hR => ?_
    walk_at "dl"
    refine ⟨trivial, ifF rfl (hR _ ?_)⟩
    clear hR
    unfold Call.enc
    walk_at "cx"
    show match some (d3 "pass" "double" "redouble" "P" "X" "XX") with | some d => _ | none => False
    refine ⟨by decide, ?_⟩
    rw [merge_txt]
    refine ⟨by simp [d3], ?_⟩
    unfold dkD
    dsimp only
    rw [keysOf_dk]
    refine ⟨by simp [d3], ?_⟩
    rw [val3]
    exact q
  | rdb =>
    refine seq_step fun R hR => ?_
    walk_at "dl"
    refine ⟨trivial, ifF rfl (hR _ ?_)⟩
    clear hR
    unfold Call.enc
    walk_at "cx"
    show match some (d3 "pass" "double" "redouble" "P" "X" "XX") with | some d => _ | none => False
    refine ⟨by decide, ?_⟩
    rw [merge_txt]
    refine ⟨by simp [d3], ?_⟩
    unfold dkD
    dsimp only
    rw [keysOf_dk]
    refine ⟨by simp [d3], ?_⟩
    rw [val3]
    exact q
def spCallOf (N : Value) : SpX := fun ss Q QX => ∃ w : Str, ss = [.d (.str w)] ∧ chOk w ∧ w.length ≤ 1000 ∧ (∀ c, callW w = some c → Q c.enc []) ∧ (callW w = none → QX N [])
theorem sh_call_of (N : Value) : ∀ ss QD QX, spCallOf N ss QD QX → ss.length = 1 ∧ mpos 0 ss = [] := by rintro ss QD QX ⟨w, rfl, _⟩; exact ⟨rfl, rfl⟩
theorem rd_call_of (N : Value) : ∀ ss QD QX, spCallOf N ss QD QX → tb_call_of spIsCall (spNum1 N) N (fun cls E' => finO [] E' (QX cls)) { nx := fun E' => finO [] E' (QD .none), rt := fun d E' => finO [] E' (QD d) } (ss ++ List.replicate 2 .un) := by
  rintro ss QD QX ⟨w, rfl, hw, hl, q1, q2⟩
  unfold tb_call_of
  refine seq_step fun R hR => ?_
  walk_at "cx"
  refine ⟨by decide, hR _ ?_⟩
  refine seq_step fun R hR => ?_
  walk_at "cx"
  have em : mergeD [] [(Sum.inr (Str.ofString "P"), PyData.str (Str.ofString "pass")), (Sum.inr (Str.ofString "X"), PyData.str (Str.ofString "double")), (Sum.inr (Str.ofString "XX"), PyData.str (Str.ofString "redouble"))] = d3 "P" "X" "XX" "pass" "double" "redouble" := merge3 (by decide +kernel) (by decide +kernel) (by decide +kernel)
  rw [em, val3]
  have cw : callW w = if w = "P" then some .pass else if w = "X" then some .dbl else if w = "XX" then some .rdb else match w.cps.toList with | [a, b] => (stOf b).bind fun s => if 49 ≤ a ∧ a ≤ 55 then some (.bid ((a : Int) - 48) s) else none | _ => none := rfl
  by_cases g1 : w = "P"
  · rw [if_pos g1] at cw ⊢
    exact ifT rfl (q1 _ cw)
  rw [if_neg g1] at cw ⊢
  by_cases g2 : w = "X"
  · rw [if_pos g2] at cw ⊢
    exact ifT rfl (q1 _ cw)
  rw [if_neg g2] at cw ⊢
  by_cases g3 : w = "XX"
  · rw [if_pos g3] at cw ⊢
    exact ifT rfl (q1 _ cw)
  rw [if_neg g3] at cw ⊢
  refine ifF rfl (hR _ ?_)
  clear hR
  refine seq_step fun R hR => ?_
  walk_at "cx"
  refine ⟨small_line (by omega), ?_⟩
  rcases hq : w.cps.toList with _ | ⟨a, _ | ⟨b, _ | ⟨c, l⟩⟩⟩
  · rw [hq] at cw
    exact ifT (by rw [TL.len_tl w]; unfold TL.tl; rw [hq]; rfl) (q2 cw)
  · rw [hq] at cw
    exact ifT (by rw [TL.len_tl w]; unfold TL.tl; rw [hq]; rfl) (q2 cw)
  · rw [hq] at cw
    have hlen : w.length = 2 := by rw [TL.len_tl w]; unfold TL.tl; rw [hq]; rfl
    refine ifF (by rw [hlen]; rfl) ?_
    rw [show atI [a, b] 1 = some b from rfl]
    refine ⟨small_line (by omega), ?_⟩
    rw [show Txt.find (Str.ofString "CDHSN") { cps := #[b] } = (stOf b).getD (-1) from find_strain b]
    have cw : callW w = (stOf b).bind fun s => if 49 ≤ a ∧ a ≤ 55 then some (.bid ((a : Int) - 48) s) else none := cw
    cases hs : stOf b with
    | none =>
      rw [hs] at cw
      show if (-1 : Int) < 0 then _ else _
      rw [if_pos (by decide)]
      exact q2 cw
    | some s =>
      rw [hs] at cw
      have s0 : 0 ≤ s ∧ s ≤ 4 := by
        have := stOf_some hs
        simp only [List.mem_cons, List.not_mem_nil, or_false] at this
        rcases this with rfl | rfl | rfl | rfl | rfl <;> (cases hs; decide)
      show if s < 0 then _ else _
      rw [if_neg (by omega)]
      refine hR _ ?_
      clear hR
      refine seq_step fun R hR => ?_
      walk_at "cx"
      rw [hq, show atI [a, b] 0 = some a from rfl, show atI [a, b] 1 = some b from rfl]
      dsimp only
      rw [show Txt.find (Str.ofString "CDHSN") { cps := #[b] } = (stOf b).getD (-1) from find_strain b, hs]
      refine ⟨small_line (by omega), a, rfl, fun g => ?_, fun g => q2 ?_⟩
      · refine ⟨small_line (by omega), small_line (by decide), hR _ ?_⟩
        clear hR
        refine seq_step fun R hR => ?_
        walk_at "cx"
        have cw : callW w = if 49 ≤ a ∧ a ≤ 55 then some (.bid ((a : Int) - 48) s) else none := cw
        refine ⟨7, _, 1, rfl, sh_enc 0 (.bid ((a : Int) - 48) s), by decide, ?_⟩
        have ei : isCallD 7 (PyData.tuple [.int ((a : Int) - 48), .int s]) = decide (49 ≤ a ∧ a ≤ 55) := by
          rw [show PyData.tuple [.int ((a : Int) - 48), .int s] = (Call.bid ((a : Int) - 48) s).enc from rfl, isCall_enc, Bool.eq_iff_iff]
          simp [s0.1, s0.2]; omega
        rw [show (some s : Option Int).getD (-1) = s from rfl, ei]
        by_cases g2 : 49 ≤ a ∧ a ≤ 55
        · rw [decide_eq_true g2]
          rw [if_pos g2] at cw
          exact ⟨trivial, hR _ (q1 _ cw)⟩
        · rw [decide_eq_false g2]
          rw [if_neg g2] at cw
          exact ⟨trivial, q2 cw⟩
      · have cw : callW w = if 49 ≤ a ∧ a ≤ 55 then some (.bid ((a : Int) - 48) s) else none := cw
        rw [cw, if_neg (by omega)]
  · rw [hq] at cw
    refine ifT ?_ (q2 cw)
    rw [TL.len_tl w]; unfold TL.tl; rw [hq]
    simp; omega
/-! ### calls_text -/
def spCallsT : SpD := fun ss Q => ∃ cs : List Call, ss = [.d (rowD cs)] ∧ cs.length ≤ 1000 ∧ (∀ c ∈ cs, okC c) ∧ Q (.str (rowT cs)) []
theorem sh_calls_text : ∀ ss QD, spCallsT ss QD → ss.length = 1 ∧ mpos 0 ss = [] := by rintro ss QD ⟨c, rfl, _⟩; exact ⟨rfl, rfl⟩
theorem rd_calls_text : ∀ ss QD, spCallsT ss QD → tb_calls_text spCallT { nx := fun E' => finO [] E' (QD .none), rt := fun d E' => finO [] E' (QD d) } (ss ++ List.replicate 1 .un) := by
  rintro ss QD ⟨cs, rfl, hl, hc, q⟩
  unfold tb_calls_text
  refine seq_step fun R hR => ?_
  walk_at "dl"
  have ee : (rowD cs) = .tuple (cs.map Call.enc) := rfl
  unfold rowT at q
  by_cases g : cs = []
  · subst g
    rw [if_pos rfl] at q
    exact ⟨trivial, q⟩
  · rw [if_neg g] at q
    have hn : (cs.map Call.enc).isEmpty = false := by
      cases cs with
      | nil => exact absurd rfl g
      | cons _ _ => rfl
    show (match some (!(cs.map Call.enc).isEmpty) with | some b => _ | none => False)
    rw [hn]
    refine ⟨trivial, hR _ ?_⟩
    clear hR
    walk_at "dl"
    refine comp_map cs Call.enc (fun c => .str (callT c)) (fun Q h => h) (un1 rfl) (small_line (by omega)) (fun c hcc R4 h4 => ?_) ?_
    · walk_at "dl"
      exact ⟨c, rfl, hc c hcc, h4 _ rfl⟩
    · refine ⟨cs.map callT, by rw [List.map_map]; rfl, ?_, q⟩
      have := sum_le_mul (f := fun x : Str => x.length) (l := cs.map callT) (B := 2) fun p hp => by
        obtain ⟨c, hcc, rfl⟩ := List.mem_map.mp hp
        exact (callW_all c (okC_mem (hc c hcc))).2.1
      rw [List.length_map] at this ⊢
      rw [show (Str.ofString " ").length = 1 from by decide]
      omega
/-! ### read_calls -/
def spRead (N : Value) : SpX := fun ss Q QX => ∃ (L : Nat) (t : Str), ss = [.d (.int (L : Int)), .d (.str t)] ∧ L ≤ 1000 ∧ chOk t ∧ t.length ≤ 900 ∧ (∀ cs, readF L t = some cs → Q (rowD cs) []) ∧ (readF L t = none → QX N [])
theorem sh_read_calls (N : Value) : ∀ ss QD QX, spRead N ss QD QX → ss.length = 2 ∧ mpos 0 ss = [] := by rintro ss QD QX ⟨L, t, rfl, _⟩; exact ⟨rfl, rfl⟩
theorem rd_read_calls (N : Value) : ∀ ss QD QX, spRead N ss QD QX → tb_read_calls spFaultG (spCallOf N) N (fun cls E' => finO [] E' (QX cls)) { nx := fun E' => finO [] E' (QD .none), rt := fun d E' => finO [] E' (QD d) } (ss ++ List.replicate 2 .un) := by
  rintro ss QD QX ⟨L, t, rfl, hL, ht, hl, q1, q2⟩
  unfold tb_read_calls
  refine seq_step fun R hR => ?_
  walk_at "dl"
  refine ⟨⟨shaped_str ht, by decide +kernel⟩, ?_⟩
  rw [eqv_str]
  by_cases g : t = "-"
  · have : readF L t = some [] := by unfold readF wordsW; rw [if_pos g]; rfl
    exact ifT (by rw [g]; decide +kernel) ⟨small_line (by decide), q1 _ this⟩
  · refine ifF ?_ (hR _ ?_)
    · rw [beq_eq_false_iff_ne]; exact g
    clear hR
    refine seq_step fun R hR => ?_
    walk_at "dl"
    have hw : wordsW t = Txt.split t " " := by unfold wordsW; rw [if_neg g]
    have hr : readF L t = goW L [] (Txt.split t " ") := by unfold readF; rw [hw]
    have hlen : (Txt.split t " ").length ≤ 902 := Nat.le_trans (split_le t " ") (by omega)
    refine comp_try (Txt.split t " ") PyData.str (fun w => (callW w).map Call.enc) (fun Q h => ⟨by decide, small_line (by omega), h⟩) (un1 rfl) (small_line (by omega)) (fun w hw R4 h4 => ?_) fun ys hys => hR _ ?_
    · unfold tCallX
      walk_at "dl"
      have := part_short hw
      refine ⟨w, rfl, chOk_split ht w hw, by omega, fun c hc => h4 _ _ (by rw [hc]; rfl) rfl, fun hc => q2 ?_⟩
      rw [hr]; exact goW_none _ _ ⟨w, hw, hc⟩
    · obtain ⟨cs, rfl, hcs⟩ : ∃ cs : List Call, ys = cs.map Call.enc ∧ (Txt.split t " ").map callW = cs.map some := by
        clear hR hr hlen hw q1 q2 
        revert hys
        generalize Txt.split t " " = ws
        intro hys
        induction ws generalizing ys with
        | nil => cases ys with
          | nil => exact ⟨[], rfl, rfl⟩
          | cons _ _ => cases hys
        | cons w ws ih =>
          cases ys with
          | nil => cases hys
          | cons y ys =>
            rw [List.map_cons, List.map_cons] at hys
            injection hys with h1 h2
            obtain ⟨cs, rfl, h3⟩ := ih ys h2
            cases hc : callW w with
            | none => rw [hc] at h1; cases h1
            | some c =>
              rw [hc] at h1
              have : y = c.enc := (Option.some.inj h1).symm
              exact ⟨c :: cs, by rw [this]; rfl, by rw [List.map_cons, List.map_cons, hc, h3]⟩
      have hcl : cs.length = (Txt.split t " ").length := by
        have := congrArg List.length hcs
        rw [List.length_map, List.length_map] at this; exact this.symm
      refine seq_step fun R hR => ?_
      walk_at "dl"
      obtain ⟨o, ho, hg⟩ := goW_fault cs [] (Txt.split t " ") .nil hcs
      rw [← hr] at hg
      rw [List.nil_append] at ho hg
      refine ⟨L, _, rfl, hL, by rw [List.length_map]; omega, ?_, fun o' ho' => ?_⟩
      · intro x hx
        obtain ⟨c, _, rfl⟩ := List.mem_map.mp hx
        exact bnd_enc c
      · cases fault_one ho ho'
        cases o with
        | none =>
          rw [if_pos rfl] at hg
          exact hR _ (q1 _ hg)
        | some k =>
          rw [if_neg (by simp)] at hg
          exact q2 hg
/-! ### the law's own -/
def spOrR : SpD := fun ss Q => ∃ d : D, ss = [.d d] ∧ Q (if isNone d = true then .str "NoText" else d) []
theorem sh_law_or_refused : ∀ ss QD, spOrR ss QD → ss.length = 1 ∧ mpos 0 ss = [] := by rintro ss QD ⟨c, rfl, _⟩; exact ⟨rfl, rfl⟩
theorem rd_law_or_refused : ∀ ss QD, spOrR ss QD → tb_law_or_refused { nx := fun E' => finO [] E' (QD .none), rt := fun d E' => finO [] E' (QD d) } (ss ++ List.replicate 0 .un) := by
  rintro ss QD ⟨d, rfl, q⟩
  unfold tb_law_or_refused
  cases d <;> exact q
def optC : Option Call → D
  | some c => c.enc
  | none => .none
def spLRC : SpD := fun ss Q => ∃ w : Str, ss = [.d (.str w)] ∧ chOk w ∧ Q (optC (callW w)) []
theorem sh_law_read_call : ∀ ss QD, spLRC ss QD → ss.length = 1 ∧ mpos 0 ss = [] := by rintro ss QD ⟨c, rfl, _⟩; exact ⟨rfl, rfl⟩
theorem rd_law_read_call : ∀ ss QD, spLRC ss QD → tb_law_read_call { nx := fun E' => finO [] E' (QD .none), rt := fun d E' => finO [] E' (QD d) } (ss ++ List.replicate 2 .un) := by
  rintro ss QD ⟨w, rfl, hw, q⟩
  unfold tb_law_read_call
  refine seq_step fun R hR => ?_
  refine for_inv (ds := rangeD 1 7) (E1 := [.d (.str w), .un, .un]) (fun Q h => ⟨⟨by decide, by decide, by decide, by decide⟩, h⟩)
    (fun i E => ∃ s1 s2, E = [.d (.str w), s1, s2] ∧ ∀ l s : Int, 1 ≤ l → l ≤ i → 0 ≤ s → s ≤ 4 → w ≠ callT (.bid l s)) ⟨_, _, rfl, fun l s h1 h2 => by omega⟩ (fun i d E hd hE R2 hR2 => ?_) (fun E hE => ?_)
  · obtain ⟨s1, s2, rfl, hno⟩ := hE
    have hi : i < 7 := by have := (List.getElem?_eq_some_iff.mp hd).1; rwa [rangeD_length] at this
    rw [rangeD_get hi] at hd
    cases hd
    refine for_inv (ds := rangeD 0 5) (E1 := [.d (.str w), .d (.int (1 + (i : Int))), s2]) (fun Q h => ⟨⟨by decide, by decide⟩, h⟩)
      (fun j E => ∃ s2, E = [.d (.str w), .d (.int (1 + (i : Int))), s2] ∧ ∀ s : Int, 0 ≤ s → s < j → w ≠ callT (.bid (1 + (i : Int)) s)) ⟨_, rfl, fun s h1 h2 => by omega⟩ (fun j d E hd hE R3 hR3 => ?_) (fun E hE => ?_)
    · obtain ⟨s2, rfl, hno2⟩ := hE
      have hj : j < 5 := by have := (List.getElem?_eq_some_iff.mp hd).1; rwa [rangeD_length] at this
      rw [rangeD_get hj] at hd
      cases hd
      walk_at "dl"
      rw [show (0 : Int) + (j : Int) = j by omega]
      have hk := okC_mem (c := .bid (1 + (i : Int)) (j : Int)) ⟨by omega, by omega, by omega, by omega⟩
      have ha := callW_all _ hk
      refine ⟨Nat.lt_of_le_of_lt (Nat.log2_le_self _) (by omega), ?_⟩
      rw [show atI (Str.ofString "CDHSN").cps.toList (j : Int) = some (stC (j : Int)) from at_strain (by omega) (by omega)]
      refine ⟨small_line (by decide), ?_, ⟨shaped_str hw, ?_⟩, ?_⟩
      · have h5 := ha.2.1
        have : (callT (.bid (1 + (i : Int)) (j : Int))).length = (Str.ofString (toString (1 + (i : Int)))).length + 1 := by
          show ((Str.ofString (toString (1 + (i : Int)))) ++ sgn (stC (j : Int))).length = _
          rw [len_app]; rfl
        show _ + 1 ≤ _
        exact small_line (by omega)
      · exact shaped_str ((strOk_iff _).mp ha.2.2.1)
      · show if (PyData.str w).eqv (.str (callT (.bid (1 + (i : Int)) (j : Int)))) = true then _ else _
        rw [eqv_str]
        by_cases e : w = callT (.bid (1 + (i : Int)) (j : Int))
        · refine ifT (by rw [e]; simp) ⟨small_line (by decide), ?_⟩
          rw [(callW_iff hk).mp e] at q
          exact q
        · refine ifF (by rw [beq_eq_false_iff_ne]; exact e) (hR3 _ ⟨_, rfl, fun s h1 h2 => ?_⟩)
          by_cases e2 : s = (j : Int)
          · rw [e2]; exact e
          · exact hno2 s h1 (by omega)
    · obtain ⟨s2, rfl, hno2⟩ := hE
      refine hR2 _ ⟨_, _, rfl, fun l s h1 h2 h3 h4 => ?_⟩
      by_cases e : l = 1 + (i : Int)
      · subst e; exact hno2 s h3 (by rw [rangeD_length]; omega)
      · exact hno l s h1 (by omega) h3 h4
  · obtain ⟨s1, s2, rfl, hno⟩ := hE
    refine hR _ ?_
    clear hR
    walk_at "cx"
    show match some (d3 "P" "X" "XX" "pass" "double" "redouble") with | some d => _ | none => False
    have em : mergeD [] [(Sum.inr (Str.ofString "P"), PyData.str (Str.ofString "pass")), (Sum.inr (Str.ofString "X"), PyData.str (Str.ofString "double")), (Sum.inr (Str.ofString "XX"), PyData.str (Str.ofString "redouble"))] = d3 "P" "X" "XX" "pass" "double" "redouble" := merge3 (by decide +kernel) (by decide +kernel) (by decide +kernel)
    refine ⟨by decide, ?_⟩
    rw [em, val3]
    refine ⟨by simp [d3], ?_⟩
    have hn : ∀ l s, callW w ≠ some (.bid l s) := fun l s h => by
      obtain ⟨hk, e⟩ := callW_inv h
      obtain ⟨h1, h2, h3, h4⟩ := mem_okC hk
      exact hno l s h1 (by rw [rangeD_length]; omega) h3 h4 e
    have cw : callW w = if w = "P" then some .pass else if w = "X" then some .dbl else if w = "XX" then some .rdb else match w.cps.toList with | [a, b] => (stOf b).bind fun s => if 49 ≤ a ∧ a ≤ 55 then some (.bid ((a : Int) - 48) s) else none | _ => none := rfl
    by_cases g1 : w = "P"
    · rw [if_pos g1] at cw ⊢
      rw [cw] at q; exact q
    rw [if_neg g1] at cw ⊢
    by_cases g2 : w = "X"
    · rw [if_pos g2] at cw ⊢
      rw [cw] at q; exact q
    rw [if_neg g2] at cw ⊢
    by_cases g3 : w = "XX"
    · rw [if_pos g3] at cw ⊢
      rw [cw] at q; exact q
    rw [if_neg g3] at cw ⊢
    cases hc : callW w with
    | none => rw [hc] at q; exact q
    | some c =>
      exfalso
      obtain ⟨hk, e⟩ := callW_inv hc
      cases c with
      | bid l s => exact hn l s hc
      | pass => exact g1 e
      | dbl => exact g2 e
      | rdb => exact g3 e
theorem rd_law_call_text : ∀ ss QD, spCallT ss QD → tb_law_call_text { nx := fun E' => finO [] E' (QD .none), rt := fun d E' => finO [] E' (QD d) } (ss ++ List.replicate 0 .un) := rd_call_text
def rowO : Option (List Call) → D
  | some cs => rowD cs
  | none => .none
def spLRead : SpD := fun ss Q => ∃ (L : Nat) (t : Str), ss = [.d (.int (L : Int)), .d (.str t)] ∧ L ≤ 1000 ∧ chOk t ∧ t.length ≤ 900 ∧ Q (rowO (readF L t)) []
theorem sh_law_read : ∀ ss QD, spLRead ss QD → ss.length = 2 ∧ mpos 0 ss = [] := by rintro ss QD ⟨L, t, rfl, _⟩; exact ⟨rfl, rfl⟩
theorem rd_law_read : ∀ ss QD, spLRead ss QD → tb_law_read spLMay spLRC { nx := fun E' => finO [] E' (QD .none), rt := fun d E' => finO [] E' (QD d) } (ss ++ List.replicate 3 .un) := by
  rintro ss QD ⟨L, t, rfl, hL, ht, hl, q⟩
  unfold tb_law_read
  refine seq_step fun R hR => ?_
  walk_at "dl"
  refine ⟨small_line (by decide), hR _ ?_⟩
  clear hR
  refine seq_step fun R hR => ?_
  have hlen : (wordsW t).length ≤ 902 := by
    unfold wordsW
    split
    · decide
    · exact Nat.le_trans (split_le t " ") (by omega)
  have hi : ∀ Q : List D → Env → Prop, Q ((wordsW t).map PyData.str) [.d (.int (L : Int)), .d (.str t), .d (.tuple []), .un, .un] → iLstD (tIfE (tBo (tOpD opNe (tV 1) (tK (.str "-")))) (tFzD (tSplit (tV 1) (tK (.str " ")))) (tFzD (tLstD (dNil)))) [.d (.int (L : Int)), .d (.str t), .d (.tuple []), .un, .un] Q := fun Q h => by
    walk_at "dl"
    refine ⟨⟨shaped_str ht, by decide +kernel⟩, ?_⟩
    rw [eqv_str]
    unfold wordsW at h
    by_cases g : t = "-"
    · rw [if_pos g] at h
      exact ifF (by rw [g]; decide +kernel) ⟨small_line (by decide), h⟩
    · rw [if_neg g] at h
      refine ifT ?_ ⟨by decide, small_line (by omega), h⟩
      rw [Bool.not_eq_true', beq_eq_false_iff_ne]; exact g
  refine for_inv (ds := (wordsW t).map PyData.str) (E1 := [.d (.int (L : Int)), .d (.str t), .d (.tuple []), .un, .un]) hi
    (fun i E => ∃ cs s1 s2, E = [.d (.int (L : Int)), .d (.str t), .d (rowD cs), s1, s2] ∧ cs.length ≤ i ∧ goW L cs ((wordsW t).drop i) = readF L t) ⟨[], _, _, rfl, Nat.le_refl _, rfl⟩ (fun i d E hd hE R2 hR2 => ?_) (fun E hE => ?_)
  · obtain ⟨cs, s1, s2, rfl, hc, hg⟩ := hE
    rw [List.getElem?_map] at hd
    obtain ⟨w, hw, rfl⟩ := Option.map_eq_some_iff.mp hd
    have hil := (List.getElem?_eq_some_iff.mp hw).1
    have hdr : (wordsW t).drop i = w :: (wordsW t).drop (i + 1) := by
      rw [List.drop_eq_getElem_cons hil]
      rw [List.getElem?_eq_getElem hil] at hw
      rw [Option.some.inj hw]
    rw [hdr] at hg
    have hwo : chOk w := by
      have := List.mem_of_getElem? hw
      unfold wordsW at this
      split at this
      · cases this
      · exact chOk_split ht w this
    refine seq_step fun R3 hR3 => ?_
    walk_at "dl"
    refine ⟨w, rfl, hwo, hR3 _ ?_⟩
    clear hR3
    refine seq_step fun R3 hR3 => ?_
    unfold goW at hg
    cases hcw : callW w with
    | none =>
      rw [hcw] at hg
      walk_at "dl"
      have hg : none = readF L t := hg
      rw [← hg] at q
      exact q
    | some c =>
      rw [hcw] at hg
      have hg : (if c ∈ mayL L cs then goW L (cs ++ [c]) ((wordsW t).drop (i + 1)) else none) = readF L t := hg
      walk_at "dl"
      have e1 : (match optC (some c) with | PyData.none => true | _ => false) = false := by cases c <;> rfl
      refine ifF e1 ?_
      refine ⟨L, cs, rfl, hL, by omega, ?_⟩
      show ((_ ∧ _) ∧ _)
      refine ⟨⟨?_, ?_⟩, ?_⟩
      · exact shaped_of (n := 1) (sh_enc 0 c)
      · exact shaped_of (n := 2) (d := .list ((mayL L cs).map Call.enc)) (by rw [shOk_lst]; exact sh_map 0 _)
      · rw [show optC (some c) = c.enc from rfl, notin_enc]
        by_cases hm : c ∈ mayL L cs
        · rw [if_pos hm] at hg
          refine ifF (by rw [decide_eq_true hm]; rfl) (hR3 _ ?_)
          clear hR3
          walk_at "dl"
          refine ⟨small_line (by decide), ?_⟩
          show (_ ∧ _)
          refine ⟨small_line (by simp; omega), hR2 _ ⟨cs ++ [c], .d (.str w), .d c.enc, ?_, by rw [List.length_append]; simp; omega, hg⟩⟩
          unfold rowD
          rw [List.map_append]; rfl
        · rw [if_neg hm] at hg
          rw [← hg] at q
          exact ifT (by rw [decide_eq_false hm]; rfl) q
  · obtain ⟨cs, s1, s2, rfl, hc, hg⟩ := hE
    rw [List.length_map, List.drop_eq_nil_of_le (Nat.le_refl _)] at hg
    have hg : some cs = readF L t := hg
    rw [← hg] at q
    exact hR _ q
def toldT (L : Nat) (t : Str) : D := match readF L t with
  | some cs => rowD cs
  | none => .str "NoText"
def spTold : SpD := fun ss Q => ∃ (L : Nat) (t : Str), ss = [.d (.int (L : Int)), .d (.str t)] ∧ L ≤ 1000 ∧ chOk t ∧ t.length ≤ 900 ∧ Q (toldT L t) []
theorem sh_law_told : ∀ ss QD, spTold ss QD → ss.length = 2 ∧ mpos 0 ss = [] := by rintro ss QD ⟨L, t, rfl, _⟩; exact ⟨rfl, rfl⟩
theorem rd_law_told {c : Value} {m : Value → Option Bool} (hm : m c = some true) : ∀ ss QD, spTold ss QD → tb_law_told (spRead c) m { nx := fun E' => finO [] E' (QD .none), rt := fun d E' => finO [] E' (QD d) } (ss ++ List.replicate 1 .un) := by
  rintro ss QD ⟨L, t, rfl, hL, ht, hl, q⟩
  unfold toldT at q
  unfold tb_law_told
  refine seq_step fun R hR => ?_
  walk_at "dl"
  refine hR _ ?_
  clear hR
  refine seq_step fun R hR => ?_
  have fin : ∀ d, d = (match readF L t with | some cs => rowD cs | none => .str "NoText") → R [.d (.int (L : Int)), .d (.str t), .d d] := fun d e => by
    refine hR _ ?_
    walk_at "dl"
    rw [e]; exact q
  refine ⟨rfl, L, t, rfl, hL, ht, hl, fun cs h => fin _ (by rw [h]), fun h => ?_⟩
  show match m c with | some true => _ | some false => _ | none => _
  rw [hm]
  exact fin _ (by rw [h])
end DL
set_option Elab.async false
set_option linter.all false
set_option maxRecDepth 100000
set_option maxHeartbeats 4000000
namespace DL
open PySem PySem.Spec PyProof.Rows L2
local macro_rules | `(tactic| walk_at "dl") => `(tactic| simp only [tV, tVr, tFzV, turnD, DL.wipeE, tK, tOpD, tUnD, tBo, tAndD, tOrD, tNotD, tIfE, DL.tAndV, DL.tOrV, DL.tNotV, tTru, truD, okLen, sSet, sSetL, sExpr, sRet, sIf, sNx, tTupD, dNil, dCons, tLstD, tFzD, tApp, tExtd, tPopAt, sSetIx, tIxO, tChainD, tChain3D, tRevT, caStr, opRepT, opAdd, opSub, opMul, opDiv, opMod, opPow, DL.opI, DL.opI0, opB0, opLt, opLe, opGt, opGtD, opLtD, opGe, opEq, opNe, opIs, opIsN, isNone, opIn, opNotIn, opIx, atD_0, atD_1, atD_2, atD_3, putD_0, unNeg, tCa1, tCa2, tCaL1, caLen, caAbs, caMax2, caMin2, caSum, caMax, caMin, caSumT, caMaxT, caMinT, caAll, caTuple, caList, caInt, tIsi, isInt, isBool, isStr, isTuple, isList, notDict, sAsg, gSet, gTupD, gLstD, gsNil, gsCons, sPar, pNil, pD, pL, setAll, tCallD, aNil, aV, aO, argS, oixs, ndp, putO, tOpL, opCat, opRep, tSlD, slD, tSlL, oNo, oE, tRevD, iLstD, iTupD, iRange1, iRange2, iZipD, iZipM, finO, tTrue, Option.map, eqv_int, eqv_bool, eqv_none, shaped_int, shaped_bool, shaped_none, tLenRange, tSortSet, tSortSetS, tSortDk, tDkGet2, tDkGetD, tDkGet2M, sDkPut, tInDk, tDkGet, iDvK, keyOf, optQ, mDkD, tFzKM, opLeS, tFind, tSplit, tJoinS, caIntS, iStrD, opMulS, tRevS, tSlO, iZipN, tLenSet, tLenSetP, tSortSetP, tCountL, tCountT, tIndexL, tIndexT, DL.tOrT, DL.tAndT, DL.tNotT, tSortRev, caSorted, iEnumL, iEnumT, tDGetV, tDGetD, tDGet2V, dictAt, sDPutV, sSetM, mDt, mDk, pM, tInN, tNotInN, tCallM, amM, amV, tListRg, iDk, iDv, iDi, tLDk, tLDv, tTruDk, mDt1, tFzM, tCall0D, tFldD, tFldR, fldD, fldL, obD, unH_hdl, obGet, setOb, putOD, sFldD, sFldL, tMethO, tAppF, tPopF, sRaise, keyB_2, keyB_3, keyB_4, decide_eq_true_eq, and_self, List.cons_append, List.nil_append, List.replicate, List.getElem?_cons_zero, List.getElem?_cons_succ, List.set_cons_zero, List.set_cons_succ, List.length_cons, List.length_nil, true_and, and_true, if_true, if_false, Bool.false_eq_true, List.contains_nil, Bool.not_false, Bool.not_true, Bool.and_self, Bool.and_true, Bool.true_and, decide_true, decide_false, beq_self_eq_true])
def tb_law_spoilt (sp_law_draw : SpD) (sp_law_pick : SpD) : TSd :=
  sSeq (sPar [4, 5] (pD (tCallD sp_law_draw (aV (tV 0) (aO 1 (aV (tOpD opAdd (tCa1 caLen (tV 2)) (tK (.int 1))) (aNil))))) (pD (tCallD sp_law_draw (aV (tV 0) (aO 1 (aV (tK (.int 6)) (aNil))))) (pNil))))
      (sSeq (sSet 6 (tCallD sp_law_pick (aV (tV 0) (aO 1 (aV (tV 3) (aNil))))))
      (sSeq (sIf (tBo (tOpD opEq (tV 5) (tK (.int 0)))) (sRet (tOpD opAdd (tSlD (tV 2) (oNo) (oE (tV 4))) (tSlD (tV 2) (oE (tOpD opAdd (tV 4) (tK (.int 1)))) (oNo)))) (sNx))
      (sSeq (sIf (tBo (tOpD opEq (tV 5) (tK (.int 1)))) (sRet (tOpD opAdd (tOpD opAdd (tSlD (tV 2) (oNo) (oE (tV 4))) (tV 6)) (tSlD (tV 2) (oE (tV 4)) (oNo)))) (sNx))
      (sSeq (sIf (tBo (tOpD opEq (tV 5) (tK (.int 2)))) (sSeq (sSetL 7 (tSplit (tV 2) (tK (.str " "))))
      (sSeq (sSet 8 (tCallD sp_law_draw (aV (tV 0) (aO 1 (aV (tCa1 caLen (tVr 7)) (aNil))))))
      (sSeq (sSetSlO 7 (tV 8) (tOpD opAdd (tV 8) (tK (.int 1))) (tCallD sp_law_pick (aV (tV 0) (aO 1 (aV (tFzD (tLstD (dCons (tFzD (tLstD (dNil))) (dCons (tFzD (tOpL opRep (tFzD (tSlO 7 (oE (tV 8)) (oE (tOpD opAdd (tV 8) (tK (.int 1)))))) (tK (.int 2)))) (dCons (tFzD (tLstD (dCons (tV 6) (dNil)))) (dCons (tFzD (tLstD (dCons (tV 6) (dCons (tIxO 7 (tV 8)) (dNil))))) (dNil))))))) (aNil))))))
      (sRet (tJoinS (tK (.str " ")) (tVr 7)))))) (sNx))
      (sSeq (sIf (tBo (tOpD opEq (tV 5) (tK (.int 3)))) (sSeq (sSetL 7 (tSplit (tV 2) (tK (.str " "))))
      (sSeq (sSet 8 (tCallD sp_law_draw (aV (tV 0) (aO 1 (aV (tCa1 caLen (tVr 7)) (aNil))))))
      (sRet (tJoinS (tK (.str " ")) (tFzD (tOpL opCat (tFzD (tSlO 7 (oNo) (oE (tV 8)))) (tFzD (tRevD (tFzD (tSlO 7 (oE (tV 8)) (oNo))))))))))) (sNx))
      (sRet (tOpD opAdd (tOpD opAdd (tSlD (tV 2) (oNo) (oE (tV 4))) (tV 6)) (tSlD (tV 2) (oE (tOpD opAdd (tV 4) (tK (.int 1)))) (oNo)))))))))
local macro_rules | `(tactic| walk_at "sp") => `(tactic| simp only [tSlO, tSplit, tJoinS, sSetSlO, slPut, tV, tVr, tFzV, turnD, DL.wipeE, tK, tOpD, tUnD, tBo, tAndD, tOrD, tNotD, tIfE, DL.tAndV, DL.tOrV, DL.tNotV, tTru, truD, okLen, sSet, sSetL, sExpr, sRet, sIf, sNx, tTupD, dNil, dCons, tLstD, tFzD, tApp, tExtd, tPopAt, sSetIx, tIxO, tChainD, tChain3D, tRevT, caStr, opRepT, opAdd, opSub, opMul, opDiv, opMod, opPow, DL.opI, DL.opI0, opB0, opLt, opLe, opGt, opGtD, opLtD, opGe, opEq, opNe, opIs, opIsN, isNone, opIn, opNotIn, opIx, atD_0, atD_1, atD_2, atD_3, putD_0, unNeg, tCa1, tCa2, tCaL1, caLen, caAbs, caMax2, caMin2, caSum, caMax, caMin, caSumT, caMaxT, caMinT, caAll, caTuple, caList, caInt, tIsi, isInt, isBool, isStr, isTuple, isList, notDict, sAsg, gSet, gTupD, gLstD, gsNil, gsCons, sPar, pNil, pD, pL, setAll, tCallD, aNil, aV, aO, argS, oixs, ndp, putO, tOpL, opCat, opRep, tSlD, slD, tSlL, oNo, oE, tRevD, iLstD, iTupD, iRange1, iRange2, iZipD, iZipM, finO, tTrue, Option.map, eqv_int, eqv_bool, eqv_none, shaped_int, shaped_bool, shaped_none, tLenRange, tSortSet, tSortSetS, tSortDk, tDkGet2, tDkGetD, tDkGet2M, sDkPut, tInDk, tDkGet, iDvK, keyOf, optQ, mDkD, tFzKM, opLeS, tFind, tSplit, tJoinS, caIntS, iStrD, opMulS, tRevS, tSlO, iZipN, tLenSet, tLenSetP, tSortSetP, tCountL, tCountT, tIndexL, tIndexT, DL.tOrT, DL.tAndT, DL.tNotT, tSortRev, caSorted, iEnumL, iEnumT, tDGetV, tDGetD, tDGet2V, dictAt, sDPutV, sSetM, mDt, mDk, pM, tInN, tNotInN, tCallM, amM, amV, tListRg, iDk, iDv, iDi, tLDk, tLDv, tTruDk, mDt1, tFzM, tCall0D, tFldD, tFldR, fldD, fldL, obD, unH_hdl, obGet, setOb, putOD, sFldD, sFldL, tMethO, tAppF, tPopF, sRaise, keyB_2, keyB_3, keyB_4, decide_eq_true_eq, and_self, List.cons_append, List.nil_append, List.replicate, List.getElem?_cons_zero, List.getElem?_cons_succ, List.set_cons_zero, List.set_cons_succ, List.length_cons, List.length_nil, true_and, and_true, if_true, if_false, Bool.false_eq_true, List.contains_nil, Bool.not_false, Bool.not_true, Bool.and_self, Bool.and_true, Bool.true_and, decide_true, decide_false, beq_self_eq_true])
/-- texts after one change: small, of true signs -/
def okT (B : Nat) (x : Str) : Prop := chOk x ∧ x.length ≤ B
def spSpoilt : SpD := fun ss Q => ∃ (ns : List Int) (t : List D) (x : Str) (gs : List Str) (b : Nat), ss = [.d (.list (ns.map PyData.int)), .ol t, .d (.str x), .d (.list (gs.map PyData.str))] ∧ ns.length ≤ 63 ∧ TownOk t b ∧ b ≤ 9000000 ∧ okT 400 x ∧ gs ≠ [] ∧ (∀ g ∈ gs, okT 9 g) ∧
  ∀ y t', okT 900 y → TownOk t' (b + 10) → Q (.str y) [.ol t']
theorem sh_law_spoilt : ∀ ss QD, spSpoilt ss QD → ss.length = 4 ∧ mpos 0 ss = [1] := by rintro ss QD ⟨ns, t, x, gs, b, rfl, _⟩; exact ⟨rfl, rfl⟩
theorem join_ok {ps : List Str} (h : ∀ p ∈ ps, chOk p) (hs : (ps.map (·.length)).sum + ps.length ≤ 900) : okT 900 (Txt.join " " ps) := by
  refine ⟨chOk_join ((strOk_iff _).mp (by decide +kernel)) h, Nat.le_trans (join_len _ _) ?_⟩
  rw [show (" " : Str).length = 1 from by decide]; omega
theorem sum_app (a b : List Nat) : (a ++ b).sum = a.sum + b.sum := by
  induction a with
  | nil => simp
  | cons x l ih => rw [List.cons_append, List.sum_cons, List.sum_cons, ih]; omega
theorem sum_rev (a : List Nat) : a.reverse.sum = a.sum := by
  induction a with
  | nil => rfl
  | cons x l ih => rw [List.reverse_cons, sum_app, ih, List.sum_cons, List.sum_cons, List.sum_nil]; omega
theorem rd_law_spoilt : ∀ ss QD, spSpoilt ss QD → tb_law_spoilt spDraw spPick { nx := fun E' => finO [1] E' (QD .none), rt := fun d E' => finO [1] E' (QD d) } (ss ++ List.replicate 5 .un) := by
  rintro ss QD ⟨ns, t, x, gs, b, rfl, hn, ht, hb, hx, hg0, hg, q⟩
  unfold tb_law_spoilt
  refine seq_step fun R hR => ?_
  walk_at "dl"
  refine ⟨small_line (by have := hx.2; omega), ns, t, _, b, rfl, by omega, hn, ht, by omega, fun at_ t1 a0 a1 ht1 => ?_⟩
  walk_at "dl"
  refine ⟨ns, t1, _, b + 2, rfl, by omega, hn, ht1, by omega, fun way t2 w0 w1 ht2 => ?_⟩
  walk_at "dl"
  refine hR _ ?_
  clear hR
  refine seq_step fun R hR => ?_
  walk_at "dl"
  refine ⟨ns, t2, _, gs.map PyData.str, b + 4, rfl, .inl rfl, fun e => hg0 (List.map_eq_nil_iff.mp e), hn, ht2, by omega, fun sg t3 hsg ht3 => ?_⟩
  obtain ⟨g, hgm, rfl⟩ := List.mem_map.mp hsg
  have hgo := hg g hgm
  walk_at "dl"
  refine hR _ ?_
  clear hR
  refine seq_step fun R hR => ?_
  walk_at "dl"
  have hxl := hx.2
  have cl : ∀ lo hi, (cutS x lo hi).length ≤ 400 := fun lo hi => Nat.le_trans (cutS_length x lo hi) hxl
  have c1 := cl none (some at_)
  have c2 := cl (some (at_ + 1)) none
  have c3 := cl (some at_) none
  have k1 := chOk_cut hx.1 none (some at_)
  have k2 := chOk_cut hx.1 (some (at_ + 1)) none
  have k3 := chOk_cut hx.1 (some at_) none
  by_cases g0 : way = 0
  · rw [if_pos g0]
    refine ⟨small_line (by omega), small_line (by omega), small_line (by omega), q _ _ ⟨chOk_app k1 k2, ?_⟩ (ht3.mono (by omega))⟩
    rw [len_app]; omega
  rw [if_neg g0]
  refine hR _ ?_
  clear hR
  refine seq_step fun R hR => ?_
  walk_at "dl"
  by_cases g1 : way = 1
  · rw [if_pos g1]
    refine ⟨small_line (by omega), small_line (by have := hgo.2; omega), small_line (by omega), small_line (by have := hgo.2; rw [len_app]; omega), q _ _ ⟨chOk_app (chOk_app k1 hgo.1) k3, ?_⟩ (ht3.mono (by omega))⟩
    have := hgo.2; rw [len_app, len_app]; omega
  rw [if_neg g1]
  refine hR _ ?_
  clear hR
  have hws : (Txt.split x " ").length ≤ 402 := Nat.le_trans (split_le x " ") (by omega)
  have hw1 : 1 ≤ (Txt.split x " ").length := split_pos x " "
  have hww : ((Txt.split x " ").map (·.length)).sum + (Txt.split x " ").length ≤ x.length + 1 := split_weight x " " (by decide)
  refine seq_step fun R hR => ?_
  walk_at "sp"
  by_cases g2 : way = 2
  · rw [if_pos g2]
    refine seq_step fun R2 hR2 => ?_
    walk_at "sp"
    refine ⟨by decide, small_line (by omega), hR2 _ ?_⟩
    clear hR2
    refine seq_step fun R2 hR2 => ?_
    walk_at "sp"
    refine ⟨ns, t3, _, b + 6, rfl, by rw [List.length_map]; omega, hn, ht3, by omega, fun sp t4 s0 s1 ht4 => ?_⟩
    rw [List.length_map] at s1
    walk_at "sp"
    refine hR2 _ ?_
    clear hR2
    obtain ⟨i, rfl⟩ : ∃ i : Nat, sp = (i : Int) := ⟨sp.toNat, by omega⟩
    refine seq_step fun R2 hR2 => ?_
    walk_at "sp"
    have hco : ∀ p ∈ Txt.split x " ", chOk p := chOk_split hx.1
    have hi : i < (Txt.split x " ").length := by omega
    revert hww hws hw1 hco hi
    rw [show Str.ofString " " = " " from rfl]
    generalize Txt.split x " " = ws
    intro hww hws hw1 hco hi
    obtain ⟨w, hw⟩ : ∃ w, ws[i]? = some w := ⟨ws[i], List.getElem?_eq_getElem hi⟩
    have hsp : ws = ws.take i ++ w :: ws.drop (i + 1) := by
      have e := List.drop_eq_getElem_cons hi
      rw [List.getElem?_eq_getElem hi] at hw
      rw [Option.some.inj hw] at e
      rw [← e, List.take_append_drop]
    have htl : (ws.take i).length = i := by rw [List.length_take]; omega
    have hdl : (ws.drop (i + 1)).length = ws.length - (i + 1) := List.length_drop
    have hsum : (ws.map (·.length)).sum = ((ws.take i).map (·.length)).sum + (w.length + ((ws.drop (i + 1)).map (·.length)).sum) := by
      conv => lhs; rw [hsp]
      rw [List.map_append, sum_app, List.map_cons, List.sum_cons]
    have ec : cutD (ws.map PyData.str) (some (i : Int)) (some ((i : Int) + 1)) = [.str w] := by
      rw [cut_mid (by omega) (by omega), show ((i : Int) + 1).toNat = i + 1 by omega, Int.toNat_natCast, ← List.map_take, ← List.map_drop]
      have : (ws.take (i + 1)).drop i = [w] := by
        rw [List.take_succ, hw]
        show (ws.take i ++ [w]).drop i = [w]
        rw [List.drop_append_of_le_length (by omega), List.drop_eq_nil_of_le (by omega)]; rfl
      rw [this]; rfl
    have hwo : chOk w := hco w (List.mem_of_getElem? hw)
    have hfin : ∀ ys : List Str, (∀ y ∈ ys, chOk y) → (ys.map (·.length)).sum + ys.length ≤ 2 * w.length + 12 → okT 900 (Txt.join " " (ws.take i ++ ys ++ ws.drop (i + 1))) := fun ys h1 h2 => by
      refine join_ok (fun p hp => ?_) ?_
      · rcases List.mem_append.mp hp with hp | hp
        · rcases List.mem_append.mp hp with hp | hp
          · exact hco p (List.mem_of_mem_take hp)
          · exact h1 p hp
        · exact hco p (List.mem_of_mem_drop hp)
      · rw [List.map_append, List.map_append, sum_app, sum_app, List.length_append, List.length_append, htl, hdl]
        omega
    have hat : atI (ws.map PyData.str) (i : Int) = some (.str w) := atI_at (by omega) (by rw [Int.toNat_natCast, List.getElem?_map, hw]; rfl)
    rw [ec]
    refine ⟨small_line (by omega), ⟨by decide, by decide, small_line (by show 1 * 2 ≤ _; omega)⟩, small_line (by decide), ?_⟩
    unfold atD
    rw [hat]
    refine ⟨small_line (by decide), small_line (by decide), ns, t4, _, _, b + 8, rfl, .inl rfl, by simp, hn, ht4, by omega, fun r t5 hr ht5 => ?_⟩
    obtain ⟨ys, rfl, hy1, hy2⟩ : ∃ ys : List Str, r = .list (ys.map PyData.str) ∧ (∀ y ∈ ys, chOk y) ∧ (ys.map (·.length)).sum + ys.length ≤ 2 * w.length + 12 := by
      have hgl := hgo.2
      simp only [List.mem_cons, List.not_mem_nil, or_false] at hr
      rcases hr with rfl | rfl | rfl | rfl
      · exact ⟨[], rfl, (fun y (h : y ∈ ([] : List Str)) => nomatch h), by simp⟩
      · exact ⟨[w, w], rfl, fun y hy => by
          simp only [List.mem_cons, List.not_mem_nil, or_false, or_self] at hy; rw [hy]; exact hwo, by simp; omega⟩
      · exact ⟨[g], rfl, fun y hy => by rw [List.mem_singleton.mp hy]; exact hgo.1, by simp; omega⟩
      · exact ⟨[g, w], rfl, fun y hy => by
          simp only [List.mem_cons, List.not_mem_nil, or_false] at hy
          rcases hy with rfl | rfl
          · exact hgo.1
          · exact hwo, by simp; omega⟩
    walk_at "sp"
    have hyl : ys.length ≤ 2 * 400 + 12 := by
      have hwl : w.length ≤ 400 := by
        have : w.length ≤ (ws.map (·.length)).sum := by rw [hsum]; omega
        omega
      omega
    refine ⟨⟨by omega, by omega, by rw [List.length_map]; omega, small_line (by rw [List.length_map, List.length_map]; omega)⟩, hR2 _ ?_⟩
    clear hR2
    walk_at "sp"
    have e3 : (ws.map PyData.str).take ((i : Int)).toNat ++ ys.map PyData.str ++ (ws.map PyData.str).drop ((i : Int) + 1).toNat = (ws.take i ++ ys ++ ws.drop (i + 1)).map PyData.str := by
      rw [Int.toNat_natCast, show ((i : Int) + 1).toNat = i + 1 by omega, List.map_append, List.map_append, List.map_take, List.map_drop]
    refine ⟨_, e3, ?_, q _ _ (hfin ys hy1 hy2) (ht5.mono (by omega))⟩
    rw [show (Str.ofString " ").length = 1 from by decide, List.map_append, List.map_append, sum_app, sum_app, List.length_append, List.length_append, htl, hdl]
    have hwl : w.length ≤ 400 := by
      have : w.length ≤ (ws.map (·.length)).sum := by rw [hsum]; omega
      omega
    omega
  rw [if_neg g2]
  refine hR _ ?_
  clear hR
  refine seq_step fun R hR => ?_
  walk_at "sp"
  by_cases g3 : way = 3
  · rw [if_pos g3]
    refine seq_step fun R2 hR2 => ?_
    walk_at "sp"
    refine ⟨by decide, small_line (by omega), hR2 _ ?_⟩
    clear hR2
    refine seq_step fun R2 hR2 => ?_
    walk_at "sp"
    refine ⟨ns, t3, _, b + 6, rfl, by rw [List.length_map]; omega, hn, ht3, by omega, fun sp t4 s0 s1 ht4 => ?_⟩
    rw [List.length_map] at s1
    walk_at "sp"
    refine hR2 _ ?_
    clear hR2
    obtain ⟨i, rfl⟩ : ∃ i : Nat, sp = (i : Int) := ⟨sp.toNat, by omega⟩
    walk_at "sp"
    have hco : ∀ p ∈ Txt.split x " ", chOk p := chOk_split hx.1
    have hi : i < (Txt.split x " ").length := by omega
    revert hww hws hw1 hco hi
    rw [show Str.ofString " " = " " from rfl]
    generalize Txt.split x " " = ws
    intro hww hws hw1 hco hi
    rw [cut_to (by omega), cut_from (by omega), Int.toNat_natCast]
    have e : (ws.map PyData.str).take i ++ ((ws.map PyData.str).drop i).reverse = (ws.take i ++ (ws.drop i).reverse).map PyData.str := by
      rw [List.map_append, List.map_reverse, List.map_take, List.map_drop]
    have hs : ((ws.take i ++ (ws.drop i).reverse).map (·.length)).sum = (ws.map (·.length)).sum := by
      conv => rhs; rw [← List.take_append_drop i ws]
      rw [List.map_append, List.map_append, sum_app, sum_app, List.map_reverse, sum_rev]
    have hl : (ws.take i ++ (ws.drop i).reverse).length = ws.length := by
      rw [List.length_append, List.length_reverse, List.length_take, List.length_drop]; omega
    refine ⟨small_line (by rw [List.length_reverse, ← List.map_take, ← List.map_drop, List.length_map, List.length_map, List.length_take, List.length_drop]; omega), _, e, ?_, q _ _ (join_ok (fun p hp => ?_) (by rw [hs, hl]; omega)) (ht4.mono (by omega))⟩
    · rw [hs, hl, show (" " : Str).length = 1 from by decide]; omega
    · rcases List.mem_append.mp hp with hp | hp
      · exact hco p (List.mem_of_mem_take hp)
      · exact hco p (List.mem_of_mem_drop (List.mem_reverse.mp hp))
  rw [if_neg g3]
  refine hR _ ?_
  clear hR
  walk_at "sp"
  refine ⟨small_line (by omega), small_line (by have := hgo.2; omega), small_line (by omega), small_line (by have := hgo.2; rw [len_app]; omega), q _ _ ⟨chOk_app (chOk_app k1 hgo.1) k2, ?_⟩ (ht3.mono (by omega))⟩
  have := hgo.2; rw [len_app, len_app]; omega
end DL
set_option Elab.async false
set_option linter.all false
set_option maxRecDepth 100000
set_option maxHeartbeats 4000000
namespace DL
open PySem PySem.Spec PyProof.Rows L2
local macro_rules | `(tactic| walk_at "dl") => `(tactic| simp only [tV, tVr, tFzV, turnD, DL.wipeE, tK, tOpD, tUnD, tBo, tAndD, tOrD, tNotD, tIfE, DL.tAndV, DL.tOrV, DL.tNotV, tTru, truD, okLen, sSet, sSetL, sExpr, sRet, sIf, sNx, tTupD, dNil, dCons, tLstD, tFzD, tApp, tExtd, tPopAt, sSetIx, tIxO, tChainD, tChain3D, tRevT, caStr, opRepT, opAdd, opSub, opMul, opDiv, opMod, opPow, DL.opI, DL.opI0, opB0, opLt, opLe, opGt, opGtD, opLtD, opGe, opEq, opNe, opIs, opIsN, isNone, opIn, opNotIn, opIx, atD_0, atD_1, atD_2, atD_3, putD_0, unNeg, tCa1, tCa2, tCaL1, caLen, caAbs, caMax2, caMin2, caSum, caMax, caMin, caSumT, caMaxT, caMinT, caAll, caTuple, caList, caInt, tIsi, isInt, isBool, isStr, isTuple, isList, notDict, sAsg, gSet, gTupD, gLstD, gsNil, gsCons, sPar, pNil, pD, pL, setAll, tCallD, aNil, aV, aO, argS, oixs, ndp, putO, tOpL, opCat, opRep, tSlD, slD, tSlL, oNo, oE, tRevD, iLstD, iTupD, iRange1, iRange2, iZipD, iZipM, finO, tTrue, Option.map, eqv_int, eqv_bool, eqv_none, shaped_int, shaped_bool, shaped_none, tLenRange, tSortSet, tSortSetS, tSortDk, tDkGet2, tDkGetD, tDkGet2M, sDkPut, tInDk, tDkGet, iDvK, keyOf, optQ, mDkD, tFzKM, opLeS, tFind, tSplit, tJoinS, caIntS, iStrD, opMulS, tRevS, tSlO, iZipN, tLenSet, tLenSetP, tSortSetP, tCountL, tCountT, tIndexL, tIndexT, DL.tOrT, DL.tAndT, DL.tNotT, tSortRev, caSorted, iEnumL, iEnumT, tDGetV, tDGetD, tDGet2V, dictAt, sDPutV, sSetM, mDt, mDk, pM, tInN, tNotInN, tCallM, amM, amV, tListRg, iDk, iDv, iDi, tLDk, tLDv, tTruDk, mDt1, tFzM, tCall0D, tFldD, tFldR, fldD, fldL, obD, unH_hdl, obGet, setOb, putOD, sFldD, sFldL, tMethO, tAppF, tPopF, sRaise, keyB_2, keyB_3, keyB_4, decide_eq_true_eq, and_self, List.cons_append, List.nil_append, List.replicate, List.getElem?_cons_zero, List.getElem?_cons_succ, List.set_cons_zero, List.set_cons_succ, List.length_cons, List.length_nil, true_and, and_true, if_true, if_false, Bool.false_eq_true, List.contains_nil, Bool.not_false, Bool.not_true, Bool.and_self, Bool.and_true, Bool.true_and, decide_true, decide_false, beq_self_eq_true])
def tb_law_k33 (sp_law_read : SpD) (sp_law_or_refused : SpD) (sp_law_told : SpD) (sp_law_same : SpD) (sp_law_spoilt : SpD) (sp_calls_text : SpD) (sp_law_call_text : SpD) (sp_call_text : SpD) (sp_law_pick : SpD) (sp_law_drawn_calls : SpD) : TSd :=
  sSeq (sSetL 1 (tLstD (dNil)))
      (sSeq (sSet 2 (tFzD (tLstD (dCons (tK (.str "P")) (dCons (tK (.str "X")) (dCons (tK (.str "XX")) (dCons (tK (.str "1C")) (dCons (tK (.str "7N")) (dCons (tK (.str "N")) (dCons (tK (.str "1")) (dCons (tK (.str "0")) (dCons (tK (.str "8N")) (dCons (tK (.str " ")) (dCons (tK (.str "")) (dCons (tK (.str "-")) (dCons (tK (.str "p")) (dCons (tK (.str "2H")) (dCons (tK (.str "\n")) (dNil)))))))))))))))))))
      (sSeq (sFor (iRange1 (tK (.int 8))) (gSet 3) (sSeq (sSet 4 (tCallD sp_law_pick (aV (tV 0) (aO 1 (aV (tFzD (tLstD (dCons (tK (.int 1)) (dCons (tK (.int 2)) (dCons (tK (.int 4)) (dCons (tK (.int 7)) (dNil))))))) (aNil))))))
      (sSeq (sSet 5 (tCallD sp_law_drawn_calls (aV (tV 0) (aO 1 (aV (tV 4) (aV (tCallD sp_law_pick (aV (tV 0) (aO 1 (aV (tFzD (tLstD (dCons (tK (.int 0)) (dCons (tK (.int 1)) (dCons (tK (.int 4)) (dCons (tK (.int 12)) (dCons (tK (.int 20)) (dNil)))))))) (aNil))))) (aNil)))))))
      (sSeq (sFor (iTupD (tV 5)) (gSet 6) (sIf (tNotD (tTru (tCallD sp_law_same (aV (tCallD sp_call_text (aV (tV 6) (aNil))) (aV (tCallD sp_law_call_text (aV (tV 6) (aNil))) (aNil)))))) (sRet (tK (.bool false))) (sNx)))
      (sSeq (sSet 7 (tIfE (tTru (tV 5)) (tJoinS (tK (.str " ")) (tFzD (tComp (iTupD (tV 5)) (gSet 6) (tTrue) (tCallD sp_law_call_text (aV (tV 6) (aNil))) [6]))) (tK (.str "-"))))
      (sSeq (sIf (tOrD (tNotD (tTru (tCallD sp_law_same (aV (tCallD sp_calls_text (aV (tV 5) (aNil))) (aV (tV 7) (aNil)))))) (tNotD (tTru (tCallD sp_law_same (aV (tCallD sp_law_told (aV (tV 4) (aV (tV 7) (aNil)))) (aV (tV 5) (aNil))))))) (sRet (tK (.bool false))) (sNx))
      (sSeq (sSet 8 (tFzD (tOpL opCat (tFzD (tComp (iRange1 (tK (.int 10))) (gSet 10) (tTrue) (tCallD sp_law_spoilt (aV (tV 0) (aO 1 (aV (tV 7) (aV (tV 2) (aNil)))))) [10])) (tFzD (tLstD (dCons (tK (.str "")) (dCons (tK (.str "-")) (dCons (tK (.str "- -")) (dCons (tK (.str "P")) (dNil))))))))))
      (sSeq (sSet 8 (tFzD (tOpL opCat (tV 8) (tFzD (tLstD (dCons (tK (.str "X")) (dCons (tK (.str "1C 1C")) (dCons (tK (.str "7N 7C")) (dNil)))))))))
      (sSeq (sSet 8 (tFzD (tOpL opCat (tV 8) (tFzD (tLstD (dCons (tOpD opAdd (tV 7) (tK (.str " "))) (dCons (tOpD opAdd (tK (.str " ")) (tV 7)) (dCons (tOpD opAdd (tV 7) (tK (.str " P P P P"))) (dCons (tK (.str "1C X XX P P P")) (dCons (tK (.str "1C P X")) (dCons (tK (.str "0C")) (dCons (tK (.str "1Z")) (dNil)))))))))))))
      (sFor (iLstD (tFzD (tOpL opCat (tV 8) (tFzD (tLstD (dCons (tK (.str "P P P P P")) (dNil))))))) (gSet 9) (sIf (tNotD (tTru (tCallD sp_law_same (aV (tCallD sp_law_told (aV (tV 4) (aV (tV 9) (aNil)))) (aV (tCallD sp_law_or_refused (aV (tCallD sp_law_read (aV (tV 4) (aV (tV 9) (aNil)))) (aNil))) (aNil)))))) (sRet (tK (.bool false))) (sNx))))))))))))
      (sRet (tK (.bool true)))))
def spLaw : SpD := fun ss Q => ∃ ns : List Int, ss = [.d (.list (ns.map PyData.int))] ∧ ns.length ≤ 63 ∧ Q (.bool true) []
theorem sh_law : ∀ ss QD, spLaw ss QD → ss.length = 1 ∧ mpos 0 ss = [] := by rintro ss QD ⟨ns, rfl, _⟩; exact ⟨rfl, rfl⟩
def okS (s : S) : Prop := s = .un ∨ ∃ x, s = .d x
theorem okS1 {E : Env} {i : Nat} {s : S} (h : okS s) (e : E[i]? = some s) : ∀ j ∈ [i], E[j]? = some .un ∨ (∃ x, E[j]? = some (.d x)) := fun j hj => by
  cases List.mem_singleton.mp hj
  rcases h with h | ⟨x, h⟩
  · exact .inl (by rw [e, h])
  · exact .inr ⟨x, by rw [e, h]⟩
theorem datOk {s : S} (h : okS s) : datOf (some s) = s := by
  rcases h with rfl | ⟨x, rfl⟩ <;> rfl
def sgL : List Str := ["P", "X", "XX", "1C", "7N", "N", "1", "0", "8N", " ", "", "-", "p", "2H", "\n"]
theorem sgL_ok : ∀ g ∈ sgL, okT 9 g := by
  have : ∀ g ∈ sgL, PyData.strOk g = true ∧ g.length ≤ 9 := by decide +kernel
  exact fun g hg => ⟨(strOk_iff g).mp (this g hg).1, (this g hg).2⟩
theorem goW_len {L : Nat} : ∀ (ws : List Str) (pre cs : List Call), goW L pre ws = some cs → cs.length = pre.length + ws.length
  | [], pre, cs, h => by cases h; rfl
  | w :: ws, pre, cs, h => by
    unfold goW at h
    cases q : callW w with
    | none => rw [q] at h; cases h
    | some c =>
      rw [q] at h
      have h : (if c ∈ mayL L pre then goW L (pre ++ [c]) ws else none) = some cs := h
      split at h
      · have := goW_len ws _ cs h
        rw [List.length_append] at this
        rw [this, List.length_cons]; simp; omega
      · cases h
theorem readF_len {L : Nat} {t : Str} {cs : List Call} (h : readF L t = some cs) : cs.length ≤ t.length + 2 := by
  have := goW_len _ _ _ h
  rw [this]
  unfold wordsW
  split
  · simp
  · have := split_le t " "
    simp; omega
theorem told_or (L : Nat) (t : Str) : (if isNone (rowO (readF L t)) = true then PyData.str "NoText" else rowO (readF L t)) = toldT L t := by
  unfold toldT rowO
  cases readF L t with
  | none => rfl
  | some cs => rfl
theorem told_same {L : Nat} {t : Str} (h : t.length ≤ 900) : sameOk 2 (toldT L t) = true := by
  unfold toldT
  cases e : readF L t with
  | none => show PyData.strOk "NoText" = true; decide +kernel
  | some cs => exact same_row (by have := readF_len e; omega)
theorem rd_law_k33 : ∀ ss QD, spLaw ss QD → tb_law_k33 spLRead spOrR spTold (spSame 2) spSpoilt spCallsT spCallT spCallT spPick spDrawnC { nx := fun E' => finO [] E' (QD .none), rt := fun d E' => finO [] E' (QD d) } (ss ++ List.replicate 10 .un) := by
  rintro ss QD ⟨ns, rfl, hn, q⟩
  unfold tb_law_k33
  refine seq_step fun R hR => ?_
  walk_at "dl"
  refine ⟨small_line (by decide), hR _ ?_⟩
  clear hR
  refine seq_step fun R hR => ?_
  walk_at "dl"
  refine ⟨small_line (by decide), hR _ ?_⟩
  clear hR
  refine seq_step fun R hR => ?_
  refine for_inv (ds := rangeD 0 8) (E1 := [.d (.list (ns.map PyData.int)), .ol [], .d (.list (sgL.map PyData.str)), .un, .un, .un, .un, .un, .un, .un, .un]) (fun Q h => ⟨⟨by decide, by decide⟩, h⟩)
    (fun i E => ∃ t s3 s4 s5 s6 s7 s8 s9 s10, E = [.d (.list (ns.map PyData.int)), .ol t, .d (.list (sgL.map PyData.str)), s3, s4, s5, s6, s7, s8, s9, s10] ∧ TownOk t (1000 * i) ∧ okS s6 ∧ okS s10)
    ⟨[], _, _, _, _, _, _, _, _, rfl, ⟨by simp, .inl rfl⟩, .inl rfl, .inl rfl⟩ (fun i d E hd hE R2 hR2 => ?_) (fun E hE => ?_)
  · obtain ⟨t, s3, s4, s5, s6, s7, s8, s9, s10, rfl, ht, k6, k10⟩ := hE
    have hi : i < 8 := by have := (List.getElem?_eq_some_iff.mp hd).1; rwa [rangeD_length] at this
    rw [rangeD_get hi] at hd
    cases hd
    refine seq_step fun R hR => ?_
    walk_at "dl"
    refine ⟨small_line (by decide), ns, t, _, _, 1000 * i, rfl, .inl rfl, by simp, hn, ht, by omega, fun l t1 hl ht1 => ?_⟩
    obtain ⟨L, rfl, hL⟩ : ∃ L : Nat, l = .int (L : Int) ∧ L ≤ 7 := by
      simp only [List.mem_cons, List.not_mem_nil, or_false] at hl
      rcases hl with rfl | rfl | rfl | rfl
      · exact ⟨1, rfl, by decide⟩
      · exact ⟨2, rfl, by decide⟩
      · exact ⟨4, rfl, by decide⟩
      · exact ⟨7, rfl, by decide⟩
    walk_at "dl"
    refine hR _ ?_
    clear hR
    refine seq_step fun R hR => ?_
    walk_at "dl"
    refine ⟨small_line (by decide), ns, t1, _, _, 1000 * i + 2, rfl, .inl rfl, by simp, hn, ht1, by omega, fun l t2 hl ht2 => ?_⟩
    obtain ⟨M, rfl, hM⟩ : ∃ M : Nat, l = .int (M : Int) ∧ M ≤ 20 := by
      simp only [List.mem_cons, List.not_mem_nil, or_false] at hl
      rcases hl with rfl | rfl | rfl | rfl | rfl
      · exact ⟨0, rfl, by decide⟩
      · exact ⟨1, rfl, by decide⟩
      · exact ⟨4, rfl, by decide⟩
      · exact ⟨12, rfl, by decide⟩
      · exact ⟨20, rfl, by decide⟩
    walk_at "dl"
    refine ⟨ns, t2, L, M, 1000 * i + 4, rfl, by omega, by omega, hn, ht2, by omega, fun cs t3 hcs hcl ht3 => ?_⟩
    have hok := reach_ok hL hcs
    walk_at "dl"
    refine hR _ ?_
    clear hR
    refine seq_step fun R hR => ?_
    refine for_inv (ds := cs.map Call.enc) (fun Q h => h)
      (fun j E => ∃ s6, E = [.d (.list (ns.map PyData.int)), .ol t3, .d (.list (sgL.map PyData.str)), .d (.int (0 + (i : Int))), .d (.int (L : Int)), .d (rowD cs), s6, s7, s8, s9, s10] ∧ okS s6) ⟨s6, rfl, k6⟩ (fun j d E hd hE R3 hR3 => ?_) (fun E hE => ?_)
    · obtain ⟨s6, rfl, k6⟩ := hE
      rw [List.getElem?_map] at hd
      obtain ⟨c, hc, rfl⟩ := Option.map_eq_some_iff.mp hd
      have hco := hok c (List.mem_of_getElem? hc)
      walk_at "dl"
      refine ⟨c, rfl, hco, c, rfl, hco, _, rfl, (callW_all c (okC_mem hco)).2.2.1, ?_⟩
      exact ⟨trivial, hR3 _ ⟨_, rfl, .inr ⟨_, rfl⟩⟩⟩
    obtain ⟨s6, rfl, k6⟩ := hE
    refine hR _ ?_
    clear hR
    have hto := rowT_ok hok
    refine seq_step fun R hR => ?_
    have htx : R [.d (.list (ns.map PyData.int)), .ol t3, .d (.list (sgL.map PyData.str)), .d (.int (0 + (i : Int))), .d (.int (L : Int)), .d (rowD cs), s6, .d (.str (rowT cs)), s8, s9, s10] := by
      refine hR _ ?_
      clear hR
      refine seq_step fun R hR => ?_
      walk_at "dl"
      refine ⟨cs, rfl, by omega, hok, _, rfl, (strOk_iff _).mpr hto.1, ?_⟩
      have htold : toldT L (rowT cs) = rowD cs := by unfold toldT; rw [read_row hL hcs]
      refine ⟨trivial, L, rowT cs, rfl, by omega, hto.1, by have := hto.2; omega, ?_⟩
      rw [htold]
      refine ⟨_, rfl, same_row (by omega), trivial, hR _ ?_⟩
      clear hR
      refine seq_step fun R hR => ?_
      walk_at "dl"
      generalize hT : rowT cs = T at hto
      have hTo : okT 61 T := ⟨hto.1, by have := hto.2; omega⟩
      clear hto htold
      refine comp_inv (E1 := [.d (.list (ns.map PyData.int)), .ol t3, .d (.list (sgL.map PyData.str)), .d (.int (0 + (i : Int))), .d (.int (L : Int)), .d (rowD cs), s6, .d (.str T), s8, s9, s10]) (rangeD 0 10)
        (fun j acc E => ∃ (t : List D) (s10 : S) (ys : List Str), E = [.d (.list (ns.map PyData.int)), .ol t, .d (.list (sgL.map PyData.str)), .d (.int (0 + (i : Int))), .d (.int (L : Int)), .d (rowD cs), s6, .d (.str T), s8, s9, s10] ∧ okS s10 ∧ TownOk t (1000 * i + 4 + 4 * M + 10 * j) ∧ acc = ys.map PyData.str ∧ ys.length ≤ j ∧ ∀ y ∈ ys, okT 900 y)
        (fun Q h => ⟨⟨by decide, by decide⟩, h⟩) (by rw [rangeD_length]; exact small_line (by decide)) ⟨t3, s10, [], rfl, k10, ht3, rfl, Nat.le_refl _, fun _ h => nomatch h⟩ (fun j d acc E hd hE R2 hn2 hs2 => ?_) (fun acc E hE => ?_)
      · obtain ⟨t, s10, ys, rfl, k10, ht, rfl, hyl, hyo⟩ := hE
        have hj : j < 10 := by have := (List.getElem?_eq_some_iff.mp hd).1; rwa [rangeD_length] at this
        rw [rangeD_get hj] at hd
        cases hd
        walk_at "dl"
        refine ⟨ns, t, T, sgL, _, rfl, hn, ht, by omega, ⟨hTo.1, by have := hTo.2; omega⟩, by decide, sgL_ok, fun y t' hy ht' => ?_⟩
        refine hs2 _ _ ⟨t', _, ys ++ [y], rfl, .inr ⟨_, rfl⟩, ht'.mono (by omega), by rw [List.map_append]; rfl, by rw [List.length_append]; simp; omega, fun z hz => ?_⟩
        rcases List.mem_append.mp hz with hz | hz
        · exact hyo z hz
        · rw [List.mem_singleton.mp hz]; exact hy
      · obtain ⟨t, s10', ys, rfl, k10', ht, rfl, hyl, hyo⟩ := hE
        rw [rangeD_length] at hyl ht
        have e : restE [.d (.list (ns.map PyData.int)), .ol t3, .d (.list (sgL.map PyData.str)), .d (.int (0 + (i : Int))), .d (.int (L : Int)), .d (rowD cs), s6, .d (.str T), s8, s9, s10] [.d (.list (ns.map PyData.int)), .ol t, .d (.list (sgL.map PyData.str)), .d (.int (0 + (i : Int))), .d (.int (L : Int)), .d (rowD cs), s6, .d (.str T), s8, s9, s10'] [10] = [.d (.list (ns.map PyData.int)), .ol t, .d (.list (sgL.map PyData.str)), .d (.int (0 + (i : Int))), .d (.int (L : Int)), .d (rowD cs), s6, .d (.str T), s8, s9, s10] := by
          show List.set _ 10 (datOf (some s10)) = _
          rw [datOk k10]; rfl
        rw [e]
        refine ⟨small_line (by decide), small_line (by rw [List.length_map]; omega), hR _ ?_⟩
        clear hR
        refine seq_step fun R hR => ?_
        walk_at "dl"
        refine ⟨small_line (by decide), small_line (by simp; omega), hR _ ?_⟩
        clear hR
        refine seq_step fun R hR => ?_
        walk_at "dl"
        have l1 : (Str.ofString " ").length = 1 := by decide
        have l2 : (Str.ofString " P P P P").length = 8 := by decide
        have hTl := hTo.2
        refine ⟨small_line (by omega), small_line (by omega), small_line (by omega), small_line (by decide), small_line (by simp; omega), hR _ ?_⟩
        clear hR
        have hos : ∃ os : List Str, os.length ≤ 40 ∧ (∀ o ∈ os, okT 900 o) ∧ List.map PyData.str ys ++ [PyData.str "", .str "-", .str "- -", .str "P"] ++ [PyData.str "X", .str "1C 1C", .str "7N 7C"] ++ [PyData.str (T ++ " "), .str (" " ++ T), .str (T ++ " P P P P"), .str "1C X XX P P P", .str "1C P X", .str "0C", .str "1Z"] ++ [PyData.str "P P P P P"] = os.map PyData.str := by
          have hc : ∀ x ∈ ([" ", "", "-", "- -", "P", "X", "1C 1C", "7N 7C", " P P P P", "1C X XX P P P", "1C P X", "0C", "1Z", "P P P P P"] : List Str), PyData.strOk x = true ∧ x.length ≤ 20 := by decide +kernel
          have hc2 : ∀ x ∈ ([" ", "", "-", "- -", "P", "X", "1C 1C", "7N 7C", " P P P P", "1C X XX P P P", "1C P X", "0C", "1Z", "P P P P P"] : List Str), okT 900 x := fun x hx => ⟨(strOk_iff x).mp (hc x hx).1, by have := (hc x hx).2; omega⟩
          refine ⟨ys ++ (["", "-", "- -", "P"] : List Str) ++ (["X", "1C 1C", "7N 7C"] : List Str) ++ ([T ++ " ", " " ++ T, T ++ " P P P P", "1C X XX P P P", "1C P X", "0C", "1Z"] : List Str) ++ (["P P P P P"] : List Str), by simp; omega, fun o ho => ?_, by simp⟩
          simp only [List.mem_append, List.mem_cons, List.not_mem_nil, or_false] at ho
          rcases ho with (((ho | ho) | ho) | ho) | ho
          · exact hyo o ho
          · exact hc2 o (by simp only [List.mem_cons]; rcases ho with h | h | h | h <;> simp [h])
          · exact hc2 o (by simp only [List.mem_cons]; rcases ho with h | h | h <;> simp [h])
          · rcases ho with rfl | rfl | rfl | h
            · exact ⟨chOk_app hTo.1 (hc2 " " (by simp)).1, by rw [len_app]; show _ + (Str.ofString " ").length ≤ _; omega⟩
            · exact ⟨chOk_app (hc2 " " (by simp)).1 hTo.1, by rw [len_app]; show (Str.ofString " ").length + _ ≤ _; omega⟩
            · exact ⟨chOk_app hTo.1 (hc2 " P P P P" (by simp)).1, by rw [len_app]; show _ + (Str.ofString " P P P P").length ≤ _; omega⟩
            · exact hc2 o (by simp only [List.mem_cons]; rcases h with h | h | h | h <;> simp [h])
          · exact hc2 o (by simp [ho])
        obtain ⟨os, hol, hoo, hoe⟩ := hos
        refine for_inv (ds := os.map PyData.str) (E1 := [.d (.list (ns.map PyData.int)), .ol t, .d (.list (sgL.map PyData.str)), .d (.int (0 + (i : Int))), .d (.int (L : Int)), .d (rowD cs), s6, .d (.str T), .d (.list (List.map PyData.str ys ++ [PyData.str "", .str "-", .str "- -", .str "P"] ++ [PyData.str "X", .str "1C 1C", .str "7N 7C"] ++ [PyData.str (T ++ " "), .str (" " ++ T), .str (T ++ " P P P P"), .str "1C X XX P P P", .str "1C P X", .str "0C", .str "1Z"])), s9, s10])
          (fun Q h => by rw [← hoe] at h; exact ⟨small_line (by decide), small_line (by simp; omega), h⟩)
          (fun j E => ∃ s8 s9, E = [.d (.list (ns.map PyData.int)), .ol t, .d (.list (sgL.map PyData.str)), .d (.int (0 + (i : Int))), .d (.int (L : Int)), .d (rowD cs), s6, .d (.str T), s8, s9, s10]) ⟨_, _, rfl⟩ (fun j d E hd hE R3 hR3 => ?_) (fun E hE => ?_)
        · obtain ⟨s8, s9, rfl⟩ := hE
          rw [List.getElem?_map] at hd
          obtain ⟨o, ho, rfl⟩ := Option.map_eq_some_iff.mp hd
          have hoo := hoo o (List.mem_of_getElem? ho)
          walk_at "dl"
          refine ⟨L, o, rfl, by omega, hoo.1, hoo.2, L, o, rfl, by omega, hoo.1, hoo.2, _, rfl, ?_⟩
          rw [told_or]
          exact ⟨_, rfl, told_same hoo.2, trivial, hR3 _ ⟨_, _, rfl⟩⟩
        · obtain ⟨s8, s9, rfl⟩ := hE
          exact hR2 _ ⟨t, _, _, _, _, _, _, _, _, rfl, ht.mono (by omega), k6, k10⟩
    walk_at "dl"
    unfold rowT at htx
    by_cases g : cs = []
    · subst g
      exact ⟨trivial, htx⟩
    · rw [if_neg g] at htx
      have hn : (cs.map Call.enc).isEmpty = false := by
        cases cs with
        | nil => exact absurd rfl g
        | cons _ _ => rfl
      show (match some (!(cs.map Call.enc).isEmpty) with | some b => _ | none => False)
      rw [hn]
      refine ⟨trivial, ?_⟩
      refine ifT rfl ?_
      refine comp_map cs Call.enc (fun c => .str (callT c)) (fun Q h => h) (okS1 k6 rfl) (small_line (by omega)) (fun c hcc R4 h4 => ?_) ?_
      · walk_at "dl"
        exact ⟨c, rfl, hok c hcc, h4 _ rfl⟩
      · refine ⟨cs.map callT, by rw [List.map_map]; rfl, ?_, htx⟩
        have := sum_le_mul (f := fun x : Str => x.length) (l := cs.map callT) (B := 2) fun p hp => by
          obtain ⟨c, hcc, rfl⟩ := List.mem_map.mp hp
          exact (callW_all c (okC_mem (hok c hcc))).2.1
        rw [List.length_map] at this ⊢
        rw [show (Str.ofString " ").length = 1 from by decide]
        omega
  · obtain ⟨t, s3, s4, s5, s6, s7, s8, s9, s10, rfl, ht, k6, k10⟩ := hE
    refine hR _ ?_
    walk_at "dl"
    exact q
end DL
set_option Elab.async false
set_option linter.all false
set_option maxRecDepth 100000
set_option maxHeartbeats 4000000
namespace LW
open PySem PySem.Spec PyProof.Rows L2 DL
def topS (i : Nat) : Stmt := PySem.Challenge.pw_boardcalls_k33_whole_texts_of_calls.main.body.getD i (.Pass ⟨0, 0, 0, 0⟩)
section
variable {P : Program} {w : World} {K : PySem.W.Frag} {mg : Str → Option Value} {base : Heap}
abbrev s_law_all_bids : Stmt := topS 25
abbrev N_law_all_bids : List Str := ["levels", "found", "level", "strain"]
theorem sc_law_all_bids : FnScope N_law_all_bids ["levels"] (defScope s_law_all_bids) := ⟨rfl, rfl, rfl, by decide +kernel, rfl, by decide +kernel, by decide +kernel⟩
theorem dv_law_all_bids {f : Addr} {k : Nat} (b_range : mg "range" = none) (cdv : Value) (A : Around) (outer : List PySem.Env) (s : Shared) (H : Hp) (E : XK) (hr : Room k (A.deeper (envOfC "_law_all_bids" (defScope s_law_all_bids) s.heap.objs.size f cdv))) (G : Gh) (hG : G.slots = []) :
    SDs (cxOf CX0 P w K mg base N_law_all_bids "_law_all_bids" (defScope s_law_all_bids) f cdv A outer s H E).nox G (defBody s_law_all_bids) (tb_law_all_bids) := by
  unfold tb_law_all_bids
  exact sds_cons (sd_set (ns hG (by decide)) sc_law_all_bids.nd rfl (by first | exact Or.inl rfl | exact Or.inr rfl) (EL.ed (el_lst (eds_nil))))
      (sds_cons (sd_for (ms := [2]) PassesOwn.never rfl (id_range2 rfl b_range (ed_int) (ed_op od_add (ed_var 0) (ED.er (ed_int)))) (gd_name (ns hG (by decide)) (by decide) sc_law_all_bids.nd rfl (by first | exact Or.inl rfl | exact Or.inr rfl)) (sds_one (sd_set (ns hG (by decide)) sc_law_all_bids.nd rfl (by first | exact Or.inl rfl | exact Or.inr rfl) (EL.ed (el_op od_cat (ed_var 1) (ED.er (EL.ed (el_comp [("strain", 3)] rfl sc_law_all_bids.nd rfl (nsA hG (by decide)) (id_range1 rfl b_range (ed_int)) (blkOk_by (N := N_law_all_bids) (sc := defScope s_law_all_bids) (by decide +kernel)) (fun _ q1 _ _ _ _ _ => gd_name (ns (q1.trans hG) (by decide)) (by decide) sc_law_all_bids.nd rfl (by first | exact Or.inl rfl | exact Or.inr rfl)) (fun _ q1 _ _ _ _ _ => ebs_nil) (fun _ q1 _ _ _ _ _ => ed_tup (eds_cons (ed_var 2) (eds_cons (ed_var 3) (eds_nil))))))))))))
      (sds_one (sd_ret (ed_var 1))))
abbrev s_law_may_call : Stmt := topS 26
abbrev N_law_may_call : List Str := ["levels", "calls", "said", "bids", "quiet", "found", "at", "call", "bid"]
theorem sc_law_may_call : FnScope N_law_may_call ["levels", "calls"] (defScope s_law_may_call) := ⟨rfl, rfl, rfl, by decide +kernel, rfl, by decide +kernel, by decide +kernel⟩
theorem dv_law_may_call {f : Addr} {k : Nat} (b_tuple : mg "tuple" = none) (b_len : mg "len" = none) (b_isinstance : mg "isinstance" = none) (b_enumerate : mg "enumerate" = none) {sp_law_all_bids : SpD} {f_law_all_bids : Addr} {fd_law_all_bids : FuncData} {k_law_all_bids : Nat} (C_law_all_bids : FnOk P w K mg base CX0 k_law_all_bids f_law_all_bids fd_law_all_bids ["levels"] (spL K sp_law_all_bids)) (h_law_all_bids : k_law_all_bids ≤ k) (C_law_all_bids_g : mg "_law_all_bids" = some (.ref f_law_all_bids)) (C_law_all_bids_k : PySem.W.keepIn K (.ref f_law_all_bids) = true) (C_law_all_bids_b : Binds K fd_law_all_bids ["levels"] []) (cdv : Value) (A : Around) (outer : List PySem.Env) (s : Shared) (H : Hp) (E : XK) (hr : Room k (A.deeper (envOfC "_law_may_call" (defScope s_law_may_call) s.heap.objs.size f cdv))) (G : Gh) (hG : G.slots = []) :
    SDs (cxOf CX0 P w K mg base N_law_may_call "_law_may_call" (defScope s_law_may_call) f cdv A outer s H E).nox G (defBody s_law_may_call) (tb_law_may_call sp_law_all_bids) := by
  unfold tb_law_may_call
  exact sds_cons (sd_setC [("at", 6), ("call", 7)] (ns hG (by decide)) rfl sc_law_may_call.nd rfl rfl (sw_true rfl rfl rfl (by decide +kernel)) rfl (nsA hG (by decide)) (id_enumT (ed_var 1) rfl b_enumerate) (blkOk_by (N := N_law_may_call) (sc := defScope s_law_may_call) (by decide +kernel)) (fun _ q3 _ _ _ _ _ => gd_tup rfl (gds_cons (gd_name (ns (q3.trans hG) (by decide)) (by decide) sc_law_may_call.nd rfl (by first | exact Or.inl rfl | exact Or.inr rfl)) (gds_cons (gd_name (ns (q3.trans hG) (by decide)) (by decide) sc_law_may_call.nd rfl (by first | exact Or.inl rfl | exact Or.inr rfl)) (gds_nil)))) (fun _ q3 _ _ _ _ _ => ebs_one (eb_cmp (od_ne hr.units) (ed_var 7) (ED.er (ed_str)) (nomark _))) (fun _ q3 _ _ _ _ _ => ed_var 6))
      (sds_cons (sd_set (ns hG (by decide)) sc_law_may_call.nd rfl (by first | exact Or.inl rfl | exact Or.inr rfl) (EL.ed (el_comp [("call", 7)] rfl sc_law_may_call.nd rfl (nsA hG (by decide)) (id_tup (ed_var 1)) (blkOk_by (N := N_law_may_call) (sc := defScope s_law_may_call) (by decide +kernel)) (fun _ q2 _ _ _ _ _ => gd_name (ns (q2.trans hG) (by decide)) (by decide) sc_law_may_call.nd rfl (by first | exact Or.inl rfl | exact Or.inr rfl)) (fun _ q2 _ _ _ _ _ => ebs_one (eb_tru (ED.er (ed_isi isi_tuple (ed_var 7) rfl b_isinstance rfl b_tuple bb_tuple)))) (fun _ q2 _ _ _ _ _ => ed_var 7))))
      (sds_cons (sd_set (ns hG (by decide)) sc_law_may_call.nd rfl (by first | exact Or.inl rfl | exact Or.inr rfl) (ed_op od_sub (ed_op od_sub (ed_ca1 cd_len (ED.er (ed_var 1)) rfl b_len bb_len) (ED.er (ed_int))) (ED.er (ed_ix (ed_orT (ed_var 2) (ed_one (EL.ed (el_lst (eds_cons (ed_un ud_neg (ED.er (ed_int))) (eds_nil)))))) (ed_un ud_neg (ED.er (ed_int)))))))
      (sds_cons (sd_if (EW.eb (ew_or (eb_cmp (od_eq hr.units) (ed_var 4) (ED.er (ed_int)) (nomark _)) (ew_or1 (EW.eb (ew_and (eb_tru (ED.er (ed_var 2))) (ew_and1 (eb_cmp (od_eq hr.units) (ed_var 4) (ED.er (ed_int)) (nomark _)))))))) (sds_one (sd_ret (ed_tup (eds_nil)))) (sds_nil))
      (sds_cons (sd_setL (ns hG (by decide)) sc_law_may_call.nd rfl (by first | exact Or.inl rfl | exact Or.inr rfl) (el_lst (eds_cons (ed_str) (eds_nil))))
      (sds_cons (sd_if (EW.eb (ew_and (eb_tru (ED.er (ed_var 2))) (ew_and (eb_cmp (od_ne hr.units) (ed_var 4) (ED.er (ed_int)) (nomark _)) (ew_and1 (eb_cmp (od_ne hr.units) (ed_ix (ed_var 1) (ed_ix (ed_var 2) (ed_un ud_neg (ED.er (ed_int))))) (ED.er (ed_str)) (nomark _)))))) (sds_one (sd_expr (ed_app 5 (ed_if (eb_cmp (od_eq hr.units) (ed_ix (ed_var 1) (ed_ix (ed_var 2) (ed_un ud_neg (ED.er (ed_int))))) (ED.er (ed_str)) (nomark _)) (ed_str) (ed_str))))) (sds_nil))
      (sds_one (sd_ret (ed_caT1 cd_tuple (ED.er (EL.ed (el_op od_cat (ed_fzv 5) (ED.er (EL.ed (el_comp [("bid", 8)] rfl sc_law_may_call.nd rfl (nsA hG (by decide)) (id_lst (ed_call C_law_all_bids (hr.mono h_law_all_bids) rfl C_law_all_bids_g C_law_all_bids_k C_law_all_bids_b (ea_v (ed_var 0) (ea_nil)))) (blkOk_by (N := N_law_may_call) (sc := defScope s_law_may_call) (by decide +kernel)) (fun _ q1 _ _ _ _ _ => gd_name (ns (q1.trans hG) (by decide)) (by decide) sc_law_may_call.nd rfl (by first | exact Or.inl rfl | exact Or.inr rfl)) (fun _ q1 _ _ _ _ _ => ebs_one (eb_cmp (od_gtD (u65 hr)) (ed_var 8) (ED.er (ed_ix (ed_orT (ed_var 3) (ed_one (EL.ed (el_lst (eds_cons (ed_tup (eds_cons (ed_int) (eds_cons (ed_int) (eds_nil)))) (eds_nil)))))) (ed_un ud_neg (ED.er (ed_int))))) (nomark _))) (fun _ q1 _ _ _ _ _ => ed_var 8))))))) rfl b_tuple bb_tuple))))))))
abbrev s_law_read_call : Stmt := topS 29
abbrev N_law_read_call : List Str := ["word", "level", "strain"]
theorem sc_law_read_call : FnScope N_law_read_call ["word"] (defScope s_law_read_call) := ⟨rfl, rfl, rfl, by decide +kernel, rfl, by decide +kernel, by decide +kernel⟩
theorem dv_law_read_call {f : Addr} {k : Nat} (b_range : mg "range" = none) (b_str : mg "str" = none) (cdv : Value) (A : Around) (outer : List PySem.Env) (s : Shared) (H : Hp) (E : XK) (hr : Room k (A.deeper (envOfC "_law_read_call" (defScope s_law_read_call) s.heap.objs.size f cdv))) (G : Gh) (hG : G.slots = []) :
    SDs (cxOf CX0 P w K mg base N_law_read_call "_law_read_call" (defScope s_law_read_call) f cdv A outer s H E).nox G (defBody s_law_read_call) (tb_law_read_call) := by
  unfold tb_law_read_call
  exact sds_cons (sd_for (ms := [1]) PassesOwn.never rfl (id_range2 rfl b_range (ed_int) (ed_int)) (gd_name (ns hG (by decide)) (by decide) sc_law_read_call.nd rfl (by first | exact Or.inl rfl | exact Or.inr rfl)) (sds_one (sd_for (ms := [2]) PassesOwn.never rfl (id_range1 rfl b_range (ed_int)) (gd_name (ns hG (by decide)) (by decide) sc_law_read_call.nd rfl (by first | exact Or.inl rfl | exact Or.inr rfl)) (sds_one (sd_if (eb_cmp (od_eq hr.units) (ed_var 0) (ED.er (ed_op od_add (ed_caT1 cd_str (ED.er (ed_var 1)) rfl b_str bb_str) (ED.er (ed_ix (ed_str) (ed_var 2))))) (nomark _)) (sds_one (sd_ret (ed_tup (eds_cons (ed_var 1) (eds_cons (ed_var 2) (eds_nil)))))) (sds_nil))))))
      (sds_one (sd_ret (ed_dkGet2M (u65 hr) (em_disp (epp_cons (fun _ q3 => ed_str) (fun _ q3 => ed_str) (epp_cons (fun _ q2 => ed_str) (fun _ q2 => ed_str) (epp_cons (fun _ q1 => ed_str) (fun _ q1 => ed_str) (epp_nil))))) (ed_var 0) (ed_non))))
abbrev s_law_read : Stmt := topS 32
abbrev N_law_read : List Str := ["levels", "text", "calls", "word", "call"]
theorem sc_law_read : FnScope N_law_read ["levels", "text"] (defScope s_law_read) := ⟨rfl, rfl, rfl, by decide +kernel, rfl, by decide +kernel, by decide +kernel⟩
theorem dv_law_read {f : Addr} {k : Nat} (b_list : mg "list" = none) {sp_law_may_call : SpD} {f_law_may_call : Addr} {fd_law_may_call : FuncData} {k_law_may_call : Nat} (C_law_may_call : FnOk P w K mg base CX0 k_law_may_call f_law_may_call fd_law_may_call ["levels", "calls"] (spL K sp_law_may_call)) (h_law_may_call : k_law_may_call ≤ k) (C_law_may_call_g : mg "_law_may_call" = some (.ref f_law_may_call)) (C_law_may_call_k : PySem.W.keepIn K (.ref f_law_may_call) = true) (C_law_may_call_b : Binds K fd_law_may_call ["levels", "calls"] []) {sp_law_read_call : SpD} {f_law_read_call : Addr} {fd_law_read_call : FuncData} {k_law_read_call : Nat} (C_law_read_call : FnOk P w K mg base CX0 k_law_read_call f_law_read_call fd_law_read_call ["word"] (spL K sp_law_read_call)) (h_law_read_call : k_law_read_call ≤ k) (C_law_read_call_g : mg "_law_read_call" = some (.ref f_law_read_call)) (C_law_read_call_k : PySem.W.keepIn K (.ref f_law_read_call) = true) (C_law_read_call_b : Binds K fd_law_read_call ["word"] []) (cdv : Value) (A : Around) (outer : List PySem.Env) (s : Shared) (H : Hp) (E : XK) (hr : Room k (A.deeper (envOfC "_law_read" (defScope s_law_read) s.heap.objs.size f cdv))) (G : Gh) (hG : G.slots = []) :
    SDs (cxOf CX0 P w K mg base N_law_read "_law_read" (defScope s_law_read) f cdv A outer s H E).nox G (defBody s_law_read) (tb_law_read sp_law_may_call sp_law_read_call) := by
  unfold tb_law_read
  exact sds_cons (sd_set (ns hG (by decide)) sc_law_read.nd rfl (by first | exact Or.inl rfl | exact Or.inr rfl) (ed_tup (eds_nil)))
      (sds_cons (sd_for (ms := [3]) PassesOwn.never rfl (id_lst (ed_if (eb_cmp (od_ne hr.units) (ed_var 1) (ED.er (ed_str)) (nomark _)) (EL.ed (el_split (ed_var 1) (ed_str))) (EL.ed (el_lst (eds_nil))))) (gd_name (ns hG (by decide)) (by decide) sc_law_read.nd rfl (by first | exact Or.inl rfl | exact Or.inr rfl)) (sds_cons (sd_set (ns hG (by decide)) sc_law_read.nd rfl (by first | exact Or.inl rfl | exact Or.inr rfl) (ed_call C_law_read_call (hr.mono h_law_read_call) rfl C_law_read_call_g C_law_read_call_k C_law_read_call_b (ea_v (ed_var 3) (ea_nil))))
      (sds_cons (sd_if (EW.eb (ew_or (eb_cmp od_is (ed_var 4) (ED.er (ed_non)) (nomark _)) (ew_or1 (eb_cmp (od_notIn (u65 hr)) (ed_var 4) (ED.er (EL.ed (el_caT1 cd_list (ED.er (ed_call C_law_may_call (hr.mono h_law_may_call) rfl C_law_may_call_g C_law_may_call_k C_law_may_call_b (ea_v (ed_var 0) (ea_v (ed_var 2) (ea_nil))))) rfl b_list bb_list))) rfl)))) (sds_one (sd_ret (ed_non))) (sds_nil))
      (sds_one (sd_set (ns hG (by decide)) sc_law_read.nd rfl (by first | exact Or.inl rfl | exact Or.inr rfl) (ed_op od_add (ed_var 2) (ED.er (ed_tup (eds_cons (ed_var 4) (eds_nil))))))))))
      (sds_one (sd_ret (ed_var 2))))
abbrev s_law_or_refused : Stmt := topS 31
abbrev N_law_or_refused : List Str := ["found"]
theorem sc_law_or_refused : FnScope N_law_or_refused ["found"] (defScope s_law_or_refused) := ⟨rfl, rfl, rfl, by decide +kernel, rfl, by decide +kernel, by decide +kernel⟩
theorem dv_law_or_refused {f : Addr} {k : Nat} (cdv : Value) (A : Around) (outer : List PySem.Env) (s : Shared) (H : Hp) (E : XK) (hr : Room k (A.deeper (envOfC "_law_or_refused" (defScope s_law_or_refused) s.heap.objs.size f cdv))) (G : Gh) (hG : G.slots = []) :
    SDs (cxOf CX0 P w K mg base N_law_or_refused "_law_or_refused" (defScope s_law_or_refused) f cdv A outer s H E).nox G (defBody s_law_or_refused) (tb_law_or_refused) := by
  unfold tb_law_or_refused
  exact sds_one (sd_ret (ed_if (eb_cmp od_is (ed_var 0) (ED.er (ed_non)) (nomark _)) (ed_str) (ed_var 0)))
abbrev s_is_whole : Stmt := topS 1
abbrev N_is_whole : List Str := ["thing"]
theorem sc_is_whole : FnScope N_is_whole ["thing"] (defScope s_is_whole) := ⟨rfl, rfl, rfl, by decide +kernel, rfl, by decide +kernel, by decide +kernel⟩
theorem dv_is_whole {f : Addr} {k : Nat} (b_isinstance : mg "isinstance" = none) (b_int : mg "int" = none) (b_bool : mg "bool" = none) (cdv : Value) (A : Around) (outer : List PySem.Env) (s : Shared) (H : Hp) (E : XK) (hr : Room k (A.deeper (envOfC "is_whole" (defScope s_is_whole) s.heap.objs.size f cdv))) (G : Gh) (hG : G.slots = []) :
    SDs (cxOf CX0 P w K mg base N_is_whole "is_whole" (defScope s_is_whole) f cdv A outer s H E).nox G (defBody s_is_whole) (tb_is_whole) := by
  unfold tb_is_whole
  exact sds_one (sd_ret (ed_and (ed_isi isi_int (ed_var 0) rfl b_isinstance rfl b_int bb_int) (ed_one (ed_not (ed_isi isi_bool (ed_var 0) rfl b_isinstance rfl b_bool bb_bool)))))
abbrev s_is_bid : Stmt := topS 3
abbrev N_is_bid : List Str := ["levels", "thing"]
theorem sc_is_bid : FnScope N_is_bid ["levels", "thing"] (defScope s_is_bid) := ⟨rfl, rfl, rfl, by decide +kernel, rfl, by decide +kernel, by decide +kernel⟩
theorem dv_is_bid {f : Addr} {k : Nat} (b_isinstance : mg "isinstance" = none) (b_tuple : mg "tuple" = none) (b_len : mg "len" = none) {sp_is_whole : SpD} {f_is_whole : Addr} {fd_is_whole : FuncData} {k_is_whole : Nat} (C_is_whole : FnOk P w K mg base CX0 k_is_whole f_is_whole fd_is_whole ["thing"] (spL K sp_is_whole)) (h_is_whole : k_is_whole ≤ k) (C_is_whole_g : mg "is_whole" = some (.ref f_is_whole)) (C_is_whole_k : PySem.W.keepIn K (.ref f_is_whole) = true) (C_is_whole_b : Binds K fd_is_whole ["thing"] []) (cdv : Value) (A : Around) (outer : List PySem.Env) (s : Shared) (H : Hp) (E : XK) (hr : Room k (A.deeper (envOfC "is_bid" (defScope s_is_bid) s.heap.objs.size f cdv))) (G : Gh) (hG : G.slots = []) :
    SDs (cxOf CX0 P w K mg base N_is_bid "is_bid" (defScope s_is_bid) f cdv A outer s H E).nox G (defBody s_is_bid) (tb_is_bid sp_is_whole) := by
  unfold tb_is_bid
  exact sds_cons (sd_if (EW.eb (ew_or (eb_not (eb_tru (ED.er (ed_isi isi_tuple (ed_var 1) rfl b_isinstance rfl b_tuple bb_tuple)))) (ew_or (eb_cmp (od_ne hr.units) (ed_ca1 cd_len (ED.er (ed_var 1)) rfl b_len bb_len) (ED.er (ed_int)) (nomark _)) (ew_or (eb_not (eb_tru (ED.er (ed_call C_is_whole (hr.mono h_is_whole) rfl C_is_whole_g C_is_whole_k C_is_whole_b (ea_v (ed_ix (ed_var 1) (ed_int)) (ea_nil)))))) (ew_or1 (eb_not (eb_tru (ED.er (ed_call C_is_whole (hr.mono h_is_whole) rfl C_is_whole_g C_is_whole_k C_is_whole_b (ea_v (ed_ix (ed_var 1) (ed_int)) (ea_nil))))))))))) (sds_one (sd_ret (ed_bl))) (sds_nil))
      (sds_one (sd_ret (ed_and (ed_chain od_le od_le (ed_int) (ed_ix (ed_var 1) (ed_int)) (ed_var 0)) (ed_one (ed_chain od_le od_le (ed_int) (ed_ix (ed_var 1) (ed_int)) (ed_int))))))
abbrev s_is_call : Stmt := topS 4
abbrev N_is_call : List Str := ["levels", "thing"]
theorem sc_is_call : FnScope N_is_call ["levels", "thing"] (defScope s_is_call) := ⟨rfl, rfl, rfl, by decide +kernel, rfl, by decide +kernel, by decide +kernel⟩
theorem dv_is_call {f : Addr} {k : Nat} (b_isinstance : mg "isinstance" = none) (b_str : mg "str" = none) {sp_is_bid : SpD} {f_is_bid : Addr} {fd_is_bid : FuncData} {k_is_bid : Nat} (C_is_bid : FnOk P w K mg base CX0 k_is_bid f_is_bid fd_is_bid ["levels", "thing"] (spL K sp_is_bid)) (h_is_bid : k_is_bid ≤ k) (C_is_bid_g : mg "is_bid" = some (.ref f_is_bid)) (C_is_bid_k : PySem.W.keepIn K (.ref f_is_bid) = true) (C_is_bid_b : Binds K fd_is_bid ["levels", "thing"] []) (cdv : Value) (A : Around) (outer : List PySem.Env) (s : Shared) (H : Hp) (E : XK) (hr : Room k (A.deeper (envOfC "is_call" (defScope s_is_call) s.heap.objs.size f cdv))) (G : Gh) (hG : G.slots = []) :
    SDs (cxOf CX0 P w K mg base N_is_call "is_call" (defScope s_is_call) f cdv A outer s H E).nox G (defBody s_is_call) (tb_is_call sp_is_bid) := by
  unfold tb_is_call
  exact sds_cons (sd_if (eb_tru (ED.er (ed_isi isi_str (ed_var 1) rfl b_isinstance rfl b_str bb_str))) (sds_one (sd_ret (ed_cmp (od_in (u65 hr)) (ed_var 1) (ED.er (ed_tup (eds_cons (ed_str) (eds_cons (ed_str) (eds_cons (ed_str) (eds_nil)))))) rfl))) (sds_nil))
      (sds_one (sd_ret (ed_call C_is_bid (hr.mono h_is_bid) rfl C_is_bid_g C_is_bid_k C_is_bid_b (ea_v (ed_var 0) (ea_v (ed_var 1) (ea_nil))))))
abbrev s_all_bids : Stmt := topS 8
abbrev N_all_bids : List Str := ["levels", "found", "level", "strain"]
theorem sc_all_bids : FnScope N_all_bids ["levels"] (defScope s_all_bids) := ⟨rfl, rfl, rfl, by decide +kernel, rfl, by decide +kernel, by decide +kernel⟩
theorem dv_all_bids {f : Addr} {k : Nat} (b_range : mg "range" = none) (cdv : Value) (A : Around) (outer : List PySem.Env) (s : Shared) (H : Hp) (E : XK) (hr : Room k (A.deeper (envOfC "all_bids" (defScope s_all_bids) s.heap.objs.size f cdv))) (G : Gh) (hG : G.slots = []) :
    SDs (cxOf CX0 P w K mg base N_all_bids "all_bids" (defScope s_all_bids) f cdv A outer s H E).nox G (defBody s_all_bids) (tb_all_bids) := by
  unfold tb_all_bids
  exact sds_cons (sd_setL (ns hG (by decide)) sc_all_bids.nd rfl (by first | exact Or.inl rfl | exact Or.inr rfl) (el_lst (eds_nil)))
      (sds_cons (sd_for (ms := [2]) PassesOwn.never rfl (id_range2 rfl b_range (ed_int) (ed_op od_add (ed_var 0) (ED.er (ed_int)))) (gd_name (ns hG (by decide)) (by decide) sc_all_bids.nd rfl (by first | exact Or.inl rfl | exact Or.inr rfl)) (sds_one (sd_expr (ed_extd 1 (el_comp [("strain", 3)] rfl sc_all_bids.nd rfl (nsA hG (by decide)) (id_range1 rfl b_range (ed_int)) (blkOk_by (N := N_all_bids) (sc := defScope s_all_bids) (by decide +kernel)) (fun _ q1 _ _ _ _ _ => gd_name (ns (q1.trans hG) (by decide)) (by decide) sc_all_bids.nd rfl (by first | exact Or.inl rfl | exact Or.inr rfl)) (fun _ q1 _ _ _ _ _ => ebs_nil) (fun _ q1 _ _ _ _ _ => ed_tup (eds_cons (ed_var 2) (eds_cons (ed_var 3) (eds_nil)))))))))
      (sds_one (sd_ret (ed_fzv 1))))
abbrev s_last_but_pass : Stmt := topS 6
abbrev N_last_but_pass : List Str := ["calls", "found", "number", "call"]
theorem sc_last_but_pass : FnScope N_last_but_pass ["calls"] (defScope s_last_but_pass) := ⟨rfl, rfl, rfl, by decide +kernel, rfl, by decide +kernel, by decide +kernel⟩
theorem dv_last_but_pass {f : Addr} {k : Nat} (b_enumerate : mg "enumerate" = none) (cdv : Value) (A : Around) (outer : List PySem.Env) (s : Shared) (H : Hp) (E : XK) (hr : Room k (A.deeper (envOfC "last_but_pass" (defScope s_last_but_pass) s.heap.objs.size f cdv))) (G : Gh) (hG : G.slots = []) :
    SDs (cxOf CX0 P w K mg base N_last_but_pass "last_but_pass" (defScope s_last_but_pass) f cdv A outer s H E).nox G (defBody s_last_but_pass) (tb_last_but_pass) := by
  unfold tb_last_but_pass
  exact sds_cons (sd_set (ns hG (by decide)) sc_last_but_pass.nd rfl (by first | exact Or.inl rfl | exact Or.inr rfl) (ed_non))
      (sds_cons (sd_for (ms := [2, 3]) PassesOwn.never rfl (id_enumT (ed_var 0) rfl b_enumerate) (gd_tup rfl (gds_cons (gd_name (ns hG (by decide)) (by decide) sc_last_but_pass.nd rfl (by first | exact Or.inl rfl | exact Or.inr rfl)) (gds_cons (gd_name (ns hG (by decide)) (by decide) sc_last_but_pass.nd rfl (by first | exact Or.inl rfl | exact Or.inr rfl)) (gds_nil)))) (sds_one (sd_if (eb_cmp (od_ne hr.units) (ed_var 3) (ED.er (ed_str)) (nomark _)) (sds_one (sd_set (ns hG (by decide)) sc_last_but_pass.nd rfl (by first | exact Or.inl rfl | exact Or.inr rfl) (ed_var 2))) (sds_nil))))
      (sds_one (sd_ret (ed_var 1))))
abbrev s_last_bid : Stmt := topS 7
abbrev N_last_bid : List Str := ["calls", "found", "number", "call"]
theorem sc_last_bid : FnScope N_last_bid ["calls"] (defScope s_last_bid) := ⟨rfl, rfl, rfl, by decide +kernel, rfl, by decide +kernel, by decide +kernel⟩
theorem dv_last_bid {f : Addr} {k : Nat} (b_enumerate : mg "enumerate" = none) (b_isinstance : mg "isinstance" = none) (b_tuple : mg "tuple" = none) (cdv : Value) (A : Around) (outer : List PySem.Env) (s : Shared) (H : Hp) (E : XK) (hr : Room k (A.deeper (envOfC "last_bid" (defScope s_last_bid) s.heap.objs.size f cdv))) (G : Gh) (hG : G.slots = []) :
    SDs (cxOf CX0 P w K mg base N_last_bid "last_bid" (defScope s_last_bid) f cdv A outer s H E).nox G (defBody s_last_bid) (tb_last_bid) := by
  unfold tb_last_bid
  exact sds_cons (sd_set (ns hG (by decide)) sc_last_bid.nd rfl (by first | exact Or.inl rfl | exact Or.inr rfl) (ed_non))
      (sds_cons (sd_for (ms := [2, 3]) PassesOwn.never rfl (id_enumT (ed_var 0) rfl b_enumerate) (gd_tup rfl (gds_cons (gd_name (ns hG (by decide)) (by decide) sc_last_bid.nd rfl (by first | exact Or.inl rfl | exact Or.inr rfl)) (gds_cons (gd_name (ns hG (by decide)) (by decide) sc_last_bid.nd rfl (by first | exact Or.inl rfl | exact Or.inr rfl)) (gds_nil)))) (sds_one (sd_if (eb_tru (ED.er (ed_isi isi_tuple (ed_var 3) rfl b_isinstance rfl b_tuple bb_tuple))) (sds_one (sd_set (ns hG (by decide)) sc_last_bid.nd rfl (by first | exact Or.inl rfl | exact Or.inr rfl) (ed_var 2))) (sds_nil))))
      (sds_one (sd_ret (ed_var 1))))
abbrev s_is_over : Stmt := topS 5
abbrev N_is_over : List Str := ["calls"]
theorem sc_is_over : FnScope N_is_over ["calls"] (defScope s_is_over) := ⟨rfl, rfl, rfl, by decide +kernel, rfl, by decide +kernel, by decide +kernel⟩
theorem dv_is_over {f : Addr} {k : Nat} (b_len : mg "len" = none) (cdv : Value) (A : Around) (outer : List PySem.Env) (s : Shared) (H : Hp) (E : XK) (hr : Room k (A.deeper (envOfC "is_over" (defScope s_is_over) s.heap.objs.size f cdv))) (G : Gh) (hG : G.slots = []) :
    SDs (cxOf CX0 P w K mg base N_is_over "is_over" (defScope s_is_over) f cdv A outer s H E).nox G (defBody s_is_over) (tb_is_over) := by
  unfold tb_is_over
  exact sds_one (sd_ret (ed_and (ed_cmp od_ge (ed_ca1 cd_len (ED.er (ed_var 0)) rfl b_len bb_len) (ED.er (ed_int)) (nomark _)) (ed_one (ed_cmp (od_eq hr.units) (ed_sl (ed_var 0) (eo_e (ed_un ud_neg (ED.er (ed_int)))) (eo_no)) (ED.er (ed_tup (eds_cons (ed_str) (eds_cons (ed_str) (eds_cons (ed_str) (eds_nil)))))) (nomark _)))))
abbrev s_may_call : Stmt := topS 9
abbrev N_may_call : List Str := ["levels", "calls", "found", "last", "bid", "one"]
theorem sc_may_call : FnScope N_may_call ["levels", "calls"] (defScope s_may_call) := ⟨rfl, rfl, rfl, by decide +kernel, rfl, by decide +kernel, by decide +kernel⟩
theorem dv_may_call {f : Addr} {k : Nat} (b_tuple : mg "tuple" = none) (b_len : mg "len" = none) (b_isinstance : mg "isinstance" = none) {sp_all_bids : SpD} {f_all_bids : Addr} {fd_all_bids : FuncData} {k_all_bids : Nat} (C_all_bids : FnOk P w K mg base CX0 k_all_bids f_all_bids fd_all_bids ["levels"] (spL K sp_all_bids)) (h_all_bids : k_all_bids ≤ k) (C_all_bids_g : mg "all_bids" = some (.ref f_all_bids)) (C_all_bids_k : PySem.W.keepIn K (.ref f_all_bids) = true) (C_all_bids_b : Binds K fd_all_bids ["levels"] []) {sp_last_but_pass : SpD} {f_last_but_pass : Addr} {fd_last_but_pass : FuncData} {k_last_but_pass : Nat} (C_last_but_pass : FnOk P w K mg base CX0 k_last_but_pass f_last_but_pass fd_last_but_pass ["calls"] (spL K sp_last_but_pass)) (h_last_but_pass : k_last_but_pass ≤ k) (C_last_but_pass_g : mg "last_but_pass" = some (.ref f_last_but_pass)) (C_last_but_pass_k : PySem.W.keepIn K (.ref f_last_but_pass) = true) (C_last_but_pass_b : Binds K fd_last_but_pass ["calls"] []) {sp_last_bid : SpD} {f_last_bid : Addr} {fd_last_bid : FuncData} {k_last_bid : Nat} (C_last_bid : FnOk P w K mg base CX0 k_last_bid f_last_bid fd_last_bid ["calls"] (spL K sp_last_bid)) (h_last_bid : k_last_bid ≤ k) (C_last_bid_g : mg "last_bid" = some (.ref f_last_bid)) (C_last_bid_k : PySem.W.keepIn K (.ref f_last_bid) = true) (C_last_bid_b : Binds K fd_last_bid ["calls"] []) {sp_is_over : SpD} {f_is_over : Addr} {fd_is_over : FuncData} {k_is_over : Nat} (C_is_over : FnOk P w K mg base CX0 k_is_over f_is_over fd_is_over ["calls"] (spL K sp_is_over)) (h_is_over : k_is_over ≤ k) (C_is_over_g : mg "is_over" = some (.ref f_is_over)) (C_is_over_k : PySem.W.keepIn K (.ref f_is_over) = true) (C_is_over_b : Binds K fd_is_over ["calls"] []) (cdv : Value) (A : Around) (outer : List PySem.Env) (s : Shared) (H : Hp) (E : XK) (hr : Room k (A.deeper (envOfC "may_call" (defScope s_may_call) s.heap.objs.size f cdv))) (G : Gh) (hG : G.slots = []) :
    SDs (cxOf CX0 P w K mg base N_may_call "may_call" (defScope s_may_call) f cdv A outer s H E).nox G (defBody s_may_call) (tb_may_call sp_all_bids sp_last_but_pass sp_last_bid sp_is_over) := by
  unfold tb_may_call
  exact sds_cons (sd_if (eb_tru (ED.er (ed_call C_is_over (hr.mono h_is_over) rfl C_is_over_g C_is_over_k C_is_over_b (ea_v (ed_var 1) (ea_nil))))) (sds_one (sd_ret (ed_tup (eds_nil)))) (sds_nil))
      (sds_cons (sd_setL (ns hG (by decide)) sc_may_call.nd rfl (by first | exact Or.inl rfl | exact Or.inr rfl) (el_lst (eds_cons (ed_str) (eds_nil))))
      (sds_cons (sd_parC (nsA hG (by decide)) rfl (by decide) (eps_d (ed_call C_last_but_pass (hr.mono h_last_but_pass) rfl C_last_but_pass_g C_last_but_pass_k C_last_but_pass_b (ea_v (ed_var 1) (ea_nil))) (eps_d (ed_call C_last_bid (hr.mono h_last_bid) rfl C_last_bid_g C_last_bid_k C_last_bid_b (ea_v (ed_var 1) (ea_nil))) (eps_nil))) rfl (pgs_nS sc_may_call.nd rfl (by first | exact Or.inl rfl | exact Or.inr rfl) (pgs_nS sc_may_call.nd rfl (by first | exact Or.inl rfl | exact Or.inr rfl) (pgs_n0))))
      (sds_cons (sd_if (EW.eb (ew_and (eb_cmp od_isN (ed_var 3) (ED.er (ed_non)) (nomark _)) (ew_and1 (eb_cmp (od_eq hr.units) (ed_op od_mod (ed_op od_sub (ed_ca1 cd_len (ED.er (ed_var 1)) rfl b_len bb_len) (ED.er (ed_var 3))) (ED.er (ed_int))) (ED.er (ed_int)) (nomark _))))) (sds_one (sd_if (eb_tru (ED.er (ed_isi isi_tuple (ed_ix (ed_var 1) (ed_var 3)) rfl b_isinstance rfl b_tuple bb_tuple))) (sds_one (sd_expr (ed_app 2 (ed_str)))) (sds_one (sd_if (eb_cmp (od_eq hr.units) (ed_ix (ed_var 1) (ed_var 3)) (ED.er (ed_str)) (nomark _)) (sds_one (sd_expr (ed_app 2 (ed_str)))) (sds_nil))))) (sds_nil))
      (sds_one (sd_ret (ed_caT1 cd_tuple (ED.er (EL.ed (el_op od_cat (ed_fzv 2) (ED.er (EL.ed (el_comp [("one", 5)] rfl sc_may_call.nd rfl (nsA hG (by decide)) (id_lst (ed_call C_all_bids (hr.mono h_all_bids) rfl C_all_bids_g C_all_bids_k C_all_bids_b (ea_v (ed_var 0) (ea_nil)))) (blkOk_by (N := N_may_call) (sc := defScope s_may_call) (by decide +kernel)) (fun _ q1 _ _ _ _ _ => gd_name (ns (q1.trans hG) (by decide)) (by decide) sc_may_call.nd rfl (by first | exact Or.inl rfl | exact Or.inr rfl)) (fun _ q1 _ _ _ _ _ => ebs_one (EW.eb (ew_or (eb_cmp od_is (ed_var 4) (ED.er (ed_non)) (nomark _)) (ew_or1 (eb_cmp (od_gtD (u65 hr)) (ed_var 5) (ED.er (ed_ix (ed_var 1) (ed_var 4))) (nomark _)))))) (fun _ q1 _ _ _ _ _ => ed_var 5))))))) rfl b_tuple bb_tuple))))))
abbrev s_calls_fault : Stmt := topS 10
abbrev N_calls_fault : List Str := ["levels", "calls", "number", "call"]
theorem sc_calls_fault : FnScope N_calls_fault ["levels", "calls"] (defScope s_calls_fault) := ⟨rfl, rfl, rfl, by decide +kernel, rfl, by decide +kernel, by decide +kernel⟩
theorem dv_calls_fault {f : Addr} {k : Nat} (b_enumerate : mg "enumerate" = none) {sp_is_call : SpD} {f_is_call : Addr} {fd_is_call : FuncData} {k_is_call : Nat} (C_is_call : FnOk P w K mg base CX0 k_is_call f_is_call fd_is_call ["levels", "thing"] (spL K sp_is_call)) (h_is_call : k_is_call ≤ k) (C_is_call_g : mg "is_call" = some (.ref f_is_call)) (C_is_call_k : PySem.W.keepIn K (.ref f_is_call) = true) (C_is_call_b : Binds K fd_is_call ["levels", "thing"] []) {sp_may_call : SpD} {f_may_call : Addr} {fd_may_call : FuncData} {k_may_call : Nat} (C_may_call : FnOk P w K mg base CX0 k_may_call f_may_call fd_may_call ["levels", "calls"] (spL K sp_may_call)) (h_may_call : k_may_call ≤ k) (C_may_call_g : mg "may_call" = some (.ref f_may_call)) (C_may_call_k : PySem.W.keepIn K (.ref f_may_call) = true) (C_may_call_b : Binds K fd_may_call ["levels", "calls"] []) (cdv : Value) (A : Around) (outer : List PySem.Env) (s : Shared) (H : Hp) (E : XK) (hr : Room k (A.deeper (envOfC "calls_fault" (defScope s_calls_fault) s.heap.objs.size f cdv))) (G : Gh) (hG : G.slots = []) :
    SDs (cxOf CX0 P w K mg base N_calls_fault "calls_fault" (defScope s_calls_fault) f cdv A outer s H E).nox G (defBody s_calls_fault) (tb_calls_fault sp_is_call sp_may_call) := by
  unfold tb_calls_fault
  exact sds_cons (sd_for (ms := [2, 3]) PassesOwn.never rfl (id_enumT (ed_var 1) rfl b_enumerate) (gd_tup rfl (gds_cons (gd_name (ns hG (by decide)) (by decide) sc_calls_fault.nd rfl (by first | exact Or.inl rfl | exact Or.inr rfl)) (gds_cons (gd_name (ns hG (by decide)) (by decide) sc_calls_fault.nd rfl (by first | exact Or.inl rfl | exact Or.inr rfl)) (gds_nil)))) (sds_one (sd_if (EW.eb (ew_or (eb_not (eb_tru (ED.er (ed_call C_is_call (hr.mono h_is_call) rfl C_is_call_g C_is_call_k C_is_call_b (ea_v (ed_var 0) (ea_v (ed_var 3) (ea_nil))))))) (ew_or1 (eb_cmp (od_notIn (u65 hr)) (ed_var 3) (ED.er (ed_call C_may_call (hr.mono h_may_call) rfl C_may_call_g C_may_call_k C_may_call_b (ea_v (ed_var 0) (ea_v (ed_sl (ed_var 1) (eo_no) (eo_e (ed_var 2))) (ea_nil))))) rfl)))) (sds_one (sd_ret (ed_var 2))) (sds_nil))))
      (sds_one (sd_ret (ed_non)))
abbrev s_number_of : Stmt := topS 16
abbrev N_number_of : List Str := ["word", "sign"]
theorem sc_number_of : FnScope N_number_of ["word"] (defScope s_number_of) := ⟨rfl, rfl, rfl, by decide +kernel, rfl, by decide +kernel, by decide +kernel⟩
theorem dv_number_of {f : Addr} {k : Nat} (b_int : mg "int" = none) (b_len : mg "len" = none) (b_all : mg "all" = none) (b_str : mg "str" = none) {A_NoText : Addr} (x_NoText : PySem.W.excIn K A_NoText [.type "ValueError", .type "Exception", .type "BaseException", .type "object"] "ValueError.__new__" = true) (g_NoText : mg "NoText" = some (.ref A_NoText)) (k_NoText : PySem.W.keepIn K (.ref A_NoText) = true) (b_NoText : PySem.W.subIn K (.ref A_NoText) (.type "BaseException") = some true) (t_NoText : PySem.W.typeIn K (.ref A_NoText) = some (.type "type")) (cdv : Value) (A : Around) (outer : List PySem.Env) (s : Shared) (H : Hp) (E : XK) (hr : Room k (A.deeper (envOfC "number_of" (defScope s_number_of) s.heap.objs.size f cdv))) (G : Gh) (hG : G.slots = []) (WD : WDt) (hW : Wish K G WD (fun cls d _ H' => E cls d H')) :
    SDs (cxOf (L2.CX P w) P w K mg base N_number_of "number_of" (defScope s_number_of) f cdv A outer s H E) G (defBody s_number_of) (tb_number_of (.ref A_NoText) WD) := by
  unfold tb_number_of
  exact sds_cons (sd_if (EW.eb (ew_or (eb_not (eb_chain od_le od_le (ed_int) (ed_ca1 cd_len (ED.er (ed_var 0)) rfl b_len bb_len) (ed_int))) (ew_or (eb_not (eb_tru (ED.er (ed_ca1 (cd_all rfl) (ED.er (EL.ed (el_comp [("sign", 1)] rfl sc_number_of.nd rfl (nsA hG (by decide)) (id_str (ed_var 0)) (blkOk_by (N := N_number_of) (sc := defScope s_number_of) (by decide +kernel)) (fun _ q1 _ _ _ _ _ => gd_name (ns (q1.trans hG) (by decide)) (by decide) sc_number_of.nd rfl (by first | exact Or.inl rfl | exact Or.inr rfl)) (fun _ q1 _ _ _ _ _ => ebs_nil) (fun _ q1 _ _ _ _ _ => ed_chain od_leS od_leS (ed_str) (ed_var 1) (ed_str))))) rfl b_all bb_all)))) (ew_or1 (eb_cmp (od_ne hr.units) (ed_caT1 cd_str (ED.er (ed_caT1 cd_intS (ED.er (ed_var 0)) rfl b_int bb_int)) rfl b_str bb_str) (ED.er (ed_var 0)) (nomark _)))))) (sds_one (sd_raise rfl (takes_of rfl rfl rfl rfl) hW (pmk_own0 PySem.F.excBase_ValueError x_NoText g_NoText k_NoText (raises_own b_NoText t_NoText) rfl))) (sds_nil))
      (SDs.nox (sds_one (sd_ret (ed_caT1 cd_intS (ED.er (ed_var 0)) rfl b_int bb_int))))
abbrev s_call_of : Stmt := topS 18
abbrev N_call_of : List Str := ["word", "words", "call"]
theorem sc_call_of : FnScope N_call_of ["word"] (defScope s_call_of) := ⟨rfl, rfl, rfl, by decide +kernel, rfl, by decide +kernel, by decide +kernel⟩
theorem dv_call_of {f : Addr} {k : Nat} (b_len : mg "len" = none) {u_STRAINS : Value} {v_STRAINS : V} (g_STRAINS : mg "STRAINS" = some u_STRAINS) (r_STRAINS : RelV v_STRAINS u_STRAINS) (d_STRAINS : ∀ H, Rp K H c_STRAINS v_STRAINS) {sp_is_call : SpD} {f_is_call : Addr} {fd_is_call : FuncData} {k_is_call : Nat} (C_is_call : FnOk P w K mg base CX0 k_is_call f_is_call fd_is_call ["levels", "thing"] (spL K sp_is_call)) (h_is_call : k_is_call ≤ k) (C_is_call_g : mg "is_call" = some (.ref f_is_call)) (C_is_call_k : PySem.W.keepIn K (.ref f_is_call) = true) (C_is_call_b : Binds K fd_is_call ["levels", "thing"] []) {sp_number_of : SpX} {f_number_of : Addr} {fd_number_of : FuncData} {k_number_of : Nat} (C_number_of : FnOk P w K mg base (L2.CX P w) k_number_of f_number_of fd_number_of ["word"] (spLX K sp_number_of)) (h_number_of : k_number_of ≤ k) (C_number_of_g : mg "number_of" = some (.ref f_number_of)) (C_number_of_k : PySem.W.keepIn K (.ref f_number_of) = true) (C_number_of_b : Binds K fd_number_of ["word"] []) {A_NoText : Addr} (x_NoText : PySem.W.excIn K A_NoText [.type "ValueError", .type "Exception", .type "BaseException", .type "object"] "ValueError.__new__" = true) (g_NoText : mg "NoText" = some (.ref A_NoText)) (k_NoText : PySem.W.keepIn K (.ref A_NoText) = true) (b_NoText : PySem.W.subIn K (.ref A_NoText) (.type "BaseException") = some true) (t_NoText : PySem.W.typeIn K (.ref A_NoText) = some (.type "type")) (cdv : Value) (A : Around) (outer : List PySem.Env) (s : Shared) (H : Hp) (E : XK) (hr : Room k (A.deeper (envOfC "call_of" (defScope s_call_of) s.heap.objs.size f cdv))) (G : Gh) (hG : G.slots = []) (WD : WDt) (hW : Wish K G WD (fun cls d _ H' => E cls d H')) :
    SDs (cxOf (L2.CX P w) P w K mg base N_call_of "call_of" (defScope s_call_of) f cdv A outer s H E) G (defBody s_call_of) (tb_call_of sp_is_call sp_number_of (.ref A_NoText) WD) := by
  unfold tb_call_of
  exact sds_cons (sd_setM (ns hG (by decide)) sc_call_of.nd rfl (by first | exact Or.inl rfl | exact Or.inr rfl) (em_disp (epp_cons (fun _ q3 => ed_str) (fun _ q3 => ed_str) (epp_cons (fun _ q2 => ed_str) (fun _ q2 => ed_str) (epp_cons (fun _ q1 => ed_str) (fun _ q1 => ed_str) (epp_nil))))))
      (sds_cons (sd_if (eb_inDk 1 (u65 hr) (ed_var 0)) (sds_one (sd_ret (ed_dkGet 1 (u65 hr) (ed_var 0)))) (sds_nil))
      (sds_cons (sd_if (EW.eb (ew_or (eb_cmp (od_ne hr.units) (ed_ca1 cd_len (ED.er (ed_var 0)) rfl b_len bb_len) (ED.er (ed_int)) (nomark _)) (ew_or1 (eb_cmp od_lt (ed_find (ed_glob rfl g_STRAINS r_STRAINS d_STRAINS) (ed_ix (ed_var 0) (ed_int))) (ED.er (ed_int)) (nomark _))))) (sds_one (sd_raise rfl (takes_of rfl rfl rfl rfl) hW (pmk_own0 PySem.F.excBase_ValueError x_NoText g_NoText k_NoText (raises_own b_NoText t_NoText) rfl))) (sds_nil))
      (sds_cons (sd_set (ns hG (by decide)) sc_call_of.nd rfl (by first | exact Or.inl rfl | exact Or.inr rfl) (ed_tup (eds_cons (ed_callX C_number_of (takes_of rfl rfl rfl rfl) hW (hr.mono h_number_of) rfl C_number_of_g C_number_of_k C_number_of_b (ea_v (ed_ix (ed_var 0) (ed_int)) (ea_nil))) (eds_cons (ed_find (ed_glob rfl g_STRAINS r_STRAINS d_STRAINS) (ed_ix (ed_var 0) (ed_int))) (eds_nil)))))
      (sds_cons (sd_if (eb_not (eb_tru (ED.er (ed_call C_is_call (hr.mono h_is_call) rfl C_is_call_g C_is_call_k C_is_call_b (ea_v (ed_int) (ea_v (ed_var 2) (ea_nil))))))) (sds_one (sd_raise rfl (takes_of rfl rfl rfl rfl) hW (pmk_own0 PySem.F.excBase_ValueError x_NoText g_NoText k_NoText (raises_own b_NoText t_NoText) rfl))) (sds_nil))
      (SDs.nox (sds_one (sd_ret (ed_var 2))))))))
abbrev s_read_calls : Stmt := topS 20
abbrev N_read_calls : List Str := ["levels", "text", "calls", "word"]
theorem sc_read_calls : FnScope N_read_calls ["levels", "text"] (defScope s_read_calls) := ⟨rfl, rfl, rfl, by decide +kernel, rfl, by decide +kernel, by decide +kernel⟩
theorem dv_read_calls {f : Addr} {k : Nat} (b_tuple : mg "tuple" = none) {sp_calls_fault : SpD} {f_calls_fault : Addr} {fd_calls_fault : FuncData} {k_calls_fault : Nat} (C_calls_fault : FnOk P w K mg base CX0 k_calls_fault f_calls_fault fd_calls_fault ["levels", "calls"] (spL K sp_calls_fault)) (h_calls_fault : k_calls_fault ≤ k) (C_calls_fault_g : mg "calls_fault" = some (.ref f_calls_fault)) (C_calls_fault_k : PySem.W.keepIn K (.ref f_calls_fault) = true) (C_calls_fault_b : Binds K fd_calls_fault ["levels", "calls"] []) {sp_call_of : SpX} {f_call_of : Addr} {fd_call_of : FuncData} {k_call_of : Nat} (C_call_of : FnOk P w K mg base (L2.CX P w) k_call_of f_call_of fd_call_of ["word"] (spLX K sp_call_of)) (h_call_of : k_call_of ≤ k) (C_call_of_g : mg "call_of" = some (.ref f_call_of)) (C_call_of_k : PySem.W.keepIn K (.ref f_call_of) = true) (C_call_of_b : Binds K fd_call_of ["word"] []) {A_NoText : Addr} (x_NoText : PySem.W.excIn K A_NoText [.type "ValueError", .type "Exception", .type "BaseException", .type "object"] "ValueError.__new__" = true) (g_NoText : mg "NoText" = some (.ref A_NoText)) (k_NoText : PySem.W.keepIn K (.ref A_NoText) = true) (b_NoText : PySem.W.subIn K (.ref A_NoText) (.type "BaseException") = some true) (t_NoText : PySem.W.typeIn K (.ref A_NoText) = some (.type "type")) (cdv : Value) (A : Around) (outer : List PySem.Env) (s : Shared) (H : Hp) (E : XK) (hr : Room k (A.deeper (envOfC "read_calls" (defScope s_read_calls) s.heap.objs.size f cdv))) (G : Gh) (hG : G.slots = []) (WD : WDt) (hW : Wish K G WD (fun cls d _ H' => E cls d H')) (hE : ∀ cls E E', WD cls E → WD cls E') :
    SDs (cxOf (L2.CX P w) P w K mg base N_read_calls "read_calls" (defScope s_read_calls) f cdv A outer s H E) G (defBody s_read_calls) (tb_read_calls sp_calls_fault sp_call_of (.ref A_NoText) WD) := by
  unfold tb_read_calls
  exact sds_cons (sd_if (eb_cmp (od_eq hr.units) (ed_var 1) (ED.er (ed_str)) (nomark _)) (sds_one (sd_ret (ed_tup (eds_nil)))) (sds_nil))
      (sds_cons (sd_set (ns hG (by decide)) sc_read_calls.nd rfl (by first | exact Or.inl rfl | exact Or.inr rfl) (ed_caT1 cd_tuple (ED.er (EL.ed (el_compX (Wb := E) (te := fun WD => tCallX sp_call_of (aV (tV 3) (aNil)) WD) [("word", 3)] (takesA_of rfl rfl rfl rfl) hW hE rfl rfl rfl sc_read_calls.nd rfl (nsA hG (by decide)) (id_lst (EL.ed (el_split (ed_var 1) (ed_str)))) (blkOk_by (N := N_read_calls) (sc := defScope s_read_calls) (by decide +kernel)) (fun _ q1 _ _ _ _ _ => gd_name (ns (q1.trans hG) (by decide)) (by decide) sc_read_calls.nd rfl (by first | exact Or.inl rfl | exact Or.inr rfl)) (fun _ q1 _ _ _ _ _ => ebs_nil) (fun _ q1 WD1 hw1 _ _ _ _ _ tk1 => ed_callX C_call_of tk1 hw1 (hr.mono h_call_of) rfl C_call_of_g C_call_of_k C_call_of_b (ea_v (ed_var 3) (ea_nil)))))) rfl b_tuple bb_tuple))
      (sds_cons (sd_if (eb_cmp od_isN (ed_call C_calls_fault (hr.mono h_calls_fault) rfl C_calls_fault_g C_calls_fault_k C_calls_fault_b (ea_v (ed_var 0) (ea_v (ed_var 2) (ea_nil)))) (ED.er (ed_non)) (nomark _)) (sds_one (sd_raise rfl (takes_of rfl rfl rfl rfl) hW (pmk_own0 PySem.F.excBase_ValueError x_NoText g_NoText k_NoText (raises_own b_NoText t_NoText) rfl))) (sds_nil))
      (SDs.nox (sds_one (sd_ret (ed_var 2))))))
abbrev s_law_told : Stmt := topS 33
abbrev N_law_told : List Str := ["levels", "text", "got"]
theorem sc_law_told : FnScope N_law_told ["levels", "text"] (defScope s_law_told) := ⟨rfl, rfl, rfl, by decide +kernel, rfl, by decide +kernel, by decide +kernel⟩
theorem dv_law_told {f : Addr} {k : Nat} {sp_read_calls : SpX} {f_read_calls : Addr} {fd_read_calls : FuncData} {k_read_calls : Nat} (C_read_calls : FnOk P w K mg base (L2.CX P w) k_read_calls f_read_calls fd_read_calls ["levels", "text"] (spLX K sp_read_calls)) (h_read_calls : k_read_calls ≤ k) (C_read_calls_g : mg "read_calls" = some (.ref f_read_calls)) (C_read_calls_k : PySem.W.keepIn K (.ref f_read_calls) = true) (C_read_calls_b : Binds K fd_read_calls ["levels", "text"] []) {A_NoText : Addr} (g_NoText : mg "NoText" = some (.ref A_NoText)) {m_NoText : Value → Option Bool} (hm_NoText : ∀ cls b, m_NoText cls = some b → PySem.W.exmOne K cls (.ref A_NoText) = some b) (cdv : Value) (A : Around) (outer : List PySem.Env) (s : Shared) (H : Hp) (E : XK) (hr : Room k (A.deeper (envOfC "_law_told" (defScope s_law_told) s.heap.objs.size f cdv))) (G : Gh) (hG : G.slots = []) :
    SDs (cxOf CX0 P w K mg base N_law_told "_law_told" (defScope s_law_told) f cdv A outer s H E).nox G (defBody s_law_told) (tb_law_told sp_read_calls m_NoText) := by
  unfold tb_law_told
  exact sds_cons (sd_set (ns hG (by decide)) sc_law_told.nd rfl (by first | exact Or.inl rfl | exact Or.inr rfl) (ed_non))
      (sds_cons (sd_try (m := m_NoText) (Wo := fun _ _ => False) hm_NoText (fun _ _ _ _ h _ => h.elim) rfl rfl ⟨rfl, by decide, .inl g_NoText⟩ takes0 (fun W1 pn1 xe1 tk1 _ G1 q1 WD1 hw1 => sds_one (sd_set (ns (q1.trans hG) (by decide)) sc_law_told.nd rfl (by first | exact Or.inl rfl | exact Or.inr rfl) (ed_callX C_read_calls tk1 hw1 (hr.mono h_read_calls) rfl C_read_calls_g C_read_calls_k C_read_calls_b (ea_v (ed_var 0) (ea_v (ed_var 1) (ea_nil)))))) (fun _ _ _ => sds_one (sd_set (ns hG (by decide)) sc_law_told.nd rfl (by first | exact Or.inl rfl | exact Or.inr rfl) (ed_str))))
      (sds_one (sd_ret (ed_var 2))))
abbrev s_law_same : Stmt := topS 22
abbrev N_law_same : List Str := ["got", "due", "one", "other"]
theorem sc_law_same : FnScope N_law_same ["got", "due"] (defScope s_law_same) := ⟨rfl, rfl, rfl, by decide +kernel, rfl, by decide +kernel, by decide +kernel⟩
theorem dv_law_same {f : Addr} {k : Nat} (b_isinstance : mg "isinstance" = none) (b_int : mg "int" = none) (b_bool : mg "bool" = none) (b_str : mg "str" = none) (b_tuple : mg "tuple" = none) (b_zip : mg "zip" = none) (b_all : mg "all" = none) (b_len : mg "len" = none) {sp_law_same : SpD} {f_law_same : Addr} {fd_law_same : FuncData} {k_law_same : Nat} (C_law_same : FnOk P w K mg base CX0 k_law_same f_law_same fd_law_same ["got", "due"] (spL K sp_law_same)) (h_law_same : k_law_same ≤ k) (C_law_same_g : mg "_law_same" = some (.ref f_law_same)) (C_law_same_k : PySem.W.keepIn K (.ref f_law_same) = true) (C_law_same_b : Binds K fd_law_same ["got", "due"] []) (cdv : Value) (A : Around) (outer : List PySem.Env) (s : Shared) (H : Hp) (E : XK) (hr : Room k (A.deeper (envOfC "_law_same" (defScope s_law_same) s.heap.objs.size f cdv))) (G : Gh) (hG : G.slots = []) :
    SDs (cxOf CX0 P w K mg base N_law_same "_law_same" (defScope s_law_same) f cdv A outer s H E).nox G (defBody s_law_same) (tb_law_same sp_law_same) := by
  unfold tb_law_same
  exact sds_cons (sd_if (eb_cmp od_is (ed_var 1) (ED.er (ed_non)) (nomark _)) (sds_one (sd_ret (ed_cmp od_is (ed_var 0) (ED.er (ed_non)) (nomark _)))) (sds_nil))
      (sds_cons (sd_if (eb_tru (ED.er (ed_isi isi_bool (ed_var 1) rfl b_isinstance rfl b_bool bb_bool))) (sds_one (sd_ret (ed_and (ed_isi isi_bool (ed_var 0) rfl b_isinstance rfl b_bool bb_bool) (ed_one (ed_cmp (od_eq hr.units) (ed_var 0) (ED.er (ed_var 1)) (nomark _)))))) (sds_nil))
      (sds_cons (sd_if (eb_tru (ED.er (ed_isi isi_tuple (ed_var 1) rfl b_isinstance rfl b_tuple bb_tuple))) (sds_cons (sd_if (EW.eb (ew_or (eb_not (eb_tru (ED.er (ed_isi isi_tuple (ed_var 0) rfl b_isinstance rfl b_tuple bb_tuple)))) (ew_or1 (eb_cmp (od_ne hr.units) (ed_ca1 cd_len (ED.er (ed_var 0)) rfl b_len bb_len) (ED.er (ed_ca1 cd_len (ED.er (ed_var 1)) rfl b_len bb_len)) (nomark _))))) (sds_one (sd_ret (ed_bl))) (sds_nil))
      (sds_one (sd_ret (ed_ca1 (cd_all rfl) (ED.er (EL.ed (el_comp [("one", 2), ("other", 3)] rfl sc_law_same.nd rfl (nsA hG (by decide)) (id_zip (ed_var 0) (ed_var 1) rfl b_zip) (blkOk_by (N := N_law_same) (sc := defScope s_law_same) (by decide +kernel)) (fun _ q1 _ _ _ _ _ => gd_tup rfl (gds_cons (gd_name (ns (q1.trans hG) (by decide)) (by decide) sc_law_same.nd rfl (by first | exact Or.inl rfl | exact Or.inr rfl)) (gds_cons (gd_name (ns (q1.trans hG) (by decide)) (by decide) sc_law_same.nd rfl (by first | exact Or.inl rfl | exact Or.inr rfl)) (gds_nil)))) (fun _ q1 _ _ _ _ _ => ebs_nil) (fun _ q1 _ _ _ _ _ => ed_call C_law_same (hr.mono h_law_same) rfl C_law_same_g C_law_same_k C_law_same_b (ea_v (ed_var 2) (ea_v (ed_var 3) (ea_nil))))))) rfl b_all bb_all)))) (sds_nil))
      (sds_cons (sd_if (eb_tru (ED.er (ed_isi isi_str (ed_var 1) rfl b_isinstance rfl b_str bb_str))) (sds_one (sd_ret (ed_and (ed_isi isi_str (ed_var 0) rfl b_isinstance rfl b_str bb_str) (ed_one (ed_cmp (od_eq hr.units) (ed_var 0) (ED.er (ed_var 1)) (nomark _)))))) (sds_nil))
      (sds_one (sd_ret (ed_and (ed_isi isi_int (ed_var 0) rfl b_isinstance rfl b_int bb_int) (ed_and (ed_not (ed_isi isi_bool (ed_var 0) rfl b_isinstance rfl b_bool bb_bool)) (ed_one (ed_cmp (od_eq hr.units) (ed_var 0) (ED.er (ed_var 1)) (nomark _))))))))))
abbrev s_law_draw : Stmt := topS 23
abbrev N_law_draw : List Str := ["script", "town", "many", "k", "cell", "digits", "number", "more"]
theorem sc_law_draw : FnScope N_law_draw ["script", "town", "many"] (defScope s_law_draw) := ⟨rfl, rfl, rfl, by decide +kernel, rfl, by decide +kernel, by decide +kernel⟩
theorem dv_law_draw {f : Addr} {k : Nat} (b_len : mg "len" = none) (b_abs : mg "abs" = none) (b_max : mg "max" = none) (cdv : Value) (A : Around) (outer : List PySem.Env) (s : Shared) (H : Hp) (E : XK) (hr : Room k (A.deeper (envOfC "_law_draw" (defScope s_law_draw) s.heap.objs.size f cdv))) (G : Gh) (hG : G.slots = [1]) :
    SDs (cxOf CX0 P w K mg base N_law_draw "_law_draw" (defScope s_law_draw) f cdv A outer s H E).nox G (defBody s_law_draw) (tb_law_draw) := by
  unfold tb_law_draw
  exact sds_cons (sd_if (eb_not (eb_tru (er_var 1))) (sds_one (sd_expr (ed_app 1 (ed_ca1 (cd_max rfl) (ED.er (EL.ed (el_op od_cat (EL.ed (el_comp [("cell", 4)] rfl sc_law_draw.nd rfl (nsA hG (by decide)) (id_lst (ed_var 0)) (blkOk_by (N := N_law_draw) (sc := defScope s_law_draw) (by decide +kernel)) (fun _ q1 _ _ _ _ _ => gd_name (ns (q1.trans hG) (by decide)) (by decide) sc_law_draw.nd rfl (by first | exact Or.inl rfl | exact Or.inr rfl)) (fun _ q1 _ _ _ _ _ => ebs_nil) (fun _ q1 _ _ _ _ _ => ed_ca1 cd_abs (ED.er (ed_var 4)) rfl b_abs bb_abs))) (ED.er (EL.ed (el_lst (eds_cons (ed_int) (eds_nil)))))))) rfl b_max bb_max)))) (sds_nil))
      (sds_cons (sd_expr (ed_app 1 (ed_int)))
      (sds_cons (sd_set (ns hG (by decide)) sc_law_draw.nd rfl (by first | exact Or.inl rfl | exact Or.inr rfl) (ed_ca1 cd_len (er_var 1) rfl b_len bb_len))
      (sds_cons (sd_set (ns hG (by decide)) sc_law_draw.nd rfl (by first | exact Or.inl rfl | exact Or.inr rfl) (ed_if (eb_tru (ED.er (ed_var 0))) (ed_ix (ed_var 0) (ed_op od_mod (ed_var 3) (ED.er (ed_ca1 cd_len (ED.er (ed_var 0)) rfl b_len bb_len)))) (ed_int)))
      (sds_cons (sd_set (ns hG (by decide)) sc_law_draw.nd rfl (by first | exact Or.inl rfl | exact Or.inr rfl) (ed_op od_mod (ed_ixO 1 (ed_int)) (ED.er (ed_int))))
      (sds_cons (sd_setIx 1 (ed_int) (ed_op od_div (ed_ixO 1 (ed_int)) (ED.er (ed_int))))
      (sds_cons (sd_set (ns hG (by decide)) sc_law_draw.nd rfl (by first | exact Or.inl rfl | exact Or.inr rfl) (ed_op od_mod (ed_op od_add (ed_op od_add (ed_var 4) (ED.er (ed_op od_mul (ed_int) (ED.er (ed_var 5))))) (ED.er (ed_op od_mul (ed_int) (ED.er (ed_var 3))))) (ED.er (ed_int))))
      (sds_cons (sd_set (ns hG (by decide)) sc_law_draw.nd rfl (by first | exact Or.inl rfl | exact Or.inr rfl) (ed_op od_mod (ed_op od_mul (ed_op od_mod (ed_op od_mul (ed_var 6) (ED.er (ed_var 6))) (ED.er (ed_int))) (ED.er (ed_int))) (ED.er (ed_int))))
      (sds_cons (sd_set (ns hG (by decide)) sc_law_draw.nd rfl (by first | exact Or.inl rfl | exact Or.inr rfl) (ed_op od_mod (ed_op od_mul (ed_op od_mod (ed_op od_mul (ed_var 6) (ED.er (ed_var 6))) (ED.er (ed_int))) (ED.er (ed_int))) (ED.er (ed_int))))
      (sds_one (sd_ret (ed_op od_mod (ed_op od_add (ed_op od_mul (ed_op od_div (ed_var 6) (ED.er (ed_int))) (ED.er (ed_int))) (ED.er (ed_op od_div (ed_var 7) (ED.er (ed_int))))) (ED.er (ed_var 2)))))))))))))
abbrev s_law_pick : Stmt := topS 24
abbrev N_law_pick : List Str := ["script", "town", "some"]
theorem sc_law_pick : FnScope N_law_pick ["script", "town", "some"] (defScope s_law_pick) := ⟨rfl, rfl, rfl, by decide +kernel, rfl, by decide +kernel, by decide +kernel⟩
theorem dv_law_pick {f : Addr} {k : Nat} (b_len : mg "len" = none) {sp_law_draw : SpD} {f_law_draw : Addr} {fd_law_draw : FuncData} {k_law_draw : Nat} (C_law_draw : FnOk P w K mg base CX0 k_law_draw f_law_draw fd_law_draw ["script", "town", "many"] (spL K sp_law_draw)) (h_law_draw : k_law_draw ≤ k) (C_law_draw_g : mg "_law_draw" = some (.ref f_law_draw)) (C_law_draw_k : PySem.W.keepIn K (.ref f_law_draw) = true) (C_law_draw_b : Binds K fd_law_draw ["script", "town", "many"] []) (cdv : Value) (A : Around) (outer : List PySem.Env) (s : Shared) (H : Hp) (E : XK) (hr : Room k (A.deeper (envOfC "_law_pick" (defScope s_law_pick) s.heap.objs.size f cdv))) (G : Gh) (hG : G.slots = [1]) :
    SDs (cxOf CX0 P w K mg base N_law_pick "_law_pick" (defScope s_law_pick) f cdv A outer s H E).nox G (defBody s_law_pick) (tb_law_pick sp_law_draw) := by
  unfold tb_law_pick
  exact sds_one (sd_ret (ed_ix (ed_var 2) (ed_call C_law_draw (hr.mono h_law_draw) rfl C_law_draw_g C_law_draw_k C_law_draw_b (ea_v (ed_var 0) (ea_o 1 (ea_v (ed_ca1 cd_len (ED.er (ed_var 2)) rfl b_len bb_len) (ea_nil)))))))
abbrev s_law_spoilt : Stmt := topS 30
abbrev N_law_spoilt : List Str := ["script", "town", "text", "signs", "at", "way", "sign", "words", "spot"]
theorem sc_law_spoilt : FnScope N_law_spoilt ["script", "town", "text", "signs"] (defScope s_law_spoilt) := ⟨rfl, rfl, rfl, by decide +kernel, rfl, by decide +kernel, by decide +kernel⟩
theorem dv_law_spoilt {f : Addr} {k : Nat} (b_len : mg "len" = none) {sp_law_draw : SpD} {f_law_draw : Addr} {fd_law_draw : FuncData} {k_law_draw : Nat} (C_law_draw : FnOk P w K mg base CX0 k_law_draw f_law_draw fd_law_draw ["script", "town", "many"] (spL K sp_law_draw)) (h_law_draw : k_law_draw ≤ k) (C_law_draw_g : mg "_law_draw" = some (.ref f_law_draw)) (C_law_draw_k : PySem.W.keepIn K (.ref f_law_draw) = true) (C_law_draw_b : Binds K fd_law_draw ["script", "town", "many"] []) {sp_law_pick : SpD} {f_law_pick : Addr} {fd_law_pick : FuncData} {k_law_pick : Nat} (C_law_pick : FnOk P w K mg base CX0 k_law_pick f_law_pick fd_law_pick ["script", "town", "some"] (spL K sp_law_pick)) (h_law_pick : k_law_pick ≤ k) (C_law_pick_g : mg "_law_pick" = some (.ref f_law_pick)) (C_law_pick_k : PySem.W.keepIn K (.ref f_law_pick) = true) (C_law_pick_b : Binds K fd_law_pick ["script", "town", "some"] []) (cdv : Value) (A : Around) (outer : List PySem.Env) (s : Shared) (H : Hp) (E : XK) (hr : Room k (A.deeper (envOfC "_law_spoilt" (defScope s_law_spoilt) s.heap.objs.size f cdv))) (G : Gh) (hG : G.slots = [1]) :
    SDs (cxOf CX0 P w K mg base N_law_spoilt "_law_spoilt" (defScope s_law_spoilt) f cdv A outer s H E).nox G (defBody s_law_spoilt) (tb_law_spoilt sp_law_draw sp_law_pick) := by
  unfold tb_law_spoilt
  exact sds_cons (sd_par2 (nsA hG (by decide)) rfl sc_law_spoilt.nd rfl rfl (by decide) rfl rfl (eps_d (ed_call C_law_draw (hr.mono h_law_draw) rfl C_law_draw_g C_law_draw_k C_law_draw_b (ea_v (ed_var 0) (ea_o 1 (ea_v (ed_op od_add (ed_ca1 cd_len (ED.er (ed_var 2)) rfl b_len bb_len) (ED.er (ed_int))) (ea_nil))))) (eps_d (ed_call C_law_draw (hr.mono h_law_draw) rfl C_law_draw_g C_law_draw_k C_law_draw_b (ea_v (ed_var 0) (ea_o 1 (ea_v (ed_int) (ea_nil))))) (eps_nil))))
      (sds_cons (sd_set (ns hG (by decide)) sc_law_spoilt.nd rfl (by first | exact Or.inl rfl | exact Or.inr rfl) (ed_call C_law_pick (hr.mono h_law_pick) rfl C_law_pick_g C_law_pick_k C_law_pick_b (ea_v (ed_var 0) (ea_o 1 (ea_v (ed_var 3) (ea_nil))))))
      (sds_cons (sd_if (eb_cmp (od_eq hr.units) (ed_var 5) (ED.er (ed_int)) (nomark _)) (sds_one (sd_ret (ed_op od_add (ed_sl (ed_var 2) (eo_no) (eo_e (ed_var 4))) (ED.er (ed_sl (ed_var 2) (eo_e (ed_op od_add (ed_var 4) (ED.er (ed_int)))) (eo_no)))))) (sds_nil))
      (sds_cons (sd_if (eb_cmp (od_eq hr.units) (ed_var 5) (ED.er (ed_int)) (nomark _)) (sds_one (sd_ret (ed_op od_add (ed_op od_add (ed_sl (ed_var 2) (eo_no) (eo_e (ed_var 4))) (ED.er (ed_var 6))) (ED.er (ed_sl (ed_var 2) (eo_e (ed_var 4)) (eo_no)))))) (sds_nil))
      (sds_cons (sd_if (eb_cmp (od_eq hr.units) (ed_var 5) (ED.er (ed_int)) (nomark _)) (sds_cons (sd_setL (ns hG (by decide)) sc_law_spoilt.nd rfl (by first | exact Or.inl rfl | exact Or.inr rfl) (el_split (ed_var 2) (ed_str)))
      (sds_cons (sd_set (ns hG (by decide)) sc_law_spoilt.nd rfl (by first | exact Or.inl rfl | exact Or.inr rfl) (ed_call C_law_draw (hr.mono h_law_draw) rfl C_law_draw_g C_law_draw_k C_law_draw_b (ea_v (ed_var 0) (ea_o 1 (ea_v (ed_ca1 cd_len (er_var 7) rfl b_len bb_len) (ea_nil))))))
      (sds_cons (sd_setSlO 7 (ed_var 8) (ed_op od_add (ed_var 8) (ED.er (ed_int))) (ed_call C_law_pick (hr.mono h_law_pick) rfl C_law_pick_g C_law_pick_k C_law_pick_b (ea_v (ed_var 0) (ea_o 1 (ea_v (EL.ed (el_lst (eds_cons (EL.ed (el_lst (eds_nil))) (eds_cons (EL.ed (el_op od_rep (EL.ed (el_slO 7 (eo_e (ed_var 8)) (eo_e (ed_op od_add (ed_var 8) (ED.er (ed_int)))))) (ED.er (ed_int)))) (eds_cons (EL.ed (el_lst (eds_cons (ed_var 6) (eds_nil)))) (eds_cons (EL.ed (el_lst (eds_cons (ed_var 6) (eds_cons (ed_ixO 7 (ed_var 8)) (eds_nil))))) (eds_nil))))))) (ea_nil))))))
      (sds_one (sd_ret (ed_joinS (ed_str) (er_var 7))))))) (sds_nil))
      (sds_cons (sd_if (eb_cmp (od_eq hr.units) (ed_var 5) (ED.er (ed_int)) (nomark _)) (sds_cons (sd_setL (ns hG (by decide)) sc_law_spoilt.nd rfl (by first | exact Or.inl rfl | exact Or.inr rfl) (el_split (ed_var 2) (ed_str)))
      (sds_cons (sd_set (ns hG (by decide)) sc_law_spoilt.nd rfl (by first | exact Or.inl rfl | exact Or.inr rfl) (ed_call C_law_draw (hr.mono h_law_draw) rfl C_law_draw_g C_law_draw_k C_law_draw_b (ea_v (ed_var 0) (ea_o 1 (ea_v (ed_ca1 cd_len (er_var 7) rfl b_len bb_len) (ea_nil))))))
      (sds_one (sd_ret (ed_joinS (ed_str) (ED.er (EL.ed (el_op od_cat (EL.ed (el_slO 7 (eo_no) (eo_e (ed_var 8)))) (ED.er (EL.ed (el_rev (ED.er (EL.ed (el_slO 7 (eo_e (ed_var 8)) (eo_no))))))))))))))) (sds_nil))
      (sds_one (sd_ret (ed_op od_add (ed_op od_add (ed_sl (ed_var 2) (eo_no) (eo_e (ed_var 4))) (ED.er (ed_var 6))) (ED.er (ed_sl (ed_var 2) (eo_e (ed_op od_add (ed_var 4) (ED.er (ed_int)))) (eo_no)))))))))))
abbrev s_call_text : Stmt := topS 17
abbrev N_call_text : List Str := ["call"]
theorem sc_call_text : FnScope N_call_text ["call"] (defScope s_call_text) := ⟨rfl, rfl, rfl, by decide +kernel, rfl, by decide +kernel, by decide +kernel⟩
theorem dv_call_text {f : Addr} {k : Nat} (b_isinstance : mg "isinstance" = none) (b_tuple : mg "tuple" = none) (b_str : mg "str" = none) {u_STRAINS : Value} {v_STRAINS : V} (g_STRAINS : mg "STRAINS" = some u_STRAINS) (r_STRAINS : RelV v_STRAINS u_STRAINS) (d_STRAINS : ∀ H, Rp K H c_STRAINS v_STRAINS) (cdv : Value) (A : Around) (outer : List PySem.Env) (s : Shared) (H : Hp) (E : XK) (hr : Room k (A.deeper (envOfC "call_text" (defScope s_call_text) s.heap.objs.size f cdv))) (G : Gh) (hG : G.slots = []) :
    SDs (cxOf CX0 P w K mg base N_call_text "call_text" (defScope s_call_text) f cdv A outer s H E).nox G (defBody s_call_text) (tb_call_text) := by
  unfold tb_call_text
  exact sds_cons (sd_if (eb_tru (ED.er (ed_isi isi_tuple (ed_var 0) rfl b_isinstance rfl b_tuple bb_tuple))) (sds_one (sd_ret (ed_op od_add (ed_caT1 cd_str (ED.er (ed_ix (ed_var 0) (ed_int))) rfl b_str bb_str) (ED.er (ed_ix (ed_glob rfl g_STRAINS r_STRAINS d_STRAINS) (ed_ix (ed_var 0) (ed_int))))))) (sds_nil))
      (sds_one (sd_ret (ed_dkGetD (u65 hr) (EM.edK (em_disp (epp_cons (fun _ q3 => ed_str) (fun _ q3 => ed_str) (epp_cons (fun _ q2 => ed_str) (fun _ q2 => ed_str) (epp_cons (fun _ q1 => ed_str) (fun _ q1 => ed_str) (epp_nil)))))) (ed_var 0))))
abbrev s_calls_text : Stmt := topS 19
abbrev N_calls_text : List Str := ["calls", "call"]
theorem sc_calls_text : FnScope N_calls_text ["calls"] (defScope s_calls_text) := ⟨rfl, rfl, rfl, by decide +kernel, rfl, by decide +kernel, by decide +kernel⟩
theorem dv_calls_text {f : Addr} {k : Nat} {sp_call_text : SpD} {f_call_text : Addr} {fd_call_text : FuncData} {k_call_text : Nat} (C_call_text : FnOk P w K mg base CX0 k_call_text f_call_text fd_call_text ["call"] (spL K sp_call_text)) (h_call_text : k_call_text ≤ k) (C_call_text_g : mg "call_text" = some (.ref f_call_text)) (C_call_text_k : PySem.W.keepIn K (.ref f_call_text) = true) (C_call_text_b : Binds K fd_call_text ["call"] []) (cdv : Value) (A : Around) (outer : List PySem.Env) (s : Shared) (H : Hp) (E : XK) (hr : Room k (A.deeper (envOfC "calls_text" (defScope s_calls_text) s.heap.objs.size f cdv))) (G : Gh) (hG : G.slots = []) :
    SDs (cxOf CX0 P w K mg base N_calls_text "calls_text" (defScope s_calls_text) f cdv A outer s H E).nox G (defBody s_calls_text) (tb_calls_text sp_call_text) := by
  unfold tb_calls_text
  exact sds_cons (sd_if (eb_not (eb_tru (ED.er (ed_var 0)))) (sds_one (sd_ret (ed_str))) (sds_nil))
      (sds_one (sd_ret (ed_joinS (ed_str) (ED.er (EL.ed (el_comp [("call", 1)] rfl sc_calls_text.nd rfl (nsA hG (by decide)) (id_tup (ed_var 0)) (blkOk_by (N := N_calls_text) (sc := defScope s_calls_text) (by decide +kernel)) (fun _ q1 _ _ _ _ _ => gd_name (ns (q1.trans hG) (by decide)) (by decide) sc_calls_text.nd rfl (by first | exact Or.inl rfl | exact Or.inr rfl)) (fun _ q1 _ _ _ _ _ => ebs_nil) (fun _ q1 _ _ _ _ _ => ed_call C_call_text (hr.mono h_call_text) rfl C_call_text_g C_call_text_k C_call_text_b (ea_v (ed_var 1) (ea_nil)))))))))
abbrev s_law_call_text : Stmt := topS 28
abbrev N_law_call_text : List Str := ["call"]
theorem sc_law_call_text : FnScope N_law_call_text ["call"] (defScope s_law_call_text) := ⟨rfl, rfl, rfl, by decide +kernel, rfl, by decide +kernel, by decide +kernel⟩
theorem dv_law_call_text {f : Addr} {k : Nat} (b_isinstance : mg "isinstance" = none) (b_tuple : mg "tuple" = none) (b_str : mg "str" = none) (cdv : Value) (A : Around) (outer : List PySem.Env) (s : Shared) (H : Hp) (E : XK) (hr : Room k (A.deeper (envOfC "_law_call_text" (defScope s_law_call_text) s.heap.objs.size f cdv))) (G : Gh) (hG : G.slots = []) :
    SDs (cxOf CX0 P w K mg base N_law_call_text "_law_call_text" (defScope s_law_call_text) f cdv A outer s H E).nox G (defBody s_law_call_text) (tb_law_call_text) := by
  unfold tb_law_call_text
  exact sds_cons (sd_if (eb_tru (ED.er (ed_isi isi_tuple (ed_var 0) rfl b_isinstance rfl b_tuple bb_tuple))) (sds_one (sd_ret (ed_op od_add (ed_caT1 cd_str (ED.er (ed_ix (ed_var 0) (ed_int))) rfl b_str bb_str) (ED.er (ed_ix (ed_str) (ed_ix (ed_var 0) (ed_int))))))) (sds_nil))
      (sds_one (sd_ret (ed_dkGetD (u65 hr) (EM.edK (em_disp (epp_cons (fun _ q3 => ed_str) (fun _ q3 => ed_str) (epp_cons (fun _ q2 => ed_str) (fun _ q2 => ed_str) (epp_cons (fun _ q1 => ed_str) (fun _ q1 => ed_str) (epp_nil)))))) (ed_var 0))))
abbrev s_law_drawn_calls : Stmt := topS 27
abbrev N_law_drawn_calls : List Str := ["script", "town", "levels", "most", "calls", "k", "some", "way", "call"]
theorem sc_law_drawn_calls : FnScope N_law_drawn_calls ["script", "town", "levels", "most"] (defScope s_law_drawn_calls) := ⟨rfl, rfl, rfl, by decide +kernel, rfl, by decide +kernel, by decide +kernel⟩
theorem dv_law_drawn_calls {f : Addr} {k : Nat} (b_range : mg "range" = none) {sp_law_pick : SpD} {f_law_pick : Addr} {fd_law_pick : FuncData} {k_law_pick : Nat} (C_law_pick : FnOk P w K mg base CX0 k_law_pick f_law_pick fd_law_pick ["script", "town", "some"] (spL K sp_law_pick)) (h_law_pick : k_law_pick ≤ k) (C_law_pick_g : mg "_law_pick" = some (.ref f_law_pick)) (C_law_pick_k : PySem.W.keepIn K (.ref f_law_pick) = true) (C_law_pick_b : Binds K fd_law_pick ["script", "town", "some"] []) {sp_law_draw : SpD} {f_law_draw : Addr} {fd_law_draw : FuncData} {k_law_draw : Nat} (C_law_draw : FnOk P w K mg base CX0 k_law_draw f_law_draw fd_law_draw ["script", "town", "many"] (spL K sp_law_draw)) (h_law_draw : k_law_draw ≤ k) (C_law_draw_g : mg "_law_draw" = some (.ref f_law_draw)) (C_law_draw_k : PySem.W.keepIn K (.ref f_law_draw) = true) (C_law_draw_b : Binds K fd_law_draw ["script", "town", "many"] []) {sp_law_may_call : SpD} {f_law_may_call : Addr} {fd_law_may_call : FuncData} {k_law_may_call : Nat} (C_law_may_call : FnOk P w K mg base CX0 k_law_may_call f_law_may_call fd_law_may_call ["levels", "calls"] (spL K sp_law_may_call)) (h_law_may_call : k_law_may_call ≤ k) (C_law_may_call_g : mg "_law_may_call" = some (.ref f_law_may_call)) (C_law_may_call_k : PySem.W.keepIn K (.ref f_law_may_call) = true) (C_law_may_call_b : Binds K fd_law_may_call ["levels", "calls"] []) (cdv : Value) (A : Around) (outer : List PySem.Env) (s : Shared) (H : Hp) (E : XK) (hr : Room k (A.deeper (envOfC "_law_drawn_calls" (defScope s_law_drawn_calls) s.heap.objs.size f cdv))) (G : Gh) (hG : G.slots = [1]) :
    SDs (cxOf CX0 P w K mg base N_law_drawn_calls "_law_drawn_calls" (defScope s_law_drawn_calls) f cdv A outer s H E).nox G (defBody s_law_drawn_calls) (tb_law_drawn_calls sp_law_pick sp_law_draw sp_law_may_call) := by
  unfold tb_law_drawn_calls
  exact sds_cons (sd_set (ns hG (by decide)) sc_law_drawn_calls.nd rfl (by first | exact Or.inl rfl | exact Or.inr rfl) (ed_tup (eds_nil)))
      (sds_cons (sd_for (ms := [5]) PassesOwn.never rfl (id_range1 rfl b_range (ed_var 3)) (gd_name (ns hG (by decide)) (by decide) sc_law_drawn_calls.nd rfl (by first | exact Or.inl rfl | exact Or.inr rfl)) (sds_cons (sd_set (ns hG (by decide)) sc_law_drawn_calls.nd rfl (by first | exact Or.inl rfl | exact Or.inr rfl) (ed_call C_law_may_call (hr.mono h_law_may_call) rfl C_law_may_call_g C_law_may_call_k C_law_may_call_b (ea_v (ed_var 2) (ea_v (ed_var 4) (ea_nil)))))
      (sds_one (sd_if (eb_tru (ED.er (ed_var 6))) (sds_cons (sd_set (ns hG (by decide)) sc_law_drawn_calls.nd rfl (by first | exact Or.inl rfl | exact Or.inr rfl) (ed_call C_law_draw (hr.mono h_law_draw) rfl C_law_draw_g C_law_draw_k C_law_draw_b (ea_v (ed_var 0) (ea_o 1 (ea_v (ed_int) (ea_nil))))))
      (sds_cons (sd_set (ns hG (by decide)) sc_law_drawn_calls.nd rfl (by first | exact Or.inl rfl | exact Or.inr rfl) (ed_if (eb_cmp od_lt (ed_var 7) (ED.er (ed_int)) (nomark _)) (ed_str) (ed_call C_law_pick (hr.mono h_law_pick) rfl C_law_pick_g C_law_pick_k C_law_pick_b (ea_v (ed_var 0) (ea_o 1 (ea_v (ed_sl (ed_var 6) (eo_no) (eo_e (ed_op od_add (ed_int) (ED.er (ed_op od_mul (ed_int) (ED.er (ed_var 7))))))) (ea_nil)))))))
      (sds_one (sd_set (ns hG (by decide)) sc_law_drawn_calls.nd rfl (by first | exact Or.inl rfl | exact Or.inr rfl) (ed_op od_add (ed_var 4) (ED.er (ed_tup (eds_cons (ed_var 8) (eds_nil))))))))) (sds_nil)))))
      (sds_one (sd_ret (ed_var 4))))
abbrev s_law : Stmt := topS 34
abbrev N_law : List Str := ["script", "town", "signs", "k", "levels", "calls", "call", "text", "others", "other", "j"]
theorem sc_law : FnScope N_law ["script"] (defScope s_law) := ⟨rfl, rfl, rfl, by decide +kernel, rfl, by decide +kernel, by decide +kernel⟩
theorem dv_law {f : Addr} {k : Nat} (b_range : mg "range" = none) {sp_law_read : SpD} {f_law_read : Addr} {fd_law_read : FuncData} {k_law_read : Nat} (C_law_read : FnOk P w K mg base CX0 k_law_read f_law_read fd_law_read ["levels", "text"] (spL K sp_law_read)) (h_law_read : k_law_read ≤ k) (C_law_read_g : mg "_law_read" = some (.ref f_law_read)) (C_law_read_k : PySem.W.keepIn K (.ref f_law_read) = true) (C_law_read_b : Binds K fd_law_read ["levels", "text"] []) {sp_law_or_refused : SpD} {f_law_or_refused : Addr} {fd_law_or_refused : FuncData} {k_law_or_refused : Nat} (C_law_or_refused : FnOk P w K mg base CX0 k_law_or_refused f_law_or_refused fd_law_or_refused ["found"] (spL K sp_law_or_refused)) (h_law_or_refused : k_law_or_refused ≤ k) (C_law_or_refused_g : mg "_law_or_refused" = some (.ref f_law_or_refused)) (C_law_or_refused_k : PySem.W.keepIn K (.ref f_law_or_refused) = true) (C_law_or_refused_b : Binds K fd_law_or_refused ["found"] []) {sp_law_told : SpD} {f_law_told : Addr} {fd_law_told : FuncData} {k_law_told : Nat} (C_law_told : FnOk P w K mg base CX0 k_law_told f_law_told fd_law_told ["levels", "text"] (spL K sp_law_told)) (h_law_told : k_law_told ≤ k) (C_law_told_g : mg "_law_told" = some (.ref f_law_told)) (C_law_told_k : PySem.W.keepIn K (.ref f_law_told) = true) (C_law_told_b : Binds K fd_law_told ["levels", "text"] []) {sp_law_same : SpD} {f_law_same : Addr} {fd_law_same : FuncData} {k_law_same : Nat} (C_law_same : FnOk P w K mg base CX0 k_law_same f_law_same fd_law_same ["got", "due"] (spL K sp_law_same)) (h_law_same : k_law_same ≤ k) (C_law_same_g : mg "_law_same" = some (.ref f_law_same)) (C_law_same_k : PySem.W.keepIn K (.ref f_law_same) = true) (C_law_same_b : Binds K fd_law_same ["got", "due"] []) {sp_law_spoilt : SpD} {f_law_spoilt : Addr} {fd_law_spoilt : FuncData} {k_law_spoilt : Nat} (C_law_spoilt : FnOk P w K mg base CX0 k_law_spoilt f_law_spoilt fd_law_spoilt ["script", "town", "text", "signs"] (spL K sp_law_spoilt)) (h_law_spoilt : k_law_spoilt ≤ k) (C_law_spoilt_g : mg "_law_spoilt" = some (.ref f_law_spoilt)) (C_law_spoilt_k : PySem.W.keepIn K (.ref f_law_spoilt) = true) (C_law_spoilt_b : Binds K fd_law_spoilt ["script", "town", "text", "signs"] []) {sp_calls_text : SpD} {f_calls_text : Addr} {fd_calls_text : FuncData} {k_calls_text : Nat} (C_calls_text : FnOk P w K mg base CX0 k_calls_text f_calls_text fd_calls_text ["calls"] (spL K sp_calls_text)) (h_calls_text : k_calls_text ≤ k) (C_calls_text_g : mg "calls_text" = some (.ref f_calls_text)) (C_calls_text_k : PySem.W.keepIn K (.ref f_calls_text) = true) (C_calls_text_b : Binds K fd_calls_text ["calls"] []) {sp_law_call_text : SpD} {f_law_call_text : Addr} {fd_law_call_text : FuncData} {k_law_call_text : Nat} (C_law_call_text : FnOk P w K mg base CX0 k_law_call_text f_law_call_text fd_law_call_text ["call"] (spL K sp_law_call_text)) (h_law_call_text : k_law_call_text ≤ k) (C_law_call_text_g : mg "_law_call_text" = some (.ref f_law_call_text)) (C_law_call_text_k : PySem.W.keepIn K (.ref f_law_call_text) = true) (C_law_call_text_b : Binds K fd_law_call_text ["call"] []) {sp_call_text : SpD} {f_call_text : Addr} {fd_call_text : FuncData} {k_call_text : Nat} (C_call_text : FnOk P w K mg base CX0 k_call_text f_call_text fd_call_text ["call"] (spL K sp_call_text)) (h_call_text : k_call_text ≤ k) (C_call_text_g : mg "call_text" = some (.ref f_call_text)) (C_call_text_k : PySem.W.keepIn K (.ref f_call_text) = true) (C_call_text_b : Binds K fd_call_text ["call"] []) {sp_law_pick : SpD} {f_law_pick : Addr} {fd_law_pick : FuncData} {k_law_pick : Nat} (C_law_pick : FnOk P w K mg base CX0 k_law_pick f_law_pick fd_law_pick ["script", "town", "some"] (spL K sp_law_pick)) (h_law_pick : k_law_pick ≤ k) (C_law_pick_g : mg "_law_pick" = some (.ref f_law_pick)) (C_law_pick_k : PySem.W.keepIn K (.ref f_law_pick) = true) (C_law_pick_b : Binds K fd_law_pick ["script", "town", "some"] []) {sp_law_drawn_calls : SpD} {f_law_drawn_calls : Addr} {fd_law_drawn_calls : FuncData} {k_law_drawn_calls : Nat} (C_law_drawn_calls : FnOk P w K mg base CX0 k_law_drawn_calls f_law_drawn_calls fd_law_drawn_calls ["script", "town", "levels", "most"] (spL K sp_law_drawn_calls)) (h_law_drawn_calls : k_law_drawn_calls ≤ k) (C_law_drawn_calls_g : mg "_law_drawn_calls" = some (.ref f_law_drawn_calls)) (C_law_drawn_calls_k : PySem.W.keepIn K (.ref f_law_drawn_calls) = true) (C_law_drawn_calls_b : Binds K fd_law_drawn_calls ["script", "town", "levels", "most"] []) (cdv : Value) (A : Around) (outer : List PySem.Env) (s : Shared) (H : Hp) (E : XK) (hr : Room k (A.deeper (envOfC "law" (defScope s_law) s.heap.objs.size f cdv))) (G : Gh) (hG : G.slots = []) :
    SDs (cxOf CX0 P w K mg base N_law "law" (defScope s_law) f cdv A outer s H E).nox G (defBody s_law) (tb_law_k33 sp_law_read sp_law_or_refused sp_law_told sp_law_same sp_law_spoilt sp_calls_text sp_law_call_text sp_call_text sp_law_pick sp_law_drawn_calls) := by
  unfold tb_law_k33
  exact sds_cons (sd_setL (ns hG (by decide)) sc_law.nd rfl (by first | exact Or.inl rfl | exact Or.inr rfl) (el_lst (eds_nil)))
      (sds_cons (sd_set (ns hG (by decide)) sc_law.nd rfl (by first | exact Or.inl rfl | exact Or.inr rfl) (EL.ed (el_lst (eds_cons (ed_str) (eds_cons (ed_str) (eds_cons (ed_str) (eds_cons (ed_str) (eds_cons (ed_str) (eds_cons (ed_str) (eds_cons (ed_str) (eds_cons (ed_str) (eds_cons (ed_str) (eds_cons (ed_str) (eds_cons (ed_str) (eds_cons (ed_str) (eds_cons (ed_str) (eds_cons (ed_str) (eds_cons (ed_str) (eds_nil)))))))))))))))))))
      (sds_cons (sd_for (ms := [3]) PassesOwn.never rfl (id_range1 rfl b_range (ed_int)) (gd_name (ns hG (by decide)) (by decide) sc_law.nd rfl (by first | exact Or.inl rfl | exact Or.inr rfl)) (sds_cons (sd_set (ns hG (by decide)) sc_law.nd rfl (by first | exact Or.inl rfl | exact Or.inr rfl) (ed_call C_law_pick (hr.mono h_law_pick) rfl C_law_pick_g C_law_pick_k C_law_pick_b (ea_v (ed_var 0) (ea_o 1 (ea_v (EL.ed (el_lst (eds_cons (ed_int) (eds_cons (ed_int) (eds_cons (ed_int) (eds_cons (ed_int) (eds_nil))))))) (ea_nil))))))
      (sds_cons (sd_set (ns hG (by decide)) sc_law.nd rfl (by first | exact Or.inl rfl | exact Or.inr rfl) (ed_call C_law_drawn_calls (hr.mono h_law_drawn_calls) rfl C_law_drawn_calls_g C_law_drawn_calls_k C_law_drawn_calls_b (ea_v (ed_var 0) (ea_o 1 (ea_v (ed_var 4) (ea_v (ed_call C_law_pick (hr.mono h_law_pick) rfl C_law_pick_g C_law_pick_k C_law_pick_b (ea_v (ed_var 0) (ea_o 1 (ea_v (EL.ed (el_lst (eds_cons (ed_int) (eds_cons (ed_int) (eds_cons (ed_int) (eds_cons (ed_int) (eds_cons (ed_int) (eds_nil)))))))) (ea_nil))))) (ea_nil)))))))
      (sds_cons (sd_for (ms := [6]) PassesOwn.never rfl (id_tup (ed_var 5)) (gd_name (ns hG (by decide)) (by decide) sc_law.nd rfl (by first | exact Or.inl rfl | exact Or.inr rfl)) (sds_one (sd_if (eb_not (eb_tru (ED.er (ed_call C_law_same (hr.mono h_law_same) rfl C_law_same_g C_law_same_k C_law_same_b (ea_v (ed_call C_call_text (hr.mono h_call_text) rfl C_call_text_g C_call_text_k C_call_text_b (ea_v (ed_var 6) (ea_nil))) (ea_v (ed_call C_law_call_text (hr.mono h_law_call_text) rfl C_law_call_text_g C_law_call_text_k C_law_call_text_b (ea_v (ed_var 6) (ea_nil))) (ea_nil))))))) (sds_one (sd_ret (ed_bl))) (sds_nil))))
      (sds_cons (sd_set (ns hG (by decide)) sc_law.nd rfl (by first | exact Or.inl rfl | exact Or.inr rfl) (ed_if (eb_tru (ED.er (ed_var 5))) (ed_joinS (ed_str) (ED.er (EL.ed (el_comp [("call", 6)] rfl sc_law.nd rfl (nsA hG (by decide)) (id_tup (ed_var 5)) (blkOk_by (N := N_law) (sc := defScope s_law) (by decide +kernel)) (fun _ q2 _ _ _ _ _ => gd_name (ns (q2.trans hG) (by decide)) (by decide) sc_law.nd rfl (by first | exact Or.inl rfl | exact Or.inr rfl)) (fun _ q2 _ _ _ _ _ => ebs_nil) (fun _ q2 _ _ _ _ _ => ed_call C_law_call_text (hr.mono h_law_call_text) rfl C_law_call_text_g C_law_call_text_k C_law_call_text_b (ea_v (ed_var 6) (ea_nil))))))) (ed_str)))
      (sds_cons (sd_if (EW.eb (ew_or (eb_not (eb_tru (ED.er (ed_call C_law_same (hr.mono h_law_same) rfl C_law_same_g C_law_same_k C_law_same_b (ea_v (ed_call C_calls_text (hr.mono h_calls_text) rfl C_calls_text_g C_calls_text_k C_calls_text_b (ea_v (ed_var 5) (ea_nil))) (ea_v (ed_var 7) (ea_nil))))))) (ew_or1 (eb_not (eb_tru (ED.er (ed_call C_law_same (hr.mono h_law_same) rfl C_law_same_g C_law_same_k C_law_same_b (ea_v (ed_call C_law_told (hr.mono h_law_told) rfl C_law_told_g C_law_told_k C_law_told_b (ea_v (ed_var 4) (ea_v (ed_var 7) (ea_nil)))) (ea_v (ed_var 5) (ea_nil)))))))))) (sds_one (sd_ret (ed_bl))) (sds_nil))
      (sds_cons (sd_set (ns hG (by decide)) sc_law.nd rfl (by first | exact Or.inl rfl | exact Or.inr rfl) (EL.ed (el_op od_cat (EL.ed (el_comp [("j", 10)] rfl sc_law.nd rfl (nsA hG (by decide)) (id_range1 rfl b_range (ed_int)) (blkOk_by (N := N_law) (sc := defScope s_law) (by decide +kernel)) (fun _ q1 _ _ _ _ _ => gd_name (ns (q1.trans hG) (by decide)) (by decide) sc_law.nd rfl (by first | exact Or.inl rfl | exact Or.inr rfl)) (fun _ q1 _ _ _ _ _ => ebs_nil) (fun _ q1 _ _ _ _ _ => ed_call C_law_spoilt (hr.mono h_law_spoilt) rfl C_law_spoilt_g C_law_spoilt_k C_law_spoilt_b (ea_v (ed_var 0) (ea_o 1 (ea_v (ed_var 7) (ea_v (ed_var 2) (ea_nil)))))))) (ED.er (EL.ed (el_lst (eds_cons (ed_str) (eds_cons (ed_str) (eds_cons (ed_str) (eds_cons (ed_str) (eds_nil)))))))))))
      (sds_cons (sd_set (ns hG (by decide)) sc_law.nd rfl (by first | exact Or.inl rfl | exact Or.inr rfl) (EL.ed (el_op od_cat (ed_var 8) (ED.er (EL.ed (el_lst (eds_cons (ed_str) (eds_cons (ed_str) (eds_cons (ed_str) (eds_nil))))))))))
      (sds_cons (sd_set (ns hG (by decide)) sc_law.nd rfl (by first | exact Or.inl rfl | exact Or.inr rfl) (EL.ed (el_op od_cat (ed_var 8) (ED.er (EL.ed (el_lst (eds_cons (ed_op od_add (ed_var 7) (ED.er (ed_str))) (eds_cons (ed_op od_add (ed_str) (ED.er (ed_var 7))) (eds_cons (ed_op od_add (ed_var 7) (ED.er (ed_str))) (eds_cons (ed_str) (eds_cons (ed_str) (eds_cons (ed_str) (eds_cons (ed_str) (eds_nil))))))))))))))
      (sds_one (sd_for (ms := [9]) PassesOwn.never rfl (id_lst (EL.ed (el_op od_cat (ed_var 8) (ED.er (EL.ed (el_lst (eds_cons (ed_str) (eds_nil)))))))) (gd_name (ns hG (by decide)) (by decide) sc_law.nd rfl (by first | exact Or.inl rfl | exact Or.inr rfl)) (sds_one (sd_if (eb_not (eb_tru (ED.er (ed_call C_law_same (hr.mono h_law_same) rfl C_law_same_g C_law_same_k C_law_same_b (ea_v (ed_call C_law_told (hr.mono h_law_told) rfl C_law_told_g C_law_told_k C_law_told_b (ea_v (ed_var 4) (ea_v (ed_var 9) (ea_nil)))) (ea_v (ed_call C_law_or_refused (hr.mono h_law_or_refused) rfl C_law_or_refused_g C_law_or_refused_k C_law_or_refused_b (ea_v (ed_call C_law_read (hr.mono h_law_read) rfl C_law_read_g C_law_read_k C_law_read_b (ea_v (ed_var 4) (ea_v (ed_var 9) (ea_nil)))) (ea_nil))) (ea_nil))))))) (sds_one (sd_ret (ed_bl))) (sds_nil))))))))))))))
      (sds_one (sd_ret (ed_bl)))))
end
theorem all_mk {l : PySem.W.OpenLaw} {w : World} {K : PySem.W.Frag} {h : Heap} {mg : Str → Option Value} {fa : Addr} {f_law_all_bids : Addr} {od_law_all_bids an_law_all_bids : Option Addr} {sl_law_all_bids : Array (Option Value)} {oc_law_all_bids kV_law_all_bids dc_law_all_bids pm_law_all_bids cd_law_all_bids ct_law_all_bids : Value} {f_law_may_call : Addr} {od_law_may_call an_law_may_call : Option Addr} {sl_law_may_call : Array (Option Value)} {oc_law_may_call kV_law_may_call dc_law_may_call pm_law_may_call cd_law_may_call ct_law_may_call : Value} {f_law_read_call : Addr} {od_law_read_call an_law_read_call : Option Addr} {sl_law_read_call : Array (Option Value)} {oc_law_read_call kV_law_read_call dc_law_read_call pm_law_read_call cd_law_read_call ct_law_read_call : Value} {f_law_read : Addr} {od_law_read an_law_read : Option Addr} {sl_law_read : Array (Option Value)} {oc_law_read kV_law_read dc_law_read pm_law_read cd_law_read ct_law_read : Value} {f_law_or_refused : Addr} {od_law_or_refused an_law_or_refused : Option Addr} {sl_law_or_refused : Array (Option Value)} {oc_law_or_refused kV_law_or_refused dc_law_or_refused pm_law_or_refused cd_law_or_refused ct_law_or_refused : Value} {f_is_whole : Addr} {od_is_whole an_is_whole : Option Addr} {sl_is_whole : Array (Option Value)} {oc_is_whole kV_is_whole dc_is_whole pm_is_whole cd_is_whole ct_is_whole : Value} {f_is_bid : Addr} {od_is_bid an_is_bid : Option Addr} {sl_is_bid : Array (Option Value)} {oc_is_bid kV_is_bid dc_is_bid pm_is_bid cd_is_bid ct_is_bid : Value} {f_is_call : Addr} {od_is_call an_is_call : Option Addr} {sl_is_call : Array (Option Value)} {oc_is_call kV_is_call dc_is_call pm_is_call cd_is_call ct_is_call : Value} {f_all_bids : Addr} {od_all_bids an_all_bids : Option Addr} {sl_all_bids : Array (Option Value)} {oc_all_bids kV_all_bids dc_all_bids pm_all_bids cd_all_bids ct_all_bids : Value} {f_last_but_pass : Addr} {od_last_but_pass an_last_but_pass : Option Addr} {sl_last_but_pass : Array (Option Value)} {oc_last_but_pass kV_last_but_pass dc_last_but_pass pm_last_but_pass cd_last_but_pass ct_last_but_pass : Value} {f_last_bid : Addr} {od_last_bid an_last_bid : Option Addr} {sl_last_bid : Array (Option Value)} {oc_last_bid kV_last_bid dc_last_bid pm_last_bid cd_last_bid ct_last_bid : Value} {f_is_over : Addr} {od_is_over an_is_over : Option Addr} {sl_is_over : Array (Option Value)} {oc_is_over kV_is_over dc_is_over pm_is_over cd_is_over ct_is_over : Value} {f_may_call : Addr} {od_may_call an_may_call : Option Addr} {sl_may_call : Array (Option Value)} {oc_may_call kV_may_call dc_may_call pm_may_call cd_may_call ct_may_call : Value} {f_calls_fault : Addr} {od_calls_fault an_calls_fault : Option Addr} {sl_calls_fault : Array (Option Value)} {oc_calls_fault kV_calls_fault dc_calls_fault pm_calls_fault cd_calls_fault ct_calls_fault : Value} {f_number_of : Addr} {od_number_of an_number_of : Option Addr} {sl_number_of : Array (Option Value)} {oc_number_of kV_number_of dc_number_of pm_number_of cd_number_of ct_number_of : Value} {f_call_of : Addr} {od_call_of an_call_of : Option Addr} {sl_call_of : Array (Option Value)} {oc_call_of kV_call_of dc_call_of pm_call_of cd_call_of ct_call_of : Value} {f_read_calls : Addr} {od_read_calls an_read_calls : Option Addr} {sl_read_calls : Array (Option Value)} {oc_read_calls kV_read_calls dc_read_calls pm_read_calls cd_read_calls ct_read_calls : Value} {f_law_told : Addr} {od_law_told an_law_told : Option Addr} {sl_law_told : Array (Option Value)} {oc_law_told kV_law_told dc_law_told pm_law_told cd_law_told ct_law_told : Value} {f_law_same : Addr} {od_law_same an_law_same : Option Addr} {sl_law_same : Array (Option Value)} {oc_law_same kV_law_same dc_law_same pm_law_same cd_law_same ct_law_same : Value} {f_law_draw : Addr} {od_law_draw an_law_draw : Option Addr} {sl_law_draw : Array (Option Value)} {oc_law_draw kV_law_draw dc_law_draw pm_law_draw cd_law_draw ct_law_draw : Value} {f_law_pick : Addr} {od_law_pick an_law_pick : Option Addr} {sl_law_pick : Array (Option Value)} {oc_law_pick kV_law_pick dc_law_pick pm_law_pick cd_law_pick ct_law_pick : Value} {f_law_spoilt : Addr} {od_law_spoilt an_law_spoilt : Option Addr} {sl_law_spoilt : Array (Option Value)} {oc_law_spoilt kV_law_spoilt dc_law_spoilt pm_law_spoilt cd_law_spoilt ct_law_spoilt : Value} {f_call_text : Addr} {od_call_text an_call_text : Option Addr} {sl_call_text : Array (Option Value)} {oc_call_text kV_call_text dc_call_text pm_call_text cd_call_text ct_call_text : Value} {f_calls_text : Addr} {od_calls_text an_calls_text : Option Addr} {sl_calls_text : Array (Option Value)} {oc_calls_text kV_calls_text dc_calls_text pm_calls_text cd_calls_text ct_calls_text : Value} {f_law_call_text : Addr} {od_law_call_text an_law_call_text : Option Addr} {sl_law_call_text : Array (Option Value)} {oc_law_call_text kV_law_call_text dc_law_call_text pm_law_call_text cd_law_call_text ct_law_call_text : Value} {f_law_drawn_calls : Addr} {od_law_drawn_calls an_law_drawn_calls : Option Addr} {sl_law_drawn_calls : Array (Option Value)} {oc_law_drawn_calls kV_law_drawn_calls dc_law_drawn_calls pm_law_drawn_calls cd_law_drawn_calls ct_law_drawn_calls : Value} {f_law : Addr} {od_law an_law : Option Addr} {sl_law : Array (Option Value)} {oc_law kV_law dc_law pm_law cd_law ct_law : Value} {u_STRAINS : Tok} {A_NoText : Addr} (X : K.In h) (G : h.Ns mainGlobals mg) (hfa : mg "law" = some (.ref fa))
    (a_law_all_bids : PySem.W.nsIn K mainGlobals "_law_all_bids" = some (some (.ref f_law_all_bids))) (l_law_all_bids : K.lookup f_law_all_bids = some ⟨oc_law_all_bids, od_law_all_bids, .func (PySem.W.fnOf "_law_all_bids" "_law_all_bids" (defArgs s_law_all_bids) (defBody s_law_all_bids) (defScope s_law_all_bids) .none kV_law_all_bids dc_law_all_bids pm_law_all_bids an_law_all_bids cd_law_all_bids ct_law_all_bids), sl_law_all_bids⟩) (c_law_all_bids : PySem.W.codeIn K cd_law_all_bids "_law_all_bids" = true) (k_law_all_bids : PySem.W.keepIn K (.ref f_law_all_bids) = true)
    (a_law_may_call : PySem.W.nsIn K mainGlobals "_law_may_call" = some (some (.ref f_law_may_call))) (l_law_may_call : K.lookup f_law_may_call = some ⟨oc_law_may_call, od_law_may_call, .func (PySem.W.fnOf "_law_may_call" "_law_may_call" (defArgs s_law_may_call) (defBody s_law_may_call) (defScope s_law_may_call) .none kV_law_may_call dc_law_may_call pm_law_may_call an_law_may_call cd_law_may_call ct_law_may_call), sl_law_may_call⟩) (c_law_may_call : PySem.W.codeIn K cd_law_may_call "_law_may_call" = true) (k_law_may_call : PySem.W.keepIn K (.ref f_law_may_call) = true)
    (a_law_read_call : PySem.W.nsIn K mainGlobals "_law_read_call" = some (some (.ref f_law_read_call))) (l_law_read_call : K.lookup f_law_read_call = some ⟨oc_law_read_call, od_law_read_call, .func (PySem.W.fnOf "_law_read_call" "_law_read_call" (defArgs s_law_read_call) (defBody s_law_read_call) (defScope s_law_read_call) .none kV_law_read_call dc_law_read_call pm_law_read_call an_law_read_call cd_law_read_call ct_law_read_call), sl_law_read_call⟩) (c_law_read_call : PySem.W.codeIn K cd_law_read_call "_law_read_call" = true) (k_law_read_call : PySem.W.keepIn K (.ref f_law_read_call) = true)
    (a_law_read : PySem.W.nsIn K mainGlobals "_law_read" = some (some (.ref f_law_read))) (l_law_read : K.lookup f_law_read = some ⟨oc_law_read, od_law_read, .func (PySem.W.fnOf "_law_read" "_law_read" (defArgs s_law_read) (defBody s_law_read) (defScope s_law_read) .none kV_law_read dc_law_read pm_law_read an_law_read cd_law_read ct_law_read), sl_law_read⟩) (c_law_read : PySem.W.codeIn K cd_law_read "_law_read" = true) (k_law_read : PySem.W.keepIn K (.ref f_law_read) = true)
    (a_law_or_refused : PySem.W.nsIn K mainGlobals "_law_or_refused" = some (some (.ref f_law_or_refused))) (l_law_or_refused : K.lookup f_law_or_refused = some ⟨oc_law_or_refused, od_law_or_refused, .func (PySem.W.fnOf "_law_or_refused" "_law_or_refused" (defArgs s_law_or_refused) (defBody s_law_or_refused) (defScope s_law_or_refused) .none kV_law_or_refused dc_law_or_refused pm_law_or_refused an_law_or_refused cd_law_or_refused ct_law_or_refused), sl_law_or_refused⟩) (c_law_or_refused : PySem.W.codeIn K cd_law_or_refused "_law_or_refused" = true) (k_law_or_refused : PySem.W.keepIn K (.ref f_law_or_refused) = true)
    (a_is_whole : PySem.W.nsIn K mainGlobals "is_whole" = some (some (.ref f_is_whole))) (l_is_whole : K.lookup f_is_whole = some ⟨oc_is_whole, od_is_whole, .func (PySem.W.fnOf "is_whole" "is_whole" (defArgs s_is_whole) (defBody s_is_whole) (defScope s_is_whole) .none kV_is_whole dc_is_whole pm_is_whole an_is_whole cd_is_whole ct_is_whole), sl_is_whole⟩) (c_is_whole : PySem.W.codeIn K cd_is_whole "is_whole" = true) (k_is_whole : PySem.W.keepIn K (.ref f_is_whole) = true)
    (a_is_bid : PySem.W.nsIn K mainGlobals "is_bid" = some (some (.ref f_is_bid))) (l_is_bid : K.lookup f_is_bid = some ⟨oc_is_bid, od_is_bid, .func (PySem.W.fnOf "is_bid" "is_bid" (defArgs s_is_bid) (defBody s_is_bid) (defScope s_is_bid) .none kV_is_bid dc_is_bid pm_is_bid an_is_bid cd_is_bid ct_is_bid), sl_is_bid⟩) (c_is_bid : PySem.W.codeIn K cd_is_bid "is_bid" = true) (k_is_bid : PySem.W.keepIn K (.ref f_is_bid) = true)
    (a_is_call : PySem.W.nsIn K mainGlobals "is_call" = some (some (.ref f_is_call))) (l_is_call : K.lookup f_is_call = some ⟨oc_is_call, od_is_call, .func (PySem.W.fnOf "is_call" "is_call" (defArgs s_is_call) (defBody s_is_call) (defScope s_is_call) .none kV_is_call dc_is_call pm_is_call an_is_call cd_is_call ct_is_call), sl_is_call⟩) (c_is_call : PySem.W.codeIn K cd_is_call "is_call" = true) (k_is_call : PySem.W.keepIn K (.ref f_is_call) = true)
    (a_all_bids : PySem.W.nsIn K mainGlobals "all_bids" = some (some (.ref f_all_bids))) (l_all_bids : K.lookup f_all_bids = some ⟨oc_all_bids, od_all_bids, .func (PySem.W.fnOf "all_bids" "all_bids" (defArgs s_all_bids) (defBody s_all_bids) (defScope s_all_bids) .none kV_all_bids dc_all_bids pm_all_bids an_all_bids cd_all_bids ct_all_bids), sl_all_bids⟩) (c_all_bids : PySem.W.codeIn K cd_all_bids "all_bids" = true) (k_all_bids : PySem.W.keepIn K (.ref f_all_bids) = true)
    (a_last_but_pass : PySem.W.nsIn K mainGlobals "last_but_pass" = some (some (.ref f_last_but_pass))) (l_last_but_pass : K.lookup f_last_but_pass = some ⟨oc_last_but_pass, od_last_but_pass, .func (PySem.W.fnOf "last_but_pass" "last_but_pass" (defArgs s_last_but_pass) (defBody s_last_but_pass) (defScope s_last_but_pass) .none kV_last_but_pass dc_last_but_pass pm_last_but_pass an_last_but_pass cd_last_but_pass ct_last_but_pass), sl_last_but_pass⟩) (c_last_but_pass : PySem.W.codeIn K cd_last_but_pass "last_but_pass" = true) (k_last_but_pass : PySem.W.keepIn K (.ref f_last_but_pass) = true)
    (a_last_bid : PySem.W.nsIn K mainGlobals "last_bid" = some (some (.ref f_last_bid))) (l_last_bid : K.lookup f_last_bid = some ⟨oc_last_bid, od_last_bid, .func (PySem.W.fnOf "last_bid" "last_bid" (defArgs s_last_bid) (defBody s_last_bid) (defScope s_last_bid) .none kV_last_bid dc_last_bid pm_last_bid an_last_bid cd_last_bid ct_last_bid), sl_last_bid⟩) (c_last_bid : PySem.W.codeIn K cd_last_bid "last_bid" = true) (k_last_bid : PySem.W.keepIn K (.ref f_last_bid) = true)
    (a_is_over : PySem.W.nsIn K mainGlobals "is_over" = some (some (.ref f_is_over))) (l_is_over : K.lookup f_is_over = some ⟨oc_is_over, od_is_over, .func (PySem.W.fnOf "is_over" "is_over" (defArgs s_is_over) (defBody s_is_over) (defScope s_is_over) .none kV_is_over dc_is_over pm_is_over an_is_over cd_is_over ct_is_over), sl_is_over⟩) (c_is_over : PySem.W.codeIn K cd_is_over "is_over" = true) (k_is_over : PySem.W.keepIn K (.ref f_is_over) = true)
    (a_may_call : PySem.W.nsIn K mainGlobals "may_call" = some (some (.ref f_may_call))) (l_may_call : K.lookup f_may_call = some ⟨oc_may_call, od_may_call, .func (PySem.W.fnOf "may_call" "may_call" (defArgs s_may_call) (defBody s_may_call) (defScope s_may_call) .none kV_may_call dc_may_call pm_may_call an_may_call cd_may_call ct_may_call), sl_may_call⟩) (c_may_call : PySem.W.codeIn K cd_may_call "may_call" = true) (k_may_call : PySem.W.keepIn K (.ref f_may_call) = true)
    (a_calls_fault : PySem.W.nsIn K mainGlobals "calls_fault" = some (some (.ref f_calls_fault))) (l_calls_fault : K.lookup f_calls_fault = some ⟨oc_calls_fault, od_calls_fault, .func (PySem.W.fnOf "calls_fault" "calls_fault" (defArgs s_calls_fault) (defBody s_calls_fault) (defScope s_calls_fault) .none kV_calls_fault dc_calls_fault pm_calls_fault an_calls_fault cd_calls_fault ct_calls_fault), sl_calls_fault⟩) (c_calls_fault : PySem.W.codeIn K cd_calls_fault "calls_fault" = true) (k_calls_fault : PySem.W.keepIn K (.ref f_calls_fault) = true)
    (a_number_of : PySem.W.nsIn K mainGlobals "number_of" = some (some (.ref f_number_of))) (l_number_of : K.lookup f_number_of = some ⟨oc_number_of, od_number_of, .func (PySem.W.fnOf "number_of" "number_of" (defArgs s_number_of) (defBody s_number_of) (defScope s_number_of) .none kV_number_of dc_number_of pm_number_of an_number_of cd_number_of ct_number_of), sl_number_of⟩) (c_number_of : PySem.W.codeIn K cd_number_of "number_of" = true) (k_number_of : PySem.W.keepIn K (.ref f_number_of) = true)
    (a_call_of : PySem.W.nsIn K mainGlobals "call_of" = some (some (.ref f_call_of))) (l_call_of : K.lookup f_call_of = some ⟨oc_call_of, od_call_of, .func (PySem.W.fnOf "call_of" "call_of" (defArgs s_call_of) (defBody s_call_of) (defScope s_call_of) .none kV_call_of dc_call_of pm_call_of an_call_of cd_call_of ct_call_of), sl_call_of⟩) (c_call_of : PySem.W.codeIn K cd_call_of "call_of" = true) (k_call_of : PySem.W.keepIn K (.ref f_call_of) = true)
    (a_read_calls : PySem.W.nsIn K mainGlobals "read_calls" = some (some (.ref f_read_calls))) (l_read_calls : K.lookup f_read_calls = some ⟨oc_read_calls, od_read_calls, .func (PySem.W.fnOf "read_calls" "read_calls" (defArgs s_read_calls) (defBody s_read_calls) (defScope s_read_calls) .none kV_read_calls dc_read_calls pm_read_calls an_read_calls cd_read_calls ct_read_calls), sl_read_calls⟩) (c_read_calls : PySem.W.codeIn K cd_read_calls "read_calls" = true) (k_read_calls : PySem.W.keepIn K (.ref f_read_calls) = true)
    (a_law_told : PySem.W.nsIn K mainGlobals "_law_told" = some (some (.ref f_law_told))) (l_law_told : K.lookup f_law_told = some ⟨oc_law_told, od_law_told, .func (PySem.W.fnOf "_law_told" "_law_told" (defArgs s_law_told) (defBody s_law_told) (defScope s_law_told) .none kV_law_told dc_law_told pm_law_told an_law_told cd_law_told ct_law_told), sl_law_told⟩) (c_law_told : PySem.W.codeIn K cd_law_told "_law_told" = true) (k_law_told : PySem.W.keepIn K (.ref f_law_told) = true)
    (a_law_same : PySem.W.nsIn K mainGlobals "_law_same" = some (some (.ref f_law_same))) (l_law_same : K.lookup f_law_same = some ⟨oc_law_same, od_law_same, .func (PySem.W.fnOf "_law_same" "_law_same" (defArgs s_law_same) (defBody s_law_same) (defScope s_law_same) .none kV_law_same dc_law_same pm_law_same an_law_same cd_law_same ct_law_same), sl_law_same⟩) (c_law_same : PySem.W.codeIn K cd_law_same "_law_same" = true) (k_law_same : PySem.W.keepIn K (.ref f_law_same) = true)
    (a_law_draw : PySem.W.nsIn K mainGlobals "_law_draw" = some (some (.ref f_law_draw))) (l_law_draw : K.lookup f_law_draw = some ⟨oc_law_draw, od_law_draw, .func (PySem.W.fnOf "_law_draw" "_law_draw" (defArgs s_law_draw) (defBody s_law_draw) (defScope s_law_draw) .none kV_law_draw dc_law_draw pm_law_draw an_law_draw cd_law_draw ct_law_draw), sl_law_draw⟩) (c_law_draw : PySem.W.codeIn K cd_law_draw "_law_draw" = true) (k_law_draw : PySem.W.keepIn K (.ref f_law_draw) = true)
    (a_law_pick : PySem.W.nsIn K mainGlobals "_law_pick" = some (some (.ref f_law_pick))) (l_law_pick : K.lookup f_law_pick = some ⟨oc_law_pick, od_law_pick, .func (PySem.W.fnOf "_law_pick" "_law_pick" (defArgs s_law_pick) (defBody s_law_pick) (defScope s_law_pick) .none kV_law_pick dc_law_pick pm_law_pick an_law_pick cd_law_pick ct_law_pick), sl_law_pick⟩) (c_law_pick : PySem.W.codeIn K cd_law_pick "_law_pick" = true) (k_law_pick : PySem.W.keepIn K (.ref f_law_pick) = true)
    (a_law_spoilt : PySem.W.nsIn K mainGlobals "_law_spoilt" = some (some (.ref f_law_spoilt))) (l_law_spoilt : K.lookup f_law_spoilt = some ⟨oc_law_spoilt, od_law_spoilt, .func (PySem.W.fnOf "_law_spoilt" "_law_spoilt" (defArgs s_law_spoilt) (defBody s_law_spoilt) (defScope s_law_spoilt) .none kV_law_spoilt dc_law_spoilt pm_law_spoilt an_law_spoilt cd_law_spoilt ct_law_spoilt), sl_law_spoilt⟩) (c_law_spoilt : PySem.W.codeIn K cd_law_spoilt "_law_spoilt" = true) (k_law_spoilt : PySem.W.keepIn K (.ref f_law_spoilt) = true)
    (a_call_text : PySem.W.nsIn K mainGlobals "call_text" = some (some (.ref f_call_text))) (l_call_text : K.lookup f_call_text = some ⟨oc_call_text, od_call_text, .func (PySem.W.fnOf "call_text" "call_text" (defArgs s_call_text) (defBody s_call_text) (defScope s_call_text) .none kV_call_text dc_call_text pm_call_text an_call_text cd_call_text ct_call_text), sl_call_text⟩) (c_call_text : PySem.W.codeIn K cd_call_text "call_text" = true) (k_call_text : PySem.W.keepIn K (.ref f_call_text) = true)
    (a_calls_text : PySem.W.nsIn K mainGlobals "calls_text" = some (some (.ref f_calls_text))) (l_calls_text : K.lookup f_calls_text = some ⟨oc_calls_text, od_calls_text, .func (PySem.W.fnOf "calls_text" "calls_text" (defArgs s_calls_text) (defBody s_calls_text) (defScope s_calls_text) .none kV_calls_text dc_calls_text pm_calls_text an_calls_text cd_calls_text ct_calls_text), sl_calls_text⟩) (c_calls_text : PySem.W.codeIn K cd_calls_text "calls_text" = true) (k_calls_text : PySem.W.keepIn K (.ref f_calls_text) = true)
    (a_law_call_text : PySem.W.nsIn K mainGlobals "_law_call_text" = some (some (.ref f_law_call_text))) (l_law_call_text : K.lookup f_law_call_text = some ⟨oc_law_call_text, od_law_call_text, .func (PySem.W.fnOf "_law_call_text" "_law_call_text" (defArgs s_law_call_text) (defBody s_law_call_text) (defScope s_law_call_text) .none kV_law_call_text dc_law_call_text pm_law_call_text an_law_call_text cd_law_call_text ct_law_call_text), sl_law_call_text⟩) (c_law_call_text : PySem.W.codeIn K cd_law_call_text "_law_call_text" = true) (k_law_call_text : PySem.W.keepIn K (.ref f_law_call_text) = true)
    (a_law_drawn_calls : PySem.W.nsIn K mainGlobals "_law_drawn_calls" = some (some (.ref f_law_drawn_calls))) (l_law_drawn_calls : K.lookup f_law_drawn_calls = some ⟨oc_law_drawn_calls, od_law_drawn_calls, .func (PySem.W.fnOf "_law_drawn_calls" "_law_drawn_calls" (defArgs s_law_drawn_calls) (defBody s_law_drawn_calls) (defScope s_law_drawn_calls) .none kV_law_drawn_calls dc_law_drawn_calls pm_law_drawn_calls an_law_drawn_calls cd_law_drawn_calls ct_law_drawn_calls), sl_law_drawn_calls⟩) (c_law_drawn_calls : PySem.W.codeIn K cd_law_drawn_calls "_law_drawn_calls" = true) (k_law_drawn_calls : PySem.W.keepIn K (.ref f_law_drawn_calls) = true)
    (a_law : PySem.W.nsIn K mainGlobals "law" = some (some (.ref f_law))) (l_law : K.lookup f_law = some ⟨oc_law, od_law, .func (PySem.W.fnOf "law" "law" (defArgs s_law) (defBody s_law) (defScope s_law) .none kV_law dc_law pm_law an_law cd_law ct_law), sl_law⟩) (c_law : PySem.W.codeIn K cd_law "law" = true) (k_law : PySem.W.keepIn K (.ref f_law) = true)
    (a_STRAINS : PySem.W.nsIn K mainGlobals "STRAINS" = some (some (.str "CDHSN" u_STRAINS)))
    (a_NoText : PySem.W.nsIn K mainGlobals "NoText" = some (some (.ref A_NoText))) (x_NoText : PySem.W.excIn K A_NoText [.type "ValueError", .type "Exception", .type "BaseException", .type "object"] "ValueError.__new__" = true) (k_NoText : PySem.W.keepIn K (.ref A_NoText) = true) (b_NoText : PySem.W.subIn K (.ref A_NoText) (.type "BaseException") = some true) (t_NoText : PySem.W.typeIn K (.ref A_NoText) = some (.type "type")) (i_NoText : PySem.W.isClsIn K A_NoText = true) (s_NoText : PySem.W.subIn K (.ref A_NoText) (.ref A_NoText) = some true)
    (z_range : PySem.W.nsIn K mainGlobals "range" = some none)
    (z_tuple : PySem.W.nsIn K mainGlobals "tuple" = some none)
    (z_len : PySem.W.nsIn K mainGlobals "len" = some none)
    (z_isinstance : PySem.W.nsIn K mainGlobals "isinstance" = some none)
    (z_enumerate : PySem.W.nsIn K mainGlobals "enumerate" = some none)
    (z_str : PySem.W.nsIn K mainGlobals "str" = some none)
    (z_list : PySem.W.nsIn K mainGlobals "list" = some none)
    (z_int : PySem.W.nsIn K mainGlobals "int" = some none)
    (z_bool : PySem.W.nsIn K mainGlobals "bool" = some none)
    (z_all : PySem.W.nsIn K mainGlobals "all" = some none)
    (z_zip : PySem.W.nsIn K mainGlobals "zip" = some none)
    (z_abs : PySem.W.nsIn K mainGlobals "abs" = some none)
    (z_max : PySem.W.nsIn K mainGlobals "max" = some none) :
    ∃ fd : FuncData, (∀ (s : Shared) (v : Value), BindsTo s fd ⟨[v], []⟩ [("script", v)]) ∧ ∀ base : Heap, K.In base → base.Ns mainGlobals mg → FnOk l.prog w K mg base CX0 7 fa fd ["script"] (spL K spLaw) := by
  cases hfa.symm.trans (PySem.W.mg_of X G a_law)
  have F_law_all_bids := fun_mk (st := s_law_all_bids) l_law_all_bids c_law_all_bids k_law_all_bids
  have B_law_all_bids := F_law_all_bids.binds (ps := ["levels"]) fun _ _ _ _ _ _ us hl => match us, hl with | [_], _ => rfl
  have g_law_all_bids := PySem.W.mg_of X G a_law_all_bids
  have F_law_may_call := fun_mk (st := s_law_may_call) l_law_may_call c_law_may_call k_law_may_call
  have B_law_may_call := F_law_may_call.binds (ps := ["levels", "calls"]) fun _ _ _ _ _ _ us hl => match us, hl with | [_, _], _ => rfl
  have g_law_may_call := PySem.W.mg_of X G a_law_may_call
  have F_law_read_call := fun_mk (st := s_law_read_call) l_law_read_call c_law_read_call k_law_read_call
  have B_law_read_call := F_law_read_call.binds (ps := ["word"]) fun _ _ _ _ _ _ us hl => match us, hl with | [_], _ => rfl
  have g_law_read_call := PySem.W.mg_of X G a_law_read_call
  have F_law_read := fun_mk (st := s_law_read) l_law_read c_law_read k_law_read
  have B_law_read := F_law_read.binds (ps := ["levels", "text"]) fun _ _ _ _ _ _ us hl => match us, hl with | [_, _], _ => rfl
  have g_law_read := PySem.W.mg_of X G a_law_read
  have F_law_or_refused := fun_mk (st := s_law_or_refused) l_law_or_refused c_law_or_refused k_law_or_refused
  have B_law_or_refused := F_law_or_refused.binds (ps := ["found"]) fun _ _ _ _ _ _ us hl => match us, hl with | [_], _ => rfl
  have g_law_or_refused := PySem.W.mg_of X G a_law_or_refused
  have F_is_whole := fun_mk (st := s_is_whole) l_is_whole c_is_whole k_is_whole
  have B_is_whole := F_is_whole.binds (ps := ["thing"]) fun _ _ _ _ _ _ us hl => match us, hl with | [_], _ => rfl
  have g_is_whole := PySem.W.mg_of X G a_is_whole
  have F_is_bid := fun_mk (st := s_is_bid) l_is_bid c_is_bid k_is_bid
  have B_is_bid := F_is_bid.binds (ps := ["levels", "thing"]) fun _ _ _ _ _ _ us hl => match us, hl with | [_, _], _ => rfl
  have g_is_bid := PySem.W.mg_of X G a_is_bid
  have F_is_call := fun_mk (st := s_is_call) l_is_call c_is_call k_is_call
  have B_is_call := F_is_call.binds (ps := ["levels", "thing"]) fun _ _ _ _ _ _ us hl => match us, hl with | [_, _], _ => rfl
  have g_is_call := PySem.W.mg_of X G a_is_call
  have F_all_bids := fun_mk (st := s_all_bids) l_all_bids c_all_bids k_all_bids
  have B_all_bids := F_all_bids.binds (ps := ["levels"]) fun _ _ _ _ _ _ us hl => match us, hl with | [_], _ => rfl
  have g_all_bids := PySem.W.mg_of X G a_all_bids
  have F_last_but_pass := fun_mk (st := s_last_but_pass) l_last_but_pass c_last_but_pass k_last_but_pass
  have B_last_but_pass := F_last_but_pass.binds (ps := ["calls"]) fun _ _ _ _ _ _ us hl => match us, hl with | [_], _ => rfl
  have g_last_but_pass := PySem.W.mg_of X G a_last_but_pass
  have F_last_bid := fun_mk (st := s_last_bid) l_last_bid c_last_bid k_last_bid
  have B_last_bid := F_last_bid.binds (ps := ["calls"]) fun _ _ _ _ _ _ us hl => match us, hl with | [_], _ => rfl
  have g_last_bid := PySem.W.mg_of X G a_last_bid
  have F_is_over := fun_mk (st := s_is_over) l_is_over c_is_over k_is_over
  have B_is_over := F_is_over.binds (ps := ["calls"]) fun _ _ _ _ _ _ us hl => match us, hl with | [_], _ => rfl
  have g_is_over := PySem.W.mg_of X G a_is_over
  have F_may_call := fun_mk (st := s_may_call) l_may_call c_may_call k_may_call
  have B_may_call := F_may_call.binds (ps := ["levels", "calls"]) fun _ _ _ _ _ _ us hl => match us, hl with | [_, _], _ => rfl
  have g_may_call := PySem.W.mg_of X G a_may_call
  have F_calls_fault := fun_mk (st := s_calls_fault) l_calls_fault c_calls_fault k_calls_fault
  have B_calls_fault := F_calls_fault.binds (ps := ["levels", "calls"]) fun _ _ _ _ _ _ us hl => match us, hl with | [_, _], _ => rfl
  have g_calls_fault := PySem.W.mg_of X G a_calls_fault
  have F_number_of := fun_mk (st := s_number_of) l_number_of c_number_of k_number_of
  have B_number_of := F_number_of.binds (ps := ["word"]) fun _ _ _ _ _ _ us hl => match us, hl with | [_], _ => rfl
  have g_number_of := PySem.W.mg_of X G a_number_of
  have F_call_of := fun_mk (st := s_call_of) l_call_of c_call_of k_call_of
  have B_call_of := F_call_of.binds (ps := ["word"]) fun _ _ _ _ _ _ us hl => match us, hl with | [_], _ => rfl
  have g_call_of := PySem.W.mg_of X G a_call_of
  have F_read_calls := fun_mk (st := s_read_calls) l_read_calls c_read_calls k_read_calls
  have B_read_calls := F_read_calls.binds (ps := ["levels", "text"]) fun _ _ _ _ _ _ us hl => match us, hl with | [_, _], _ => rfl
  have g_read_calls := PySem.W.mg_of X G a_read_calls
  have F_law_told := fun_mk (st := s_law_told) l_law_told c_law_told k_law_told
  have B_law_told := F_law_told.binds (ps := ["levels", "text"]) fun _ _ _ _ _ _ us hl => match us, hl with | [_, _], _ => rfl
  have g_law_told := PySem.W.mg_of X G a_law_told
  have F_law_same := fun_mk (st := s_law_same) l_law_same c_law_same k_law_same
  have B_law_same := F_law_same.binds (ps := ["got", "due"]) fun _ _ _ _ _ _ us hl => match us, hl with | [_, _], _ => rfl
  have g_law_same := PySem.W.mg_of X G a_law_same
  have F_law_draw := fun_mk (st := s_law_draw) l_law_draw c_law_draw k_law_draw
  have B_law_draw := F_law_draw.binds (ps := ["script", "town", "many"]) fun _ _ _ _ _ _ us hl => match us, hl with | [_, _, _], _ => rfl
  have g_law_draw := PySem.W.mg_of X G a_law_draw
  have F_law_pick := fun_mk (st := s_law_pick) l_law_pick c_law_pick k_law_pick
  have B_law_pick := F_law_pick.binds (ps := ["script", "town", "some"]) fun _ _ _ _ _ _ us hl => match us, hl with | [_, _, _], _ => rfl
  have g_law_pick := PySem.W.mg_of X G a_law_pick
  have F_law_spoilt := fun_mk (st := s_law_spoilt) l_law_spoilt c_law_spoilt k_law_spoilt
  have B_law_spoilt := F_law_spoilt.binds (ps := ["script", "town", "text", "signs"]) fun _ _ _ _ _ _ us hl => match us, hl with | [_, _, _, _], _ => rfl
  have g_law_spoilt := PySem.W.mg_of X G a_law_spoilt
  have F_call_text := fun_mk (st := s_call_text) l_call_text c_call_text k_call_text
  have B_call_text := F_call_text.binds (ps := ["call"]) fun _ _ _ _ _ _ us hl => match us, hl with | [_], _ => rfl
  have g_call_text := PySem.W.mg_of X G a_call_text
  have F_calls_text := fun_mk (st := s_calls_text) l_calls_text c_calls_text k_calls_text
  have B_calls_text := F_calls_text.binds (ps := ["calls"]) fun _ _ _ _ _ _ us hl => match us, hl with | [_], _ => rfl
  have g_calls_text := PySem.W.mg_of X G a_calls_text
  have F_law_call_text := fun_mk (st := s_law_call_text) l_law_call_text c_law_call_text k_law_call_text
  have B_law_call_text := F_law_call_text.binds (ps := ["call"]) fun _ _ _ _ _ _ us hl => match us, hl with | [_], _ => rfl
  have g_law_call_text := PySem.W.mg_of X G a_law_call_text
  have F_law_drawn_calls := fun_mk (st := s_law_drawn_calls) l_law_drawn_calls c_law_drawn_calls k_law_drawn_calls
  have B_law_drawn_calls := F_law_drawn_calls.binds (ps := ["script", "town", "levels", "most"]) fun _ _ _ _ _ _ us hl => match us, hl with | [_, _, _, _], _ => rfl
  have g_law_drawn_calls := PySem.W.mg_of X G a_law_drawn_calls
  have F_law := fun_mk (st := s_law) l_law c_law k_law
  have g_STRAINS := PySem.W.mg_of X G a_STRAINS
  have g_NoText := PySem.W.mg_of X G a_NoText
  have e_NoText : (fun cls => PySem.W.exmOne K cls (.ref A_NoText)) (.ref A_NoText) = some true := exm_sub b_NoText i_NoText t_NoText s_NoText
  have b_range := PySem.W.mg_none_of X G z_range
  have b_tuple := PySem.W.mg_none_of X G z_tuple
  have b_len := PySem.W.mg_none_of X G z_len
  have b_isinstance := PySem.W.mg_none_of X G z_isinstance
  have b_enumerate := PySem.W.mg_none_of X G z_enumerate
  have b_str := PySem.W.mg_none_of X G z_str
  have b_list := PySem.W.mg_none_of X G z_list
  have b_int := PySem.W.mg_none_of X G z_int
  have b_bool := PySem.W.mg_none_of X G z_bool
  have b_all := PySem.W.mg_none_of X G z_all
  have b_zip := PySem.W.mg_none_of X G z_zip
  have b_abs := PySem.W.mg_none_of X G z_abs
  have b_max := PySem.W.mg_none_of X G z_max
  refine ⟨PySem.W.fnOf "law" "law" (defArgs s_law) (defBody s_law) (defScope s_law) .none kV_law dc_law pm_law an_law cd_law ct_law, fun s v => .of_eq rfl, fun base _ _ => ?_⟩
  have ok_law_all_bids : FnOk l.prog w K mg base CX0 1 f_law_all_bids _ ["levels"] (spL K spBids) := fn_okD F_law_all_bids sc_law_all_bids sh_law_all_bids (fun cdv A outer s H E hr G hG => dv_law_all_bids b_range cdv A outer s H E hr G hG) rd_law_all_bids
  have ok_law_may_call : FnOk l.prog w K mg base CX0 2 f_law_may_call _ ["levels", "calls"] (spL K spLMay) := fn_okD F_law_may_call sc_law_may_call sh_law_may_call (fun cdv A outer s H E hr G hG => dv_law_may_call b_tuple b_len b_isinstance b_enumerate ok_law_all_bids (by decide) g_law_all_bids F_law_all_bids.kp B_law_all_bids cdv A outer s H E hr G hG) rd_law_may_call
  have ok_law_read_call : FnOk l.prog w K mg base CX0 1 f_law_read_call _ ["word"] (spL K spLRC) := fn_okD F_law_read_call sc_law_read_call sh_law_read_call (fun cdv A outer s H E hr G hG => dv_law_read_call b_range b_str cdv A outer s H E hr G hG) rd_law_read_call
  have ok_law_read : FnOk l.prog w K mg base CX0 3 f_law_read _ ["levels", "text"] (spL K spLRead) := fn_okD F_law_read sc_law_read sh_law_read (fun cdv A outer s H E hr G hG => dv_law_read b_list ok_law_may_call (by decide) g_law_may_call F_law_may_call.kp B_law_may_call ok_law_read_call (by decide) g_law_read_call F_law_read_call.kp B_law_read_call cdv A outer s H E hr G hG) rd_law_read
  have ok_law_or_refused : FnOk l.prog w K mg base CX0 1 f_law_or_refused _ ["found"] (spL K spOrR) := fn_okD F_law_or_refused sc_law_or_refused sh_law_or_refused (fun cdv A outer s H E hr G hG => dv_law_or_refused cdv A outer s H E hr G hG) rd_law_or_refused
  have ok_is_whole : FnOk l.prog w K mg base CX0 1 f_is_whole _ ["thing"] (spL K spWhole) := fn_okD F_is_whole sc_is_whole sh_is_whole (fun cdv A outer s H E hr G hG => dv_is_whole b_isinstance b_int b_bool cdv A outer s H E hr G hG) rd_is_whole
  have ok_is_bid : FnOk l.prog w K mg base CX0 2 f_is_bid _ ["levels", "thing"] (spL K spIsBid) := fn_okD F_is_bid sc_is_bid sh_is_bid (fun cdv A outer s H E hr G hG => dv_is_bid b_isinstance b_tuple b_len ok_is_whole (by decide) g_is_whole F_is_whole.kp B_is_whole cdv A outer s H E hr G hG) rd_is_bid
  have ok_is_call : FnOk l.prog w K mg base CX0 3 f_is_call _ ["levels", "thing"] (spL K spIsCall) := fn_okD F_is_call sc_is_call sh_is_call (fun cdv A outer s H E hr G hG => dv_is_call b_isinstance b_str ok_is_bid (by decide) g_is_bid F_is_bid.kp B_is_bid cdv A outer s H E hr G hG) rd_is_call
  have ok_all_bids : FnOk l.prog w K mg base CX0 1 f_all_bids _ ["levels"] (spL K spBids) := fn_okD F_all_bids sc_all_bids sh_all_bids (fun cdv A outer s H E hr G hG => dv_all_bids b_range cdv A outer s H E hr G hG) rd_all_bids
  have ok_last_but_pass : FnOk l.prog w K mg base CX0 1 f_last_but_pass _ ["calls"] (spL K spLastP) := fn_okD F_last_but_pass sc_last_but_pass sh_last_but_pass (fun cdv A outer s H E hr G hG => dv_last_but_pass b_enumerate cdv A outer s H E hr G hG) rd_last_but_pass
  have ok_last_bid : FnOk l.prog w K mg base CX0 1 f_last_bid _ ["calls"] (spL K spLastB) := fn_okD F_last_bid sc_last_bid sh_last_bid (fun cdv A outer s H E hr G hG => dv_last_bid b_enumerate b_isinstance b_tuple cdv A outer s H E hr G hG) rd_last_bid
  have ok_is_over : FnOk l.prog w K mg base CX0 1 f_is_over _ ["calls"] (spL K spOver) := fn_okD F_is_over sc_is_over sh_is_over (fun cdv A outer s H E hr G hG => dv_is_over b_len cdv A outer s H E hr G hG) rd_is_over
  have ok_may_call : FnOk l.prog w K mg base CX0 2 f_may_call _ ["levels", "calls"] (spL K spMay) := fn_okD F_may_call sc_may_call sh_may_call (fun cdv A outer s H E hr G hG => dv_may_call b_tuple b_len b_isinstance ok_all_bids (by decide) g_all_bids F_all_bids.kp B_all_bids ok_last_but_pass (by decide) g_last_but_pass F_last_but_pass.kp B_last_but_pass ok_last_bid (by decide) g_last_bid F_last_bid.kp B_last_bid ok_is_over (by decide) g_is_over F_is_over.kp B_is_over cdv A outer s H E hr G hG) rd_may_call
  have ok_calls_fault : FnOk l.prog w K mg base CX0 4 f_calls_fault _ ["levels", "calls"] (spL K spFaultG) := fn_okD F_calls_fault sc_calls_fault sh_calls_fault_g (fun cdv A outer s H E hr G hG => dv_calls_fault b_enumerate ok_is_call (by decide) g_is_call F_is_call.kp B_is_call ok_may_call (by decide) g_may_call F_may_call.kp B_may_call cdv A outer s H E hr G hG) rd_calls_fault_g
  have ok_number_of : FnOk l.prog w K mg base (L2.CX l.prog w) 1 f_number_of _ ["word"] (spLX K (spNum1 (.ref A_NoText))) := fn_okX F_number_of sc_number_of (sh_number_of _) (fun cdv A outer s H E hr G hG WD hW => dv_number_of b_int b_len b_all b_str x_NoText g_NoText k_NoText b_NoText t_NoText cdv A outer s H E hr G hG WD hW) (rd_number_of _)
  have ok_call_of : FnOk l.prog w K mg base (L2.CX l.prog w) 4 f_call_of _ ["word"] (spLX K (spCallOf (.ref A_NoText))) := fn_okX F_call_of sc_call_of (sh_call_of _) (fun cdv A outer s H E hr G hG WD hW => dv_call_of b_len (v_STRAINS := .str "CDHSN") g_STRAINS ⟨_, rfl⟩ (fun _ => .str _) ok_is_call (by decide) g_is_call F_is_call.kp B_is_call ok_number_of (by decide) g_number_of F_number_of.kp B_number_of x_NoText g_NoText k_NoText b_NoText t_NoText cdv A outer s H E hr G hG WD hW) (rd_call_of _)
  have ok_read_calls : FnOk l.prog w K mg base (L2.CX l.prog w) 5 f_read_calls _ ["levels", "text"] (spLX K (spRead (.ref A_NoText))) := fn_okXE F_read_calls sc_read_calls (sh_read_calls _) (fun cdv A outer s H E hr G hG WD hW hE => dv_read_calls b_tuple ok_calls_fault (by decide) g_calls_fault F_calls_fault.kp B_calls_fault ok_call_of (by decide) g_call_of F_call_of.kp B_call_of x_NoText g_NoText k_NoText b_NoText t_NoText cdv A outer s H E hr G hG WD hW hE) (rd_read_calls _)
  have ok_law_told : FnOk l.prog w K mg base CX0 6 f_law_told _ ["levels", "text"] (spL K spTold) := fn_okD F_law_told sc_law_told sh_law_told (fun cdv A outer s H E hr G hG => dv_law_told ok_read_calls (by decide) g_read_calls F_read_calls.kp B_read_calls g_NoText (m_NoText := fun cls => PySem.W.exmOne K cls (.ref A_NoText)) (fun _ _ h => h) cdv A outer s H E hr G hG) (rd_law_told e_NoText)
  have ok_law_same_z : FnOk l.prog w K mg base CX0 1 f_law_same _ ["got", "due"] (spL K spNo) := no_ok F_law_same sc_law_same
  have ok_law_same_0 : FnOk l.prog w K mg base CX0 2 f_law_same _ ["got", "due"] (spL K (spSame 0)) := fn_okD F_law_same sc_law_same (sh_law_same 0) (fun cdv A outer s H E hr G hG => dv_law_same b_isinstance b_int b_bool b_str b_tuple b_zip b_all b_len ok_law_same_z (by decide) g_law_same F_law_same.kp B_law_same cdv A outer s H E hr G hG) (rd_law_same 0 spNo (fun m e => nomatch e))
  have ok_law_same_1 : FnOk l.prog w K mg base CX0 3 f_law_same _ ["got", "due"] (spL K (spSame 1)) := fn_okD F_law_same sc_law_same (sh_law_same 1) (fun cdv A outer s H E hr G hG => dv_law_same b_isinstance b_int b_bool b_str b_tuple b_zip b_all b_len ok_law_same_0 (by decide) g_law_same F_law_same.kp B_law_same cdv A outer s H E hr G hG) (rd_law_same 1 (spSame 0) (fun m e => by cases e; rfl))
  have ok_law_same : FnOk l.prog w K mg base CX0 4 f_law_same _ ["got", "due"] (spL K (spSame 2)) := fn_okD F_law_same sc_law_same (sh_law_same 2) (fun cdv A outer s H E hr G hG => dv_law_same b_isinstance b_int b_bool b_str b_tuple b_zip b_all b_len ok_law_same_1 (by decide) g_law_same F_law_same.kp B_law_same cdv A outer s H E hr G hG) (rd_law_same 2 (spSame 1) (fun m e => by cases e; rfl))
  have ok_law_draw : FnOk l.prog w K mg base CX0 1 f_law_draw _ ["script", "town", "many"] (spL K spDraw) := fn_okD F_law_draw sc_law_draw sh_law_draw (fun cdv A outer s H E hr G hG => dv_law_draw b_len b_abs b_max cdv A outer s H E hr G hG) rd_law_draw
  have ok_law_pick : FnOk l.prog w K mg base CX0 2 f_law_pick _ ["script", "town", "some"] (spL K spPick) := fn_okD F_law_pick sc_law_pick sh_law_pick (fun cdv A outer s H E hr G hG => dv_law_pick b_len ok_law_draw (by decide) g_law_draw F_law_draw.kp B_law_draw cdv A outer s H E hr G hG) rd_law_pick
  have ok_law_spoilt : FnOk l.prog w K mg base CX0 3 f_law_spoilt _ ["script", "town", "text", "signs"] (spL K spSpoilt) := fn_okD F_law_spoilt sc_law_spoilt sh_law_spoilt (fun cdv A outer s H E hr G hG => dv_law_spoilt b_len ok_law_draw (by decide) g_law_draw F_law_draw.kp B_law_draw ok_law_pick (by decide) g_law_pick F_law_pick.kp B_law_pick cdv A outer s H E hr G hG) rd_law_spoilt
  have ok_call_text : FnOk l.prog w K mg base CX0 1 f_call_text _ ["call"] (spL K spCallT) := fn_okD F_call_text sc_call_text sh_call_text (fun cdv A outer s H E hr G hG => dv_call_text b_isinstance b_tuple b_str (v_STRAINS := .str "CDHSN") g_STRAINS ⟨_, rfl⟩ (fun _ => .str _) cdv A outer s H E hr G hG) rd_call_text
  have ok_calls_text : FnOk l.prog w K mg base CX0 2 f_calls_text _ ["calls"] (spL K spCallsT) := fn_okD F_calls_text sc_calls_text sh_calls_text (fun cdv A outer s H E hr G hG => dv_calls_text ok_call_text (by decide) g_call_text F_call_text.kp B_call_text cdv A outer s H E hr G hG) rd_calls_text
  have ok_law_call_text : FnOk l.prog w K mg base CX0 1 f_law_call_text _ ["call"] (spL K spCallT) := fn_okD F_law_call_text sc_law_call_text sh_law_call_text (fun cdv A outer s H E hr G hG => dv_law_call_text b_isinstance b_tuple b_str cdv A outer s H E hr G hG) rd_law_call_text
  have ok_law_drawn_calls : FnOk l.prog w K mg base CX0 3 f_law_drawn_calls _ ["script", "town", "levels", "most"] (spL K spDrawnC) := fn_okD F_law_drawn_calls sc_law_drawn_calls sh_law_drawn_calls (fun cdv A outer s H E hr G hG => dv_law_drawn_calls b_range ok_law_pick (by decide) g_law_pick F_law_pick.kp B_law_pick ok_law_draw (by decide) g_law_draw F_law_draw.kp B_law_draw ok_law_may_call (by decide) g_law_may_call F_law_may_call.kp B_law_may_call cdv A outer s H E hr G hG) rd_law_drawn_calls
  have ok_law : FnOk l.prog w K mg base CX0 7 _ _ ["script"] (spL K spLaw) := fn_okD F_law sc_law sh_law (fun cdv A outer s H E hr G hG => dv_law b_range ok_law_read (by decide) g_law_read F_law_read.kp B_law_read ok_law_or_refused (by decide) g_law_or_refused F_law_or_refused.kp B_law_or_refused ok_law_told (by decide) g_law_told F_law_told.kp B_law_told ok_law_same (by decide) g_law_same F_law_same.kp B_law_same ok_law_spoilt (by decide) g_law_spoilt F_law_spoilt.kp B_law_spoilt ok_calls_text (by decide) g_calls_text F_calls_text.kp B_calls_text ok_law_call_text (by decide) g_law_call_text F_law_call_text.kp B_law_call_text ok_call_text (by decide) g_call_text F_call_text.kp B_call_text ok_law_pick (by decide) g_law_pick F_law_pick.kp B_law_pick ok_law_drawn_calls (by decide) g_law_drawn_calls F_law_drawn_calls.kp B_law_drawn_calls cdv A outer s H E hr G hG) rd_law_k33
  exact ok_law
end LW
open PySem PySem.W PyProof.Rows
set_option maxHeartbeats 0 in
theorem PySem.Challenge.cw_boardcalls_k33_whole_texts_of_calls_holds : PySem.Challenge.rw_boardcalls_k33_whole_texts_of_calls.Holds := by
  w_on; o_law; k_head; (case hw => w_witness2)
  k_fill
  refine DL.law_walk (l := PySem.Challenge.rw_boardcalls_k33_whole_texts_of_calls) (n := 63) (k := 7) (x := "script") (sp := DL.spLaw) rfl (by decide) rfl ⟨rfl, by decide, by decide⟩ (fun w h Y => PySem.W.kIn_of Y) ?F (fun ns Q hl _ q => ⟨ns, rfl, hl, q⟩)
  case F =>
    intro w mg fa h KX G hmg
    refine' LW.all_mk KX G hmg ?a_law_all_bids ?l_law_all_bids ?c_law_all_bids ?k_law_all_bids ?a_law_may_call ?l_law_may_call ?c_law_may_call ?k_law_may_call ?a_law_read_call ?l_law_read_call ?c_law_read_call ?k_law_read_call ?a_law_read ?l_law_read ?c_law_read ?k_law_read ?a_law_or_refused ?l_law_or_refused ?c_law_or_refused ?k_law_or_refused ?a_is_whole ?l_is_whole ?c_is_whole ?k_is_whole ?a_is_bid ?l_is_bid ?c_is_bid ?k_is_bid ?a_is_call ?l_is_call ?c_is_call ?k_is_call ?a_all_bids ?l_all_bids ?c_all_bids ?k_all_bids ?a_last_but_pass ?l_last_but_pass ?c_last_but_pass ?k_last_but_pass ?a_last_bid ?l_last_bid ?c_last_bid ?k_last_bid ?a_is_over ?l_is_over ?c_is_over ?k_is_over ?a_may_call ?l_may_call ?c_may_call ?k_may_call ?a_calls_fault ?l_calls_fault ?c_calls_fault ?k_calls_fault ?a_number_of ?l_number_of ?c_number_of ?k_number_of ?a_call_of ?l_call_of ?c_call_of ?k_call_of ?a_read_calls ?l_read_calls ?c_read_calls ?k_read_calls ?a_law_told ?l_law_told ?c_law_told ?k_law_told ?a_law_same ?l_law_same ?c_law_same ?k_law_same ?a_law_draw ?l_law_draw ?c_law_draw ?k_law_draw ?a_law_pick ?l_law_pick ?c_law_pick ?k_law_pick ?a_law_spoilt ?l_law_spoilt ?c_law_spoilt ?k_law_spoilt ?a_call_text ?l_call_text ?c_call_text ?k_call_text ?a_calls_text ?l_calls_text ?c_calls_text ?k_calls_text ?a_law_call_text ?l_law_call_text ?c_law_call_text ?k_law_call_text ?a_law_drawn_calls ?l_law_drawn_calls ?c_law_drawn_calls ?k_law_drawn_calls ?a_law ?l_law ?c_law ?k_law ?a_STRAINS ?a_NoText ?x_NoText ?k_NoText ?b_NoText ?t_NoText ?i_NoText ?s_NoText ?z_range ?z_tuple ?z_len ?z_isinstance ?z_enumerate ?z_str ?z_list ?z_int ?z_bool ?z_all ?z_zip ?z_abs ?z_max
    (case a_law_all_bids => k_is); (case l_law_all_bids => k_is); (case c_law_all_bids => k_is); (case k_law_all_bids => k_is); (case a_law_may_call => k_is); (case l_law_may_call => k_is); (case c_law_may_call => k_is); (case k_law_may_call => k_is); (case a_law_read_call => k_is); (case l_law_read_call => k_is); (case c_law_read_call => k_is); (case k_law_read_call => k_is); (case a_law_read => k_is); (case l_law_read => k_is); (case c_law_read => k_is); (case k_law_read => k_is); (case a_law_or_refused => k_is); (case l_law_or_refused => k_is); (case c_law_or_refused => k_is); (case k_law_or_refused => k_is); (case a_is_whole => k_is); (case l_is_whole => k_is); (case c_is_whole => k_is); (case k_is_whole => k_is); (case a_is_bid => k_is); (case l_is_bid => k_is); (case c_is_bid => k_is); (case k_is_bid => k_is); (case a_is_call => k_is); (case l_is_call => k_is); (case c_is_call => k_is); (case k_is_call => k_is); (case a_all_bids => k_is); (case l_all_bids => k_is); (case c_all_bids => k_is); (case k_all_bids => k_is); (case a_last_but_pass => k_is); (case l_last_but_pass => k_is); (case c_last_but_pass => k_is); (case k_last_but_pass => k_is); (case a_last_bid => k_is); (case l_last_bid => k_is); (case c_last_bid => k_is); (case k_last_bid => k_is); (case a_is_over => k_is); (case l_is_over => k_is); (case c_is_over => k_is); (case k_is_over => k_is); (case a_may_call => k_is); (case l_may_call => k_is); (case c_may_call => k_is); (case k_may_call => k_is); (case a_calls_fault => k_is); (case l_calls_fault => k_is); (case c_calls_fault => k_is); (case k_calls_fault => k_is); (case a_number_of => k_is); (case l_number_of => k_is); (case c_number_of => k_is); (case k_number_of => k_is); (case a_call_of => k_is); (case l_call_of => k_is); (case c_call_of => k_is); (case k_call_of => k_is); (case a_read_calls => k_is); (case l_read_calls => k_is); (case c_read_calls => k_is); (case k_read_calls => k_is); (case a_law_told => k_is); (case l_law_told => k_is); (case c_law_told => k_is); (case k_law_told => k_is); (case a_law_same => k_is); (case l_law_same => k_is); (case c_law_same => k_is); (case k_law_same => k_is); (case a_law_draw => k_is); (case l_law_draw => k_is); (case c_law_draw => k_is); (case k_law_draw => k_is); (case a_law_pick => k_is); (case l_law_pick => k_is); (case c_law_pick => k_is); (case k_law_pick => k_is); (case a_law_spoilt => k_is); (case l_law_spoilt => k_is); (case c_law_spoilt => k_is); (case k_law_spoilt => k_is); (case a_call_text => k_is); (case l_call_text => k_is); (case c_call_text => k_is); (case k_call_text => k_is); (case a_calls_text => k_is); (case l_calls_text => k_is); (case c_calls_text => k_is); (case k_calls_text => k_is); (case a_law_call_text => k_is); (case l_law_call_text => k_is); (case c_law_call_text => k_is); (case k_law_call_text => k_is); (case a_law_drawn_calls => k_is); (case l_law_drawn_calls => k_is); (case c_law_drawn_calls => k_is); (case k_law_drawn_calls => k_is); (case a_law => k_is); (case l_law => k_is); (case c_law => k_is); (case k_law => k_is); (case a_STRAINS => k_is); (case a_NoText => k_is); (case k_NoText => k_is); (case b_NoText => k_is); (case t_NoText => k_is); (case i_NoText => k_is); (case z_range => k_is); (case z_tuple => k_is); (case z_len => k_is); (case z_isinstance => k_is); (case z_enumerate => k_is); (case z_str => k_is); (case z_list => k_is); (case z_int => k_is); (case z_bool => k_is); (case z_all => k_is); (case z_zip => k_is); (case z_abs => k_is); (case z_max => k_is); (case x_NoText => k_exc); (case s_NoText => (first | rfl | k_is))
