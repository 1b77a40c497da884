import PyProof.Rows.All
import Wide.All
import OpenK.AllK
import Wide.FinOn
import HandS.ForMost
import HandS.Deep
import HandS.Flow
import HandS.IsInst
import HandS.EndBits
import KE.KDictKeyed
import HandS.DictTup
import HandS.Style
import HandS.Wide
import HandS.Zip
import HandS.Walk
import HandS.Ends
import HandS.Set
import HandS.SetFor
import HandS.Strs
import KE.SortData
import HandS.SortKw
import KE.GoesMore
import KE.DataFind
import KE.DataCmp
import KE.GoesZip
import KE.GoesEnum
import HandS.TupMul
import KE.DataMinMax
import HandS.TupSets
import KE.KDictDisplayH
import HandS.WordsExc
import HandS.TryOnly
import HandS.ExcOwn
import HandS.Conv
import HandS.NoneIn
import KE.KDictCopyH
import KE.KDictSum
import HandS.Records
import HandS.CallSlots
import HandS.Defaults
import HandS.MakeKw
import HandS.MakeKwOnly
import HandS.HotCalls
import HandS.ExcIs
import HandS.OwnEq
import HandS.FStr
import KE.KCallOwn
import HandS.Codes
import KE.KFmtOwn
import HandS.More
import HandS.Text
import HandS.Iter
import HandS.Exc
import HandS.Comp
import KE.GoesRaise
import PySem.Challenge.RW_boardcalls_k32_whole_texts_of_hands
set_option Elab.async false
set_option linter.all false
set_option maxRecDepth 100000
/-! DL1: deep data over the hand layer: relations, judgements, names, constants, statements. -/
namespace DL
open PySem PySem.Spec PyProof.Rows L2
abbrev D := PyData
abbrev St := L2.St
/-- a list that nobody writes: frozen, or one of the module's own -/
def LsF (K : PySem.W.Frag) (H : Hp) (a : Addr) (vs : List V) : Prop :=
  (∃ o, H a = some (.frz o (.lst vs))) ∨ ∃ (its : Array Value) (n : Nat), K.lookup a = some { cls := .type "list", data := .seq its n } ∧ its.size ≤ sizeLine ∧ Vals vs its.toList
theorem LsF.sq {K : PySem.W.Frag} {H : Hp} {a : Addr} {vs : List V} (h : LsF K H a vs) : SqL K H a vs := by
  rcases h with h | ⟨its, n, e, z, r⟩
  · exact .inl (.inr h)
  · exact .inr ⟨_, its, n, e, rfl, rfl, rfl, z, r⟩
theorem LsF.of {K : PySem.W.Frag} {H : Hp} {a : Addr} {vs : List V} {o : Obj} (h : H a = some (.frz o (.lst vs))) : LsF K H a vs := .inl ⟨o, h⟩
/-- the object at a has no dict of its own -/
def DNo (K : PySem.W.Frag) (H : Hp) (a : Addr) : Prop := (∃ (o : Obj) (u : HO), H a = some (.frz o u) ∧ o.dict = none) ∨ ∃ o, K.lookup a = some o ∧ o.dict = none
def SqD (K : PySem.W.Frag) (H : Hp) (a : Addr) (vs : List V) : Prop := SqT K H a vs ∧ DNo K H a
/-! ### dicts whose keys are tuples (of ints, nested): the object by its entries -/
mutual
/-- the key of a dict that a tuple of ints (nested) is -/
def nkOf : D → Option NestedKey
  | .int i => some (.num i)
  | .tuple xs => (nksOf xs).map .tup
  | _ => none
def nksOf : List D → Option (List NestedKey)
  | [] => some []
  | x :: xs => match nkOf x, nksOf xs with
    | some k, some ks => some (k :: ks)
    | _, _ => none
end
/-- at a stands a dict with these entries -/
def dO (a : Addr) (es : List DictEntry) : HO := .ext fun h => ∃ (o : Obj) (ep : Nat), h.get? a = some o ∧ o.ExactDict ∧ o.data = .dict es.toArray ep
/-- a key (an int, a text) as data -/
def keyDt : Key → D
  | .inl i => .int i
  | .inr x => .str x
/-- an object's name as data -/
def hdl (a : Addr) : D := .dict [(.none, .int a)]
mutual
/-- the value v stands for the data d; lists within data are frozen -/
inductive Rp (K : PySem.W.Frag) (H : Hp) : D → V → Prop
  | non : Rp K H .none .non
  | bl (b : Bool) : Rp K H (.bool b) (.bl b)
  | int (i : Int) : Rp K H (.int i) (.int i)
  | str (x : Str) : Rp K H (.str x) (.str x)
  | tup {a : Addr} {vs : List V} {ds : List D} : SqD K H a vs → RpL K H ds vs → Rp K H (.tuple ds) (.ref a)
  | lst {a : Addr} {vs : List V} {ds : List D} : LsF K H a vs → RpL K H ds vs → Rp K H (.list ds) (.ref a)
  | dct {a : Addr} {o : Obj} {es : List DictEntry} {kvs : List (D × D)} : H a = some (.frz o (dO a es)) → RpD K H kvs es → (kvs.map fun p => nkOf p.1).Nodup → (a == sysModules) = false → Rp K H (.dict kvs) (.ref a)
  | hdl (a : Addr) : Rp K H (hdl a) (.ref a)
  | dck {a : Addr} {o : Obj} {us : List (Key × V)} {kvs : List (D × D)} : H a = some (.frz o (.dK us)) → kvs.map (·.1) = us.map (fun u => keyDt u.1) → RpL K H (kvs.map (·.2)) (us.map (·.2)) → kvs ≠ [] → Rp K H (.dict kvs) (.ref a)
inductive RpL (K : PySem.W.Frag) (H : Hp) : List D → List V → Prop
  | nil : RpL K H [] []
  | cons {d : D} {v : V} {ds : List D} {vs : List V} : Rp K H d v → RpL K H ds vs → RpL K H (d :: ds) (v :: vs)
/-- the entries of a dict -/
inductive RpD (K : PySem.W.Frag) (H : Hp) : List (D × D) → List DictEntry → Prop
  | nil : RpD K H [] []
  | cons {k d : D} {nk : NestedKey} {b : Addr} {v : V} {e : DictEntry} {kvs : List (D × D)} {es : List DictEntry} : (∃ xs, k = .tuple xs) → nkOf k = some nk → nk.depth ≤ 8 → (∀ w, e.hash = nk.hash w) → e.key = .ref b → Rp K H k (.ref b) → Rp K H d v → RelV v e.val → RpD K H kvs es → RpD K H ((k, d) :: kvs) (e :: es)
end
/-- what never changes stays -/
structure Ext (H H' : Hp) : Prop where
  tup : ∀ a xs, H a = some (.tup xs) → H' a = some (.tup xs)
  frz : ∀ a o u, H a = some (.frz o u) → H' a = some (.frz o u)
/-- all stays -/
def PExt (H H' : Hp) : Prop := ∀ a o, H a = some o → H' a = some o
theorem PExt.ext {H H' : Hp} (p : PExt H H') : Ext H H' := ⟨fun a xs h => p a _ h, fun a o u h => p a _ h⟩
theorem PExt.refl (H : Hp) : PExt H H := fun _ _ h => h
theorem PExt.trans {H H1 H2 : Hp} (a : PExt H H1) (b : PExt H1 H2) : PExt H H2 := fun p o h => b p o (a p o h)
theorem Ext.refl (H : Hp) : Ext H H := ⟨fun _ _ h => h, fun _ _ _ h => h⟩
theorem Ext.trans {H H1 H2 : Hp} (a : Ext H H1) (b : Ext H1 H2) : Ext H H2 := ⟨fun p xs h => b.tup p xs (a.tup p xs h), fun p o u h => b.frz p o u (a.frz p o u h)⟩
theorem PExt.new {H : Hp} {p : Addr} {o : HO} (h : H p = none) : PExt H (upd H p o) := fun a u e => by
  rw [upd_ne (ne_of_none e h)]; exact e
/-- something soft is changed -/
theorem Ext.putS {H : Hp} {p : Addr} {u o : HO} (h : H p = some u) (h1 : ∀ xs, u ≠ .tup xs) (h2 : ∀ q v, u ≠ .frz q v) : Ext H (upd H p o) :=
  ⟨fun a ys e => by rw [upd_ne (ne_of e h (Ne.symm (h1 ys)))]; exact e, fun a q v e => by rw [upd_ne (ne_of e h (Ne.symm (h2 q v)))]; exact e⟩
/-- a list is changed -/
theorem Ext.put {H : Hp} {p : Addr} {xs : List V} {o : HO} (h : H p = some (.lst xs)) : Ext H (upd H p o) :=
  ⟨fun a ys e => by rw [upd_ne (ne_of e h (by intro z; cases z))]; exact e, fun a q u e => by rw [upd_ne (ne_of e h (by intro z; cases z))]; exact e⟩
section
variable {K : PySem.W.Frag} {H H' : Hp}
theorem SqT.ext {a : Addr} {xs : List V} (x : Ext H H') (h : SqT K H a xs) : SqT K H' a xs := by
  rcases h with (h | ⟨o, h⟩) | h
  · exact .inl (.inl (x.tup _ _ h))
  · exact .inl (.inr ⟨o, x.frz _ _ _ h⟩)
  · exact .inr h
theorem SqD.ext {a : Addr} {xs : List V} (x : Ext H H') (h : SqD K H a xs) : SqD K H' a xs := by
  refine ⟨SqT.ext x h.1, ?_⟩
  rcases h.2 with ⟨o, u, e, d⟩ | h
  · exact .inl ⟨o, u, x.frz _ _ _ e, d⟩
  · exact .inr h
theorem SqD.new {p : Addr} {o : Obj} {vs : List V} (d : o.dict = none) : SqD K (upd H p (.frz o (.tup vs))) p vs := ⟨.inl (.inr ⟨o, upd_same⟩), .inl ⟨o, _, upd_same, d⟩⟩
theorem LsF.ext {a : Addr} {xs : List V} (x : Ext H H') (h : LsF K H a xs) : LsF K H' a xs := by
  rcases h with ⟨o, h⟩ | h
  · exact .inl ⟨o, x.frz _ _ _ h⟩
  · exact .inr h
mutual
theorem Rp.ext (x : Ext H H') : ∀ {d : D} {v : V}, Rp K H d v → Rp K H' d v
  | _, _, .non => .non
  | _, _, .bl b => .bl b
  | _, _, .int i => .int i
  | _, _, .str s => .str s
  | _, _, .tup h l => .tup (SqD.ext x h) (RpL.ext x l)
  | _, _, .lst h l => .lst (LsF.ext x h) (RpL.ext x l)
  | _, _, .dct h l n m => .dct (x.frz _ _ _ h) (RpD.ext x l) n m
  | _, _, .hdl a => .hdl a
  | _, _, .dck h e l n => .dck (x.frz _ _ _ h) e (RpL.ext x l) n
theorem RpL.ext (x : Ext H H') : ∀ {ds : List D} {vs : List V}, RpL K H ds vs → RpL K H' ds vs
  | _, _, .nil => .nil
  | _, _, .cons h l => .cons (Rp.ext x h) (RpL.ext x l)
theorem RpD.ext (x : Ext H H') : ∀ {kvs : List (D × D)} {es : List DictEntry}, RpD K H kvs es → RpD K H' kvs es
  | _, _, .nil => .nil
  | _, _, .cons t n1 n2 n3 e h g r l => .cons t n1 n2 n3 e (Rp.ext x h) (Rp.ext x g) r (RpD.ext x l)
end
theorem RpD.length : ∀ {kvs : List (D × D)} {es : List DictEntry}, RpD K H kvs es → kvs.length = es.length
  | _, _, .nil => rfl
  | _, _, .cons _ _ _ _ _ _ _ _ l => by rw [List.length_cons, List.length_cons, RpD.length l]
theorem RpL.length : ∀ {ds : List D} {vs : List V}, RpL K H ds vs → ds.length = vs.length
  | _, _, .nil => rfl
  | _, _, .cons _ l => by rw [List.length_cons, List.length_cons, RpL.length l]
theorem RpL.get : ∀ {ds : List D} {vs : List V} {i : Nat} {d : D}, RpL K H ds vs → ds[i]? = some d → ∃ v, vs[i]? = some v ∧ Rp K H d v
  | _, _, _, _, .nil, e => by simp at e
  | _, _, 0, _, .cons r _, e => by simp at e; subst e; exact ⟨_, rfl, r⟩
  | _, _, i + 1, d, .cons _ t, e => by
    obtain ⟨u, h1, h2⟩ := RpL.get (i := i) (d := d) t (by simpa using e)
    exact ⟨u, by simpa using h1, h2⟩
theorem RpL.getV : ∀ {ds : List D} {vs : List V} {i : Nat} {v : V}, RpL K H ds vs → vs[i]? = some v → ∃ d, ds[i]? = some d ∧ Rp K H d v
  | _, _, _, _, .nil, e => by simp at e
  | _, _, 0, _, .cons r _, e => by simp at e; subst e; exact ⟨_, rfl, r⟩
  | _, _, i + 1, d, .cons _ t, e => by
    obtain ⟨u, h1, h2⟩ := RpL.getV (i := i) (v := d) t (by simpa using e)
    exact ⟨u, by simpa using h1, h2⟩
theorem RpL.append : ∀ {ds es : List D} {vs us : List V}, RpL K H ds vs → RpL K H es us → RpL K H (ds ++ es) (vs ++ us)
  | _, _, _, _, .nil, s => s
  | _, _, _, _, .cons r t, s => .cons r (RpL.append t s)
theorem RpL.take : ∀ {ds : List D} {vs : List V} (n : Nat), RpL K H ds vs → RpL K H (ds.take n) (vs.take n)
  | _, _, 0, _ => .nil
  | _, _, _ + 1, .nil => .nil
  | _, _, n + 1, .cons r t => .cons r (RpL.take n t)
theorem RpL.drop : ∀ {ds : List D} {vs : List V} (n : Nat), RpL K H ds vs → RpL K H (ds.drop n) (vs.drop n)
  | _, _, 0, r => r
  | _, _, _ + 1, .nil => .nil
  | _, _, n + 1, .cons _ t => RpL.drop n t
theorem RpL.set {d : D} {v : V} (r : Rp K H d v) : ∀ {ds : List D} {vs : List V} (i : Nat), RpL K H ds vs → RpL K H (ds.set i d) (vs.set i v)
  | _, _, _, .nil => .nil
  | _, _, 0, .cons _ t => .cons r t
  | _, _, i + 1, .cons q t => .cons q (RpL.set r i t)
theorem RpL.eraseIdx : ∀ {ds : List D} {vs : List V} (i : Nat), RpL K H ds vs → RpL K H (ds.eraseIdx i) (vs.eraseIdx i)
  | _, _, _, .nil => .nil
  | _, _, 0, .cons _ t => t
  | _, _, i + 1, .cons q t => .cons q (RpL.eraseIdx i t)
theorem RpL.reverse : ∀ {ds : List D} {vs : List V}, RpL K H ds vs → RpL K H ds.reverse vs.reverse
  | _, _, .nil => .nil
  | _, _, .cons q t => by rw [List.reverse_cons, List.reverse_cons]; exact RpL.append (RpL.reverse t) (.cons q .nil)
theorem RpL.ints : ∀ {ns : List Int} {vs : List V}, RpL K H (ns.map PyData.int) vs → vs = ns.map V.int
  | [], _, .nil => rfl
  | _ :: _, _, .cons (.int _) t => by rw [RpL.ints t]; rfl
theorem RpL.ofInts : ∀ (ns : List Int), RpL K H (ns.map PyData.int) (ns.map V.int)
  | [] => .nil
  | n :: ns => .cons (.int n) (RpL.ofInts ns)
mutual
theorem Rp.dp : ∀ {d : D} {v : V}, Rp K H d v → d.canLay0 = true → Dp K H v d
  | _, _, .non, _ => .non
  | _, _, .bl b, _ => .bl b
  | _, _, .int i, _ => .int i
  | _, _, .str s, _ => .str s
  | _, _, .tup h l, z => .tup h.1 (RpL.dp l (by simpa [PyData.canLay0] using z))
  | _, _, .lst h l, z => .lst h.sq (RpL.dp l (by simpa [PyData.canLay0] using z))
  | _, _, .dct _ _ _ _, z => by simp [PyData.canLay0] at z
  | _, _, .hdl a, z => by simp [DL.hdl, PyData.canLay0] at z
  | _, _, .dck _ _ _ _, z => by simp [PyData.canLay0] at z
theorem RpL.dp : ∀ {ds : List D} {vs : List V}, RpL K H ds vs → PyData.canLayAll0 ds = true → DpAll K H vs ds
  | _, _, .nil, _ => .nil
  | _, _, .cons h l, z => by
    simp only [PyData.canLayAll0, Bool.and_eq_true] at z
    exact .cons (Rp.dp h z.1) (RpL.dp l z.2)
end
end
/-- readable now: as Rp, the outermost list may be one that can change -/
def RpR (K : PySem.W.Frag) (H : Hp) (d : D) (v : V) : Prop :=
  Rp K H d v ∨ ∃ (ds : List D) (a : Addr) (vs : List V), d = .list ds ∧ v = .ref a ∧ H a = some (.lst vs) ∧ RpL K H ds vs
theorem RpR.dp {K : PySem.W.Frag} {H : Hp} {d : D} {v : V} (h : RpR K H d v) (z : d.canLay0 = true) : Dp K H v d := by
  rcases h with h | ⟨ds, a, vs, rfl, rfl, h, l⟩
  · exact h.dp z
  · exact .lst (.inl (.inl h)) (l.dp (by simpa [PyData.canLay0] using z))
/-- what an iterator hands out: a pair of its own may be there, of which less is known -/
def RpB (W : Bool) (K : PySem.W.Frag) (H : Hp) (d : D) (v : V) : Prop :=
  if W = true then Rp K H d v ∨ ∃ (ds : List D) (a : Addr) (vs : List V), d = .tuple ds ∧ v = .ref a ∧ SqT K H a vs ∧ RpL K H ds vs else Rp K H d v
theorem RpB.of {W : Bool} {K : PySem.W.Frag} {H : Hp} {d : D} {v : V} (h : Rp K H d v) : RpB W K H d v := by unfold RpB; split; exact .inl h; exact h
theorem RpB.pair {K : PySem.W.Frag} {H : Hp} {ds : List D} {a : Addr} {vs : List V} (h : SqT K H a vs) (l : RpL K H ds vs) : RpB true K H (.tuple ds) (.ref a) := .inr ⟨_, _, _, rfl, rfl, h, l⟩
/-- a list or a tuple that is read: its items -/
theorem RpR.list {K : PySem.W.Frag} {H : Hp} {ds : List D} {v : V} (h : RpR K H (.list ds) v) : ∃ a vs, v = .ref a ∧ SqL K H a vs ∧ RpL K H ds vs := by
  rcases h with h | ⟨ds, a, vs, e, rfl, h, l⟩
  · cases h with
    | lst h l => exact ⟨_, _, rfl, h.sq, l⟩
  · cases e
    exact ⟨_, _, rfl, .inl (.inl h), l⟩
theorem RpR.tupD {K : PySem.W.Frag} {H : Hp} {ds : List D} {v : V} (h : RpR K H (.tuple ds) v) : ∃ a vs, v = .ref a ∧ SqD K H a vs ∧ RpL K H ds vs := by
  rcases h with h | ⟨ds, a, vs, e, _⟩
  · cases h with
    | tup h l => exact ⟨_, _, rfl, h, l⟩
  · cases e
theorem RpR.tuple {K : PySem.W.Frag} {H : Hp} {ds : List D} {v : V} (h : RpR K H (.tuple ds) v) : ∃ a vs, v = .ref a ∧ SqT K H a vs ∧ RpL K H ds vs := by
  rcases h with h | ⟨ds, a, vs, e, rfl, h, l⟩
  · cases h with
    | tup h l => exact ⟨_, _, rfl, h.1, l⟩
  · cases e
theorem RpR.int {K : PySem.W.Frag} {H : Hp} {i : Int} {v : V} (h : RpR K H (.int i) v) : v = .int i := by
  rcases h with h | ⟨_, _, _, e, _⟩
  · cases h; rfl
  · cases e
theorem RpR.str {K : PySem.W.Frag} {H : Hp} {i : Str} {v : V} (h : RpR K H (.str i) v) : v = .str i := by
  rcases h with h | ⟨_, _, _, e, _⟩
  · cases h; rfl
  · cases e
theorem RpR.bool {K : PySem.W.Frag} {H : Hp} {i : Bool} {v : V} (h : RpR K H (.bool i) v) : v = .bl i := by
  rcases h with h | ⟨_, _, _, e, _⟩
  · cases h; rfl
  · cases e
theorem RpR.none {K : PySem.W.Frag} {H : Hp} {v : V} (h : RpR K H .none v) : v = .non := by
  rcases h with h | ⟨_, _, _, e, _⟩
  · cases h; rfl
  · cases e
theorem RpR.pext {K : PySem.W.Frag} {H H' : Hp} {d : D} {v : V} (p : PExt H H') (h : RpR K H d v) : RpR K H' d v := by
  rcases h with h | ⟨ds, a, vs, rfl, rfl, h, l⟩
  · exact .inl (h.ext p.ext)
  · exact .inr ⟨ds, a, vs, rfl, rfl, p _ _ h, l.ext p.ext⟩
/-! ### the environment -/
inductive FS where
  | d (x : D)
  | l (xs : List D)
inductive S where
  /-- not known -/
  | un
  /-- data -/
  | d (x : D)
  /-- a list of one's own that may change -/
  | ol (xs : List D)
  /-- a dict of one's own, keys tuples of ints -/
  | dt (kvs : List (D × D))
  /-- a dict of one's own, keys ints and texts -/
  | dk (kvs : List (Key × D))
  /-- no name's: the object at a, of the class at C -/
  | ob (a C : Addr) (fs : List (Str × FS))
  /-- no name's: the list at a, that may change -/
  | gl (a : Addr) (xs : List D)
  /-- no name's: the object at a stands for data -/
  | al (a : Addr) (x : D)
abbrev Env := List S
def S.isMut : S → Bool
  | .ol _ => true
  | .dt _ => true
  | .dk _ => true
  | _ => false
structure Gh where
  H0 : Hp
  own : List (Nat × Addr)
  X0 : Hp := fun _ => none
  more : List Addr := []
def Gh.slots (G : Gh) : List Nat := G.own.map (·.1)
def Gh.addrs (G : Gh) : List Addr := G.own.map (·.2) ++ G.more
/-- a mutable thing at an address -/
def RelM (K : PySem.W.Frag) (H : Hp) : S → Addr → Prop
  | .ol xs, a => ∃ vs, H a = some (.lst vs) ∧ RpL K H xs vs
  | .dt kvs, a => ∃ es, H a = some (dO a es) ∧ RpD K H kvs es ∧ (kvs.map fun p => nkOf p.1).Nodup ∧ (a == sysModules) = false
  | .dk kvs, a => ∃ us, H a = some (.dK us) ∧ us.map (·.1) = kvs.map (·.1) ∧ RpL K H (kvs.map (·.2)) (us.map (·.2))
  | _, _ => False
/-- the fields of an object: data, lists of its own -/
inductive FsR (K : PySem.W.Frag) (H : Hp) : List (Str × FS) → List (Str × V) → List Addr → Prop
  | nil : FsR K H [] [] []
  | d {f : Str} {x : D} {v : V} {fs : List (Str × FS)} {vs : List (Str × V)} {ls : List Addr} : Rp K H x v → FsR K H fs vs ls → FsR K H ((f, .d x) :: fs) ((f, v) :: vs) ls
  | l {f : Str} {xs : List D} {a : Addr} {us : List V} {fs : List (Str × FS)} {vs : List (Str × V)} {ls : List Addr} : H a = some (.lst us) → RpL K H xs us → FsR K H fs vs ls → FsR K H ((f, .l xs) :: fs) ((f, .ref a) :: vs) (a :: ls)
def RelOb (K : PySem.W.Frag) (H : Hp) (a C : Addr) (fs : List (Str × FS)) (fp : List Addr) : Prop :=
  ∃ dx vs ls, fp = a :: dx :: ls ∧ fp.Nodup ∧ H a = some (.ins C dx vs) ∧ H dx = some (.own a) ∧ FsR K H fs vs ls
def RelS (K : PySem.W.Frag) (H : Hp) (s : S) (o : Option (Option V)) (fp : List Addr) : Prop :=
  match s with
  | .un => fp = []
  | .d x => fp = [] ∧ ∃ v, o = some (some v) ∧ Rp K H x v
  | .ob a C fs => RelOb K H a C fs fp
  | .ol xs => ∃ a, fp = [a] ∧ o = some (some (.ref a)) ∧ RelM K H (.ol xs) a
  | .dt xs => ∃ a, fp = [a] ∧ o = some (some (.ref a)) ∧ RelM K H (.dt xs) a
  | .dk xs => ∃ a, fp = [a] ∧ o = some (some (.ref a)) ∧ RelM K H (.dk xs) a
  | .gl a xs => fp = [a] ∧ RelM K H (.ol xs) a
  | .al a x => fp = [] ∧ Rp K H x (.ref a)
theorem RelS.mut {K : PySem.W.Frag} {H : Hp} {s : S} {o : Option (Option V)} {fp : List Addr} (h : RelS K H s o fp) (m : s.isMut = true) : ∃ a, fp = [a] ∧ o = some (some (.ref a)) ∧ RelM K H s a := by
  cases s with
  | ol _ => exact h
  | dt _ => exact h
  | dk _ => exact h
  | _ => cases m
theorem RelS.ofMut {K : PySem.W.Frag} {H : Hp} {s : S} {o : Option (Option V)} {a : Addr} (m : s.isMut = true) (e : o = some (some (.ref a))) (h : RelM K H s a) : RelS K H s o [a] := by
  cases s with
  | ol _ => exact ⟨a, rfl, e, h⟩
  | dt _ => exact ⟨a, rfl, e, h⟩
  | dk _ => exact ⟨a, rfl, e, h⟩
  | _ => cases m
/-- what can change: no tuple, nothing frozen -/
def Soft (H : Hp) (a : Addr) : Prop := ∃ u, H a = some u ∧ (∀ xs, u ≠ .tup xs) ∧ ∀ o v, u ≠ .frz o v
theorem RelM.soft {K : PySem.W.Frag} {H : Hp} {s : S} {a : Addr} (h : RelM K H s a) : Soft H a := by
  cases s with
  | ol xs => obtain ⟨vs, e, _⟩ := h; exact ⟨_, e, (fun _ z => by cases z), fun _ _ z => by cases z⟩
  | dt xs => obtain ⟨vs, e, _⟩ := h; exact ⟨_, e, (fun _ z => by cases z), fun _ _ z => by cases z⟩
  | dk xs => obtain ⟨vs, e, _⟩ := h; exact ⟨_, e, (fun _ z => by cases z), fun _ _ z => by cases z⟩
  | _ => exact h.elim
theorem RelM.isMut {K : PySem.W.Frag} {H : Hp} {s : S} {a : Addr} (h : RelM K H s a) : s.isMut = true := by
  cases s with
  | ol xs => rfl
  | dt xs => rfl
  | dk xs => rfl
  | _ => exact h.elim
theorem RelM.move {K : PySem.W.Frag} {H H' : Hp} {s : S} {a : Addr} (h : RelM K H s a) (x : Ext H H') (k : H' a = H a) : RelM K H' s a := by
  cases s with
  | ol xs => obtain ⟨vs, e, l⟩ := h; exact ⟨vs, by rw [k]; exact e, l.ext x⟩
  | dt xs => obtain ⟨es, e, l, n, m⟩ := h; exact ⟨es, by rw [k]; exact e, l.ext x, n, m⟩
  | dk xs => obtain ⟨us, e, n, l⟩ := h; exact ⟨us, by rw [k]; exact e, n, l.ext x⟩
  | _ => exact h.elim
theorem FsR.move {K : PySem.W.Frag} {H H' : Hp} (x : Ext H H') : ∀ {fs : List (Str × FS)} {vs : List (Str × V)} {ls : List Addr}, FsR K H fs vs ls → (∀ p ∈ ls, H' p = H p) → FsR K H' fs vs ls
  | _, _, _, .nil, _ => .nil
  | _, _, _, FsR.d h r, k => FsR.d (h.ext x) (FsR.move x r k)
  | _, _, _, FsR.l h q r, k => FsR.l (by rw [k _ (List.mem_cons_self ..)]; exact h) (q.ext x) (FsR.move x r fun p hp => k p (List.mem_cons_of_mem _ hp))
theorem FsR.soft {K : PySem.W.Frag} {H : Hp} : ∀ {fs : List (Str × FS)} {vs : List (Str × V)} {ls : List Addr}, FsR K H fs vs ls → ∀ p ∈ ls, Soft H p
  | _, _, _, .nil, p, hp => by cases hp
  | _, _, _, FsR.d h r, p, hp => FsR.soft r p hp
  | _, _, _, FsR.l h q r, p, hp => by
    rcases List.mem_cons.mp hp with z | z
    · subst z; exact ⟨_, h, (fun _ z => by cases z), fun _ _ z => by cases z⟩
    · exact FsR.soft r p z
/-- what a slot holds stays, if its footprint does -/
theorem RelS.move {K : PySem.W.Frag} {H H' : Hp} {s : S} {o : Option (Option V)} {fp : List Addr} (h : RelS K H s o fp) (x : Ext H H') (k : ∀ p ∈ fp, H' p = H p) : RelS K H' s o fp := by
  cases s with
  | un => exact h
  | d y => obtain ⟨h1, v, h2, h3⟩ := h; exact ⟨h1, v, h2, h3.ext x⟩
  | ob a C fs =>
    obtain ⟨dx, vs, ls, e, nd, h1, h2, h3⟩ := h
    subst e
    exact ⟨dx, vs, ls, rfl, nd, by rw [k a (by simp)]; exact h1, by rw [k dx (by simp)]; exact h2, h3.move x fun p hp => k p (by simp [hp])⟩
  | ol xs => obtain ⟨a, e, e2, h⟩ := h; subst e; exact ⟨a, rfl, e2, h.move x (k a (by simp))⟩
  | dt xs => obtain ⟨a, e, e2, h⟩ := h; subst e; exact ⟨a, rfl, e2, h.move x (k a (by simp))⟩
  | dk xs => obtain ⟨a, e, e2, h⟩ := h; subst e; exact ⟨a, rfl, e2, h.move x (k a (by simp))⟩
  | gl a xs => obtain ⟨e, h⟩ := h; subst e; exact ⟨rfl, h.move x (k a (by simp))⟩
  | al a y => exact ⟨h.1, h.2.ext x⟩
/-- ex: addresses apart from all footprints -/
structure RelX (K : PySem.W.Frag) (G : Gh) (ex : List Addr) (H : Hp) (E : Env) (σ : St) : Prop where
  len : E.length = σ.length
  keep : ∀ p o, G.H0 p = some o → p ∉ G.addrs → H p = some o
  pin : ∀ i a, (i, a) ∈ G.own → σ[i]? = some (some (V.ref a))
  dom : ∀ a ∈ G.addrs, H a ≠ none
  ext : Ext G.X0 H
  fp : ∃ A : Nat → List Addr, (∀ i j a, a ∈ A i → a ∈ A j → i = j) ∧ (∀ i a, a ∈ A i → (a ∈ G.addrs ∨ G.H0 a = none) ∧ a ∉ ex) ∧ ∀ i s, E[i]? = some s → RelS K H s σ[i]? (A i)
abbrev RelE (K : PySem.W.Frag) (G : Gh) (H : Hp) (E : Env) (σ : St) : Prop := RelX K G [] H E σ
section
variable {K : PySem.W.Frag} {G : Gh} {H H' : Hp} {E : Env} {σ : St} {ex : List Addr}
/-- a footprint lies in the heap -/
theorem RelS.indom {s : S} {o : Option (Option V)} {fp : List Addr} (h : RelS K H s o fp) : ∀ a ∈ fp, Soft H a := by
  cases s with
  | un => intro a ha; rw [show fp = [] from h] at ha; cases ha
  | d x => intro a ha; rw [h.1] at ha; cases ha
  | ob a C fs =>
    obtain ⟨dx, vs, ls, e, nd, h1, h2, h3⟩ := h
    subst e
    intro p hp
    rcases List.mem_cons.mp hp with z | z
    · subst z; exact ⟨_, h1, (fun _ z => by cases z), fun _ _ z => by cases z⟩
    · rcases List.mem_cons.mp z with z | z
      · subst z; exact ⟨_, h2, (fun _ z => by cases z), fun _ _ z => by cases z⟩
      · exact h3.soft p z
  | ol xs => obtain ⟨a, e, e2, h⟩ := h; subst e; intro p hp; rw [List.mem_singleton.mp hp]; exact h.soft
  | dt xs => obtain ⟨a, e, e2, h⟩ := h; subst e; intro p hp; rw [List.mem_singleton.mp hp]; exact h.soft
  | dk xs => obtain ⟨a, e, e2, h⟩ := h; subst e; intro p hp; rw [List.mem_singleton.mp hp]; exact h.soft
  | gl a xs => obtain ⟨e, h⟩ := h; subst e; intro p hp; rw [List.mem_singleton.mp hp]; exact h.soft
  | al a y => intro p hp; rw [h.1] at hp; cases hp
theorem RelS.pext {s : S} {o : Option (Option V)} {fp : List Addr} (p : PExt H H') (h : RelS K H s o fp) : RelS K H' s o fp :=
  h.move p.ext fun a ha => by
    obtain ⟨u, e, _⟩ := h.indom a ha
    rw [e, p _ _ e]
theorem RelX.pext (p : PExt H H') (h : RelX K G ex H E σ) : RelX K G ex H' E σ := by
  obtain ⟨l, k, pn, dm, x0, A, h1, h2, h3⟩ := h
  refine ⟨l, fun q o e ne => p _ _ (k q o e ne), pn, fun a ha z => ?_, x0.trans p.ext, A, h1, h2, fun i s e => (h3 i s e).pext p⟩
  cases q : H a with
  | none => exact dm a ha q
  | some o => have := p _ _ q; rw [z] at this; cases this
theorem RelX.weak (h : RelX K G ex H E σ) : RelE K G H E σ := by
  obtain ⟨l, k, pn, dm, x0, A, h1, h2, h3⟩ := h
  exact ⟨l, k, pn, dm, x0, A, h1, fun i a e => ⟨(h2 i a e).1, by simp⟩, h3⟩
end
end DL
set_option Elab.async false
set_option linter.all false
set_option maxRecDepth 100000
namespace DL
open PySem PySem.Spec PyProof.Rows L2
/-! ### judgements -/
abbrev TD := Env → (D → Env → Prop) → Prop
abbrev TLd := Env → (List D → Env → Prop) → Prop
abbrev TTd := Env → (Bool → Env → Prop) → Prop
structure EndsD where
  nx : Env → Prop
  rt : D → Env → Prop
  bk : Env → Prop := fun _ => False
  ct : Env → Prop := fun _ => False
abbrev TSd := EndsD → Env → Prop
/-- an argument: data, or a name of a mutable thing -/
inductive Arg where
  | v (x : D)
  | o (i : Nat)
abbrev TAd := Env → (List Arg → Env → Prop) → Prop
def liftE (K : PySem.W.Frag) (G : Gh) (t : TD) : TE := fun σ H Q => ∃ (E : Env) (QE : D → Env → Prop), RelE K G H E σ ∧ t E QE ∧ ∀ d E' v H', QE d E' → Ext H H' → RelE K G H' E' σ → Rp K H' d v → Q v H'
/-- a new list: nobody else has it -/
def liftL (K : PySem.W.Frag) (G : Gh) (t : TLd) : TE := fun σ H Q => ∃ (E : Env) (QE : List D → Env → Prop), RelE K G H E σ ∧ t E QE ∧
  ∀ xs E' a vs H', QE xs E' → Ext H H' → RelX K G [a] H' E' σ → G.H0 a = none → a ∉ G.addrs → H' a = some (.lst vs) → RpL K H' xs vs → Q (.ref a) H'
/-- readable now -/
def liftR (K : PySem.W.Frag) (G : Gh) (t : TD) : TE := fun σ H Q => ∃ (E : Env) (QE : D → Env → Prop), RelE K G H E σ ∧ t E QE ∧ ∀ d E' v H', QE d E' → Ext H H' → RelE K G H' E' σ → RpR K H' d v → Q v H'
def liftT (K : PySem.W.Frag) (G : Gh) (t : TTd) : TT := fun σ H Q => ∃ (E : Env) (QE : Bool → Env → Prop), RelE K G H E σ ∧ t E QE ∧ ∀ b E' H', QE b E' → Ext H H' → RelE K G H' E' σ → Q b H'
/-- the values of arguments at a heap -/
inductive RelA (K : PySem.W.Frag) (H : Hp) (σ : St) : List Arg → List V → Prop
  | nil : RelA K H σ [] []
  | v {x : D} {v : V} {as : List Arg} {vs : List V} : Rp K H x v → RelA K H σ as vs → RelA K H σ (.v x :: as) (v :: vs)
  | o {i : Nat} {v : V} {as : List Arg} {vs : List V} : σ[i]? = some (some v) → RelA K H σ as vs → RelA K H σ (.o i :: as) (v :: vs)
def liftA (K : PySem.W.Frag) (G : Gh) (t : TAd) : TA := fun σ H Q => ∃ (E : Env) (QE : List Arg → Env → Prop), RelE K G H E σ ∧ t E QE ∧ ∀ as E' vs H', QE as E' → Ext H H' → RelE K G H' E' σ → RelA K H' σ as vs → Q vs H'
def liftS (K : PySem.W.Frag) (G : Gh) (t : TSd) : TS := fun F σ H => ∃ (E : Env) (DE : EndsD), RelE K G H E σ ∧ t DE E ∧
  (∀ E' σ' H', DE.nx E' → Ext H H' → RelE K G H' E' σ' → F.nx σ' H') ∧
  (∀ d E' v σ' H', DE.rt d E' → Ext H H' → RelE K G H' E' σ' → Rp K H' d v → F.rt v H') ∧
  (∀ E' σ' H', DE.bk E' → Ext H H' → RelE K G H' E' σ' → F.bk σ' H') ∧
  (∀ E' σ' H', DE.ct E' → Ext H H' → RelE K G H' E' σ' → F.ct σ' H')
structure ED (X : Cx) (G : Gh) (e : Expr) (t : TD) : Prop where
  pe : PE X e (liftE X.K G t)
structure EL (X : Cx) (G : Gh) (e : Expr) (t : TLd) : Prop where
  pe : PE X e (liftL X.K G t)
structure ER (X : Cx) (G : Gh) (e : Expr) (t : TD) : Prop where
  pe : PE X e (liftR X.K G t)
structure EB (X : Cx) (G : Gh) (e : Expr) (t : TTd) : Prop where
  pt : PT X e (liftT X.K G t)
structure EW (X : Cx) (G : Gh) (e : Expr) (t : TTd) : Prop where
  pw : PW X e (liftT X.K G t)
structure EA (X : Cx) (G : Gh) (es : List Expr) (t : TAd) : Prop where
  pa : PA X es (liftA X.K G t)
structure SD (X : Cx) (G : Gh) (st : Stmt) (t : TSd) : Prop where
  ps : PS X st (liftS X.K G t)
structure SDs (X : Cx) (G : Gh) (st : List Stmt) (t : TSd) : Prop where
  pss : PSs X st (liftS X.K G t)
theorem PE.weak {X : Cx} {e : Expr} {t u : TE} (h : PE X e t) (w : ∀ σ H Q, u σ H Q → t σ H Q) : PE X e u := ⟨fun pins s σ H Q I q => h.run pins s σ H Q I (w σ H Q q)⟩
theorem PT.weak {X : Cx} {e : Expr} {t u : TT} (h : PT X e t) (w : ∀ σ H Q, u σ H Q → t σ H Q) : PT X e u := ⟨fun pins s σ H Q I q => h.run pins s σ H Q I (w σ H Q q)⟩
theorem PW.weak {X : Cx} {e : Expr} {t u : TT} (h : PW X e t) (w : ∀ σ H Q, u σ H Q → t σ H Q) : PW X e u := ⟨fun wh pins s σ H Q I q => h.run wh pins s σ H Q I (w σ H Q q)⟩
theorem PA.weak {X : Cx} {es : List Expr} {t u : TA} (h : PA X es t) (w : ∀ σ H Q, u σ H Q → t σ H Q) : PA X es u := ⟨fun pos pins s σ H Q I q => h.run pos pins s σ H Q I (w σ H Q q)⟩
theorem PS.weak {X : Cx} {st : Stmt} {t u : TS} (h : PS X st t) (w : ∀ F σ H, u F σ H → t F σ H) : PS X st u := ⟨fun pins s σ H F I q => h.run pins s σ H F I (w F σ H q)⟩
theorem PSs.weak {X : Cx} {st : List Stmt} {t u : TS} (h : PSs X st t) (w : ∀ F σ H, u F σ H → t F σ H) : PSs X st u := ⟨fun pins s σ H F I q => h.run pins s σ H F I (w F σ H q)⟩
section
variable {X : Cx} {G : Gh} {a b c e : Expr} {es : List Expr} {pos : Pos}
/-- data may be read -/
theorem ED.er {t : TD} (h : ED X G e t) : ER X G e t := ⟨PE.weak h.pe fun σ H Q ⟨E, QE, r, q, k⟩ => ⟨E, QE, r, q, fun d E' v H' z x r' p => k d E' v H' z x r' (.inl p)⟩⟩
/-! ### names, constants -/
def tV (i : Nat) : TD := fun E Q => match E[i]? with
  | some (.d x) => Q x E
  | _ => False
/-- a name that may hold a list that can change, read now -/
def tVr (i : Nat) : TD := fun E Q => match E[i]? with
  | some (.d x) => Q x E
  | some (.ol xs) => Q (.list xs) E
  | _ => False
def tK (d : D) : TD := fun E Q => Q d E
theorem RelX.data {K : PySem.W.Frag} {ex : List Addr} {H : Hp} {E : Env} {σ : St} {i : Nat} {x : D} (r : RelX K G ex H E σ) (e : E[i]? = some (.d x)) : ∃ v, σ[i]? = some (some v) ∧ Rp K H x v := by
  obtain ⟨l, k, pn, dm, x0, A, h1, h2, h3⟩ := r
  exact (h3 i _ e).2
theorem RelX.ol {K : PySem.W.Frag} {ex : List Addr} {H : Hp} {E : Env} {σ : St} {i : Nat} {xs : List D} (r : RelX K G ex H E σ) (e : E[i]? = some (.ol xs)) : ∃ a vs, σ[i]? = some (some (.ref a)) ∧ H a = some (.lst vs) ∧ RpL K H xs vs := by
  obtain ⟨l, k, pn, dm, x0, A, h1, h2, h3⟩ := r
  obtain ⟨a, e1, e2, vs, e3, e4⟩ := h3 i _ e
  exact ⟨a, vs, e2, e3, e4⟩
theorem RelX.mutAt {K : PySem.W.Frag} {ex : List Addr} {H : Hp} {E : Env} {σ : St} {i : Nat} {s : S} (r : RelX K G ex H E σ) (e : E[i]? = some s) (m : s.isMut = true) : ∃ a, σ[i]? = some (some (.ref a)) ∧ RelM K H s a := by
  obtain ⟨l, k, pn, dm, x0, A, h1, h2, h3⟩ := r
  obtain ⟨a, e1, e2, e3⟩ := (h3 i _ e).mut m
  exact ⟨a, e2, e3⟩
theorem ed_var (i : Nat) {x : Str} (hN : X.N[i]? = some x := by rfl) (hv : Vis X.env.scope x := by first | exact Or.inl rfl | exact Or.inr (Or.inl rfl) | exact Or.inr (Or.inr rfl)) (hd : (x == ("__debug__" : Str)) = false := by decide)
    (hcd : (x == ("__classdict__" : Str)) = false := by decide) : ED X G (.Name x pos) (tV i) := ⟨PE.weak (pe_var hN hv hd hcd) fun σ H Q ⟨E, QE, r, q, k⟩ => by
  unfold tV at q
  split at q
  · rename_i x he
    obtain ⟨v, e, p⟩ := r.data he
    exact ⟨v, e, k _ _ _ _ q (Ext.refl _) r p⟩
  · exact q.elim⟩
theorem er_var (i : Nat) {x : Str} (hN : X.N[i]? = some x := by rfl) (hv : Vis X.env.scope x := by first | exact Or.inl rfl | exact Or.inr (Or.inl rfl) | exact Or.inr (Or.inr rfl)) (hd : (x == ("__debug__" : Str)) = false := by decide)
    (hcd : (x == ("__classdict__" : Str)) = false := by decide) : ER X G (.Name x pos) (tVr i) := ⟨PE.weak (pe_var hN hv hd hcd) fun σ H Q ⟨E, QE, r, q, k⟩ => by
  unfold tVr at q
  split at q
  · rename_i x he
    obtain ⟨v, e, p⟩ := r.data he
    exact ⟨v, e, k _ _ _ _ q (Ext.refl _) r (.inl p)⟩
  · rename_i xs he
    obtain ⟨a, vs, e, h, p⟩ := r.ol he
    exact ⟨_, e, k _ _ _ _ q (Ext.refl _) r (.inr ⟨_, _, _, rfl, rfl, h, p⟩)⟩
  · exact q.elim⟩
theorem ed_int {i j} : ED X G (.Constant (.int i) j pos) (tK (.int i)) := ⟨PE.weak pe_int fun σ H Q ⟨E, QE, r, q, k⟩ => k _ _ _ _ q (Ext.refl _) r (.int i)⟩
theorem ed_bl {i j} : ED X G (.Constant (.bool i) j pos) (tK (.bool i)) := ⟨PE.weak pe_bl fun σ H Q ⟨E, QE, r, q, k⟩ => k _ _ _ _ q (Ext.refl _) r (.bl i)⟩
theorem ed_non {j} : ED X G (.Constant .none j pos) (tK .none) := ⟨PE.weak pe_non fun σ H Q ⟨E, QE, r, q, k⟩ => k _ _ _ _ q (Ext.refl _) r .non⟩
theorem ed_str {i j} : ED X G (.Constant (.str i) j pos) (tK (.str i)) := ⟨PE.weak pe_str fun σ H Q ⟨E, QE, r, q, k⟩ => k _ _ _ _ q (Ext.refl _) r (.str i)⟩
/-- a module's name -/
theorem ed_glob {x : Str} {d : D} {v : V} {u : Value} (hg : Gl X x) (hm : X.mg x = some u) (rv : RelV v u) (rd : ∀ H, Rp X.K H d v) (hd : (x == ("__debug__" : Str)) = false := by decide) : ED X G (.Name x pos) (tK d) :=
  ⟨PE.weak (pe_glob hg hm rv hd) fun σ H Q ⟨E, QE, r, q, k⟩ => k _ _ _ _ q (Ext.refl _) r (rd H)⟩
/-! ### operators -/
/-- what an operator gives of data -/
abbrev OpT := D → D → (D → Prop) → Prop
/-- by values: the heap only grows -/
def OpD (X : Cx) (f : Value → Value → Sem Value) (op : OpT) : Prop := ∃ r : R2, OpR X f r ∧
  ∀ x y v u H (QD : D → Prop) (Q : VK), RpR X.K H x v → RpR X.K H y u → op x y QD → (∀ z w H', QD z → PExt H H' → Rp X.K H' z w → Q w H') → r v u H Q
theorem OpD.or {f : Value → Value → Sem Value} {op op' : OpT} (h : OpD X f op) (h' : OpD X f op') : OpD X f (fun x y Q => op x y Q ∨ op' x y Q) := by
  obtain ⟨r, hr, hq⟩ := h
  obtain ⟨r', hr', hq'⟩ := h'
  refine ⟨_, hr.or hr', fun x y v u H QD Q hx hy q k => ?_⟩
  rcases q with q | q
  · exact .inl (hq x y v u H QD Q hx hy q k)
  · exact .inr (hq' x y v u H QD Q hx hy q k)
theorem OpD.weak {f : Value → Value → Sem Value} {op op' : OpT} (h : OpD X f op) (w : ∀ x y Q, op' x y Q → op x y Q) : OpD X f op' := by
  obtain ⟨r, hr, hq⟩ := h
  exact ⟨r, hr, fun x y v u H QD Q hx hy q k => hq x y v u H QD Q hx hy (w _ _ _ q) k⟩
def tOpD (op : OpT) (ta tb : TD) : TD := fun E Q => ta E fun x E1 => tb E1 fun y E2 => op x y fun z => Q z E2
/-- two parts: the left is data -/
theorem lift_bin {K : PySem.W.Frag} {op : OpT} {ta tb : TD} {r : R2} (hr : ∀ x y v u H (QD : D → Prop) (Q : VK), RpR K H x v → RpR K H y u → op x y QD → (∀ z w H', QD z → PExt H H' → Rp K H' z w → Q w H') → r v u H Q)
    (σ : St) (H : Hp) (Q : VK) (h : liftE K G (tOpD op ta tb) σ H Q) : tOp r (liftE K G ta) (liftR K G tb) σ H Q := by
  obtain ⟨E, QE, rel, q, k⟩ := h
  refine ⟨E, _, rel, q, fun x E1 v H1 q1 x1 rel1 p1 => ⟨E1, _, rel1, q1, fun y E2 u H2 q2 x2 rel2 p2 => ?_⟩⟩
  exact hr x y v u H2 _ Q (.inl (p1.ext x2)) p2 q2 fun z w H3 q3 p3 rz => k z E2 w H3 q3 ((x1.trans x2).trans p3.ext) (rel2.pext p3) rz
theorem ed_op {op : Operator} {o : OpT} {ta tb : TD} (ho : OpD X (binaryOp op) o) (ha : ED X G a ta) (hb : ER X G b tb) : ED X G (.BinOp a op b pos) (tOpD o ta tb) := by
  obtain ⟨r, hr, hq⟩ := ho
  exact ⟨PE.weak (pe_op hr ha.pe hb.pe) fun σ H Q h => lift_bin hq σ H Q h⟩
theorem ed_cmp {op : CmpOp} {o : OpT} {ta tb : TD} (ho : OpD X (compareOp op) o) (ha : ED X G a ta) (hb : ER X G b tb) (hm : behindInMarks op b = false) : ED X G (.Compare a [op] [b] pos) (tOpD o ta tb) := by
  obtain ⟨r, hr, hq⟩ := ho
  exact ⟨PE.weak (pe_cmpR hr ha.pe hb.pe hm) fun σ H Q h => lift_bin hq σ H Q h⟩
def UnT := D → (D → Prop) → Prop
def UnD (X : Cx) (f : Value → Sem Value) (op : UnT) : Prop := ∃ r : V → Hp → VK → Prop, UnR X f r ∧
  ∀ x v H (QD : D → Prop) (Q : VK), RpR X.K H x v → op x QD → (∀ z w H', QD z → PExt H H' → Rp X.K H' z w → Q w H') → r v H Q
def tUnD (op : UnT) (ta : TD) : TD := fun E Q => ta E fun x E1 => op x fun z => Q z E1
theorem ed_un {op : UnaryOp} {o : UnT} {ta : TD} (ho : UnD X (unaryOp op) o) (ha : ER X G a ta) : ED X G (.UnaryOp op a pos) (tUnD o ta) := by
  obtain ⟨r, hr, hq⟩ := ho
  refine ⟨PE.weak (pe_un hr ha.pe) fun σ H Q ⟨E, QE, rel, q, k⟩ => ⟨E, _, rel, q, fun x E1 v H1 q1 x1 rel1 p1 => ?_⟩⟩
  exact hq x v H1 _ Q p1 q1 fun z w H3 q3 p3 rz => k z E1 w H3 q3 (x1.trans p3.ext) (rel1.pext p3) rz
/-! ### tests -/
/-- an expression that gives a truth -/
def tBo (t : TD) : TTd := fun E Q => t E fun x E1 => match x with
  | .bool b => Q b E1
  | _ => False
theorem eb_cmp {op : CmpOp} {o : OpT} {ta tb : TD} (ho : OpD X (compareOp op) o) (ha : ED X G a ta) (hb : ER X G b tb) (hm : behindInMarks op b = false) : EB X G (.Compare a [op] [b] pos) (tBo (tOpD o ta tb)) := by
  obtain ⟨r, hr, hq⟩ := ho
  refine ⟨PT.weak (pt_cmpR hr ha.pe hb.pe hm) fun σ H Q ⟨E, QE, rel, q, k⟩ => ?_⟩
  have h : liftE X.K G (tOpD o ta tb) σ H fun x H' => ∃ k, x = .bl k ∧ Q k H' := ⟨E, _, rel, q, fun d E' v H' q1 x1 r1 p1 => by
    cases p1 with
    | bl b => exact ⟨b, rfl, k b E' H' q1 x1 r1⟩
    | _ => exact q1.elim⟩
  exact lift_bin hq σ H _ h
def tAndD (t u : TTd) : TTd := fun E Q => t E fun c E1 => if c = true then u E1 Q else Q false E1
def tOrD (t u : TTd) : TTd := fun E Q => t E fun c E1 => if c = true then Q true E1 else u E1 Q
def tNotD (t : TTd) : TTd := fun E Q => t E fun c E1 => Q (!c) E1
theorem ew_or1 {t : TTd} (h : EB X G a t) : EW X G (.BoolOp .Or [a] pos) t := ⟨pw_or1 h.pt⟩
theorem ew_or {t u : TTd} (h : EB X G a t) (hb : EW X G (.BoolOp .Or (b :: es) pos) u) : EW X G (.BoolOp .Or (a :: b :: es) pos) (tOrD t u) :=
  ⟨PW.weak (pw_or h.pt hb.pw) fun σ H Q ⟨E, QE, r, q, k⟩ => ⟨E, _, r, q, fun c E1 H1 q1 x1 r1 => by
    cases c with
    | false => exact ⟨E1, QE, r1, q1, fun b E2 H2 q2 x2 r2 => k b E2 H2 q2 (x1.trans x2) r2⟩
    | true => exact k true E1 H1 q1 x1 r1⟩⟩
theorem EW.eb {t : TTd} (h : EW X G e t) : EB X G e t := ⟨h.pw.pt⟩
theorem eb_not {t : TTd} (h : EB X G a t) : EB X G (.UnaryOp .Not a pos) (tNotD t) :=
  ⟨PT.weak (pt_not h.pt) fun σ H Q ⟨E, QE, r, q, k⟩ => ⟨E, _, r, q, fun c E1 H1 q1 x1 r1 => k _ E1 H1 q1 x1 r1⟩⟩
/-- a if c else b -/
def tIfE (c : TTd) (t u : TD) : TD := fun E Q => c E fun k E1 => if k = true then t E1 Q else u E1 Q
theorem ed_if {tc : TTd} {t u : TD} (hc : EB X G c tc) (ha : ED X G a t) (hb : ED X G b u) : ED X G (.IfExp c a b pos) (tIfE tc t u) :=
  ⟨PE.weak (pe_ifExp hc.pt ha.pe hb.pe) fun σ H Q ⟨E, QE, r, q, k⟩ => ⟨E, _, r, q, fun c E1 H1 q1 x1 r1 => by
    cases c with
    | true => exact ⟨E1, QE, r1, q1, fun d E2 v H2 q2 x2 r2 => k d E2 v H2 q2 (x1.trans x2) r2⟩
    | false => exact ⟨E1, QE, r1, q1, fun d E2 v H2 q2 x2 r2 => k d E2 v H2 q2 (x1.trans x2) r2⟩⟩⟩
/-! as values -/
def tAndV (t u : TD) : TD := fun E Q => t E fun x E1 => match x with
  | .bool true => u E1 Q
  | .bool false => Q (.bool false) E1
  | _ => False
def tOrV (t u : TD) : TD := fun E Q => t E fun x E1 => match x with
  | .bool true => Q (.bool true) E1
  | .bool false => u E1 Q
  | _ => False
def tNotV (t : TD) : TD := fun E Q => t E fun x E1 => match x with
  | .bool b => Q (.bool (!b)) E1
  | _ => False
theorem ed_one {op} {t : TD} (h : ED X G a t) : ED X G (.BoolOp op [a] pos) t := ⟨pe_one h.pe⟩
theorem ed_and {t u : TD} (h : ED X G a t) (hb : ED X G (.BoolOp .And (b :: es) pos) u) : ED X G (.BoolOp .And (a :: b :: es) pos) (tAndV t u) :=
  ⟨PE.weak (pe_and h.pe hb.pe) fun σ H Q ⟨E, QE, r, q, k⟩ => ⟨E, _, r, q, fun d E1 v H1 q1 x1 r1 p1 => by
    cases p1 with
    | bl c =>
      refine ⟨c, rfl, ?_⟩
      cases c with
      | true => exact ⟨E1, QE, r1, q1, fun d E2 v H2 q2 x2 r2 => k d E2 v H2 q2 (x1.trans x2) r2⟩
      | false => exact k _ E1 _ H1 q1 x1 r1 (.bl false)
    | _ => exact q1.elim⟩⟩
theorem ed_not {t : TD} (h : ED X G a t) : ED X G (.UnaryOp .Not a pos) (tNotV t) :=
  ⟨PE.weak (pe_not h.pe) fun σ H Q ⟨E, QE, r, q, k⟩ => ⟨E, _, r, q, fun d E1 v H1 q1 x1 r1 p1 => by
    cases p1 with
    | bl c => exact ⟨c, rfl, k _ E1 _ H1 q1 x1 r1 (.bl _)⟩
    | _ => exact q1.elim⟩⟩
/-! ### truth of any data -/
def truD : D → Option Bool
  | .none => some false
  | .bool b => some b
  | .int i => some (i != 0)
  | .str x => some ((x.length : Int) != 0)
  | .list xs => some (!xs.isEmpty)
  | .tuple xs => some (!xs.isEmpty)
  | .dict _ => none
def okLen : D → Prop
  | .str x => x.length ≤ sizeLine
  | _ => True
def tTru (t : TD) : TTd := fun E Q => t E fun x E1 => match truD x with
  | some b => okLen x ∧ Q b E1
  | none => False
theorem isEmpty_RpL {K : PySem.W.Frag} {H : Hp} {ds : List D} {vs : List V} (l : RpL K H ds vs) : ds.isEmpty = vs.isEmpty := by cases l <;> rfl
theorem eb_tru {t : TD} (h : ER X G e t) (he : ∀ whole, isTrue e X.env whole = (do let v ← whole; standAt e.pos; holding [v] (truthy v)) := by intro _; rfl) : EB X G e (tTru t) :=
  ⟨PT.weak (pt_truth h.pe he) fun σ H Q ⟨E, QE, r, q, k⟩ => ⟨E, _, r, q, fun d E' v H' q1 x1 r1 p1 => by
    cases d with
    | none => rw [p1.none]; exact ⟨false, rfl, k _ _ _ q1.2 x1 r1⟩
    | bool b => rw [p1.bool]; exact ⟨b, rfl, k _ _ _ q1.2 x1 r1⟩
    | int b => rw [p1.int]; exact ⟨_, rfl, k _ _ _ q1.2 x1 r1⟩
    | str b => rw [p1.str]; exact ⟨_, ⟨q1.1, rfl⟩, k _ _ _ q1.2 x1 r1⟩
    | list b =>
      obtain ⟨a, vs, rfl, hs, l⟩ := p1.list
      exact ⟨!vs.isEmpty, .inl ⟨vs, hs, rfl⟩, by have := k _ _ _ q1.2 x1 r1; rw [isEmpty_RpL l] at this; exact this⟩
    | tuple b =>
      obtain ⟨a, vs, rfl, hs, l⟩ := p1.tuple
      exact ⟨!vs.isEmpty, .inr (.inl ⟨vs, hs, rfl⟩), by have := k _ _ _ q1.2 x1 r1; rw [isEmpty_RpL l] at this; exact this⟩
    | dict b => exact q1.elim⟩⟩
/-! ### arguments -/
def aNil : TAd := fun E Q => Q [] E
def aV (t : TD) (u : TAd) : TAd := fun E Q => t E fun x E1 => u E1 fun as E2 => Q (.v x :: as) E2
def aO (i : Nat) (u : TAd) : TAd := fun E Q => match E[i]? with
  | some (.ol _) => u E fun as E2 => Q (.o i :: as) E2
  | some (.dt _) => u E fun as E2 => Q (.o i :: as) E2
  | some (.dk _) => u E fun as E2 => Q (.o i :: as) E2
  | _ => False
theorem ea_nil : EA X G [] aNil := ⟨PA.weak pa_nil fun σ H Q ⟨E, QE, r, q, k⟩ => k _ _ _ _ q (Ext.refl _) r .nil⟩
theorem ea_v {t : TD} {u : TAd} (h : ED X G e t) (hr : EA X G es u) (hs : starEach (e :: es) X.env = (false, eval e X.env) :: starEach es X.env := by rfl) : EA X G (e :: es) (aV t u) :=
  ⟨PA.weak (pa_cons h.pe hr.pa hs) fun σ H Q ⟨E, QE, r, q, k⟩ => ⟨E, _, r, q, fun x E1 v H1 q1 x1 r1 p1 => ⟨E1, _, r1, q1, fun as E2 vs H2 q2 x2 r2 p2 => k _ _ _ _ q2 (x1.trans x2) r2 (.v (p1.ext x2) p2)⟩⟩⟩
theorem ea_o (i : Nat) {x : Str} {u : TAd} {p : Pos} (hr : EA X G es u) (hN : X.N[i]? = some x := by rfl) (hv : Vis X.env.scope x := by first | exact Or.inl rfl | exact Or.inr (Or.inl rfl) | exact Or.inr (Or.inr rfl)) (hd : (x == ("__debug__" : Str)) = false := by decide)
    (hcd : (x == ("__classdict__" : Str)) = false := by decide) (hs : starEach (Expr.Name x p :: es) X.env = (false, eval (Expr.Name x p) X.env) :: starEach es X.env := by rfl) : EA X G (Expr.Name x p :: es) (aO i u) :=
  ⟨PA.weak (pa_cons (pe_var hN hv hd hcd) hr.pa hs) fun σ H Q ⟨E, QE, r, q, k⟩ => by
    unfold aO at q
    split at q
    · rename_i xs he
      obtain ⟨a, e, _⟩ := r.mutAt he rfl
      exact ⟨_, e, E, _, r, q, fun as E2 vs H2 q2 x2 r2 p2 => k _ _ _ _ q2 x2 r2 (.o e p2)⟩
    · rename_i xs he
      obtain ⟨a, e, _⟩ := r.mutAt he rfl
      exact ⟨_, e, E, _, r, q, fun as E2 vs H2 q2 x2 r2 p2 => k _ _ _ _ q2 x2 r2 (.o e p2)⟩
    · rename_i xs he
      obtain ⟨a, e, _⟩ := r.mutAt he rfl
      exact ⟨_, e, E, _, r, q, fun as E2 vs H2 q2 x2 r2 p2 => k _ _ _ _ q2 x2 r2 (.o e p2)⟩
    · exact q.elim⟩
/-! ### statements -/
section
variable {st : Stmt} {rest : List Stmt}
def sNx : TSd := fun DE E => DE.nx E
def sSeq (t u : TSd) : TSd := fun DE E => t { DE with nx := u DE } E
theorem sds_nil : SDs X G [] sNx := ⟨PSs.weak pss_nil fun F σ H ⟨E, DE, r, q, k1, _⟩ => k1 _ _ _ q (Ext.refl _) r⟩
theorem lift_more {K : PySem.W.Frag} {F : Ends} {σ : St} {H H1 : Hp} {E E1 : Env} {DE : EndsD} {u : TSd} {σ1 : St} (x1 : Ext H H1) (r1 : RelE K G H1 E1 σ1) (q : u DE E1)
    (k1 : ∀ E' σ' H', DE.nx E' → Ext H H' → RelE K G H' E' σ' → F.nx σ' H') (k2 : ∀ d E' v σ' H', DE.rt d E' → Ext H H' → RelE K G H' E' σ' → Rp K H' d v → F.rt v H')
    (k3 : ∀ E' σ' H', DE.bk E' → Ext H H' → RelE K G H' E' σ' → F.bk σ' H') (k4 : ∀ E' σ' H', DE.ct E' → Ext H H' → RelE K G H' E' σ' → F.ct σ' H') : liftS K G u F σ1 H1 :=
  ⟨E1, DE, r1, q, fun E' σ' H' z x r => k1 E' σ' H' z (x1.trans x) r, fun d E' v σ' H' z x r => k2 d E' v σ' H' z (x1.trans x) r, fun E' σ' H' z x r => k3 E' σ' H' z (x1.trans x) r, fun E' σ' H' z x r => k4 E' σ' H' z (x1.trans x) r⟩
theorem sds_cons {t u : TSd} (h : SD X G st t) (hr : SDs X G rest u) : SDs X G (st :: rest) (sSeq t u) :=
  ⟨PSs.weak (pss_cons h.ps hr.pss) fun F σ H ⟨E, DE, r, q, k1, k2, k3, k4⟩ => ⟨E, { DE with nx := u DE }, r, q, fun E' σ' H' z x r => lift_more (σ := σ) (E := E) x r z k1 k2 k3 k4, k2, k3, k4⟩⟩
theorem sds_one {t : TSd} (h : SD X G st t) : SDs X G [st] t := ⟨pss_one h.ps⟩
def sRet (t : TD) : TSd := fun DE E => t E DE.rt
theorem sd_ret {t : TD} (h : ED X G e t) : SD X G (.Return (some e) pos) (sRet t) :=
  ⟨PS.weak (ps_ret h.pe) fun F σ H ⟨E, DE, r, q, k1, k2, k3, k4⟩ => ⟨E, _, r, q, fun d E' v H' z x r p => k2 d E' v σ H' z x r p⟩⟩
def sIf (c : TTd) (t u : TSd) : TSd := fun DE E => c E fun b E1 => if b = true then t DE E1 else u DE E1
theorem sd_if {sa sb : List Stmt} {tc : TTd} {t u : TSd} (hc : EB X G c tc) (ha : SDs X G sa t) (hb : SDs X G sb u) : SD X G (.If c sa sb pos) (sIf tc t u) :=
  ⟨PS.weak (ps_if hc.pt ha.pss hb.pss) fun F σ H ⟨E, DE, r, q, k1, k2, k3, k4⟩ => ⟨E, _, r, q, fun c E1 H1 q1 x1 r1 => by
    cases c with
    | true => exact lift_more (σ := σ) (E := E) x1 r1 q1 k1 k2 k3 k4
    | false => exact lift_more (σ := σ) (E := E) x1 r1 q1 k1 k2 k3 k4⟩⟩
def sExpr (t : TD) : TSd := fun DE E => t E fun _ E1 => DE.nx E1
theorem sd_expr {t : TD} (h : ED X G e t) (hs : swapsWith e none pos.line X.env = pure false := by rfl) : SD X G (.Expr e pos) (sExpr t) :=
  ⟨PS.weak (ps_expr h.pe hs) fun F σ H ⟨E, DE, r, q, k1, k2, k3, k4⟩ => ⟨E, _, r, q, fun d E1 v H1 q1 x1 r1 p1 => k1 _ _ _ q1 x1 r1⟩⟩
end
end
end DL
set_option Elab.async false
set_option linter.all false
set_option maxRecDepth 100000
namespace DL
open PySem PySem.Spec PyProof.Rows L2
section
variable {K : PySem.W.Frag} {G : Gh} {H H' : Hp} {E : Env} {σ : St} {ex : List Addr}
theorem notin_slots {i : Nat} (hi : i ∉ G.slots) (a : Addr) : (i, a) ∉ G.own := fun h => hi (List.mem_map.mpr ⟨(i, a), h, rfl⟩)
/-- a slot gets data -/
theorem RelX.setD {i : Nat} {x : D} {v : V} (r : RelX K G ex H E σ) (hi : i ∉ G.slots) (p : Rp K H x v) : RelX K G ex H (E.set i (.d x)) (σ.set i (some v)) := by
  obtain ⟨l, k, pn, dm, x0, A, h1, h2, h3⟩ := r
  refine ⟨by simp [l], k, fun j a hj => ?_, dm, x0, fun j => if j = i then [] else A j, fun j m a e1 e2 => ?_, fun j a e1 => ?_, fun j s e => ?_⟩
  · have : i ≠ j := fun z => notin_slots hi a (z ▸ hj)
    rw [List.getElem?_set_ne this]; exact pn j a hj
  · by_cases z : j = i
    · simp [z] at e1
    · by_cases z2 : m = i
      · simp [z2] at e2
      · simp only [z, z2, if_false] at e1 e2; exact h1 j m a e1 e2
  · by_cases z : j = i
    · simp [z] at e1
    · simp only [z, if_false] at e1; exact h2 j a e1
  · by_cases z : j = i
    · subst z
      by_cases hl : j < E.length
      · rw [List.getElem?_set_self hl] at e
        cases e
        exact ⟨by simp, v, by rw [List.getElem?_set_self (l ▸ hl)], p⟩
      · rw [List.getElem?_eq_none (by simpa using hl)] at e; cases e
    · rw [List.getElem?_set_ne (Ne.symm z)] at e
      rw [List.getElem?_set_ne (Ne.symm z)]
      simp only [z, if_false]; exact h3 j s e
/-- a slot gets a new mutable thing of one's own -/
theorem RelX.setM {i : Nat} {s0 : S} {a : Addr} (r : RelX K G (a :: ex) H E σ) (hx : a ∉ ex) (hi : i ∉ G.slots) (h0 : G.H0 a = none) (p : RelM K H s0 a) : RelX K G ex H (E.set i s0) (σ.set i (some (.ref a))) := by
  obtain ⟨l, k, pn, dm, x0, A, h1, h2, h3⟩ := r
  refine ⟨by simp [l], k, fun j a hj => ?_, dm, x0, fun j => if j = i then [a] else A j, fun j m b e1 e2 => ?_, fun j b e1 => ?_, fun j s e => ?_⟩
  · have : i ≠ j := fun z => notin_slots hi a (z ▸ hj)
    rw [List.getElem?_set_ne this]; exact pn j a hj
  · by_cases z : j = i
    · by_cases z2 : m = i
      · rw [z, z2]
      · simp only [z, if_true, z2, if_false, List.mem_cons, List.not_mem_nil, or_false] at e1 e2
        exact absurd e1 fun z => (h2 m b e2).2 (by simp [z])
    · by_cases z2 : m = i
      · simp only [z, if_false, z2, if_true, List.mem_cons, List.not_mem_nil, or_false] at e1 e2
        exact absurd e2 fun z => (h2 j b e1).2 (by simp [z])
      · simp only [z, z2, if_false] at e1 e2; exact h1 j m b e1 e2
  · by_cases z : j = i
    · simp only [z, if_true, List.mem_cons, List.not_mem_nil, or_false] at e1
      subst e1; exact ⟨.inr h0, hx⟩
    · simp only [z, if_false] at e1; exact ⟨(h2 j b e1).1, fun q => (h2 j b e1).2 (List.mem_cons_of_mem _ q)⟩
  · by_cases z : j = i
    · subst z
      by_cases hl : j < E.length
      · rw [List.getElem?_set_self hl] at e
        cases e
        simp only [if_true]
        exact RelS.ofMut p.isMut (by rw [List.getElem?_set_self (l ▸ hl)]) p
      · rw [List.getElem?_eq_none (by simpa using hl)] at e; cases e
    · rw [List.getElem?_set_ne (Ne.symm z)] at e
      rw [List.getElem?_set_ne (Ne.symm z)]
      simp only [z, if_false]; exact h3 j s e
theorem RelX.setL {i : Nat} {xs : List D} {a : Addr} {vs : List V} (r : RelX K G (a :: ex) H E σ) (hx : a ∉ ex) (hi : i ∉ G.slots) (h0 : G.H0 a = none) (ha : H a = some (.lst vs)) (p : RpL K H xs vs) : RelX K G ex H (E.set i (.ol xs)) (σ.set i (some (.ref a))) :=
  r.setM hx hi h0 (s0 := .ol xs) ⟨vs, ha, p⟩
/-- a mutable thing of one's own changes -/
theorem RelX.putM {i : Nat} {s0 s1 : S} {a : Addr} {u : HO} (r : RelX K G ex H E σ) (e : E[i]? = some s0) (m0 : s0.isMut = true) (hs : σ[i]? = some (some (.ref a))) (p : RelM K (upd H a u) s1 a) : RelX K G ex (upd H a u) (E.set i s1) σ := by
  obtain ⟨l, k, pn, dm, x0, A, h1, h2, h3⟩ := r
  obtain ⟨b, e1, e2, e3⟩ := (h3 i _ e).mut m0
  rw [hs] at e2
  have e2' : a = b := by injection e2 with z; injection z with z; injection z
  subst e2'
  obtain ⟨u0, g1, g2, g3⟩ := e3.soft
  have x : Ext H (upd H a u) := Ext.putS g1 g2 g3
  have own := h2 i a (by rw [e1]; simp)
  have hl : i < E.length := by
    rcases Nat.lt_or_ge i E.length with z | z
    · exact z
    · rw [List.getElem?_eq_none z] at e; cases e
  refine ⟨by simpa using l, fun q o he ne => ?_, pn, fun q hq => ?_, x0.trans x, A, h1, h2, fun j s he => ?_⟩
  · have : q ≠ a := by
      rintro rfl
      rcases own.1 with z | z
      · exact ne z
      · rw [z] at he; cases he
    rw [upd_ne this]; exact k q o he ne
  · by_cases z : q = a
    · subst z; rw [upd_same]; simp
    · rw [upd_ne z]; exact dm q hq
  · by_cases z : j = i
    · subst z
      rw [List.getElem?_set_self hl] at he
      cases he
      rw [e1]
      exact RelS.ofMut p.isMut hs p
    · rw [List.getElem?_set_ne (Ne.symm z)] at he
      exact (h3 j s he).move x fun c hc => upd_ne fun zz => z (h1 j i c hc (by rw [e1, zz]; simp))
/-- a list of one's own changes -/
theorem RelX.putL {i : Nat} {xs ys : List D} {a : Addr} {us : List V} (r : RelX K G ex H E σ) (e : E[i]? = some (.ol xs)) (hs : σ[i]? = some (some (.ref a))) (p : RpL K H ys us) : RelX K G ex (upd H a (.lst us)) (E.set i (.ol ys)) σ := by
  have x : Ext H (upd H a (.lst us)) := by
    obtain ⟨l, k, pn, dm, x0, A, h1, h2, h3⟩ := r
    obtain ⟨b, e1, e2, vs, e3, e4⟩ := h3 i _ e
    rw [hs] at e2
    have e2' : a = b := by injection e2 with z; injection z with z; injection z
    subst e2'; exact Ext.put e3
  exact r.putM e rfl hs (s1 := .ol ys) ⟨us, upd_same, p.ext x⟩
/-- a new object is apart from all -/
theorem RelX.fresh {p : Addr} {o : HO} (r : RelE K G H E σ) (hp : H p = none) : RelX K G [p] (upd H p o) E σ ∧ G.H0 p = none ∧ p ∉ G.addrs := by
  have px : PExt H (upd H p o) := PExt.new hp
  have r' := r.pext px
  obtain ⟨l, k, pn, dm, x0, A, h1, h2, h3⟩ := r'
  obtain ⟨_, k0, _, dm0, _, A0, g1, g2, g3⟩ := r
  have na : p ∉ G.addrs := fun z => dm0 p z hp
  refine ⟨⟨l, k, pn, dm, x0, fun i => if E[i]? = none then [] else A0 i, fun i j a e1 e2 => ?_, fun i a e => ?_, fun i s e => ?_⟩, ?_, na⟩
  · dsimp only at e1 e2
    split at e1
    · cases e1
    · split at e2
      · cases e2
      · exact g1 i j a e1 e2
  · dsimp only at e
    split at e
    · cases e
    · rename_i hE
      refine ⟨(g2 i a e).1, ?_⟩
      cases q : E[i]? with
      | none => exact absurd q hE
      | some s =>
        obtain ⟨u, hvs, _⟩ := (g3 i s q).indom a e
        simp only [List.mem_cons, List.not_mem_nil, or_false]
        rintro rfl
        rw [hp] at hvs; cases hvs
  · have : E[i]? ≠ none := by rw [e]; simp
    simp only [this, if_false]
    exact (g3 i s e).pext px
  · cases q : G.H0 p with
    | none => rfl
    | some o' => have := k0 p o' q na; rw [hp] at this; cases this
/-- a thing that nobody else has is frozen -/
theorem RelX.freezeS {a : Addr} {u u' : HO} (r : RelX K G [a] H E σ) (h0 : G.H0 a = none) (na : a ∉ G.addrs) (ha : H a = some u) (s1 : ∀ xs, u ≠ .tup xs) (s2 : ∀ o v, u ≠ .frz o v) : RelE K G (upd H a u') E σ := by
  have x : Ext H (upd H a u') := Ext.putS ha s1 s2
  obtain ⟨l, k, pn, dm, x0, A, h1, h2, h3⟩ := r
  refine ⟨l, fun q u he ne => ?_, pn, fun q hq => ?_, x0.trans x, fun i => if E[i]? = none then [] else A i, fun i j b e1 e2 => ?_, fun i b e => ?_, fun i s e => ?_⟩
  · have : q ≠ a := by rintro rfl; rw [h0] at he; cases he
    rw [upd_ne this]; exact k q u he ne
  · have : q ≠ a := by rintro rfl; exact na hq
    rw [upd_ne this]; exact dm q hq
  · dsimp only at e1 e2
    split at e1
    · cases e1
    · split at e2
      · cases e2
      · exact h1 i j b e1 e2
  · dsimp only at e
    split at e
    · cases e
    · exact ⟨(h2 i b e).1, by simp⟩
  · have : E[i]? ≠ none := by rw [e]; simp
    simp only [this, if_false]
    exact (h3 i s e).move x fun p hp => upd_ne (by rintro rfl; exact (h2 i p hp).2 (by simp))
/-- a list that nobody else has is frozen -/
theorem RelX.freeze {a : Addr} {vs : List V} {o : Obj} (r : RelX K G [a] H E σ) (h0 : G.H0 a = none) (na : a ∉ G.addrs) (ha : H a = some (.lst vs)) : RelE K G (upd H a (.frz o (.lst vs))) E σ :=
  r.freezeS h0 na ha (fun _ z => by cases z) (fun _ _ z => by cases z)
end
section
variable {X : Cx} {G : Gh} {a b c e : Expr} {es : List Expr} {pos : Pos}
/-! ### a new list is frozen: data -/
def tFz (t : TE) : TE := fun σ H Q => t σ H fun v H1 => ∃ a xs, v = .ref a ∧ H1 a = some (.lst xs) ∧ ∀ o, Q v (upd H1 a (.frz o (.lst xs)))
theorem PE.fz {t : TE} (h : PE X e t) : PE X e (tFz t) := ⟨fun pins s σ H Q I q => thn (h.run pins s σ H _ I q) fun u s1 ⟨v, H1, I1, r1, a, xs, e1, e2, q1⟩ => by
  obtain ⟨o, I2⟩ := I1.lock e2 trivial
  exact ⟨v, _, I2, r1, q1 o⟩⟩
def tFzD (t : TLd) : TD := fun E Q => t E fun xs E1 => Q (.list xs) E1
theorem EL.ed {t : TLd} (h : EL X G e t) : ED X G e (tFzD t) :=
  ⟨PE.weak (PE.fz h.pe) fun σ H Q ⟨E, QE, r, q, k⟩ => ⟨E, _, r, q, fun xs E1 a vs H1 q1 x1 r1 h0 na ha p1 => ⟨a, vs, rfl, ha, fun o =>
    k _ _ _ _ q1 (x1.trans (Ext.put ha)) (r1.freeze h0 na ha) (.lst (.of upd_same) (p1.ext (Ext.put ha)))⟩⟩⟩
/-- a list that is read now -/
theorem EL.er {t : TLd} (h : EL X G e t) : ER X G e (tFzD t) := h.ed.er
/-! ### displays -/
abbrev TDs := Env → (List D → Env → Prop) → Prop
def liftDs (K : PySem.W.Frag) (G : Gh) (t : TDs) : TA := fun σ H Q => ∃ (E : Env) (QE : List D → Env → Prop), RelE K G H E σ ∧ t E QE ∧ ∀ ds E' vs H', QE ds E' → Ext H H' → RelE K G H' E' σ → RpL K H' ds vs → Q vs H'
structure EDs (X : Cx) (G : Gh) (es : List Expr) (t : TDs) : Prop where
  pa : PA X es (liftDs X.K G t)
def dNil : TDs := fun E Q => Q [] E
def dCons (t : TD) (u : TDs) : TDs := fun E Q => t E fun x E1 => u E1 fun ds E2 => Q (x :: ds) E2
theorem eds_nil : EDs X G [] dNil := ⟨PA.weak pa_nil fun σ H Q ⟨E, QE, r, q, k⟩ => k _ _ _ _ q (Ext.refl _) r .nil⟩
theorem eds_cons {t : TD} {u : TDs} (h : ED X G e t) (hr : EDs X G es u) (hs : starEach (e :: es) X.env = (false, eval e X.env) :: starEach es X.env := by rfl) : EDs X G (e :: es) (dCons t u) :=
  ⟨PA.weak (pa_cons h.pe hr.pa hs) fun σ H Q ⟨E, QE, r, q, k⟩ => ⟨E, _, r, q, fun x E1 v H1 q1 x1 r1 p1 => ⟨E1, _, r1, q1, fun as E2 vs H2 q2 x2 r2 p2 => k _ _ _ _ q2 (x1.trans x2) r2 (.cons (p1.ext x2) p2)⟩⟩⟩
/-- a tuple of written items: the new object is plain -/
theorem pe_tupF {x1 : Nat} {t : TA} (h : PA X es t) : PE X (.Tuple es x1 pos) (fun σ H Q => t σ H fun xs H1 => xs.length ≤ sizeLine ∧ ∀ p o, H1 p = none → o.dict = none → Q (.ref p) (upd H1 p (.frz o (.tup xs)))) :=
  ⟨fun pins s σ H Q I hq => wpAny_Tuple_spliced (thn (h.run pos pins s σ H _ I hq) fun us s1 ⟨xs, H1, I1, r, z, q⟩ => ⟨by rw [← r.length]; exact z,
    ⟨.ref s1.heap.objs.size, upd H1 s1.heap.objs.size (.frz { cls := .type "tuple", data := .seq us.toArray } (.tup xs)), I1.laid (t' := s1.toks) (fun b u e => Heap.get?_push_of_some _ e) (Nat.le_refl _) ⟨Heap.get?_push_size _ rfl, z, us, r, ⟨_, Heap.get?_push_size _ rfl, rfl, _, rfl⟩⟩, rfl, q _ _ (I1.hok.fresh (Nat.le_refl _)) rfl⟩⟩)⟩
def tTupD (t : TDs) : TD := fun E Q => t E fun ds E1 => ds.length ≤ sizeLine ∧ Q (.tuple ds) E1
theorem ed_tup {x1} {t : TDs} (h : EDs X G es t) : ED X G (.Tuple es x1 pos) (tTupD t) :=
  ⟨PE.weak (pe_tupF h.pa) fun σ H Q ⟨E, QE, r, q, k⟩ => ⟨E, _, r, q, fun ds E1 vs H1 q1 x1 r1 p1 => ⟨by rw [← p1.length]; exact q1.1, fun p o hp ho =>
    k _ _ _ _ q1.2 (x1.trans (PExt.new hp).ext) (r1.pext (PExt.new hp)) (.tup (.new ho) (p1.ext (PExt.new hp).ext))⟩⟩⟩
def tLstD (t : TDs) : TLd := fun E Q => t E fun ds E1 => ds.length ≤ sizeLine ∧ Q ds E1
theorem el_lst {t : TDs} (h : EDs X G es t) : EL X G (.List es pos) (tLstD t) :=
  ⟨PE.weak (pe_lst h.pa) fun σ H Q ⟨E, QE, r, q, k⟩ => ⟨E, _, r, q, fun ds E1 vs H1 q1 x1 r1 p1 => ⟨by rw [← p1.length]; exact q1.1, fun p hp => by
    obtain ⟨r2, h0, na⟩ := r1.fresh (o := .lst vs) hp
    exact k _ _ _ _ _ q1.2 (x1.trans (PExt.new hp).ext) r2 h0 na upd_same (p1.ext (PExt.new hp).ext)⟩⟩⟩
/-! ### assignments -/
def sSet (i : Nat) (t : TD) : TSd := fun DE E => t E fun d E1 => DE.nx (E1.set i (.d d))
theorem sd_set {i : Nat} {x : Str} {pos' : Pos} {t : TD} (hi : i ∉ G.slots) (hN : X.N.Nodup) (hx : X.N[i]? = some x) (hl : Loc X.env.scope x) (h : ED X G e t) (hs : swapsWith e (some (.Name x pos')) pos.line X.env = pure false := by rfl)
    (hf : X.fn x = true ∨ X.env.scope.names.lookup x = some .local := by first | exact .inl rfl | exact .inr rfl | assumption) : SD X G (.Assign [.Name x pos'] e pos) (sSet i t) :=
  ⟨PS.weak (ps_set hN hx hl h.pe hs hf) fun F σ H ⟨E, DE, r, q, k1, k2, k3, k4⟩ => ⟨E, _, r, q, fun d E1 v H1 q1 x1 r1 p1 => k1 _ _ _ q1 x1 (r1.setD hi p1)⟩⟩
def sSetL (i : Nat) (t : TLd) : TSd := fun DE E => t E fun d E1 => DE.nx (E1.set i (.ol d))
theorem sd_setL {i : Nat} {x : Str} {pos' : Pos} {t : TLd} (hi : i ∉ G.slots) (hN : X.N.Nodup) (hx : X.N[i]? = some x) (hl : Loc X.env.scope x) (h : EL X G e t) (hs : swapsWith e (some (.Name x pos')) pos.line X.env = pure false := by rfl)
    (hf : X.fn x = true ∨ X.env.scope.names.lookup x = some .local := by first | exact .inl rfl | exact .inr rfl | assumption) : SD X G (.Assign [.Name x pos'] e pos) (sSetL i t) :=
  ⟨PS.weak (ps_set hN hx hl h.pe hs hf) fun F σ H ⟨E, DE, r, q, k1, k2, k3, k4⟩ => ⟨E, _, r, q, fun d E1 a vs H1 q1 x1 r1 h0 na ha p1 => k1 _ _ _ q1 x1 (r1.setL (by simp) hi h0 ha p1)⟩⟩
/-! targets: ms the slots that they change -/
theorem wipe_setIn {σ : St} {i : Nat} {o : Option V} : ∀ {ms : List Nat}, i ∈ ms → wipe (σ.set i o) ms = wipe σ ms
  | m :: ms, h => by
    show (wipe (σ.set i o) ms).set m none = (wipe σ ms).set m none
    by_cases hi : i ∈ ms
    · rw [wipe_setIn hi]
    · have hm : i = m := by rcases List.mem_cons.mp h with z | z; exact z; exact absurd z hi
      subst hm
      have : ∀ (l : List Nat), i ∉ l → wipe (σ.set i o) l = (wipe σ l).set i o := by
        intro l
        induction l with
        | nil => intro _; rfl
        | cons k l ih =>
          intro hk
          show (wipe (σ.set i o) l).set k none = ((wipe σ l).set k none).set i o
          rw [ih (fun z => hk (List.mem_cons_of_mem _ z)), List.set_comm _ _ (fun z => hk (by simp [z]))]
      rw [this ms hi, List.set_set]
abbrev TGd := D → Env → (Env → Prop) → Prop
def liftG (W : Bool) (K : PySem.W.Frag) (G : Gh) (ms : List Nat) (t : TGd) : TG := fun v σ H Q => ∃ (E : Env) (d : D) (QE : Env → Prop), RelE K G H E σ ∧ RpB W K H d v ∧ t d E QE ∧ ∀ E' σ' H', QE E' → Ext H H' → RelE K G H' E' σ' → wipe σ' ms = wipe σ ms → Q σ' H'
structure GD (X : Cx) (G : Gh) (W : Bool) (ms : List Nat) (tg : Expr) (t : TGd) : Prop where
  pg : PG X tg (liftG W X.K G ms t)
theorem PG.weak {tg : Expr} {t u : TG} (h : PG X tg t) (w : ∀ v σ H Q, u v σ H Q → t v σ H Q) : PG X tg u := ⟨fun pins s σ H v x Q I r q => h.run pins s σ H v x Q I r (w v σ H Q q)⟩
def gSet (i : Nat) : TGd := fun d E Q => Q (E.set i (.d d))
theorem gd_name {i : Nat} {x : Str} {ms : List Nat} (hi : i ∉ G.slots) (hm : i ∈ ms) (hN : X.N.Nodup) (hx : X.N[i]? = some x) (hl : Loc X.env.scope x) (hf : X.fn x = true ∨ X.env.scope.names.lookup x = some .local := by first | exact .inl rfl | exact .inr rfl | assumption) : GD X G false ms (.Name x pos) (gSet i) :=
  ⟨PG.weak (pg_name hN hx hl hf) fun v σ H Q ⟨E, d, QE, r, p, q, k⟩ => k _ _ _ q (Ext.refl _) (r.setD hi p) (wipe_setIn hm)⟩
abbrev TGsd := List D → Env → (Env → Prop) → Prop
def liftGs (K : PySem.W.Frag) (G : Gh) (ms : List Nat) (t : TGsd) : TGs := fun vs σ H Q => ∃ (E : Env) (ds : List D) (QE : Env → Prop), RelE K G H E σ ∧ RpL K H ds vs ∧ t ds E QE ∧ ∀ E' σ' H', QE E' → Ext H H' → RelE K G H' E' σ' → wipe σ' ms = wipe σ ms → Q σ' H'
structure GDs (X : Cx) (G : Gh) (ms : List Nat) (tgs : List Expr) (t : TGsd) : Prop where
  pg : PGs X tgs (liftGs X.K G ms t)
theorem PGs.weak {tgs : List Expr} {t u : TGs} (h : PGs X tgs t) (w : ∀ v σ H Q, u v σ H Q → t v σ H Q) : PGs X tgs u := ⟨fun pins s σ H v x Q I r q => h.run pins s σ H v x Q I r (w v σ H Q q)⟩
def gsNil : TGsd := fun ds E Q => match ds with
  | [] => Q E
  | _ => False
def gsCons (t : TGd) (u : TGsd) : TGsd := fun ds E Q => match ds with
  | d :: r => t d E fun E1 => u r E1 Q
  | _ => False
theorem gds_nil {ms : List Nat} : GDs X G ms [] gsNil := ⟨PGs.weak pgs_nil fun vs σ H Q ⟨E, ds, QE, r, p, q, k⟩ => by
  cases p with
  | nil => exact ⟨rfl, k _ _ _ q (Ext.refl _) r rfl⟩
  | cons _ _ => exact q.elim⟩
theorem gds_cons {ms : List Nat} {t : TGd} {u : TGsd} (h1 : GD X G false ms e t) (h2 : GDs X G ms es u) (hs : (assignEach (e :: es) X.env).map (·.2) = assign e X.env :: (assignEach es X.env).map (·.2) := by rfl) : GDs X G ms (e :: es) (gsCons t u) := ⟨PGs.weak (pgs_cons h1.pg h2.pg hs) fun vs σ H Q ⟨E, ds, QE, r, p, q, k⟩ => by
  cases p with
  | nil => exact q.elim
  | cons p1 p2 => exact ⟨_, _, rfl, E, _, _, r, .of p1, q, fun E1 σ1 H1 q1 x1 r1 w1 => ⟨E1, _, QE, r1, p2.ext x1, q1, fun E2 σ2 H2 q2 x2 r2 w2 => k _ _ _ q2 (x1.trans x2) r2 (w2.trans w1)⟩⟩⟩
/-- a tuple of targets: n of them -/
def gTupD (n : Nat) (u : TGsd) : TGd := fun d E Q => match d with
  | .tuple ds => ds.length = n ∧ u ds E Q
  | _ => False
theorem gd_tup {W : Bool} {ms : List Nat} {k n : Nat} {u : TGsd} (hc : X.calm = true) (h : GDs X G ms es u) (hn : (assignEach es X.env).length = n := by rfl) (hst : (assignEach es X.env).findIdx? (·.1) = none := by rfl) : GD X G W ms (.Tuple es k pos) (gTupD n u) :=
  ⟨PG.weak (pg_tup hc h.pg hn hst) fun v σ H Q ⟨E, d, QE, r, p, q, k⟩ => by
    have strong : Rp X.K H d v → gTup X.K n (liftGs X.K G ms u) v σ H Q := fun p => by
      cases p with
      | tup hs l => exact ⟨_, _, rfl, hs.1, by rw [← l.length]; exact q.1, E, _, QE, r, l, q.2, k⟩
      | _ => exact q.elim
    unfold RpB at p
    split at p
    · rcases p with p | ⟨ds, a, vs, rfl, rfl, hs, l⟩
      · exact strong p
      · exact ⟨_, _, rfl, hs, by rw [← l.length]; exact q.1, E, _, QE, r, l, q.2, k⟩
    · exact strong p⟩
/-- targets = e -/
def sAsg (t : TD) (g : TGd) : TSd := fun DE E => t E fun d E1 => g d E1 DE.nx
end
end DL
set_option Elab.async false
set_option linter.all false
set_option maxRecDepth 100000
namespace DL
open PySem PySem.Spec PyProof.Rows L2
/-! ### a thing that nobody else has, kept while something else runs -/
def pend (G : Gh) (a : Addr) (o : HO) : Gh := { H0 := upd G.H0 a o, own := G.own, X0 := G.X0, more := G.more }
section
variable {K : PySem.W.Frag} {G : Gh} {H H' : Hp} {E : Env} {σ : St} {ex : List Addr}
theorem RelX.toPend {a : Addr} {o : HO} (r : RelX K G (a :: ex) H E σ) (ha : H a = some o) (na : a ∉ G.addrs) : RelX K (pend G a o) ex H E σ := by
  obtain ⟨l, k, pn, dm, x0, A, h1, h2, h3⟩ := r
  refine ⟨l, fun p u e ne => ?_, pn, dm, x0, A, h1, fun i b e => ⟨?_, fun q => (h2 i b e).2 (List.mem_cons_of_mem _ q)⟩, h3⟩
  · by_cases z : p = a
    · subst z
      have : (pend G p o).H0 p = some o := upd_same
      rw [this] at e; cases e; exact ha
    · have e' : G.H0 p = some u := by
        have : (pend G a o).H0 p = G.H0 p := upd_ne z
        rw [this] at e; exact e
      exact k p u e' ne
  · have hb := h2 i b e
    have z : b ≠ a := by intro z; exact hb.2 (by simp [z])
    rcases hb.1 with q | q
    · exact .inl q
    · exact .inr (by show upd G.H0 a o b = none; rw [upd_ne z]; exact q)
theorem RelX.ofPend {a : Addr} {o : HO} (r : RelX K (pend G a o) ex H E σ) (h0 : G.H0 a = none) (na : a ∉ G.addrs) : RelX K G (a :: ex) H E σ ∧ H a = some o := by
  obtain ⟨l, k, pn, dm, x0, A, h1, h2, h3⟩ := r
  refine ⟨⟨l, fun p u e ne => ?_, pn, dm, x0, A, h1, fun i b e => ?_, h3⟩, ?_⟩
  · have z : p ≠ a := by rintro rfl; rw [h0] at e; cases e
    exact k p u (by show upd G.H0 a o p = some u; rw [upd_ne z]; exact e) ne
  · have hb := (h2 i b e).1
    have z : b ≠ a := by
      rintro rfl
      rcases hb with q | q
      · exact na q
      · have : upd G.H0 b o b = none := q
        rw [upd_same] at this; cases this
    refine ⟨?_, fun q => by
      rcases List.mem_cons.mp q with q | q
      · exact z q
      · exact (h2 i b e).2 q⟩
    rcases hb with q | q
    · exact .inl q
    · exact .inr (by have : upd G.H0 a o b = none := q; rw [upd_ne z] at this; exact this)
  · exact k a o upd_same na
end
/-! ### what is walked -/
structure WalkD (W : Bool) (K : PySem.W.Frag) (J : It) (H0 : Hp) (ds : List D) : Prop where
  goes : ∀ i H, Ext H0 H → i < ds.length → J.go i H
  yld : ∀ i H x H', Ext H0 H → i < ds.length → J.yld i H x H' → PExt H H' ∧ ∃ d, ds[i]? = some d ∧ RpB W K H' d x
  stops : ∀ H, Ext H0 H → J.stop ds.length H
def liftI (W : Bool) (K : PySem.W.Frag) (G : Gh) (t : TDs) : TI := fun σ H R => ∃ (E : Env) (QE : List D → Env → Prop), RelE K G H E σ ∧ t E QE ∧ ∀ ds E' J H', QE ds E' → Ext H H' → RelE K G H' E' σ → WalkD W K J H' ds → R J H'
structure ID (X : Cx) (G : Gh) (W : Bool) (tg iter : Expr) (t : TDs) : Prop where
  pi : PI X tg iter (liftI W X.K G t)
theorem PI.weak {X : Cx} {tg iter : Expr} {t u : TI} (h : PI X tg iter t) (w : ∀ σ H R, u σ H R → t σ H R) : PI X tg iter u := ⟨fun pins s σ H R I q => h.run pins s σ H R I (w σ H R q)⟩
section
variable {X : Cx} {G : Gh} {tg iter e : Expr} {pos : Pos}
/-- over data that is a tuple -/
def iTupD (t : TD) : TDs := fun E Q => t E fun d E1 => match d with
  | .tuple ds => Q ds E1
  | _ => False
def iLstD (t : TD) : TDs := fun E Q => t E fun d E1 => match d with
  | .list ds => Q ds E1
  | _ => False
theorem walkD_tup {K : PySem.W.Frag} {H : Hp} {a : Addr} {vs : List V} {ds : List D} (h : SqT K H a vs) (l : RpL K H ds vs) : WalkD false K (Itt K a) H ds where
  goes := fun i H' x hi => by
    rw [l.length] at hi
    exact ⟨vs, vs[i], SqT.ext x h, List.getElem?_eq_getElem hi⟩
  yld := fun i H' v H2 x hi hy => by
    obtain ⟨e1, e2⟩ := hy
    subst e1
    have hv := e2 vs (SqT.ext x h)
    obtain ⟨d, hd, p⟩ := l.getV hv
    exact ⟨PExt.refl _, d, hd, p.ext x⟩
  stops := fun H' x => ⟨vs, SqT.ext x h, by rw [l.length]; exact Nat.le_refl _⟩
theorem walkD_lst {K : PySem.W.Frag} {H : Hp} {a : Addr} {vs : List V} {ds : List D} (h : LsF K H a vs) (l : RpL K H ds vs) : WalkD false K (Itl K a) H ds where
  goes := fun i H' x hi => by
    rw [l.length] at hi
    exact ⟨vs, vs[i], (LsF.ext x h).sq, List.getElem?_eq_getElem hi⟩
  yld := fun i H' v H2 x hi hy => by
    obtain ⟨e1, e2⟩ := hy
    subst e1
    have hv := e2 vs ((LsF.ext x h).sq)
    obtain ⟨d, hd, p⟩ := l.getV hv
    exact ⟨PExt.refl _, d, hd, p.ext x⟩
  stops := fun H' x => ⟨vs, (LsF.ext x h).sq, by rw [l.length]; exact Nat.le_refl _⟩
theorem id_tup {t : TD} (h : ED X G iter t) : ID X G false tg iter (iTupD t) :=
  ⟨PI.weak (pi_tup h.pe) fun σ H R ⟨E, QE, r, q, k⟩ => ⟨E, _, r, q, fun d E1 v H1 q1 x1 r1 p1 => by
    cases p1 with
    | tup hs l => exact ⟨_, rfl, ⟨_, hs.1⟩, k _ _ _ _ q1 x1 r1 (walkD_tup hs.1 l)⟩
    | _ => exact q1.elim⟩⟩
theorem id_lst {t : TD} (h : ED X G iter t) : ID X G false tg iter (iLstD t) :=
  ⟨PI.weak (pi_list h.pe) fun σ H R ⟨E, QE, r, q, k⟩ => ⟨E, _, r, q, fun d E1 v H1 q1 x1 r1 p1 => by
    cases p1 with
    | lst hs l => exact ⟨_, rfl, ⟨_, hs.sq⟩, k _ _ _ _ q1 x1 r1 (walkD_lst hs l)⟩
    | _ => exact q1.elim⟩⟩
/-! ranges -/
def rangeD (lo : Int) (n : Nat) : List D := (List.range n).map fun i : Nat => PyData.int (lo + (i : Int))
theorem rangeD_length (lo : Int) (n : Nat) : (rangeD lo n).length = n := by simp [rangeD]
theorem rangeD_get {lo : Int} {n i : Nat} (h : i < n) : (rangeD lo n)[i]? = some (.int (lo + (i : Int))) := by
  simp [rangeD, h]
theorem walkD_range {K : PySem.W.Frag} {H : Hp} {lo : Int} {n : Nat} : WalkD false K (Itr lo n) H (rangeD lo n) where
  goes := fun i H' x hi => by rw [rangeD_length] at hi; exact hi
  yld := fun i H' v H2 x hi hy => by
    obtain ⟨rfl, rfl⟩ := hy
    rw [rangeD_length] at hi
    exact ⟨PExt.refl _, _, rangeD_get hi, .int _⟩
  stops := fun H' x => by rw [rangeD_length]; exact Nat.le_refl _
def iRange1 (t : TD) : TDs := fun E Q => t E fun d E1 => match d with
  | .int j => (-(2 ^ 62) ≤ j ∧ j < 2 ^ 62) ∧ Q (rangeD 0 j.toNat) E1
  | _ => False
theorem id_range1 {a : Expr} {t : TD} {p : Pos} (hg : Gl X "range") (hm : X.mg "range" = none) (h : ED X G a t) (hs : starEach [a] X.env = [(false, eval a X.env)] := by rfl) : ID X G false tg (.Call (.Name "range" p) [a] [] pos) (iRange1 t) :=
  ⟨PI.weak (pi_range1 hg hm (pa_cons h.pe pa_nil hs) hs) fun σ H R ⟨E, QE, r, q, k⟩ => ⟨E, _, r, q, fun d E1 v H1 q1 x1 r1 p1 => by
    cases p1 with
    | int i => exact ⟨i, rfl, q1.1.1, q1.1.2, k _ _ _ _ q1.2 x1 r1 walkD_range⟩
    | _ => exact q1.elim⟩⟩
def iRange2 (t u : TD) : TDs := fun E Q => t E fun d E1 => u E1 fun f E2 => match d, f with
  | .int i, .int j => (-(2 ^ 62) ≤ i ∧ i < 2 ^ 62 ∧ -(2 ^ 62) ≤ j ∧ j < 2 ^ 62) ∧ Q (rangeD i (j - i).toNat) E2
  | _, _ => False
theorem id_range2 {a b : Expr} {t u : TD} {p : Pos} (hg : Gl X "range") (hm : X.mg "range" = none) (h : ED X G a t) (hb : ED X G b u) (hs : starEach [a, b] X.env = [(false, eval a X.env), (false, eval b X.env)] := by rfl) (hs2 : starEach [b] X.env = [(false, eval b X.env)] := by rfl) :
    ID X G false tg (.Call (.Name "range" p) [a, b] [] pos) (iRange2 t u) :=
  ⟨PI.weak (pi_range2 hg hm (pa_cons h.pe (pa_cons hb.pe pa_nil hs2) (by rw [hs, hs2])) hs hs2) fun σ H R ⟨E, QE, r, q, k⟩ => ⟨E, _, r, q, fun d E1 v H1 q1 x1 r1 p1 => ⟨E1, _, r1, q1, fun f E2 u H2 q2 x2 r2 p2 => by
    cases p1 with
    | int i =>
      cases p2 with
      | int j => exact ⟨i, j, rfl, q2.1, k _ _ _ _ q2.2 (x1.trans x2) r2 walkD_range⟩
      | _ => exact q2.elim
    | _ => cases p2 <;> exact q2.elim⟩⟩⟩
/-! ### for -/
def forD (g : TGd) (tb : TSd) : List D → TSd
  | [] => fun DE E => DE.nx E
  | d :: ds => fun DE E => g d E fun E1 => tb { DE with nx := forD g tb ds DE, ct := forD g tb ds DE, bk := DE.nx } E1
def sFor (ti : TDs) (g : TGd) (tb : TSd) : TSd := fun DE E => ti E fun ds E1 => forD g tb ds DE E1
theorem sd_for {W : Bool} {body : List Stmt} {ti : TDs} {g : TGd} {tb : TSd} (hp : PassesOwn (model X.prog X.w) X.A X.env X.xe) (hc : X.calm = true) (hi : ID X G W tg iter ti) {ms : List Nat} (hg : GD X G W ms tg g) (hb : SDs X G body tb)
    (hs : ∀ x, foldedSetIterable iter X.env x = pure x := by intro _; rfl) : SD X G (.For tg iter body [] pos) (sFor ti g tb) := by
  refine ⟨PS.weak (ps_for hp hc hi.pi hg.pg hb.pss hs) fun F σ H ⟨E, DE, r, q, k1, k2, k3, k4⟩ => ⟨E, _, r, q, fun ds E1 J H1 q1 x1 r1 wk => ?_⟩⟩
  refine ⟨fun i m σ' H' => ∃ E', i + m = ds.length ∧ Ext H1 H' ∧ RelE X.K G H' E' σ' ∧ forD g tb (ds.drop i) DE E', ⟨ds.length, E1, by omega, Ext.refl _, r1, q1⟩, fun i m σ2 H2 hW => ?_⟩
  obtain ⟨E2, hm, x2, r2, q2⟩ := hW
  by_cases hi : i < ds.length
  · obtain ⟨d, hd⟩ : ∃ d, ds[i]? = some d := ⟨ds[i], List.getElem?_eq_getElem hi⟩
    have hdr : ds.drop i = d :: ds.drop (i + 1) := by
      rw [List.drop_eq_getElem_cons hi]
      rw [List.getElem?_eq_getElem hi] at hd
      rw [Option.some.inj hd]
    rw [hdr] at q2
    refine .inr ⟨wk.goes i H2 x2 hi, fun σ' H' => ∃ E', Ext H1 H' ∧ RelE X.K G H' E' σ' ∧ forD g tb (ds.drop (i + 1)) DE E', fun σ' H' ⟨E', a1, a2, a3⟩ => ⟨m - 1, by omega, E', by omega, a1, a2, a3⟩, fun x H3 hy => ?_⟩
    obtain ⟨px, d', hd', p⟩ := wk.yld i H2 x H3 x2 hi hy
    rw [hd] at hd'; cases hd'
    refine ⟨E2, d, _, r2.pext px, p, q2, fun E4 σ4 H4 q4 x4 r4 _ => ?_⟩
    have xx : Ext H1 H4 := (x2.trans px.ext).trans x4
    refine ⟨E4, _, r4, q4, fun E5 σ5 H5 z x5 r5 => ⟨E5, xx.trans x5, r5, z⟩, fun d E5 v σ5 H5 z x5 r5 p5 => k2 d E5 v σ5 H5 z ((x1.trans xx).trans x5) r5 p5, fun E5 σ5 H5 z x5 r5 => k1 E5 σ5 H5 z ((x1.trans xx).trans x5) r5, fun E5 σ5 H5 z x5 r5 => ⟨E5, xx.trans x5, r5, z⟩⟩
  · have e0 : ds.drop i = [] := List.drop_eq_nil_of_le (by omega)
    have ei : i = ds.length := by omega
    rw [e0] at q2
    refine .inl ⟨by rw [ei]; exact wk.stops H2 x2, k1 _ _ _ q2 (x1.trans x2) r2⟩
/-! ### while -/
def sWhile (c : TTd) (tb : TSd) : TSd := fun DE E => ∃ W : Nat → Env → Prop, (∃ m, W m E) ∧ ∀ m E, W m E → c E fun b E1 =>
  if b = true then tb { DE with nx := fun E' => ∃ m', m' < m ∧ W m' E', ct := fun E' => ∃ m', m' < m ∧ W m' E', bk := DE.nx } E1 else DE.nx E1
theorem sd_while {c : Expr} {body : List Stmt} {tc : TTd} {tb : TSd} (hp : PassesOwn (model X.prog X.w) X.A X.env X.xe) (hc : EB X G c tc) (hb : SDs X G body tb) : SD X G (.While c body [] pos) (sWhile tc tb) := by
  refine ⟨PS.weak (ps_while hp hc.pt hb.pss) fun F σ H ⟨E, DE, r, ⟨W, ⟨m0, w0⟩, turn⟩, k1, k2, k3, k4⟩ => ?_⟩
  refine ⟨fun m σ' H' => ∃ E', Ext H H' ∧ RelE X.K G H' E' σ' ∧ W m E', ⟨m0, E, Ext.refl _, r, w0⟩, fun m σ1 H1 ⟨E1, x1, r1, w1⟩ => ⟨E1, _, r1, turn m E1 w1, fun b E2 H2 q2 x2 r2 => ?_⟩⟩
  have xx := x1.trans x2
  cases b with
  | true =>
    rw [if_pos rfl] at q2
    refine iteT ?_
    refine ⟨fun σ' H' => ∃ E', Ext H H' ∧ RelE X.K G H' E' σ' ∧ ∃ m', m' < m ∧ W m' E', fun σ' H' ⟨E', a1, a2, m', a3, a4⟩ => ⟨m', a3, E', a1, a2, a4⟩, E2, _, r2, q2, fun E5 σ5 H5 z x5 r5 => ⟨E5, xx.trans x5, r5, z⟩, fun d E5 v σ5 H5 z x5 r5 p5 => k2 d E5 v σ5 H5 z (xx.trans x5) r5 p5, fun E5 σ5 H5 z x5 r5 => k1 E5 σ5 H5 z (xx.trans x5) r5, fun E5 σ5 H5 z x5 r5 => ⟨E5, xx.trans x5, r5, z⟩⟩
  | false =>
    rw [if_neg Bool.false_ne_true] at q2
    refine iteF ?_
    exact k1 _ _ _ q2 xx r2
/-! ### comprehensions -/
def wipeE (E : Env) : List Nat → Env
  | [] => E
  | v :: vs => (wipeE E vs).set v .un
def datOf : Option S → S
  | some (.d x) => .d x
  | _ => .un
/-- behind a comprehension: its own names are as they were -/
def restE (E0 E : Env) : List Nat → Env
  | [] => E
  | v :: vs => (restE E0 E vs).set v (datOf E0[v]?)
/-- one turn: an item, or none -/
def turnD (g : TGd) (tt : TTd) (te : TD) (d : D) (E : Env) (Q : Option D → Env → Prop) : Prop :=
  g d E fun E1 => tt E1 fun b E2 => if b = true then te E2 fun y E3 => Q (some y) E3 else Q none E2
def compD (g : TGd) (tt : TTd) (te : TD) (ms : List Nat) : List D → List D → Env → (List D → Env → Prop) → Prop
  | [], acc, E, Q => Q acc E
  | d :: ds, acc, E, Q => turnD g tt te d (wipeE E ms) fun o E' => match o with
    | some y => acc.length < sizeLine ∧ compD g tt te ms ds (acc ++ [y]) E' Q
    | none => compD g tt te ms ds acc E' Q
def tComp (ti : TDs) (g : TGd) (tt : TTd) (te : TD) (ms : List Nat) : TLd := fun E Q => ti E fun ds E1 => compD g tt te ms ds [] E1 fun xs E2 => Q xs (restE E1 E2 ms)
def tTrue : TTd := fun E Q => Q true E
structure EBs (X : Cx) (G : Gh) (ifs : List Expr) (t : TTd) : Prop where
  pt : PTs X ifs (liftT X.K G t)
theorem PTs.weak {ifs : List Expr} {t u : TT} (h : PTs X ifs t) (w : ∀ σ H Q, u σ H Q → t σ H Q) : PTs X ifs u := ⟨fun pins s σ H Q I q => h.run pins s σ H Q I (w σ H Q q)⟩
theorem ebs_nil : EBs X G [] tTrue := ⟨PTs.weak pts_nil fun σ H Q ⟨E, QE, r, q, k⟩ => k _ _ _ q (Ext.refl _) r⟩
theorem ebs_one {c : Expr} {t : TTd} (h : EB X G c t) : EBs X G [c] t := ⟨pts_one h.pt⟩
theorem RelX.wipe1 {K : PySem.W.Frag} {ex : List Addr} {H : Hp} {E : Env} {σ : St} {i : Nat} (r : RelX K G ex H E σ) (hi : i ∉ G.slots) : RelX K G ex H (E.set i .un) (σ.set i none) := by
  obtain ⟨l, k, pn, dm, x0, A, h1, h2, h3⟩ := r
  refine ⟨by simp [l], k, fun j a hj => ?_, dm, x0, fun j => if j = i then [] else A j, fun j m a e1 e2 => ?_, fun j a e1 => ?_, fun j s e => ?_⟩
  · have : i ≠ j := fun z => notin_slots hi a (z ▸ hj)
    rw [List.getElem?_set_ne this]; exact pn j a hj
  · by_cases z : j = i
    · simp [z] at e1
    · by_cases z2 : m = i
      · simp [z2] at e2
      · simp only [z, z2, if_false] at e1 e2; exact h1 j m a e1 e2
  · by_cases z : j = i
    · simp [z] at e1
    · simp only [z, if_false] at e1; exact h2 j a e1
  · by_cases z : j = i
    · subst z
      by_cases hl : j < E.length
      · rw [List.getElem?_set_self hl] at e
        cases e
        simp [RelS]
      · rw [List.getElem?_eq_none (by simpa using hl)] at e; cases e
    · rw [List.getElem?_set_ne (Ne.symm z)] at e
      rw [List.getElem?_set_ne (Ne.symm z)]
      simp only [z, if_false]; exact h3 j s e
theorem RelX.wipe {K : PySem.W.Frag} {ex : List Addr} {H : Hp} {E : Env} {σ : St} (r : RelX K G ex H E σ) : ∀ {ms : List Nat}, (∀ i ∈ ms, i ∉ G.slots) → RelX K G ex H (wipeE E ms) (wipe σ ms)
  | [], _ => r
  | i :: ms, h => (RelX.wipe r fun j hj => h j (List.mem_cons_of_mem _ hj)).wipe1 (h i (List.mem_cons_self ..))
theorem wipe_get {σ : St} {i : Nat} : ∀ {ms : List Nat}, i ∉ ms → (L2.wipe σ ms)[i]? = σ[i]?
  | [], _ => rfl
  | v :: vs, h => by
    show ((L2.wipe σ vs).set v none)[i]? = _
    rw [List.getElem?_set_ne (fun z => h (by simp [z])), wipe_get fun z => h (List.mem_cons_of_mem _ z)]
/-- behind a comprehension: the slots of before -/
theorem RelX.rest {K : PySem.W.Frag} {ex : List Addr} {H1 H : Hp} {E1 E : Env} {σ σ2 : St} {ms : List Nat} (r1 : RelE K G H1 E1 σ) (x : Ext H1 H) (r : RelX K G ex H E σ2) (hw : L2.wipe σ2 ms = L2.wipe σ ms) (hm : ∀ i ∈ ms, i ∉ G.slots) : RelX K G ex H (restE E1 E ms) σ := by
  have hl : σ2.length = σ.length := by rw [← wipe_length σ2 ms, hw, wipe_length]
  have rl : ∀ (l : List Nat), (restE E1 E l).length = E.length := by
    intro l
    induction l with
    | nil => rfl
    | cons v vs ih => show ((restE E1 E vs).set v _).length = _; rw [List.length_set, ih]
  have rg : ∀ (l : List Nat) (i : Nat), i ∉ l → (restE E1 E l)[i]? = E[i]? := by
    intro l
    induction l with
    | nil => intro i _; rfl
    | cons v vs ih => intro i h; show ((restE E1 E vs).set v _)[i]? = _; rw [List.getElem?_set_ne (fun z => h (by simp [z])), ih i fun z => h (List.mem_cons_of_mem _ z)]
  have rin : ∀ (l : List Nat) (i : Nat) (s : S), i ∈ l → (restE E1 E l)[i]? = some s → s = datOf E1[i]? := by
    intro l
    induction l with
    | nil => intro i s h; cases h
    | cons v vs ih =>
      intro i s h e
      have e : ((restE E1 E vs).set v (datOf E1[v]?))[i]? = some s := e
      by_cases z : v = i
      · subst z
        by_cases hv : v < (restE E1 E vs).length
        · rw [List.getElem?_set_self hv] at e; exact (Option.some.inj e).symm
        · rw [List.getElem?_eq_none (by simpa using hv)] at e; cases e
      · rw [List.getElem?_set_ne z] at e
        exact ih i s (by rcases List.mem_cons.mp h with q | q; exact absurd q.symm z; exact q) e
  obtain ⟨l, k, pn, dm, x0, A, h1, h2, h3⟩ := r
  have same : ∀ i, i ∉ ms → σ2[i]? = σ[i]? := fun i hi => by rw [← wipe_get (σ := σ2) hi, hw, wipe_get hi]
  refine ⟨by rw [rl, l, hl], k, fun i a ha => ?_, dm, x0, fun i => if i ∈ ms then [] else A i, fun i j a e1 e2 => ?_, fun i a e => ?_, fun i s e => ?_⟩
  · have : i ∉ ms := fun z => notin_slots (hm i z) a ha
    rw [← same i this]; exact pn i a ha
  · dsimp only at e1 e2
    split at e1
    · cases e1
    · split at e2
      · cases e2
      · exact h1 i j a e1 e2
  · dsimp only at e
    split at e
    · cases e
    · exact h2 i a e
  · by_cases hi : i ∈ ms
    · simp only [hi, if_true]
      have es := rin ms i s hi e
      subst es
      cases q : E1[i]? with
      | none => exact rfl
      | some s =>
        cases s with
        | d y =>
          obtain ⟨v, e1, p⟩ := r1.data q
          exact ⟨rfl, v, e1, p.ext x⟩
        | _ => exact rfl
    · simp only [hi, if_false]
      rw [rg ms i hi] at e
      rw [← same i hi]
      exact h3 i s e
abbrev anyG (W : Bool) (K : PySem.W.Frag) (G : Gh) (ms : List Nat) (g : TGd) : TG := fun v σ H Q => ∃ G' : Gh, G'.slots = G.slots ∧ liftG W K G' ms g v σ H Q
abbrev anyT (K : PySem.W.Frag) (G : Gh) (tt : TTd) : TT := fun σ H Q => ∃ G' : Gh, G'.slots = G.slots ∧ liftT K G' tt σ H Q
abbrev anyE (K : PySem.W.Frag) (G : Gh) (te : TD) : TE := fun σ H Q => ∃ G' : Gh, G'.slots = G.slots ∧ liftE K G' te σ H Q
theorem lift_comp {W : Bool} {ti : TDs} {g : TGd} {tt : TTd} {te : TD} {ms : List Nat} (hm : ∀ i ∈ ms, i ∉ G.slots) (σ : St) (H : Hp) (Q : VK) (h : liftL X.K G (tComp ti g tt te ms) σ H Q) : tLc (liftI W X.K G ti) (anyG W X.K G ms g) (anyT X.K G tt) (anyE X.K G te) ms σ H Q := by
  obtain ⟨E, QE, r, q, k⟩ := h
  refine ⟨E, _, r, q, fun ds E1 J H1 q1 x1 r1 wk L hL => ?_⟩
  obtain ⟨rL, h0, na⟩ := r1.fresh (o := .lst []) hL
  refine ⟨fun i m H' => ∃ (E' : Env) (σ' : St) (acc : List D) (vs : List V), i + m = ds.length ∧ Ext (upd H1 L (.lst [])) H' ∧ RelX X.K G [L] H' E' σ' ∧ L2.wipe σ' ms = L2.wipe σ ms ∧ H' L = some (.lst vs) ∧ RpL X.K H' acc vs ∧
    compD g tt te ms (ds.drop i) acc E' fun xs E2 => QE xs (restE E1 E2 ms), ⟨ds.length, E1, σ, [], [], by omega, Ext.refl _, rL, rfl, upd_same, .nil, q1⟩, fun i m H2 hW => ?_⟩
  obtain ⟨E2, σ2, acc, vs, hm2, x2, r2, w2, a2, p2, q2⟩ := hW
  have xL : Ext H1 H2 := (PExt.new hL).ext.trans x2
  by_cases hi : i < ds.length
  · obtain ⟨d, hd⟩ : ∃ d, ds[i]? = some d := ⟨ds[i], List.getElem?_eq_getElem hi⟩
    have hdr : ds.drop i = d :: ds.drop (i + 1) := by
      rw [List.drop_eq_getElem_cons hi]
      rw [List.getElem?_eq_getElem hi] at hd
      rw [Option.some.inj hd]
    rw [hdr] at q2
    refine .inr ⟨wk.goes i H2 xL hi, fun H' => ∃ (E' : Env) (σ' : St) (acc : List D) (vs : List V), Ext (upd H1 L (.lst [])) H' ∧ RelX X.K G [L] H' E' σ' ∧ L2.wipe σ' ms = L2.wipe σ ms ∧ H' L = some (.lst vs) ∧ RpL X.K H' acc vs ∧
      compD g tt te ms (ds.drop (i + 1)) acc E' fun xs E2 => QE xs (restE E1 E2 ms), fun H' ⟨E', σ', acc, vs, b1, b2, b3, b4, b5, b6⟩ => ⟨m - 1, by omega, E', σ', acc, vs, by omega, b1, b2, b3, b4, b5, b6⟩, fun x H3 hy => ?_⟩
    obtain ⟨px, d', hd', p⟩ := wk.yld i H2 x H3 xL hi hy
    rw [hd] at hd'; cases hd'
    have hs0 : (pend G L (.lst vs)).slots = G.slots := rfl
    have r3 : RelE X.K (pend G L (.lst vs)) H3 (wipeE E2 ms) (L2.wipe σ ms) := by
      have := ((r2.pext px).wipe hm).toPend (px _ _ a2) na
      rw [w2] at this; exact this
    refine ⟨pend G L (.lst vs), hs0, _, d, _, r3, p, q2, fun E4 σ4 H4 q4 x4 r4 w4 => ?_⟩
    have ww : ∀ (l : List Nat), L2.wipe (L2.wipe σ l) l = L2.wipe σ l := by
      intro l
      have : ∀ (τ : St) (l k : List Nat), (∀ j ∈ l, j ∈ k) → (∀ j ∈ k, ∀ v, τ[j]? = some v → v = none) → L2.wipe τ l = τ := by
        intro τ l
        induction l with
        | nil => intro _ _ _; rfl
        | cons v vs ih =>
          intro k hk hn
          show (L2.wipe τ vs).set v none = τ
          rw [ih k (fun j hj => hk j (List.mem_cons_of_mem _ hj)) hn]
          refine List.ext_getElem? fun j => ?_
          by_cases hv : v = j
          · subst hv
            by_cases hl : v < τ.length
            · rw [List.getElem?_set_self hl]
              have := hn v (hk v (List.mem_cons_self ..)) _ (List.getElem?_eq_getElem hl)
              rw [List.getElem?_eq_getElem hl, this]
            · rw [List.getElem?_eq_none (by simpa using hl), List.getElem?_eq_none (by simpa using hl)]
          · rw [List.getElem?_set_ne hv]
      refine this _ l l (fun j hj => hj) fun j hj v e => ?_
      cases v with
      | none => rfl
      | some y => exact absurd hj (wipe_some e).2
    refine ⟨by rw [w4]; exact ww ms, pend G L (.lst vs), hs0, E4, _, r4, q4, fun b E5 H5 q5 x5 r5 => ?_⟩
    have w45 : L2.wipe σ4 ms = L2.wipe σ ms := by rw [w4]; exact ww ms
    have x5' : Ext (upd H1 L (.lst [])) H5 := ((x2.trans px.ext).trans x4).trans x5
    cases b with
    | false =>
      rw [if_neg Bool.false_ne_true] at q5
      refine iteF ?_
      obtain ⟨r6, a6⟩ := RelX.ofPend r5 h0 na
      exact ⟨E5, σ4, acc, vs, x5', r6, w45, a6, p2.ext ((px.ext.trans x4).trans x5), q5⟩
    | true =>
      rw [if_pos rfl] at q5
      refine iteT ?_
      refine ⟨pend G L (.lst vs), hs0, E5, _, r5, q5, fun y E6 u H6 q6 x6 r6 p6 => ?_⟩
      obtain ⟨r7, a7⟩ := RelX.ofPend r6 h0 na
      have pv := p2.ext (((px.ext.trans x4).trans x5).trans x6)
      have xp : Ext H6 (upd H6 L (.lst (vs ++ [u]))) := Ext.put a7
      refine ⟨vs, a7, by rw [← pv.length]; exact q6.1, E6, σ4, acc ++ [y], vs ++ [u], (x5'.trans x6).trans xp, ?_, w45, upd_same, (RpL.append pv (.cons p6 .nil)).ext xp, q6.2⟩
      -- the list L grows: apart from all footprints
      obtain ⟨l, kk, pn, dm, x0, A, h1, h2, h3⟩ := r7
      refine ⟨l, fun p o e ne => ?_, pn, fun p hp => ?_, x0.trans xp, fun j => if E6[j]? = none then [] else A j, fun i j b e1 e2 => ?_, fun i b e => ?_, fun j s e => ?_⟩
      · have : p ≠ L := by rintro rfl; rw [h0] at e; cases e
        rw [upd_ne this]; exact kk p o e ne
      · have : p ≠ L := by rintro rfl; exact na hp
        rw [upd_ne this]; exact dm p hp
      · dsimp only at e1 e2
        split at e1
        · cases e1
        · split at e2
          · cases e2
          · exact h1 i j b e1 e2
      · dsimp only at e
        split at e
        · cases e
        · exact h2 i b e
      · have : E6[j]? ≠ none := by rw [e]; simp
        simp only [this, if_false]
        exact (h3 j s e).move xp fun p hp => upd_ne (by rintro rfl; exact (h2 j p hp).2 (by simp))
  · have e0 : ds.drop i = [] := List.drop_eq_nil_of_le (by omega)
    have ei : i = ds.length := by omega
    rw [e0] at q2
    exact .inl ⟨by rw [ei]; exact wk.stops H2 xL, k _ _ _ _ _ q2 (x1.trans xL) (RelX.rest r1 xL r2 w2 hm) h0 na a2 p2⟩
theorem comp_parts {W : Bool} {elt tg : Expr} {ifs : List Expr} {scope : Scope} {g : TGd} {tt : TTd} {te : TD} {ms : List Nat}
    (hg : ∀ (G' : Gh), G'.slots = G.slots → ∀ (s : Shared) (H : Hp) (C : Addr) (cl : List (Str × Addr)) (fp : List Addr), GD (X.blk s H scope (compEnvC scope cl C X.env) fp) G' W ms tg g)
    (ht : ∀ (G' : Gh), G'.slots = G.slots → ∀ (s : Shared) (H : Hp) (C : Addr) (cl : List (Str × Addr)) (fp : List Addr), EBs (X.blk s H scope (compEnvC scope cl C X.env) fp) G' ifs tt)
    (he : ∀ (G' : Gh), G'.slots = G.slots → ∀ (s : Shared) (H : Hp) (C : Addr) (cl : List (Str × Addr)) (fp : List Addr), ED (X.blk s H scope (compEnvC scope cl C X.env) fp) G' elt te) :
    (∀ (s : Shared) (H : Hp) (C : Addr) (cl : List (Str × Addr)) (fp : List Addr), PG (X.blk s H scope (compEnvC scope cl C X.env) fp) tg (anyG W X.K G ms g)) ∧
    (∀ (s : Shared) (H : Hp) (C : Addr) (cl : List (Str × Addr)) (fp : List Addr), PTs (X.blk s H scope (compEnvC scope cl C X.env) fp) ifs (anyT X.K G tt)) ∧
    (∀ (s : Shared) (H : Hp) (C : Addr) (cl : List (Str × Addr)) (fp : List Addr), PE (X.blk s H scope (compEnvC scope cl C X.env) fp) elt (anyE X.K G te)) :=
  ⟨fun s H C cl fp => ⟨fun pins s' σ H' v x Q I r ⟨G', hG', q⟩ => (hg G' hG' s H C cl fp).pg.run pins s' σ H' v x Q I r q⟩,
   fun s H C cl fp => ⟨fun pins s' σ H' Q I ⟨G', hG', q⟩ => (ht G' hG' s H C cl fp).pt.run pins s' σ H' Q I q⟩,
   fun s H C cl fp => ⟨fun pins s' σ H' Q I ⟨G', hG', q⟩ => (he G' hG' s H C cl fp).pe.run pins s' σ H' Q I q⟩⟩
section
variable {elt : Expr} {ifs : List Expr} {scope : Scope} {ti : TDs} {g : TGd} {tt : TTd} {te : TD} {ms : List Nat}
theorem el_comp {W : Bool} (own : List (Str × Nat)) (hc : X.calm = true) (hN : X.N.Nodup) (hms : own.map (·.2) = ms) (hm : ∀ i ∈ ms, i ∉ G.slots) (hi : ID X G W tg iter ti) (ok : BlkOk X.N X.env.scope scope own)
    (hg : ∀ (G' : Gh), G'.slots = G.slots → ∀ (s : Shared) (H : Hp) (C : Addr) (cl : List (Str × Addr)) (fp : List Addr), GD (X.blk s H scope (compEnvC scope cl C X.env) fp) G' W ms tg g)
    (ht : ∀ (G' : Gh), G'.slots = G.slots → ∀ (s : Shared) (H : Hp) (C : Addr) (cl : List (Str × Addr)) (fp : List Addr), EBs (X.blk s H scope (compEnvC scope cl C X.env) fp) G' ifs tt)
    (he : ∀ (G' : Gh), G'.slots = G.slots → ∀ (s : Shared) (H : Hp) (C : Addr) (cl : List (Str × Addr)) (fp : List Addr), ED (X.blk s H scope (compEnvC scope cl C X.env) fp) G' elt te) (hs : ∀ x, foldedSetIterable iter X.env x = pure x := by intro _; rfl) :
    EL X G (.ListComp elt [⟨tg, iter, ifs, 0⟩] scope pos) (tComp ti g tt te ms) := by
  obtain ⟨Pg, Pt, Pe⟩ := comp_parts hg ht he
  refine ⟨PE.weak (pe_lc hc hN hi.pi ok Pg Pt Pe hs) fun σ H Q h => ?_⟩
  rw [hms]; exact lift_comp hm σ H Q h
/-- behind a statement the list at slot i is frozen -/
theorem PS.fz {st : Stmt} {t : TS} (h : PS X st t) : PS X st (fun F σ H => t { F with nx := fun σ' H' => ∃ a xs, H' a = some (.lst xs) ∧ ∀ o, F.nx σ' (upd H' a (.frz o (.lst xs))) } σ H) :=
  ⟨fun pins s σ H F I q => thn (h.run pins s σ H _ I q) fun f s1 q1 => by
    cases f with
    | next =>
      obtain ⟨σ', H', I1, a, xs, e2, q2⟩ := q1
      obtain ⟨o, I2⟩ := I1.lock e2 trivial
      exact ⟨σ', _, I2, q2 o⟩
    | brk => exact q1
    | cont => exact q1
    | ret u => exact q1⟩
/-- .. data -/
theorem sd_setC {W : Bool} {i : Nat} {y : Str} {py spos : Pos} (own : List (Str × Nat)) (hsl : i ∉ G.slots) (hc : X.calm = true) (hN : X.N.Nodup) (hy : X.N[i]? = some y) (hyl : X.env.scope.names.lookup y = some .local)
    (hsw : swapsWith (.ListComp elt [⟨tg, iter, ifs, 0⟩] scope pos) (some (.Name y py)) spos.line X.env = pure true) (hms : own.map (·.2) = ms) (hm : ∀ i ∈ ms, i ∉ G.slots) (hi : ID X G W tg iter ti) (ok : BlkOk X.N X.env.scope scope own)
    (hg : ∀ (G' : Gh), G'.slots = G.slots → ∀ (s : Shared) (H : Hp) (C : Addr) (cl : List (Str × Addr)) (fp : List Addr), GD (X.blk s H scope (compEnvC scope cl C X.env) fp) G' W ms tg g)
    (ht : ∀ (G' : Gh), G'.slots = G.slots → ∀ (s : Shared) (H : Hp) (C : Addr) (cl : List (Str × Addr)) (fp : List Addr), EBs (X.blk s H scope (compEnvC scope cl C X.env) fp) G' ifs tt)
    (he : ∀ (G' : Gh), G'.slots = G.slots → ∀ (s : Shared) (H : Hp) (C : Addr) (cl : List (Str × Addr)) (fp : List Addr), ED (X.blk s H scope (compEnvC scope cl C X.env) fp) G' elt te) (hs : ∀ x, foldedSetIterable iter X.env x = pure x := by intro _; rfl) :
    SD X G (.Assign [.Name y py] (.ListComp elt [⟨tg, iter, ifs, 0⟩] scope pos) spos) (sSet i (tFzD (tComp ti g tt te ms))) := by
  obtain ⟨Pg, Pt, Pe⟩ := comp_parts hg ht he
  refine ⟨PS.weak (PS.fz (ps_setLc hc hN hy hyl hsw hi.pi ok Pg Pt Pe hs)) fun F σ H ⟨E, DE, r, q, k1, k2, k3, k4⟩ => ?_⟩
  show tLc _ _ _ _ (own.map (·.2)) σ H fun x H1 => ∃ a xs, H1 a = some (.lst xs) ∧ ∀ o, F.nx (σ.set i (some x)) (upd H1 a (.frz o (.lst xs)))
  rw [hms]
  refine lift_comp hm σ H _ ⟨E, _, r, q, fun xs E1 a vs H1 q1 x1 r1 h0 na ha p1 => ?_⟩
  refine ⟨a, vs, ha, fun o => k1 _ _ _ q1 (x1.trans (Ext.put ha)) ?_⟩
  exact (r1.freeze h0 na ha).setD hsl (.lst (.of upd_same) (p1.ext (Ext.put ha)))
end
end
end DL
set_option Elab.async false
set_option linter.all false
set_option maxRecDepth 100000
namespace DL
open PySem PySem.Spec PyProof.Rows L2
/-! ### a def's promise over data -/
abbrev SpD := List S → (D → List S → Prop) → Prop
inductive AR (K : PySem.W.Frag) (H : Hp) : List S → List V → List Addr → Prop
  | nil : AR K H [] [] []
  | d {x : D} {v : V} {ss : List S} {vs : List V} {as : List Addr} : Rp K H x v → AR K H ss vs as → AR K H (.d x :: ss) (v :: vs) as
  | o {s : S} {a : Addr} {ss : List S} {vs : List V} {as : List Addr} : s.isMut = true → RelM K H s a → AR K H ss vs as → AR K H (s :: ss) (.ref a :: vs) (a :: as)
def spL (K : PySem.W.Frag) (sp : SpD) : Sp := fun vs H Q _ => ∃ (ss : List S) (as : List Addr) (QD : D → List S → Prop), sp ss QD ∧ AR K H ss vs as ∧ as.Nodup ∧
  ∀ d outs v H', QD d outs → (∀ p o, H p = some o → p ∉ as → H' p = some o) → Paired (RelM K H') outs as → Rp K H' d v → Q v H'
/-- the places of the mutable ones -/
def mpos : Nat → List S → List Nat
  | _, [] => []
  | k, s :: ss => if s.isMut = true then k :: mpos (k + 1) ss else mpos (k + 1) ss
theorem AR.length {K : PySem.W.Frag} {H : Hp} : ∀ {ss : List S} {vs : List V} {as : List Addr}, AR K H ss vs as → ss.length = vs.length
  | _, _, _, .nil => rfl
  | _, _, _, .d _ r => by rw [List.length_cons, List.length_cons, AR.length r]
  | _, _, _, .o _ _ r => by rw [List.length_cons, List.length_cons, AR.length r]
theorem AR.mlen {K : PySem.W.Frag} {H : Hp} : ∀ {ss : List S} {vs : List V} {as : List Addr} (k : Nat), AR K H ss vs as → (mpos k ss).length = as.length
  | _, _, _, _, .nil => rfl
  | _, _, _, k, .d _ r => by show (mpos (k + 1) _).length = _; exact AR.mlen (k + 1) r
  | _, _, _, k, .o h _ r => by unfold mpos; rw [if_pos h, List.length_cons, List.length_cons, AR.mlen (k + 1) r]
/-- what an argument place holds -/
theorem AR.get {K : PySem.W.Frag} {H : Hp} : ∀ {ss : List S} {vs : List V} {as : List Addr} (k : Nat) {i : Nat} {s : S}, AR K H ss vs as → ss[i]? = some s →
    (∃ x v, s = .d x ∧ vs[i]? = some v ∧ Rp K H x v) ∨ (s.isMut = true ∧ ∃ a, vs[i]? = some (.ref a) ∧ RelM K H s a ∧ (k + i, a) ∈ (mpos k ss).zip as)
  | _, _, _, _, i, _, .nil, e => by simp at e
  | _, _, _, k, 0, s, .d (x := x) (v := v) p r, e => by
    simp at e; exact .inl ⟨x, v, e.symm, rfl, p⟩
  | _, _, _, k, i + 1, s, .d p r, e => by
    rcases AR.get (k + 1) (i := i) r (by simpa using e) with ⟨x, v, e1, e2, e3⟩ | ⟨h, a, e1, e2, e3⟩
    · exact .inl ⟨x, v, e1, by simpa using e2, e3⟩
    · refine .inr ⟨h, a, by simpa using e1, e2, ?_⟩
      show (k + (i + 1), a) ∈ (mpos (k + 1) _).zip _
      rw [show k + (i + 1) = k + 1 + i by omega]; exact e3
  | _, _, _, k, 0, s, .o (a := a) h m r, e => by
    simp at e; subst e
    refine .inr ⟨h, a, rfl, m, ?_⟩
    unfold mpos; rw [if_pos h]; simp
  | _, _, _, k, i + 1, s, .o h m r, e => by
    rcases AR.get (k + 1) (i := i) r (by simpa using e) with ⟨x, v, e1, e2, e3⟩ | ⟨h', a, e1, e2, e3⟩
    · exact .inl ⟨x, v, e1, by simpa using e2, e3⟩
    · refine .inr ⟨h', a, by simpa using e1, e2, ?_⟩
      unfold mpos; rw [if_pos h, List.zip_cons_cons]
      refine List.mem_cons_of_mem _ ?_
      rw [show k + (i + 1) = k + 1 + i by omega]; exact e3
theorem AR.back {K : PySem.W.Frag} {H : Hp} : ∀ {ss : List S} {vs : List V} {as : List Addr} (k : Nat) {j : Nat} {a : Addr}, AR K H ss vs as → (j, a) ∈ (mpos k ss).zip as → ∃ i s, j = k + i ∧ ss[i]? = some s ∧ vs[i]? = some (.ref a) ∧ RelM K H s a
  | _, _, _, _, _, _, .nil, e => by simp [mpos] at e
  | _, _, _, k, j, a, .d p r, e => by
    obtain ⟨i, s, e1, e2, e3, e4⟩ := AR.back (k + 1) (j := j) (a := a) r e
    exact ⟨i + 1, s, by omega, by simpa using e2, by simpa using e3, e4⟩
  | _, _, _, k, j, a, .o h m r, e => by
    unfold mpos at e; rw [if_pos h, List.zip_cons_cons] at e
    rcases List.mem_cons.mp e with z | z
    · cases z; exact ⟨0, _, by omega, rfl, rfl, m⟩
    · obtain ⟨i, s, e1, e2, e3, e4⟩ := AR.back (k + 1) r z
      exact ⟨i + 1, s, by omega, by simpa using e2, by simpa using e3, e4⟩
theorem zip_inj2 {α β : Type} : ∀ {xs : List α} {ys : List β} {i j : α} {a : β}, ys.Nodup → (i, a) ∈ xs.zip ys → (j, a) ∈ xs.zip ys → i = j
  | x :: xs, y :: ys, i, j, a, nd, h1, h2 => by
    rw [List.zip_cons_cons] at h1 h2
    have ⟨n1, n2⟩ := List.nodup_cons.mp nd
    rcases List.mem_cons.mp h1 with z1 | z1
    · rcases List.mem_cons.mp h2 with z2 | z2
      · cases z1; cases z2; rfl
      · cases z1; exact absurd (List.of_mem_zip z2).2 n1
    · rcases List.mem_cons.mp h2 with z2 | z2
      · cases z2; exact absurd (List.of_mem_zip z1).2 n1
      · exact zip_inj2 n2 z1 z2
  | [], _, _, _, _, _, h1, _ => by simp at h1
  | _ :: _, [], _, _, _, _, h1, _ => by simp at h1
theorem zip_fst {α β : Type} : ∀ {xs : List α} {ys : List β}, xs.length = ys.length → (xs.zip ys).map (·.1) = xs
  | [], _, _ => by simp
  | x :: xs, y :: ys, h => by rw [List.zip_cons_cons, List.map_cons, zip_fst (by simpa using h)]
  | _ :: _, [], h => by simp at h
theorem zip_snd {α β : Type} : ∀ {xs : List α} {ys : List β}, xs.length = ys.length → (xs.zip ys).map (·.2) = ys
  | [], [], _ => by simp
  | [], _ :: _, h => by simp at h
  | x :: xs, y :: ys, h => by rw [List.zip_cons_cons, List.map_cons, zip_snd (by simpa using h)]
  | _ :: _, [], h => by simp at h
/-- the start of a def's body -/
theorem AR.start {K : PySem.W.Frag} {H : Hp} {ss : List S} {vs : List V} {as : List Addr} {n : Nat} (r : AR K H ss vs as) (nd : as.Nodup) :
    RelE K ⟨H, (mpos 0 ss).zip as, fun _ => none, []⟩ H (ss ++ List.replicate n .un) (vs.map some ++ List.replicate n none) := by
  have hl := r.length
  have own : ∀ i a, (i, a) ∈ (mpos 0 ss).zip as → ∃ s, ss[i]? = some s ∧ vs[i]? = some (.ref a) ∧ RelM K H s a := fun i a h => by
    obtain ⟨j, s, e1, e2, e3, e4⟩ := r.back 0 h
    have : i = j := by omega
    subst this; exact ⟨s, e2, e3, e4⟩
  have key : ∀ i a, ((mpos 0 ss).zip as).lookup i = some a → (i, a) ∈ (mpos 0 ss).zip as := by
    intro i a
    generalize (mpos 0 ss).zip as = l
    induction l with
    | nil => intro h; cases h
    | cons p l ih =>
      obtain ⟨j, b⟩ := p
      intro h
      rw [List.lookup_cons] at h
      split at h
      · rename_i q; have : i = j := by simpa using q
        subst this; cases h; exact List.mem_cons_self ..
      · exact List.mem_cons_of_mem _ (ih h)
  have key2 : ∀ i a, (i, a) ∈ (mpos 0 ss).zip as → ∃ b, ((mpos 0 ss).zip as).lookup i = some b := by
    intro i a
    generalize (mpos 0 ss).zip as = l
    induction l with
    | nil => intro h; cases h
    | cons p l ih =>
      obtain ⟨j, b⟩ := p
      intro h
      rw [List.lookup_cons]
      split
      · exact ⟨b, rfl⟩
      · rename_i q
        rcases List.mem_cons.mp h with z | z
        · cases z; simp at q
        · exact ih z
  refine ⟨by simp [hl], fun p o h _ => h, fun i a h => ?_, fun a h => ?_, ⟨(fun _ _ z => by cases z), (fun _ _ _ z => by cases z)⟩, fun i => match ((mpos 0 ss).zip as).lookup i with | some a => [a] | none => [], fun i j a h1 h2 => ?_, fun i a h => ?_, fun i s h => ?_⟩
  · obtain ⟨s, e1, e2, e3⟩ := own i a h
    have hi : i < vs.length := by
      rcases Nat.lt_or_ge i vs.length with z | z
      · exact z
      · rw [List.getElem?_eq_none z] at e2; cases e2
    rw [List.getElem?_append_left (by simpa using hi), List.getElem?_map, e2]; rfl
  · have h : a ∈ ((mpos 0 ss).zip as).map (·.2) ++ [] := h
    rw [List.append_nil] at h
    obtain ⟨p, hp, rfl⟩ := List.mem_map.mp h
    obtain ⟨s, e1, e2, e3⟩ := own p.1 p.2 hp
    obtain ⟨u, e, _⟩ := e3.soft
    rw [e]; simp
  · dsimp only at h1 h2
    split at h1
    · rename_i b hb
      split at h2
      · rename_i c hc
        simp only [List.mem_cons, List.not_mem_nil, or_false] at h1 h2
        subst h1; subst h2
        exact zip_inj2 nd (key _ _ hb) (key _ _ hc)
      · cases h2
    · cases h1
  · dsimp only at h
    split at h
    · rename_i b hb
      simp only [List.mem_cons, List.not_mem_nil, or_false] at h
      subst h
      exact ⟨.inl (List.mem_append_left _ (List.mem_map.mpr ⟨_, key _ _ hb, rfl⟩)), by simp⟩
    · cases h
  · by_cases hi : i < ss.length
    · rw [List.getElem?_append_left hi] at h
      rw [List.getElem?_append_left (by simpa [← hl] using hi), List.getElem?_map]
      rcases r.get 0 h with ⟨x, v, rfl, e2, e3⟩ | ⟨hm, a, e1, e2, e3⟩
      · have no : ((mpos 0 ss).zip as).lookup i = none := by
          cases q : ((mpos 0 ss).zip as).lookup i with
          | none => rfl
          | some b =>
            obtain ⟨s', f1, f2, f3⟩ := own i b (key _ _ q)
            rw [h] at f1; cases f1
            exact f3.elim
        dsimp only
        rw [no, e2]
        exact ⟨rfl, v, rfl, e3⟩
      · rw [Nat.zero_add] at e3
        obtain ⟨b, hb⟩ := key2 i a e3
        obtain ⟨s', f1, f2, f3⟩ := own i b (key _ _ hb)
        rw [e1] at f2; cases f2
        dsimp only
        rw [hb, e1]
        exact RelS.ofMut hm rfl e2
    · have hi' : ss.length ≤ i := Nat.le_of_not_lt hi
      rw [List.getElem?_append_right hi'] at h
      have hs : s = .un := by
        have := List.mem_of_getElem? h
        exact (List.mem_replicate.mp this).2
      subst hs
      have no : ((mpos 0 ss).zip as).lookup i = none := by
        cases q : ((mpos 0 ss).zip as).lookup i with
        | none => rfl
        | some b =>
          obtain ⟨s', f1, f2, f3⟩ := own i b (key _ _ q)
          rw [List.getElem?_eq_none hi'] at f1; cases f1
      dsimp only
      rw [no]; rfl
/-- the mutable arguments at the end -/
def finO : List Nat → Env → (List S → Prop) → Prop
  | [], _, Q => Q []
  | i :: is, E, Q => match E[i]? with
    | some (.ol xs) => finO is E fun outs => Q (.ol xs :: outs)
    | some (.dt xs) => finO is E fun outs => Q (.dt xs :: outs)
    | some (.dk xs) => finO is E fun outs => Q (.dk xs :: outs)
    | _ => False
theorem finO_rel {K : PySem.W.Frag} {G : Gh} {H : Hp} {E : Env} {σ : St} (r : RelE K G H E σ) : ∀ {slots : List Nat} {as : List Addr} {Q : List S → Prop}, slots.length = as.length → (∀ p ∈ slots.zip as, p ∈ G.own) → finO slots E Q → ∃ outs, Q outs ∧ Paired (RelM K H) outs as
  | [], [], Q, _, _, h => ⟨[], h, .nil⟩
  | i :: is, a :: as, Q, hl, hs, h => by
    have key : ∀ s : S, E[i]? = some s → s.isMut = true → finO is E (fun outs => Q (s :: outs)) → ∃ outs, Q outs ∧ Paired (RelM K H) outs (a :: as) := fun s he hm h => by
      have hp := r.pin i a (hs (i, a) (by simp))
      obtain ⟨b, e1, e2⟩ := r.mutAt he hm
      rw [hp] at e1
      have : a = b := by injection e1 with z; injection z with z; injection z
      subst this
      obtain ⟨outs, q, p⟩ := finO_rel r (slots := is) (as := as) (by simpa using hl) (fun p hp => hs p (by rw [List.zip_cons_cons]; exact List.mem_cons_of_mem _ hp)) h
      exact ⟨_, q, .cons e2 p⟩
    unfold finO at h
    split at h
    · rename_i xs he; exact key _ he rfl h
    · rename_i xs he; exact key _ he rfl h
    · rename_i xs he; exact key _ he rfl h
    · exact h.elim
  | [], _ :: _, _, hl, _, _ => by simp at hl
  | _ :: _, [], _, hl, _, _ => by simp at hl
/-- THE RULE for a def -/
theorem fn_okD {P : Program} {w : World} {K : PySem.W.Frag} {mg : Str → Option Value} {base : Heap} {x qual : Str} {st : Stmt} {f : Addr} {fd : FuncData} {N ps : List Str} {k : Nat} {sp : SpD} {slots : List Nat} {tb : TSd}
    (F : Fun K x qual st f fd) (Sc : FnScope N ps (defScope st)) (shape : ∀ ss QD, sp ss QD → ss.length = ps.length ∧ mpos 0 ss = slots)
    (body : ∀ (cdv : Value) (A : Around) (outer : List PySem.Env) (s : Shared) (H : Hp) (E : XK), Room k (A.deeper (envOfC qual (defScope st) s.heap.objs.size f cdv)) → ∀ G : Gh, G.slots = slots →
      SDs (cxOf CX0 P w K mg base N qual (defScope st) f cdv A outer s H E).nox G (defBody st) tb)
    (read : ∀ ss QD, sp ss QD → tb { nx := fun E' => finO slots E' (QD .none), rt := fun d E' => finO slots E' (QD d) } (ss ++ List.replicate (N.length - ps.length) .un)) :
    FnOk P w K mg base CX0 (k + 1) f fd ps (spL K sp) := by
  refine F.ok Sc (fun vs H Q E h => ?_) (fun cdv A outer s H vs Q E hr h => ?_)
  · obtain ⟨ss, as, QD, h1, h2, _⟩ := h
    rw [← h2.length]; exact (shape ss QD h1).1
  · obtain ⟨ss, as, QD, h1, h2, nd, h4⟩ := h
    obtain ⟨hl, hm⟩ := shape ss QD h1
    have ml := h2.mlen 0
    have hG : (⟨H, (mpos 0 ss).zip as, fun _ => none, []⟩ : Gh).slots = slots := by show ((mpos 0 ss).zip as).map (·.1) = slots; rw [zip_fst ml, hm]
    have hA : (⟨H, (mpos 0 ss).zip as, fun _ => none, []⟩ : Gh).addrs = as := by show ((mpos 0 ss).zip as).map (·.2) ++ [] = as; rw [zip_snd ml, List.append_nil]
    refine ⟨_, (body cdv A outer s H E hr ⟨H, (mpos 0 ss).zip as, fun _ => none, []⟩ hG).pss, ?_⟩
    have hst : L2.start N vs = vs.map some ++ List.replicate (N.length - ps.length) none := by unfold L2.start; rw [← h2.length, hl]
    refine ⟨ss ++ List.replicate (N.length - ps.length) .un, { nx := fun E' => finO slots E' (QD .none), rt := fun d E' => finO slots E' (QD d) }, by rw [hst]; exact h2.start nd, read ss QD h1, fun E' σ' H' q x r => ?_, fun d E' v σ' H' q x r p => ?_, fun _ _ _ q => False.elim q, fun _ _ _ q => False.elim q⟩
    · obtain ⟨outs, q1, p1⟩ := finO_rel r (as := as) (by rw [← hm]; exact ml) (by rw [← hm]; exact fun p hp => hp) q
      exact h4 .none outs .non H' q1 (fun p o e ne => r.keep p o e (by rw [hA]; exact ne)) p1 .non
    · obtain ⟨outs, q1, p1⟩ := finO_rel r (as := as) (by rw [← hm]; exact ml) (by rw [← hm]; exact fun p hp => hp) q
      exact h4 d outs v H' q1 (fun p o e ne => r.keep p o e (by rw [hA]; exact ne)) p1 p
/-! ### a call of a def -/
def oixs : List Arg → List Nat
  | [] => []
  | .v _ :: as => oixs as
  | .o i :: as => i :: oixs as
def argS (E : Env) : List Arg → Option (List S)
  | [] => some []
  | .v x :: as => (argS E as).map (.d x :: ·)
  | .o i :: as => match E[i]? with
    | some (.ol xs) => (argS E as).map (.ol xs :: ·)
    | some (.dt xs) => (argS E as).map (.dt xs :: ·)
    | some (.dk xs) => (argS E as).map (.dk xs :: ·)
    | _ => none
def putO : List Arg → List S → Env → Env
  | .v _ :: as, outs, E => putO as outs E
  | .o i :: as, s :: outs, E => putO as outs (E.set i s)
  | _, _, E => E
def ndp : List Nat → Bool
  | [] => true
  | i :: is => !is.contains i && ndp is
def tCallD (sp : SpD) (ta : TAd) : TD := fun E Q => ta E fun as E1 => match argS E1 as with
  | some ss => ndp (oixs as) = true ∧ sp ss fun r outs => Q r (putO as outs E1)
  | none => False
section
variable {K : PySem.W.Frag} {G : Gh} {H H' : Hp} {E : Env} {σ : St}
abbrev MutAt (σ : St) (E : Env) : Nat → Addr → Prop := fun i a => σ[i]? = some (some (.ref a)) ∧ ∃ s : S, E[i]? = some s ∧ s.isMut = true
theorem RelA.args (r : RelE K G H E σ) : ∀ {as : List Arg} {ss : List S} {vs : List V}, RelA K H σ as vs → argS E as = some ss → ∃ addrs, AR K H ss vs addrs ∧ Paired (MutAt σ E) (oixs as) addrs
  | _, _, _, .nil, e => by cases e; exact ⟨[], .nil, .nil⟩
  | _, _, _, .v (as := as) p t, e => by
    unfold argS at e
    cases q : argS E as with
    | none => rw [q] at e; cases e
    | some ss' =>
      rw [q] at e; cases e
      obtain ⟨ad, a1, a2⟩ := RelA.args r t q
      exact ⟨ad, .d p a1, a2⟩
  | _, ss, _, .o (i := i) (v := v0) (as := as) (vs := vs0) hs t, e => by
    have key : ∀ s : S, E[i]? = some s → s.isMut = true → (argS E as).map (s :: ·) = some ss → ∃ addrs, AR K H ss (v0 :: vs0) addrs ∧ Paired (MutAt σ E) (oixs (.o i :: as)) addrs := fun s he hm e => by
      cases q : argS E as with
      | none => rw [q] at e; cases e
      | some ss' =>
        rw [q] at e; cases e
        obtain ⟨ad, a1, a2⟩ := RelA.args r t q
        obtain ⟨a, e1, e2⟩ := r.mutAt he hm
        rw [hs] at e1; cases e1
        exact ⟨a :: ad, .o hm e2 a1, .cons ⟨hs, s, he, hm⟩ a2⟩
    unfold argS at e
    split at e
    · rename_i xs he; exact key _ he rfl e
    · rename_i xs he; exact key _ he rfl e
    · rename_i xs he; exact key _ he rfl e
    · cases e
theorem Paired.mem2 {α β : Type} {F : α → β → Prop} : ∀ {xs : List α} {ys : List β} {y : β}, Paired F xs ys → y ∈ ys → ∃ x ∈ xs, F x y
  | _, _, _, .cons r t, h => by
    rcases List.mem_cons.mp h with rfl | z
    · exact ⟨_, List.mem_cons_self .., r⟩
    · obtain ⟨x, hx, f⟩ := Paired.mem2 t z; exact ⟨x, List.mem_cons_of_mem _ hx, f⟩
  | _, _, _, .nil, h => by cases h
theorem addrs_nodup (r : RelE K G H E σ) : ∀ {is : List Nat} {ad : List Addr}, ndp is = true → Paired (MutAt σ E) is ad → ad.Nodup
  | [], [], _, _ => List.nodup_nil
  | i :: is, a :: ad, h, .cons p t => by
    unfold ndp at h
    simp only [Bool.and_eq_true, Bool.not_eq_true'] at h
    refine List.nodup_cons.mpr ⟨fun z => ?_, addrs_nodup r h.2 t⟩
    obtain ⟨j, hj, e1, s2, e2, m2⟩ := Paired.mem2 t z
    obtain ⟨l, k, pn, dm, x0, A, h1, h2, h3⟩ := r
    obtain ⟨p1, s1, p2, m1⟩ := p
    obtain ⟨b, f1, f2, _⟩ := (h3 i _ p2).mut m1
    obtain ⟨c, g1, g2, _⟩ := (h3 j _ e2).mut m2
    rw [p1] at f2; cases f2
    rw [e1] at g2; cases g2
    have : i = j := h1 i j a (by rw [f1]; simp) (by rw [g1]; simp)
    subst this
    have := h.1
    simp at this
    exact this hj
/-- what is soft is no tuple, nothing frozen -/
theorem Ext.ofSoft {ad : List Addr} (keep : ∀ p o, H p = some o → p ∉ ad → H' p = some o) (soft : ∀ a ∈ ad, Soft H a) : Ext H H' :=
  ⟨fun a xs e => keep a _ e fun z => (by
      obtain ⟨u, f, g1, g2⟩ := soft a z
      rw [e] at f
      injection f with f
      exact g1 xs f.symm), fun a o v e => keep a _ e fun z => (by
      obtain ⟨u, f, g1, g2⟩ := soft a z
      rw [e] at f
      injection f with f
      exact g2 o v f.symm)⟩
/-- behind a call: the mutable arguments have changed -/
theorem RelX.puts : ∀ {as : List Arg} {outs : List S} {ad : List Addr} {E : Env}, ndp (oixs as) = true → RelE K G H E σ → (∀ p o, H p = some o → p ∉ ad → H' p = some o) → (∀ a ∈ ad, Soft H a) → Paired (RelM K H') outs ad →
    Paired (MutAt σ E) (oixs as) ad → RelE K G H' (putO as outs E) σ := by
  -- all at once: the environment with new contents
  intro as outs ad E nd r keep islst pr po
  have adn := addrs_nodup r nd po
  have ext : Ext H H' := Ext.ofSoft keep islst
  obtain ⟨l, k, pn, dm, x0, A, h1, h2, h3⟩ := r
  have own : ∀ a ∈ ad, a ∈ G.addrs ∨ G.H0 a = none := fun a ha => by
    obtain ⟨i, hi, e1, s, e2, m⟩ := Paired.mem2 po ha
    obtain ⟨b, f1, f2, _⟩ := (h3 i _ e2).mut m
    rw [e1] at f2; cases f2
    exact (h2 i a (by rw [f1]; simp)).1
  have there : ∀ (ad : List Addr) (outs : List S), Paired (RelM K H') outs ad → ∀ a ∈ ad, Soft H' a := by
    intro ad outs p
    induction p with
    | nil => intro a h; cases h
    | cons q t ih =>
      intro a h
      rcases List.mem_cons.mp h with rfl | z
      · exact q.soft
      · exact ih a z
  -- the slots that are not put keep their relation, those that are put have the new one
  have step : ∀ (as : List Arg) (outs : List S) (ad : List Addr) (E1 : Env), ndp (oixs as) = true → Paired (RelM K H') outs ad → Paired (MutAt σ E) (oixs as) ad →
      (∀ i, i ∉ oixs as → ∀ s, E1[i]? = some s → RelS K H' s σ[i]? (A i)) → E1.length = E.length →
      (∀ i s, (putO as outs E1)[i]? = some s → RelS K H' s σ[i]? (A i)) ∧ (putO as outs E1).length = E.length := by
    intro as
    induction as with
    | nil =>
      intro outs ad E1 _ _ _ h hl
      have e : DL.putO [] outs E1 = E1 := by cases outs <;> rfl
      rw [e]; exact ⟨fun i s q => h i (by simp [oixs]) s q, hl⟩
    | cons x as ih =>
      intro outs ad E1 nd p q h hl
      cases x with
      | v x =>
        have e : DL.putO (.v x :: as) outs E1 = DL.putO as outs E1 := by cases outs <;> rfl
        rw [e]
        exact ih outs ad E1 nd p q h hl
      | o i =>
        cases q with
        | cons q1 q2 =>
          rename_i a0 ad0
          cases p with
          | cons p1 p2 =>
            rename_i s0 outs0
            have nd' : ndp (i :: oixs as) = true := nd
            unfold ndp at nd'
            simp only [Bool.and_eq_true, Bool.not_eq_true'] at nd'
            have e : DL.putO (.o i :: as) (s0 :: outs0) E1 = DL.putO as outs0 (E1.set i s0) := rfl
            rw [e]
            refine ih outs0 ad0 (E1.set i s0) nd'.2 p2 q2 (fun j hj s e => ?_) (by rw [List.length_set]; exact hl)
            by_cases z : j = i
            · subst z
              by_cases hlj : j < E1.length
              · rw [List.getElem?_set_self hlj] at e
                cases e
                obtain ⟨q3, ys, q4, q5⟩ := q1
                obtain ⟨b, f1, f2, _⟩ := (h3 j _ q4).mut q5
                rw [q3] at f2; cases f2
                rw [f1]
                exact RelS.ofMut p1.isMut q3 p1
              · rw [List.getElem?_eq_none (by simpa using hlj)] at e; cases e
            · rw [List.getElem?_set_ne (Ne.symm z)] at e
              exact h j (by simp [oixs, z, hj]) s e
  have base : ∀ i, i ∉ oixs as → ∀ s, E[i]? = some s → RelS K H' s σ[i]? (A i) := fun i hi s e => by
    have hs := h3 i s e
    refine hs.move ext fun a ha => ?_
    have : a ∉ ad := fun z => by
      obtain ⟨j, hj, e1, s2, e2, m2⟩ := Paired.mem2 po z
      obtain ⟨b, f1, f2, _⟩ := (h3 j _ e2).mut m2
      rw [e1] at f2; cases f2
      have : i = j := h1 i j a ha (by rw [f1]; simp)
      subst this; exact hi hj
    obtain ⟨u, hu, _⟩ := hs.indom a ha
    rw [hu]; exact keep a u hu this
  obtain ⟨s1, s2⟩ := step as outs ad E nd pr po base rfl
  refine ⟨by rw [s2]; exact l, fun p o e ne => ?_, pn, fun a ha => ?_, x0.trans ext, A, h1, h2, s1⟩
  · refine keep p o (k p o e ne) fun z => ?_
    rcases own p z with q | q
    · exact ne q
    · rw [q] at e; cases e
  · by_cases z : a ∈ ad
    · obtain ⟨u, e, _⟩ := there ad outs pr a z; rw [e]; simp
    · cases q : H a with
      | none => exact absurd q (dm a ha)
      | some o => rw [keep a o q z]; simp
theorem Paired.keys {α β : Type} {F : α → β → Prop} : ∀ {xs : List α} {ys : List β}, Paired F xs ys → ∀ y ∈ ys, ∃ x, F x y
  | _, _, .cons r t, y, h => by
    rcases List.mem_cons.mp h with rfl | z
    · exact ⟨_, r⟩
    · exact Paired.keys t y z
  | _, _, .nil, _, h => by cases h
end
section
variable {X : Cx} {G : Gh} {e : Expr} {es : List Expr} {pos p : Pos} {x : Str} {f : Addr} {fd : FuncData} {ps : List Str} {k : Nat} {sp : SpD} {ta : TAd} {CX : CXT}
theorem lift_call (σ : St) (H : Hp) (Q : VK) (E : XK) (h : liftE X.K G (tCallD sp ta) σ H Q) : tCall (spL X.K sp) [] E (liftA X.K G ta) σ H Q := by
  obtain ⟨E0, QE, r, q, kk⟩ := h
  refine ⟨E0, _, r, q, fun as E1 vs H1 q1 x1 r1 p1 => ?_⟩
  show spL X.K sp (vs ++ []) H1 Q E
  rw [List.append_nil]
  split at q1
  · rename_i ss hs
    obtain ⟨nd, q1⟩ := q1
    obtain ⟨ad, ar, po⟩ := RelA.args r1 p1 hs
    have adn := addrs_nodup r1 nd po
    refine ⟨ss, ad, _, q1, ar, adn, fun d outs v H' q2 keep pr pd => ?_⟩
    have islst : ∀ a ∈ ad, Soft H1 a := fun a ha => by
      obtain ⟨i, hi, e1, s, e2, m⟩ := Paired.mem2 po ha
      obtain ⟨b, f1, f2⟩ := r1.mutAt e2 m
      rw [e1] at f1; cases f1; exact f2.soft
    have ext : Ext H1 H' := Ext.ofSoft keep islst
    exact kk d _ v H' q2 (x1.trans ext) (RelX.puts nd r1 keep islst pr po) pd
  · exact q1.elim
theorem ed_call (F : FnOk X.prog X.w X.K X.mg X.base CX0 k f fd ps (spL X.K sp)) (hr : Room k X.A) (hg : Gl X x) (hm : X.mg x = some (.ref f)) (hk : PySem.W.keepIn X.K (.ref f) = true) (hb : Binds X.K fd ps []) (ha : EA X G (e :: es) ta) (hdb : (x == ("__debug__" : Str)) = false := by decide)
    (hs : starEach (e :: es) X.env = (false, eval e X.env) :: starEach es X.env := by rfl) (hplain : (backTo pos (starEach es X.env)).any (·.1) = false := by rfl) : ED X G (.Call (.Name x p) (e :: es) [] pos) (tCallD sp ta) :=
  ⟨PE.weak (pe_call (dvs := []) (E := fun _ _ _ => False) F hr hg hm hk hb .nil pass0 ha.pa (hdb := hdb) (he := hs) (hpl := hplain)) fun σ H Q h => lift_call σ H Q _ h⟩
end
end DL
set_option Elab.async false
set_option linter.all false
set_option maxRecDepth 100000
namespace DL
open PySem PySem.Spec PyProof.Rows L2
/-! ### lists of one's own change -/
section
variable {X : Cx} {G : Gh} {a b c e : Expr} {es : List Expr} {pos apos cpos p0 : Pos} {x : Str}
def tApp (i : Nat) (t : TD) : TD := fun E Q => match E[i]? with
  | some (.ol _) => t E fun d E1 => match E1[i]? with
    | some (.ol xs) => xs.length < sizeLine ∧ Q .none (E1.set i (.ol (xs ++ [d])))
    | _ => False
  | _ => False
theorem ed_app (i : Nat) {t : TD} (h : ED X G e t) (hN : X.N[i]? = some x := by rfl) (hv : Vis X.env.scope x := by first | exact Or.inl rfl | exact Or.inr (Or.inl rfl) | exact Or.inr (Or.inr rfl)) (hd : (x == ("__debug__" : Str)) = false := by decide)
    (hcd : (x == ("__classdict__" : Str)) = false := by decide)
    (hbase : attributeBase (.Name x p0) "append" X.env (eval (.Name x p0) X.env) = eval (.Name x p0) X.env := by rfl)
    (hfew : ((backTo cpos (starEach [e] X.env)).all (fun x => !x.1) && (backToKw cpos (keywordEach [] X.env)).all (fun x => x.1.isSome)
      && decide (([e] : List Expr).length + ([] : List Keyword).length + (if ([] : List Keyword).isEmpty then 0 else 1) < 30)) = true := by rfl)
    (hline : (apos.endLine == cpos.line) = true := by rfl) (hs : starEach [e] X.env = (false, eval e X.env) :: starEach [] X.env := by rfl) (hplain : (backTo cpos (starEach [] X.env)).any (·.1) = false := by rfl) :
    ED X G (.Call (.Attribute (.Name x p0) "append" apos) [e] [] cpos) (tApp i t) :=
  ⟨PE.weak (pe_bm PySem.F.plainAttrs_list PySem.F.slot_list_append PySem.F.type_list_append mt_append (pe_var hN hv hd hcd) (pa_cons h.pe pa_nil hs) hbase hfew hline hs hplain) fun σ H Q ⟨E, QE, r, q, k⟩ => by
    unfold tApp at q
    split at q
    · rename_i xs0 he0
      obtain ⟨l, vs0, e1, e2, e3⟩ := r.ol he0
      refine ⟨_, e1, .inl ⟨rfl, _, SqL.of e2⟩, E, _, r, q, fun d E1 v H1 q1 x1 r1 p1 => ?_⟩
      split at q1
      · rename_i xs he
        obtain ⟨l', vs, f1, f2, f3⟩ := r1.ol he
        rw [e1] at f1; cases f1
        refine ⟨l, vs, v, rfl, rfl, f2, by rw [← f3.length]; exact q1.1, ?_⟩
        exact k _ _ _ _ q1.2 (x1.trans (Ext.put f2)) (r1.putL he e1 (RpL.append f3 (.cons p1 .nil))) .non
      · exact q1.elim
    · exact q.elim⟩
def tExtd (i : Nat) (t : TLd) : TD := fun E Q => match E[i]? with
  | some (.ol _) => t E fun ys E1 => match E1[i]? with
    | some (.ol xs) => xs.length + ys.length ≤ sizeLine ∧ Q .none (E1.set i (.ol (xs ++ ys)))
    | _ => False
  | _ => False
theorem ed_extd (i : Nat) {t : TLd} (h : EL X G e t) (hN : X.N[i]? = some x := by rfl) (hv : Vis X.env.scope x := by first | exact Or.inl rfl | exact Or.inr (Or.inl rfl) | exact Or.inr (Or.inr rfl)) (hd : (x == ("__debug__" : Str)) = false := by decide)
    (hcd : (x == ("__classdict__" : Str)) = false := by decide)
    (hbase : attributeBase (.Name x p0) "extend" X.env (eval (.Name x p0) X.env) = eval (.Name x p0) X.env := by rfl)
    (hfew : ((backTo cpos (starEach [e] X.env)).all (fun x => !x.1) && (backToKw cpos (keywordEach [] X.env)).all (fun x => x.1.isSome)
      && decide (([e] : List Expr).length + ([] : List Keyword).length + (if ([] : List Keyword).isEmpty then 0 else 1) < 30)) = true := by rfl)
    (hline : (apos.endLine == cpos.line) = true := by rfl) (hs : starEach [e] X.env = (false, eval e X.env) :: starEach [] X.env := by rfl) (hplain : (backTo cpos (starEach [] X.env)).any (·.1) = false := by rfl) :
    ED X G (.Call (.Attribute (.Name x p0) "extend" apos) [e] [] cpos) (tExtd i t) :=
  ⟨PE.weak (pe_bm PySem.F.plainAttrs_list PySem.F.slot_list_extend PySem.F.type_list_extend mt_extend (pe_var hN hv hd hcd) (pa_cons h.pe pa_nil hs) hbase hfew hline hs hplain) fun σ H Q ⟨E, QE, r, q, k⟩ => by
    unfold tExtd at q
    split at q
    · rename_i xs0 he0
      obtain ⟨l, vs0, e1, e2, e3⟩ := r.ol he0
      refine ⟨_, e1, .inl ⟨rfl, _, SqL.of e2⟩, E, _, r, q, fun ys E1 b us H1 q1 x1 r1 h0 na hb p1 => ?_⟩
      split at q1
      · rename_i xs he
        obtain ⟨l', vs, f1, f2, f3⟩ := r1.ol he
        rw [e1] at f1; cases f1
        refine ⟨l, b, vs, us, rfl, rfl, f2, hb, by rw [← f3.length, ← p1.length]; exact q1.1, ?_⟩
        exact k _ _ _ _ q1.2 (x1.trans (Ext.put f2)) (r1.weak.putL he e1 (RpL.append f3 p1)) .non
      · exact q1.elim
    · exact q.elim⟩
def tPopAt (i : Nat) (t : TD) : TD := fun E Q => match E[i]? with
  | some (.ol _) => t E fun d E1 => match d, E1[i]? with
    | .int k, some (.ol xs) => (0 ≤ k ∧ k < xs.length ∧ k < 2 ^ 63) ∧ ∀ y, xs[k.toNat]? = some y → Q y (E1.set i (.ol (xs.eraseIdx k.toNat)))
    | _, _ => False
  | _ => False
theorem seqIndex_nat {k : Int} {n : Nat} (h0 : 0 ≤ k) (h1 : k < n) : seqIndex? k n = some k.toNat := by
  have := (ixN_seq (n := n) (i := k) (j := k.toNat) (by unfold ixN; rw [if_pos h0, if_pos h1])).1
  exact this
theorem ed_popAt (i : Nat) {t : TD} (h : ED X G e t) (hN : X.N[i]? = some x := by rfl) (hv : Vis X.env.scope x := by first | exact Or.inl rfl | exact Or.inr (Or.inl rfl) | exact Or.inr (Or.inr rfl)) (hd : (x == ("__debug__" : Str)) = false := by decide)
    (hcd : (x == ("__classdict__" : Str)) = false := by decide)
    (hbase : attributeBase (.Name x p0) "pop" X.env (eval (.Name x p0) X.env) = eval (.Name x p0) X.env := by rfl)
    (hfew : ((backTo cpos (starEach [e] X.env)).all (fun x => !x.1) && (backToKw cpos (keywordEach [] X.env)).all (fun x => x.1.isSome)
      && decide (([e] : List Expr).length + ([] : List Keyword).length + (if ([] : List Keyword).isEmpty then 0 else 1) < 30)) = true := by rfl)
    (hline : (apos.endLine == cpos.line) = true := by rfl) (hs : starEach [e] X.env = (false, eval e X.env) :: starEach [] X.env := by rfl) (hplain : (backTo cpos (starEach [] X.env)).any (·.1) = false := by rfl) :
    ED X G (.Call (.Attribute (.Name x p0) "pop" apos) [e] [] cpos) (tPopAt i t) :=
  ⟨PE.weak (pe_bm PySem.F.plainAttrs_list PySem.F.slot_list_pop PySem.F.type_list_pop mt_popAt (pe_var hN hv hd hcd) (pa_cons h.pe pa_nil hs) hbase hfew hline hs hplain) fun σ H Q ⟨E, QE, r, q, k⟩ => by
    unfold tPopAt at q
    split at q
    · rename_i xs0 he0
      obtain ⟨l, vs0, e1, e2, e3⟩ := r.ol he0
      refine ⟨_, e1, .inl ⟨rfl, _, SqL.of e2⟩, E, _, r, q, fun d E1 v H1 q1 x1 r1 p1 => ?_⟩
      split at q1
      · rename_i d0 o0 j xs he
        cases p1
        obtain ⟨l', vs, f1, f2, f3⟩ := r1.ol he
        rw [e1] at f1; cases f1
        obtain ⟨⟨z0, z1, z2⟩, q1⟩ := q1
        have zl : j.toNat < xs.length := by omega
        have ey : xs[j.toNat]? = some xs[j.toNat] := List.getElem?_eq_getElem zl
        obtain ⟨y, hy, py⟩ := f3.get ey
        refine ⟨l, vs, j, j.toNat, y, rfl, rfl, f2, by omega, z2, seqIndex_nat z0 (by rw [← f3.length]; exact z1), hy, ?_⟩
        exact k _ _ _ _ (q1 _ ey) (x1.trans (Ext.put f2)) (r1.putL he e1 (RpL.eraseIdx _ f3)) (py.ext (Ext.put f2))
      · exact q1.elim
    · exact q.elim⟩
/-- an item is put -/
def putD (xs : List D) (k : Int) (d : D) (Q : List D → Prop) : Prop := match ixN xs.length k with
  | some n => Q (xs.set n d)
  | none => False
/-- xs[k] = e -/
def sSetIx (i : Nat) (tk te : TD) : TSd := fun DE E => te E fun d E1 => match E1[i]? with
  | some (.ol _) => tk E1 fun j E2 => match j, E2[i]? with
    | .int k, some (.ol xs) => putD xs k d fun ys => DE.nx (E2.set i (.ol ys))
    | _, _ => False
  | _ => False
theorem sd_setIx (i : Nat) {ix : Expr} {tk te : TD} (hk : ED X G ix tk) (he : ED X G e te) (hN : X.N[i]? = some x := by rfl) (hv : Vis X.env.scope x := by first | exact Or.inl rfl | exact Or.inr (Or.inl rfl) | exact Or.inr (Or.inr rfl)) (hd : (x == ("__debug__" : Str)) = false := by decide)
    (hcd : (x == ("__classdict__" : Str)) = false := by decide)
    (ha : ∀ v, assign (.Subscript (.Name x p0) ix apos) X.env v = (do
      let ov ← holding [v] (eval (.Name x p0) X.env)
      let iv ← holding [v, ov] (eval ix X.env)
      standAt apos
      holding [v, ov, iv] (setItem ov iv v)
      release [v, ov, iv] []) := by intro _; rfl)
    (hs : swapsWithSole [.Subscript (.Name x p0) ix apos] e pos.line X.env = pure false := by rfl) (hw : swappedStores [.Subscript (.Name x p0) ix apos] e X.env = pure none := by rfl)
    (hb : (assignEach [.Subscript (.Name x p0) ix apos] X.env).map (·.2) = [assign (.Subscript (.Name x p0) ix apos) X.env] := by rfl) :
    SD X G (.Assign [.Subscript (.Name x p0) ix apos] e pos) (sSetIx i tk te) :=
  ⟨PS.weak (ps_asg he.pe (pg_sub (pe_var hN hv hd hcd) hk.pe set_list ha) hs hw hb) fun F σ H ⟨E, DE, r, q, k1, k2, k3, k4⟩ => ⟨E, _, r, q, fun d E1 v H1 q1 x1 r1 p1 => by
    split at q1
    · rename_i xs0 he0
      obtain ⟨l, vs0, e1, e2, e3⟩ := r1.ol he0
      refine ⟨_, e1, E1, _, r1, q1, fun j E2 u H2 q2 x2 r2 p2 => ?_⟩
      split at q2
      · rename_i d0 o0 k xs he
        cases p2
        unfold putD at q2
        split at q2
        · rename_i n hn
          obtain ⟨l', vs, f1, f2, f3⟩ := r2.ol he
          rw [e1] at f1; cases f1
          refine ⟨l, vs, k, n, rfl, rfl, f2, by rw [← f3.length]; exact hn, ?_⟩
          exact k1 _ _ _ q2 ((x1.trans x2).trans (Ext.put f2)) (r2.putL he e1 (RpL.set (p1.ext x2) n f3))
        · exact q2.elim
      · exact q2.elim
    · exact q1.elim⟩⟩
/-! ### several at once -/
abbrev TPs := Env → (List S → Env → Prop) → Prop
/-- new lists at ex, data -/
inductive PVs (K : PySem.W.Frag) (G : Gh) (H : Hp) : List S → List V → List Addr → Prop
  | nil : PVs K G H [] [] []
  | d {x : D} {v : V} {ss : List S} {vs : List V} {ex : List Addr} : Rp K H x v → PVs K G H ss vs ex → PVs K G H (.d x :: ss) (v :: vs) ex
  | m {s : S} {a : Addr} {ss : List S} {vs : List V} {ex : List Addr} : RelM K H s a → G.H0 a = none → a ∉ G.addrs → a ∉ ex → PVs K G H ss vs ex → PVs K G H (s :: ss) (.ref a :: vs) (a :: ex)
theorem PVs.length {K : PySem.W.Frag} {G : Gh} {H : Hp} : ∀ {ss : List S} {vs : List V} {ex : List Addr}, PVs K G H ss vs ex → ss.length = vs.length
  | _, _, _, .nil => rfl
  | _, _, _, .d _ r => by rw [List.length_cons, List.length_cons, PVs.length r]
  | _, _, _, .m _ _ _ _ r => by rw [List.length_cons, List.length_cons, PVs.length r]
theorem PVs.pext {K : PySem.W.Frag} {G : Gh} {H H' : Hp} (p : PExt H H') : ∀ {ss : List S} {vs : List V} {ex : List Addr}, PVs K G H ss vs ex → PVs K G H' ss vs ex
  | _, _, _, .nil => .nil
  | _, _, _, .d h r => .d (h.ext p.ext) (PVs.pext p r)
  | _, _, _, .m h1 h3 h4 h5 r => .m (h1.move p.ext (by obtain ⟨u, e, _⟩ := h1.soft; rw [e, p _ _ e])) h3 h4 h5 (PVs.pext p r)
theorem PVs.ofPend {K : PySem.W.Frag} {G : Gh} {H : Hp} {a : Addr} {o : HO} : ∀ {ss : List S} {vs : List V} {ex : List Addr}, PVs K (pend G a o) H ss vs ex → PVs K G H ss vs ex ∧ a ∉ ex
  | _, _, _, .nil => ⟨.nil, by simp⟩
  | _, _, _, .d h r => ⟨.d h (PVs.ofPend r).1, (PVs.ofPend r).2⟩
  | _, _, _, .m (a := b) h1 h3 h4 h5 r => by
    have z : b ≠ a := by
      rintro rfl
      have : upd G.H0 b o b = none := h3
      rw [upd_same] at this; cases this
    have h3' : G.H0 b = none := by
      have : upd G.H0 a o b = none := h3
      rw [upd_ne z] at this; exact this
    refine ⟨.m h1 h3' h4 h5 (PVs.ofPend r).1, fun q => ?_⟩
    rcases List.mem_cons.mp q with q | q
    · exact z q.symm
    · exact (PVs.ofPend r).2 q
def liftPs (K : PySem.W.Frag) (G : Gh) (t : TPs) : TA := fun σ H Q => ∃ (E : Env) (QE : List S → Env → Prop), RelE K G H E σ ∧ t E QE ∧ ∀ ss E' vs H' ex, QE ss E' → Ext H H' → RelX K G ex H' E' σ → PVs K G H' ss vs ex → Q vs H'
structure EPs (X : Cx) (G : Gh) (es : List Expr) (t : TPs) : Prop where
  pa : PA X es (liftPs X.K G t)
def pNil : TPs := fun E Q => Q [] E
def pD (t : TD) (u : TPs) : TPs := fun E Q => t E fun x E1 => u E1 fun ss E2 => Q (.d x :: ss) E2
def pL (t : TLd) (u : TPs) : TPs := fun E Q => t E fun xs E1 => u E1 fun ss E2 => Q (.ol xs :: ss) E2
theorem eps_nil : EPs X G [] pNil := ⟨PA.weak pa_nil fun σ H Q ⟨E, QE, r, q, k⟩ => k _ _ _ _ _ q (Ext.refl _) r .nil⟩
theorem eps_d {t : TD} {u : TPs} (h : ED X G e t) (hr : EPs X G es u) (hs : starEach (e :: es) X.env = (false, eval e X.env) :: starEach es X.env := by rfl) : EPs X G (e :: es) (pD t u) :=
  ⟨PA.weak (pa_cons h.pe hr.pa hs) fun σ H Q ⟨E, QE, r, q, k⟩ => ⟨E, _, r, q, fun x E1 v H1 q1 x1 r1 p1 => ⟨E1, _, r1, q1, fun ss E2 vs H2 ex q2 x2 r2 p2 => k _ _ _ _ _ q2 (x1.trans x2) r2 (.d (p1.ext x2) p2)⟩⟩⟩
theorem eps_l {t : TLd} {u : TPs} (h : EL X G e t) (hr : ∀ G' : Gh, G'.slots = G.slots → EPs X G' es u) (hs : starEach (e :: es) X.env = (false, eval e X.env) :: starEach es X.env := by rfl) : EPs X G (e :: es) (pL t u) := by
  have hp : PA X es (fun σ H Q => ∃ G' : Gh, G'.slots = G.slots ∧ liftPs X.K G' u σ H Q) := ⟨fun pos pins s σ H Q I ⟨G', hG', q⟩ => (hr G' hG').pa.run pos pins s σ H Q I q⟩
  refine ⟨PA.weak (pa_cons h.pe hp hs) fun σ H Q ⟨E, QE, r, q, k⟩ => ⟨E, _, r, q, fun xs E1 a us H1 q1 x1 r1 h0 na ha p1 => ?_⟩⟩
  refine ⟨pend G a (.lst us), rfl, E1, _, r1.toPend ha na, q1, fun ss E2 vs H2 ex q2 x2 r2 p2 => ?_⟩
  obtain ⟨r3, ha3⟩ := RelX.ofPend r2 h0 na
  obtain ⟨p3, nx⟩ := PVs.ofPend p2
  exact k _ _ _ _ (a :: ex) q2 (x1.trans x2) r3 (.m (s := .ol xs) ⟨_, ha3, p1.ext x2⟩ h0 na nx p3)
def setAll : Env → List Nat → List S → Env
  | E, i :: is, s :: ss => setAll (E.set i s) is ss
  | E, _, _ => E
def setAllV : St → List Nat → List V → St
  | σ, i :: is, v :: vs => setAllV (σ.set i (some v)) is vs
  | σ, _, _ => σ
theorem RelX.setAll {K : PySem.W.Frag} {G : Gh} {H : Hp} : ∀ {is : List Nat} {ss : List S} {vs : List V} {ex : List Addr} {E : Env} {σ : St}, (∀ i ∈ is, i ∉ G.slots) → is.length = ss.length → RelX K G ex H E σ → PVs K G H ss vs ex → RelE K G H (setAll E is ss) (setAllV σ is vs)
  | [], [], [], _, E, σ, _, _, r, .nil => r
  | i :: is, _, _, _, E, σ, hi, hl, r, .d p t => by
    exact RelX.setAll (is := is) (fun j hj => hi j (List.mem_cons_of_mem _ hj)) (by simpa using hl) (r.setD (hi i (List.mem_cons_self ..)) p) t
  | i :: is, _, _, _, E, σ, hi, hl, r, .m h1 h3 h4 h5 t => by
    exact RelX.setAll (is := is) (fun j hj => hi j (List.mem_cons_of_mem _ hj)) (by simpa using hl) (r.setM h5 (hi i (List.mem_cons_self ..)) h3 h1) t
  | [], _, _, _, _, _, _, hl, _, .d _ _ => by simp at hl
  | [], _, _, _, _, _, _, hl, _, .m _ _ _ _ _ => by simp at hl
  | _ :: _, _, _, _, _, _, _, hl, _, .nil => by simp at hl
def sPar (is : List Nat) (t : TPs) : TSd := fun DE E => t E fun ss E1 => is.length = ss.length ∧ DE.nx (setAll E1 is ss)
/-- x, y = a, b: plain local names -/
theorem sd_par2 {i j : Nat} {x y : Str} {t : TPs} {px py pt : Pos} {kt k2 pt2} (hsl : ∀ n ∈ [i, j], n ∉ G.slots) (hc : X.calm = true) (hN : X.N.Nodup) (hi : X.N[i]? = some x) (hj : X.N[j]? = some y) (hij : i ≠ j)
    (hx : X.env.scope.names.lookup x = some .local) (hy : X.env.scope.names.lookup y = some .local) (ha : EPs X G [a, b] t)
    (hw : swappedStores [.Tuple [.Name x px, .Name y py] kt pt] (.Tuple [a, b] k2 pt2) X.env = pure (some [x, y]) := by rfl)
    (hs : swapsWithSole [.Tuple [.Name x px, .Name y py] kt pt] (.Tuple [a, b] k2 pt2) pos.line X.env = pure false := by rfl) :
    SD X G (.Assign [.Tuple [.Name x px, .Name y py] kt pt] (.Tuple [a, b] k2 pt2) pos) (sPar [i, j] t) :=
  ⟨PS.weak (ps_par hc hN hi hj hij hx hy ha.pa hw hs) fun F σ H ⟨E, DE, r, q, k1, k2, k3, k4⟩ => ⟨E, _, r, q, fun ss E1 vs H1 ex q1 x1 r1 p1 => by
    obtain ⟨hl, q1⟩ := q1
    have hv : vs.length = 2 := by rw [← p1.length, ← hl]; rfl
    match vs, hv, p1 with
    | [v, w], _, p1 => exact ⟨v, w, rfl, k1 _ _ _ q1 x1 (RelX.setAll hsl hl r1 p1)⟩⟩⟩
end
end DL
set_option Elab.async false
set_option linter.all false
set_option maxRecDepth 100000
set_option maxHeartbeats 1000000
namespace DL
open PySem PySem.Spec PyProof.Rows L2
section
variable {X : Cx}
/-! ### arithmetic -/
/-- () + t is t -/
theorem op_catT0 : OpR X (binaryOp .Add) (fun x y H Q => ∃ a b ys, x = .ref a ∧ y = .ref b ∧ SqT X.K H a [] ∧ SqT X.K H b ys ∧ Q (.ref b) H) := by
  intro pins s σ H x y v u Q I rx ry h
  obtain ⟨a, b, ys, rfl, rfl, ha, hb, q⟩ := h
  cases rx
  cases ry
  obtain ⟨its, r1, p1, _⟩ := I.tuple ha
  obtain ⟨its2, r2, p2, _⟩ := I.tuple hb
  have e0 : its = [] := r1.nil_iff.mpr rfl
  subst e0
  obtain ⟨⟨cls, dd, data, sl⟩, ho, hc, n, hd⟩ := id p1
  obtain ⟨⟨cls2, dd2, data2, sl2⟩, ho2, hc2, n2, hd2⟩ := id p2
  simp only at hc hd hc2 hd2
  subst hc hd hc2 hd2
  exact concat_meets ⟨_, ho, rfl⟩ ⟨_, ho2, rfl⟩ noFill_tuple_add seq_tuple_add PySem.F.slot_tuple_add PySem.F.entry_tuple_add (PySem.F.args_tuple_add_2 _ _)
      (tuple_addW0 a b [].toArray its2.toArray n n2 dd dd2 sl sl2 rfl) ⟨ho, ho2, ⟨.ref b, H, I, rfl, q⟩⟩
/-- t + u, both with items: a new, plain tuple -/
theorem op_catF : OpR X (binaryOp .Add) (fun x y H Q => ∃ a b xs ys, x = .ref a ∧ y = .ref b ∧ SqT X.K H a xs ∧ SqT X.K H b ys ∧ xs ≠ [] ∧ xs.length + ys.length ≤ sizeLine ∧ (ys = [] → Q (.ref a) H) ∧ (ys ≠ [] → ∀ p o, H p = none → o.dict = none → Q (.ref p) (upd H p (.frz o (.tup (xs ++ ys)))))) := by
  intro pins s σ H x y v u Q I rx ry h
  obtain ⟨a, b, xs, ys, rfl, rfl, ha, hb, hx, hz, q1, q2⟩ := h
  cases rx; cases ry
  obtain ⟨its, r1, p1, _⟩ := I.tuple ha
  obtain ⟨its2, r2, p2, _⟩ := I.tuple hb
  refine HT.cat_tup p1 p2 (fun z => hx (r1.nil_iff.mp z)) (fun z => ⟨.ref a, H, I, rfl, q1 (r2.nil_iff.mp z)⟩) (fun z => ?_) (by rw [← r1.length, ← r2.length]; exact hz)
  refine ⟨.ref s.heap.objs.size, _, I.laid (t' := s.toks) (o := .frz _ (.tup (xs ++ ys))) (fun b ob q => Heap.get?_push_of_some _ q) (Nat.le_refl _) ⟨Heap.get?_push_size _ rfl, ?_⟩, rfl, q2 (fun w => z (r2.nil_iff.mpr w)) _ _ (I.hok.fresh (Nat.le_refl _)) rfl⟩
  exact ⟨by rw [List.length_append]; exact hz, _, r1.append r2, IsTup.new _ _⟩
/-- tuple(xs) of a list: a new, plain tuple -/
theorem call_tupF : CallR X (.type "tuple") (fun xs H Q => ∃ p ys, xs = [.ref p] ∧ ((SqL X.K H p ys ∧ ∀ l o, H l = none → o.dict = none → Q (.ref l) (upd H l (.frz o (.tup ys)))) ∨ (SqT X.K H p ys ∧ Q (.ref p) H))) := by
  intro pins s σ H xs us Q I r h
  obtain ⟨p, ys, rfl, h⟩ := h
  obtain rfl := Vals.ref1 r
  rcases h with ⟨hq, q⟩ | ⟨hq, q⟩
  · obtain ⟨its, r', pl, hz⟩ := I.list hq
    have hlen := r'.length
    refine call_tuple_list pl.isList (fun h' kp => ?_) (by simp only [List.size_toArray] <;> omega)
    have I1 : Inv X pins σ H { s with heap := h' } := I.kept (t' := s.toks) kp
    exact ⟨.ref h'.objs.size, upd H h'.objs.size (.frz { cls := .type "tuple", data := .seq its.toArray } (.tup ys)), I1.laid (t' := s.toks) (fun b o e => Heap.get?_push_of_some _ e) (Nat.le_refl _) ⟨Heap.get?_push_size _ rfl, hz, its, r', IsTup.new _ _⟩, rfl, q _ _ (I1.hok.fresh (Nat.le_refl _)) rfl⟩
  · obtain ⟨its, r', pl, hz⟩ := I.tuple hq
    exact call_tuple_same pl ⟨.ref p, H, I, rfl, q⟩
def opAdd : OpT := fun x y Q => match x, y with
  | .int i, .int j => Q (.int (i + j))
  | .str a, .str b => a.length + b.length ≤ sizeLine ∧ Q (.str (a ++ b))
  | .tuple xs, .tuple ys => xs.length + ys.length ≤ sizeLine ∧ Q (.tuple (xs ++ ys))
  | _, _ => False
theorem od_add : OpD X (binaryOp .Add) opAdd := by
  refine ⟨_, op_add.or (op_add_str.or (op_catF.or op_catT0)), fun x y v u H QD Q hx hy q k => ?_⟩
  cases x with
  | int i =>
    cases y with
    | int j => rw [hx.int, hy.int]; exact .inl ⟨i, j, rfl, rfl, k _ _ _ q (PExt.refl _) (.int _)⟩
    | _ => exact q.elim
  | str i =>
    cases y with
    | str j => rw [hx.str, hy.str]; exact .inr (.inl ⟨i, j, rfl, rfl, q.1, k _ _ _ q.2 (PExt.refl _) (.str _)⟩)
    | _ => exact q.elim
  | tuple xs =>
    cases y with
    | tuple ys =>
      obtain ⟨a, vs, rfl, sa, la⟩ := hx.tupD
      obtain ⟨b, us, rfl, sb, lb⟩ := hy.tupD
      cases la with
      | nil => exact .inr (.inr (.inr ⟨a, b, us, rfl, rfl, sa.1, sb.1, k _ _ _ q.2 (PExt.refl _) (.tup sb lb)⟩))
      | cons p la =>
        rename_i x0 v0 xs0 vs0
        refine .inr (.inr (.inl ⟨a, b, _, us, rfl, rfl, sa.1, sb.1, List.cons_ne_nil _ _, ?_, fun e => ?_, fun _ p0 o hp ho => ?_⟩))
        · have := q.1
          rw [List.length_cons] at this ⊢
          rw [← la.length, ← lb.length]; exact this
        · subst e
          cases lb
          have := q.2
          rw [List.append_nil] at this
          exact k _ _ _ this (PExt.refl _) (.tup sa (.cons p la))
        · have px := PExt.new (o := .frz o (.tup (v0 :: vs0 ++ us))) hp
          exact k _ _ _ q.2 px (.tup (.new ho) ((RpL.append (.cons p la) lb).ext px.ext))
    | _ => exact q.elim
  | _ => exact q.elim
def opI (C : Int → Int → Prop) (g : Int → Int → Int) : OpT := fun x y Q => match x, y with
  | .int i, .int j => C i j ∧ Q (.int (g i j))
  | _, _ => False
def opI0 (g : Int → Int → Int) : OpT := fun x y Q => match x, y with
  | .int i, .int j => Q (.int (g i j))
  | _, _ => False
def opB0 (g : Int → Int → Bool) : OpT := fun x y Q => match x, y with
  | .int i, .int j => Q (.bool (g i j))
  | _, _ => False
theorem od_I {f : Value → Value → Sem Value} {C : Int → Int → Prop} {g : Int → Int → Int} (h : OpR X f (rI C fun i j => .int (g i j))) : OpD X f (opI C g) := ⟨_, h, fun x y v u H QD Q hx hy q k => by
  cases x with
  | int i =>
    cases y with
    | int j => rw [hx.int, hy.int]; exact ⟨i, j, rfl, rfl, q.1, k _ _ _ q.2 (PExt.refl _) (.int _)⟩
    | _ => exact q.elim
  | _ => exact q.elim⟩
theorem od_I0 {f : Value → Value → Sem Value} {g : Int → Int → Int} (h : OpR X f (rI0 fun i j => .int (g i j))) : OpD X f (opI0 g) := ⟨_, h, fun x y v u H QD Q hx hy q k => by
  cases x with
  | int i =>
    cases y with
    | int j => rw [hx.int, hy.int]; exact ⟨i, j, rfl, rfl, k _ _ _ q (PExt.refl _) (.int _)⟩
    | _ => exact q.elim
  | _ => exact q.elim⟩
theorem od_B0 {f : Value → Value → Sem Value} {g : Int → Int → Bool} (h : OpR X f (rI0 fun i j => .bl (g i j))) : OpD X f (opB0 g) := ⟨_, h, fun x y v u H QD Q hx hy q k => by
  cases x with
  | int i =>
    cases y with
    | int j => rw [hx.int, hy.int]; exact ⟨i, j, rfl, rfl, k _ _ _ q (PExt.refl _) (.bl _)⟩
    | _ => exact q.elim
  | _ => exact q.elim⟩
def opSub : OpT := opI0 fun i j => i - j
theorem od_sub : OpD X (binaryOp .Sub) opSub := od_I0 op_sub
def opMul : OpT := opI CMulW fun i j => i * j
theorem od_mul : OpD X (binaryOp .Mult) opMul := od_I op_mulW
def opDiv : OpT := opI CDivW fun i j => i / j
theorem od_div : OpD X (binaryOp .FloorDiv) opDiv := od_I op_fdivW
def opMod : OpT := opI (fun _ j => 0 < j) fun i j => i % j
theorem od_mod : OpD X (binaryOp .Mod) opMod := od_I op_mod
def opPow : OpT := opI CPow fun i j => i ^ j.toNat
def unNeg : UnT := fun x Q => match x with
  | .int i => Q (.int (-i))
  | _ => False
theorem ud_neg : UnD X (unaryOp .USub) unNeg := ⟨_, un_neg, fun x v H QD Q hx q k => by
  cases x with
  | int i => rw [hx.int]; exact ⟨i, rfl, k _ _ _ q (PExt.refl _) (.int _)⟩
  | _ => exact q.elim⟩
/-! ### comparisons -/
def opEq : OpT := fun x y Q => (SeqAt.shaped x = true ∧ SeqAt.shaped y = true) ∧ Q (.bool (PyData.eqv x y))
def opNe : OpT := fun x y Q => (SeqAt.shaped x = true ∧ SeqAt.shaped y = true) ∧ Q (.bool (!PyData.eqv x y))
theorem od_eq (hu : X.A.units + 64 < cLine) : OpD X (compareOp .Eq) opEq := ⟨_, op_eqD hu, fun x y v u H QD Q hx hy q k => ⟨x, y, hx.dp (SeqAt.canLay_of_shaped q.1.1), hy.dp (SeqAt.canLay_of_shaped q.1.2), q.1.1, q.1.2, k _ _ _ q.2 (PExt.refl _) (.bl _)⟩⟩
theorem od_ne (hu : X.A.units + 64 < cLine) : OpD X (compareOp .NotEq) opNe := ⟨_, op_neD hu, fun x y v u H QD Q hx hy q k => ⟨x, y, hx.dp (SeqAt.canLay_of_shaped q.1.1), hy.dp (SeqAt.canLay_of_shaped q.1.2), q.1.1, q.1.2, k _ _ _ q.2 (PExt.refl _) (.bl _)⟩⟩
def opLt : OpT := opB0 fun i j => decide (i < j)
theorem od_lt : OpD X (compareOp .Lt) opLt := od_B0 op_lt
def opLe : OpT := opB0 fun i j => decide (i ≤ j)
theorem od_le : OpD X (compareOp .LtE) opLe := od_B0 op_le
def opGt : OpT := opB0 fun i j => decide (j < i)
def opGe : OpT := opB0 fun i j => decide (j ≤ i)
def isNone : D → Bool
  | .none => true
  | _ => false
def opIs : OpT := fun x y Q => match y with
  | .none => Q (.bool (isNone x))
  | .bool b => match x with
    | .bool a => Q (.bool (decide (a = b)))
    | _ => False
  | _ => False
def opIsN : OpT := fun x y Q => match y with
  | .none => Q (.bool (!isNone x))
  | .bool b => match x with
    | .bool a => Q (.bool (!decide (a = b)))
    | _ => False
  | _ => False
theorem isNone_iff {K : PySem.W.Frag} {H : Hp} {x : D} {v : V} (h : RpR K H x v) : isNone x = decide (v = .non) := by
  rcases h with h | ⟨ds, a, vs, rfl, rfl, _⟩
  · cases h <;> rfl
  · rfl
theorem od_is : OpD X (compareOp .Is) opIs := ⟨_, op_isN.or op_isBl, fun x y v u H QD Q hx hy q k => by
  cases y with
  | none => rw [hy.none]; exact .inl ⟨rfl, by rw [← isNone_iff hx]; exact k _ _ _ q (PExt.refl _) (.bl _)⟩
  | bool b =>
    cases x with
    | bool a => rw [hx.bool, hy.bool]; exact .inr ⟨a, b, rfl, rfl, k _ _ _ q (PExt.refl _) (.bl _)⟩
    | _ => exact q.elim
  | _ => exact q.elim⟩
/-! x in a list, a tuple -/
theorem op_inT (hu : X.A.units + 65 < cLine) : OpR X (compareOp .In) (fun x y H Q => ∃ d ds, Dp X.K H x d ∧ Dp X.K H y (.tuple ds) ∧ SeqAt.shaped d = true ∧ SeqAt.shaped (.tuple ds) = true ∧ Q (.bl (ds.any fun z => PyData.eqv z d)) H) := by
  intro pins s σ H x y v u Q I rx ry h
  obtain ⟨d, ds, hd, he, sd, se, q⟩ := h
  obtain ⟨as, r1⟩ := Dp.reads I d x v hd rx
  obtain ⟨bs, r2⟩ := Dp.reads I (.tuple ds) y u he ry
  exact SeqAt.in_tuple_reads r2 r1 (SeqAt.canLay_of_shaped se) (SeqAt.canLay_of_shaped sd) (room_in_shaped sd hu) ⟨.bl _, H, I, rfl, q⟩
def opIn : OpT := fun x y Q => match y with
  | .list ds => (SeqAt.shaped x = true ∧ SeqAt.shaped (.list ds) = true) ∧ Q (.bool (ds.any fun z => PyData.eqv z x))
  | .tuple ds => (SeqAt.shaped x = true ∧ SeqAt.shaped (.tuple ds) = true) ∧ Q (.bool (ds.any fun z => PyData.eqv z x))
  | _ => False
def opNotIn : OpT := fun x y Q => match y with
  | .list ds => (SeqAt.shaped x = true ∧ SeqAt.shaped (.list ds) = true) ∧ Q (.bool (!ds.any fun z => PyData.eqv z x))
  | .tuple ds => (SeqAt.shaped x = true ∧ SeqAt.shaped (.tuple ds) = true) ∧ Q (.bool (!ds.any fun z => PyData.eqv z x))
  | _ => False
theorem od_in (hu : X.A.units + 65 < cLine) : OpD X (compareOp .In) opIn := ⟨_, (op_inD hu).or (op_inT hu), fun x y v u H QD Q hx hy q k => by
  cases y with
  | list ds => exact .inl ⟨x, ds, hx.dp (SeqAt.canLay_of_shaped q.1.1), hy.dp (SeqAt.canLay_of_shaped q.1.2), q.1.1, q.1.2, k _ _ _ q.2 (PExt.refl _) (.bl _)⟩
  | tuple ds => exact .inr ⟨x, ds, hx.dp (SeqAt.canLay_of_shaped q.1.1), hy.dp (SeqAt.canLay_of_shaped q.1.2), q.1.1, q.1.2, k _ _ _ q.2 (PExt.refl _) (.bl _)⟩
  | _ => exact q.elim⟩
end
section
variable {X : Cx} {G : Gh} {a b c e : Expr} {es : List Expr} {pos p p2 : Pos} {x : Str}
/-! ### chains -/
def tChainD (o o' : OpT) (ta tb tc : TD) : TD := fun E Q => ta E fun x E1 => tb E1 fun y E2 => o x y fun z => match z with
  | .bool true => tc E2 fun w E3 => o' y w fun r => Q r E3
  | .bool false => Q (.bool false) E2
  | _ => False
theorem ed_chain {op op' : CmpOp} {o o' : OpT} {ta tb tc : TD} (ho : OpD X (compareOp op) o) (ho' : OpD X (compareOp op') o') (ha : ED X G a ta) (hb : ED X G b tb) (hc : ED X G c tc)
    (h1 : lastMarks [op, op'] [b, c] = false := by with_unfolding_all rfl) : ED X G (.Compare a [op, op'] [b, c] pos) (tChainD o o' ta tb tc) := by
  obtain ⟨r, hr, hq⟩ := ho
  obtain ⟨r', hr', hq'⟩ := ho'
  refine ⟨PE.weak (pe_chain hr hr' ha.pe hb.pe hc.pe h1) fun σ H Q ⟨E, QE, rel, q, k⟩ => ⟨E, _, rel, q, fun x E1 v H1 q1 x1 r1 p1 => ⟨E1, _, r1, q1, fun y E2 u H2 q2 x2 r2 p2 => ?_⟩⟩⟩
  refine hq x y v u H2 _ _ (.inl (p1.ext x2)) (.inl p2) q2 fun z w H3 q3 px rz => ?_
  cases rz with
  | bl b =>
    refine ⟨b, rfl, ?_⟩
    cases b with
    | true =>
      refine iteT ⟨E2, _, r2.pext px, q3, fun c E3 w H4 q4 x4 r4 p4 => ?_⟩
      exact hq' y c u w H4 _ _ (.inl ((p2.ext px.ext).ext x4)) (.inl p4) q4 fun z w H5 q5 px5 rz5 => k _ _ _ _ q5 ((((x1.trans x2).trans px.ext).trans x4).trans px5.ext) (r4.pext px5) rz5
    | false => exact iteF (k _ _ _ _ q3 ((x1.trans x2).trans px.ext) (r2.pext px) (.bl false))
  | _ => exact q3.elim
/-! ### items -/
def atD (xs : List D) (i : Int) (Q : D → Prop) : Prop := match atI xs i with
  | some d => Q d
  | none => False
def opIx : OpT := fun x y Q => match x, y with
  | .list xs, .int i => atD xs i Q
  | .tuple xs, .int i => atD xs i Q
  | .str z, .int i => match atI z.cps.toList i with
    | some c => z.length ≤ sizeLine ∧ Q (.str ⟨#[c]⟩)
    | none => False
  | _, _ => False
theorem atI_rp {K : PySem.W.Frag} {H : Hp} {ds : List D} {vs : List V} {i : Int} {d : D} (l : RpL K H ds vs) (h : atI ds i = some d) : ∃ v, atI vs i = some v ∧ Rp K H d v := by
  unfold atI at h ⊢
  rw [l.length] at h
  cases q : ixN vs.length i with
  | none => rw [q] at h; cases h
  | some j =>
    rw [q] at h
    exact l.get h
theorem lift_ix {r : R2} {ta tb : TD} (hr : r = rIx X.K) (σ : St) (H : Hp) (Q : VK) (h : liftE X.K G (tOpD opIx ta tb) σ H Q) : tOp r (liftE X.K G ta) (liftR X.K G tb) σ H Q := by
  subst hr
  refine lift_bin (fun x y v u H QD Q hx hy q k => ?_) σ H Q h
  cases y with
  | int i =>
    rw [hy.int]
    cases x with
    | list xs =>
      obtain ⟨a, vs, rfl, hs, l⟩ := hx.list
      have q : atD xs i QD := q
      unfold atD at q
      split at q
      · rename_i d hd
        obtain ⟨v, hv, pv⟩ := atI_rp l hd
        exact .inl ⟨a, vs, i, v, rfl, rfl, hs, hv, k _ _ _ q (PExt.refl _) pv⟩
      · exact q.elim
    | tuple xs =>
      obtain ⟨a, vs, rfl, hs, l⟩ := hx.tuple
      have q : atD xs i QD := q
      unfold atD at q
      split at q
      · rename_i d hd
        obtain ⟨v, hv, pv⟩ := atI_rp l hd
        exact .inr (.inl ⟨a, vs, i, v, rfl, rfl, hs, hv, k _ _ _ q (PExt.refl _) pv⟩)
      · exact q.elim
    | str z =>
      rw [hx.str]
      have q : (match atI z.cps.toList i with
        | some c => z.length ≤ sizeLine ∧ QD (.str ⟨#[c]⟩)
        | none => False) := q
      split at q
      · rename_i c hc
        exact .inr (.inr ⟨z, i, c, rfl, rfl, q.1, hc, k _ _ _ q.2 (PExt.refl _) (.str _)⟩)
      · exact q.elim
    | _ => exact q.elim
  | _ => cases x <;> exact q.elim
theorem ed_ix {ta tb : TD} (ha : ED X G a ta) (hb : ED X G b tb) (hs : PlainIx b := by exact fun _ _ => rfl) : ED X G (.Subscript a b pos) (tOpD opIx ta tb) :=
  ⟨PE.weak (pe_ix ix_seq ha.pe hb.er.pe hs) fun σ H Q h => lift_ix rfl σ H Q h⟩
/-- an item of a list of one's own, at a name -/
def tIxO (i : Nat) (tb : TD) : TD := fun E Q => match E[i]? with
  | some (.ol _) => tb E fun y E1 => match E1[i]?, y with
    | some (.ol xs), .int k => atD xs k fun d => Q d E1
    | _, _ => False
  | _ => False
theorem ed_ixO (i : Nat) {tb : TD} (hb : ED X G b tb) (hN : X.N[i]? = some x := by rfl) (hv : Vis X.env.scope x := by first | exact Or.inl rfl | exact Or.inr (Or.inl rfl) | exact Or.inr (Or.inr rfl)) (hd : (x == ("__debug__" : Str)) = false := by decide)
    (hcd : (x == ("__classdict__" : Str)) = false := by decide) (hs : PlainIx b := by exact fun _ _ => rfl) : ED X G (.Subscript (.Name x p) b pos) (tIxO i tb) :=
  ⟨PE.weak (pe_ix ix_list (pe_var hN hv hd hcd) hb.pe hs) fun σ H Q ⟨E, QE, r, q, k⟩ => by
    unfold tIxO at q
    split at q
    · rename_i xs0 he0
      obtain ⟨l, vs0, e1, e2, e3⟩ := r.ol he0
      refine ⟨_, e1, E, _, r, q, fun d E1 v H1 q1 x1 r1 p1 => ?_⟩
      split at q1
      · rename_i o0 d0 xs j he
        cases p1
        obtain ⟨l', vs, f1, f2, f3⟩ := r1.ol he
        rw [e1] at f1; cases f1
        unfold atD at q1
        split at q1
        · rename_i d hd
          obtain ⟨v, hv, pv⟩ := atI_rp f3 hd
          exact ⟨l, vs, j, v, rfl, rfl, SqL.of f2, hv, k _ _ _ _ q1 x1 r1 pv⟩
        · exact q1.elim
      · exact q1.elim
    · exact q.elim⟩
/-! ### calls of builtins -/
abbrev CaT := List D → (D → Prop) → Prop
abbrev CaL := List D → (List D → Prop) → Prop
inductive RpRs (K : PySem.W.Frag) (H : Hp) : List D → List V → Prop
  | nil : RpRs K H [] []
  | cons {d : D} {v : V} {ds : List D} {vs : List V} : RpR K H d v → RpRs K H ds vs → RpRs K H (d :: ds) (v :: vs)
theorem RpRs.one {K : PySem.W.Frag} {H : Hp} {d : D} {vs : List V} (h : RpRs K H [d] vs) : ∃ v, vs = [v] ∧ RpR K H d v := by
  cases h with
  | cons h t => cases t; exact ⟨_, rfl, h⟩
def CaD (X : Cx) (f : Value) (op : CaT) : Prop := ∃ r, CallR X f r ∧ ∀ ds vs H (QD : D → Prop) (Q : VK), RpRs X.K H ds vs → op ds QD → (∀ z w H', QD z → PExt H H' → Rp X.K H' z w → Q w H') → r vs H Q
/-- a new list is handed back -/
def CaLD (X : Cx) (f : Value) (op : CaL) : Prop := ∃ r, CallR X f r ∧ ∀ ds vs H (QD : List D → Prop) (Q : VK), RpRs X.K H ds vs → op ds QD → (∀ zs us p, QD zs → H p = none → RpL X.K H zs us → Q (.ref p) (upd H p (.lst us))) → r vs H Q
def tCa1 (op : CaT) (ta : TD) : TD := fun E Q => ta E fun x E1 => op [x] fun z => Q z E1
def tCa2 (op : CaT) (ta tb : TD) : TD := fun E Q => ta E fun x E1 => tb E1 fun y E2 => op [x, y] fun z => Q z E2
def tCaL1 (op : CaL) (ta : TD) : TLd := fun E Q => ta E fun x E1 => op [x] fun z => Q z E1
section
variable {id : String} {op : CaT} {opl : CaL} {ta tb : TD}
theorem lift_ca1 {r : List V → Hp → VK → Prop} (hq : ∀ ds vs H (QD : D → Prop) (Q : VK), RpRs X.K H ds vs → op ds QD → (∀ z w H', QD z → PExt H H' → Rp X.K H' z w → Q w H') → r vs H Q)
    (σ : St) (H : Hp) (Q : VK) (h : liftE X.K G (tCa1 op ta) σ H Q) : tCB r (tCons (liftR X.K G ta) tNil) σ H Q := by
  obtain ⟨E, QE, rel, q, k⟩ := h
  refine ⟨E, _, rel, q, fun x E1 v H1 q1 x1 r1 p1 => ?_⟩
  exact hq [x] [v] H1 _ Q (.cons p1 .nil) q1 fun z w H3 q3 p3 rz => k z E1 w H3 q3 (x1.trans p3.ext) (r1.pext p3) rz
theorem ed_ca1 (hc : CaD X (.builtin id) op) (ha : ER X G a ta) (hg : Gl X x) (hm : X.mg x = none) (hv : bootBuiltins x = some (.builtin id)) (hn : x ≠ "__name__" := by decide) (hdb : (x == ("__debug__" : Str)) = false := by decide)
    (hs : starEach [a] X.env = (false, eval a X.env) :: starEach [] X.env := by rfl) (hpl : (backTo pos (starEach [] X.env)).any (·.1) = false := by rfl) : ED X G (.Call (.Name x p) [a] [] pos) (tCa1 op ta) := by
  obtain ⟨r, hr, hq⟩ := hc
  exact ⟨PE.weak (pe_callB hr hg hm hv (pa_cons ha.pe pa_nil hs) hn hdb hs hpl) fun σ H Q h => lift_ca1 hq σ H Q h⟩
theorem ed_caT1 (hc : CaD X (.type id) op) (ha : ER X G a ta) (hg : Gl X x) (hm : X.mg x = none) (hv : bootBuiltins x = some (.type id)) (hn : x ≠ "__name__" := by decide) (hdb : (x == ("__debug__" : Str)) = false := by decide)
    (hs : starEach [a] X.env = (false, eval a X.env) :: starEach [] X.env := by rfl) (hpl : (backTo pos (starEach [] X.env)).any (·.1) = false := by rfl) : ED X G (.Call (.Name x p) [a] [] pos) (tCa1 op ta) := by
  obtain ⟨r, hr, hq⟩ := hc
  exact ⟨PE.weak (pe_callTy hr hg hm hv (pa_cons ha.pe pa_nil hs) hn hdb hs hpl) fun σ H Q h => lift_ca1 hq σ H Q h⟩
theorem lift_caL1 {r : List V → Hp → VK → Prop} (hq : ∀ ds vs H (QD : List D → Prop) (Q : VK), RpRs X.K H ds vs → opl ds QD → (∀ zs us p, QD zs → H p = none → RpL X.K H zs us → Q (.ref p) (upd H p (.lst us))) → r vs H Q)
    (σ : St) (H : Hp) (Q : VK) (h : liftL X.K G (tCaL1 opl ta) σ H Q) : tCB r (tCons (liftR X.K G ta) tNil) σ H Q := by
  obtain ⟨E, QE, rel, q, k⟩ := h
  refine ⟨E, _, rel, q, fun x E1 v H1 q1 x1 r1 p1 => ?_⟩
  refine hq [x] [v] H1 _ Q (.cons p1 .nil) q1 fun zs us p q3 hp rz => ?_
  obtain ⟨r2, h0, na⟩ := r1.fresh (o := .lst us) hp
  exact k zs E1 p us _ q3 (x1.trans (PExt.new hp).ext) r2 h0 na upd_same (rz.ext (PExt.new hp).ext)
theorem el_ca1 (hc : CaLD X (.builtin id) opl) (ha : ER X G a ta) (hg : Gl X x) (hm : X.mg x = none) (hv : bootBuiltins x = some (.builtin id)) (hn : x ≠ "__name__" := by decide) (hdb : (x == ("__debug__" : Str)) = false := by decide)
    (hs : starEach [a] X.env = (false, eval a X.env) :: starEach [] X.env := by rfl) (hpl : (backTo pos (starEach [] X.env)).any (·.1) = false := by rfl) : EL X G (.Call (.Name x p) [a] [] pos) (tCaL1 opl ta) := by
  obtain ⟨r, hr, hq⟩ := hc
  exact ⟨PE.weak (pe_callB hr hg hm hv (pa_cons ha.pe pa_nil hs) hn hdb hs hpl) fun σ H Q h => lift_caL1 hq σ H Q h⟩
theorem el_caT1 (hc : CaLD X (.type id) opl) (ha : ER X G a ta) (hg : Gl X x) (hm : X.mg x = none) (hv : bootBuiltins x = some (.type id)) (hn : x ≠ "__name__" := by decide) (hdb : (x == ("__debug__" : Str)) = false := by decide)
    (hs : starEach [a] X.env = (false, eval a X.env) :: starEach [] X.env := by rfl) (hpl : (backTo pos (starEach [] X.env)).any (·.1) = false := by rfl) : EL X G (.Call (.Name x p) [a] [] pos) (tCaL1 opl ta) := by
  obtain ⟨r, hr, hq⟩ := hc
  exact ⟨PE.weak (pe_callTy hr hg hm hv (pa_cons ha.pe pa_nil hs) hn hdb hs hpl) fun σ H Q h => lift_caL1 hq σ H Q h⟩
end
/-! len, abs, max, min, sum, all, tuple, list, int -/
def caLen : CaT := fun ds Q => match ds with
  | [.list xs] => Q (.int xs.length)
  | [.tuple xs] => Q (.int xs.length)
  | [.str z] => z.length ≤ sizeLine ∧ Q (.int z.length)
  | _ => False
theorem cd_len : CaD X (.builtin "len") caLen := by
  refine ⟨_, (show CallR X (.builtin "len") (fun xs H Q => (∃ p ys, xs = [.ref p] ∧ (SqL X.K H p ys ∨ SqT X.K H p ys) ∧ Q (.int ys.length) H) ∨ ∃ z, xs = [.str z] ∧ z.length ≤ sizeLine ∧ Q (.int z.length) H) from fun pins s σ H vs us Q I r h => by
    rcases h with h | h
    · exact call_len_seq pins s σ H vs us Q I r h
    · exact call_len_str pins s σ H vs us Q I r h), fun ds vs H QD Q hd q k => ?_⟩
  match ds, q, hd with
  | [.list xs], q, hd =>
    obtain ⟨v, rfl, h⟩ := hd.one
    obtain ⟨a, us, rfl, hs, l⟩ := h.list
    exact .inl ⟨a, us, rfl, .inl hs, by rw [← l.length]; exact k _ _ _ q (PExt.refl _) (.int _)⟩
  | [.tuple xs], q, hd =>
    obtain ⟨v, rfl, h⟩ := hd.one
    obtain ⟨a, us, rfl, hs, l⟩ := h.tuple
    exact .inl ⟨a, us, rfl, .inr hs, by rw [← l.length]; exact k _ _ _ q (PExt.refl _) (.int _)⟩
  | [.str z], q, hd =>
    obtain ⟨v, rfl, h⟩ := hd.one
    rw [h.str]
    exact .inr ⟨z, rfl, q.1, k _ _ _ q.2 (PExt.refl _) (.int _)⟩
def caAbs : CaT := fun ds Q => match ds with
  | [.int i] => Q (.int (if i < 0 then -i else i))
  | _ => False
theorem cd_abs : CaD X (.builtin "abs") caAbs := ⟨_, call_abs, fun ds vs H QD Q hd q k => by
  match ds, q, hd with
  | [.int i], q, hd =>
    obtain ⟨v, rfl, h⟩ := hd.one
    rw [h.int]
    exact ⟨i, rfl, k _ _ _ q (PExt.refl _) (.int _)⟩⟩
def caMax2 : CaT := fun ds Q => match ds with
  | [.int i, .int j] => Q (.int (if j > i then j else i))
  | _ => False
def caMin2 : CaT := fun ds Q => match ds with
  | [.int i, .int j] => Q (.int (if j < i then j else i))
  | _ => False
theorem RpL.bools {K : PySem.W.Frag} {H : Hp} : ∀ {ns : List Bool} {vs : List V}, RpL K H (ns.map PyData.bool) vs → vs = ns.map V.bl
  | [], _, .nil => rfl
  | _ :: _, _, .cons (.bl _) t => by rw [RpL.bools t]; rfl
def caSum : CaT := fun ds Q => match ds with
  | [.list xs] => ∃ ns : List Int, xs = ns.map PyData.int ∧ Q (.int ns.sum)
  | _ => False
def caMax : CaT := fun ds Q => match ds with
  | [.list xs] => ∃ ns : List Int, xs = ns.map PyData.int ∧ 0 < ns.length ∧ ∀ m, m ∈ ns → (∀ y, y ∈ ns → y ≤ m) → Q (.int m)
  | _ => False
theorem cd_max (hc : X.calm = true) : CaD X (.builtin "max") caMax := ⟨_, cr_max hc, fun ds vs H QD Q hd q k => by
  match ds, q, hd with
  | [.list xs], q, hd =>
    obtain ⟨ns, rfl, hl, q⟩ := q
    obtain ⟨v, rfl, h⟩ := hd.one
    obtain ⟨a, us, rfl, hs, l⟩ := h.list
    have := l.ints; subst this
    exact ⟨a, ns, rfl, hs, hl, fun m h1 h2 => k _ _ _ (q m h1 h2) (PExt.refl _) (.int _)⟩⟩
def caMin : CaT := fun ds Q => match ds with
  | [.list xs] => ∃ ns : List Int, xs = ns.map PyData.int ∧ 0 < ns.length ∧ ∀ m, m ∈ ns → (∀ y, y ∈ ns → m ≤ y) → Q (.int m)
  | _ => False
def caAll : CaT := fun ds Q => match ds with
  | [.list xs] => ∃ bs : List Bool, xs = bs.map PyData.bool ∧ Q (.bool (bs.all id))
  | _ => False
theorem cd_all (hc : X.calm = true) : CaD X (.builtin "all") caAll := ⟨_, cr_all hc, fun ds vs H QD Q hd q k => by
  match ds, q, hd with
  | [.list xs], q, hd =>
    obtain ⟨bs, rfl, q⟩ := q
    obtain ⟨v, rfl, h⟩ := hd.one
    obtain ⟨a, us, rfl, hs, l⟩ := h.list
    have := l.bools; subst this
    exact ⟨a, bs, rfl, hs, k _ _ _ q (PExt.refl _) (.bl _)⟩⟩
def caTuple : CaT := fun ds Q => match ds with
  | [.list xs] => Q (.tuple xs)
  | [.tuple xs] => Q (.tuple xs)
  | _ => False
theorem cd_tuple : CaD X (.type "tuple") caTuple := ⟨_, call_tupF, fun ds vs H QD Q hd q k => by
  match ds, q, hd with
  | [.list xs], q, hd =>
    obtain ⟨v, rfl, h⟩ := hd.one
    obtain ⟨a, us, rfl, hs, l⟩ := h.list
    exact ⟨a, us, rfl, .inl ⟨hs, fun p o hp ho => k _ _ _ q (PExt.new hp) (.tup (.new ho) (l.ext (PExt.new hp).ext))⟩⟩
  | [.tuple xs], q, hd =>
    obtain ⟨v, rfl, h⟩ := hd.one
    obtain ⟨a, us, rfl, hs, l⟩ := h.tupD
    exact ⟨a, us, rfl, .inr ⟨hs.1, k _ _ _ q (PExt.refl _) (.tup hs l)⟩⟩⟩
def caList : CaL := fun ds Q => match ds with
  | [.list xs] => Q xs
  | [.tuple xs] => Q xs
  | _ => False
theorem cd_list : CaLD X (.type "list") caList := ⟨_, call_list_of, fun ds vs H QD Q hd q k => by
  match ds, q, hd with
  | [.list xs], q, hd =>
    obtain ⟨v, rfl, h⟩ := hd.one
    obtain ⟨a, us, rfl, hs, l⟩ := h.list
    exact ⟨a, us, rfl, .inl hs, fun p hp => k _ _ _ q hp l⟩
  | [.tuple xs], q, hd =>
    obtain ⟨v, rfl, h⟩ := hd.one
    obtain ⟨a, us, rfl, hs, l⟩ := h.tuple
    exact ⟨a, us, rfl, .inr hs, fun p hp => k _ _ _ q hp l⟩⟩
def caInt : CaT := fun ds Q => match ds with
  | [.int i] => Q (.int i)
  | [.bool b] => Q (.int (if b then 1 else 0))
  | _ => False
end
end DL
set_option Elab.async false
set_option linter.all false
set_option maxRecDepth 100000
set_option maxHeartbeats 1000000
namespace DL
open PySem PySem.Spec PyProof.Rows L2
section
variable {X : Cx} {G : Gh} {a b c e : Expr} {es : List Expr} {pos p p1 p2 p3 : Pos} {x : Str}
/-- a list whose object is plain -/
def LsP (K : PySem.W.Frag) (H : Hp) (a : Addr) (vs : List V) : Prop := H a = some (.lst vs) ∨ LsF K H a vs
theorem LsP.at {K : PySem.W.Frag} {H : Hp} {a : Addr} {vs : List V} {P : Program} {w : World} {h : Heap} (l : LsP K H a vs) (hok : HOk P w H h) (KX : K.In h) : vs.length ≤ sizeLine ∧ ∃ (its : List Value) (n : Nat), Vals vs its ∧ h.get? a = some { cls := .type "list", data := .seq its.toArray n } := by
  rcases l with l | ⟨o, l⟩ | ⟨its, n, e, z, r⟩
  · exact Rd.ok (.inl l) hok
  · exact Rd.ok (.inr ⟨o, l⟩) hok
  · refine ⟨?_, its.toList, n, r, by have := KX _ _ e; simpa using this⟩
    have e2 := r.length
    simp only [Array.length_toList] at e2
    omega
theorem RpR.listR {K : PySem.W.Frag} {H : Hp} {ds : List D} {v : V} (h : RpR K H (.list ds) v) : ∃ a vs, v = .ref a ∧ LsP K H a vs ∧ RpL K H ds vs := by
  rcases h with h | ⟨ds, a, vs, e, rfl, h, l⟩
  · cases h with
    | lst h l => exact ⟨_, _, rfl, .inr h, l⟩
  · cases e
    exact ⟨_, _, rfl, .inl h, l⟩
/-! ### list + list, list * int: new lists -/
def OpLD (X : Cx) (f : Value → Value → Sem Value) (op : D → D → (List D → Prop) → Prop) : Prop := ∃ r : R2, OpR X f r ∧
  ∀ x y v u H (QD : List D → Prop) (Q : VK), RpR X.K H x v → RpR X.K H y u → op x y QD → (∀ zs us q, QD zs → H q = none → RpL X.K H zs us → Q (.ref q) (upd H q (.lst us))) → r v u H Q
def tOpL (op : D → D → (List D → Prop) → Prop) (ta tb : TD) : TLd := fun E Q => ta E fun x E1 => tb E1 fun y E2 => op x y fun z => Q z E2
theorem el_op {op : Operator} {o : D → D → (List D → Prop) → Prop} {ta tb : TD} (ho : OpLD X (binaryOp op) o) (ha : ED X G a ta) (hb : ER X G b tb) : EL X G (.BinOp a op b pos) (tOpL o ta tb) := by
  obtain ⟨r, hr, hq⟩ := ho
  refine ⟨PE.weak (pe_op hr ha.pe hb.pe) fun σ H Q ⟨E, QE, rel, q, k⟩ => ⟨E, _, rel, q, fun x E1 v H1 q1 x1 r1 p1 => ⟨E1, _, r1, q1, fun y E2 u H2 q2 x2 r2 p2 => ?_⟩⟩⟩
  refine hq x y v u H2 _ Q (.inl (p1.ext x2)) p2 q2 fun zs us q3 qz hp rz => ?_
  obtain ⟨r3, h0, na⟩ := r2.fresh (o := .lst us) hp
  exact k zs E2 q3 us _ qz ((x1.trans x2).trans (PExt.new hp).ext) r3 h0 na upd_same (rz.ext (PExt.new hp).ext)
theorem op_catR : OpR X (binaryOp .Add) (fun x y H Q => ∃ l b xs zs, x = .ref l ∧ y = .ref b ∧ LsP X.K H l xs ∧ LsP X.K H b zs ∧ xs.length + zs.length ≤ sizeLine ∧ ∀ p, H p = none → Q (.ref p) (upd H p (.lst (xs ++ zs)))) := by
  intro pins s σ H x y v u Q I rx ry h
  obtain ⟨l, b, xs, zs, rfl, rfl, hH, hB, hz, q⟩ := h
  cases rx
  cases ry
  obtain ⟨z, its, n, r, e⟩ := hH.at I.hok I.kIn
  obtain ⟨z2, its2, n2, r2, e2⟩ := hB.at I.hok I.kIn
  have hl := r.length
  have hl2 := r2.length
  refine PySem.P.add_list e e2 ?_ (by rw [List.size_toArray, List.size_toArray]; omega)
  have ea : its.toArray ++ its2.toArray = (its ++ its2).toArray := by simp
  rw [ea]
  exact ⟨.ref _, _, I.lnew (t' := s.toks) (r.append r2) (by rw [List.length_append]; omega), rfl, q _ I.fresh⟩
def opCat : D → D → (List D → Prop) → Prop := fun x y Q => match x, y with
  | .list xs, .list ys => xs.length + ys.length ≤ sizeLine ∧ Q (xs ++ ys)
  | _, _ => False
theorem od_cat : OpLD X (binaryOp .Add) opCat := ⟨_, op_catR, fun x y v u H QD Q hx hy q k => by
  cases x with
  | list xs =>
    cases y with
    | list ys =>
      obtain ⟨a, vs, rfl, sa, la⟩ := hx.listR
      obtain ⟨b, us, rfl, sb, lb⟩ := hy.listR
      exact ⟨a, b, vs, us, rfl, rfl, sa, sb, by rw [← la.length, ← lb.length]; exact q.1, fun p hp => k _ _ _ q.2 hp (la.append lb)⟩
    | _ => exact q.elim
  | _ => exact q.elim⟩
theorem op_repR : OpR X (binaryOp .Mult) (fun x y H Q => ∃ l k xs, x = .ref l ∧ y = .int k ∧ LsP X.K H l xs ∧ -(2 ^ 63) ≤ k ∧ k < 2 ^ 63 ∧ xs.length * k.toNat ≤ sizeLine ∧
  ∀ p, H p = none → Q (.ref p) (upd H p (.lst (List.replicate k.toNat xs).flatten))) := by
  intro pins s σ H x y v u Q I rx ry h
  obtain ⟨l, k, xs, rfl, rfl, hH, h1, h2, hz, q⟩ := h
  cases rx
  obtain ⟨t, rfl⟩ := ry
  obtain ⟨z, its, n, r, e⟩ := hH.at I.hok I.kIn
  have hl := r.length
  have hlen : its.toArray.size * k.toNat ≤ sizeLine := by rw [List.size_toArray, ← hl]; exact hz
  have hcap : ¬ its.toArray.size * k.toNat > (2 ^ 63 - 1) / 8 := by
    have : (sizeLine : Nat) ≤ (2 ^ 63 - 1) / 8 := by decide
    omega
  have hfit : ¬ (!Builtin.List.listFitsIndex k) = true := by
    rw [fitsIndex_both h1 h2]
    exact Bool.false_ne_true
  have hlong : ¬ Builtin.List.listTooLong (its.toArray.size * k.toNat) = true := by
    rw [notLongL hlen]
    exact Bool.false_ne_true
  have hnew : List.foldl (fun x1 x2 => x1 ++ x2) #[] (List.replicate (if its.toArray.isEmpty = true then 0 else k.toNat) its.toArray) = (List.replicate k.toNat its).flatten.toArray := by
    have f0 : ∀ m : Nat, List.foldl (fun x1 x2 => x1 ++ x2) #[] (List.replicate m its.toArray) = (List.replicate m its).flatten.toArray := fun m => by
      have := foldl_rep its m []
      rw [List.nil_append] at this
      exact this
    rw [f0]
    cases its with
    | nil => simp
    | cons a r' => rw [if_neg (by simp)]
  refine wpAny_binaryOp_repeat_ref (T := "list") (U := "int") (by decide) ⟨_, e, rfl⟩ (fun s' => typeIs_int s' k t) noFill_list_mul F.fills_int_mul F.slot_int_rmul repeat_list F.slot_int_index.lookup
    (call_meets F.slot_int_rmul (typeIs_int s k t) F.entry_int_rmul (F.args_int_rmul_2 _ _) (int___rmul___int_list k t l its.toArray n)
      ⟨e, rfl, ⟨_, e, rfl⟩, call_meets F.slot_list_mul ⟨_, e, rfl⟩ F.entry_list_mul (F.args_list_mul_2 _ _) (AutoListH.list___mul___list_int_3 l its.toArray n k t hfit hcap hlong) ⟨e, ?_⟩⟩)
  rw [hnew]
  exact ⟨.ref _, _, I.lnew (t' := s.toks) (r.rep k.toNat) (by rw [PyProof.Rows.lm_len_rep_flat, Nat.mul_comm]; exact hz), rfl, q _ I.fresh⟩
def opRep : D → D → (List D → Prop) → Prop := fun x y Q => match x, y with
  | .list xs, .int k => (-(2 ^ 63) ≤ k ∧ k < 2 ^ 63 ∧ xs.length * k.toNat ≤ sizeLine) ∧ Q (List.replicate k.toNat xs).flatten
  | _, _ => False
theorem RpL.rep {K : PySem.W.Frag} {H : Hp} {ds : List D} {vs : List V} (l : RpL K H ds vs) : ∀ n : Nat, RpL K H (List.replicate n ds).flatten (List.replicate n vs).flatten
  | 0 => .nil
  | n + 1 => by rw [List.replicate_succ, List.replicate_succ, List.flatten_cons, List.flatten_cons]; exact l.append (RpL.rep l n)
theorem od_rep : OpLD X (binaryOp .Mult) opRep := ⟨_, op_repR, fun x y v u H QD Q hx hy q k => by
  cases x with
  | list xs =>
    cases y with
    | int j =>
      obtain ⟨a, vs, rfl, sa, la⟩ := hx.listR
      rw [hy.int]
      exact ⟨a, j, vs, rfl, rfl, sa, q.1.1, q.1.2.1, by rw [← la.length]; exact q.1.2.2, fun p hp => k _ _ _ q.2 hp (la.rep _)⟩
    | _ => exact q.elim
  | _ => exact q.elim⟩
/-! ### slices -/
def cutD (xs : List D) (lo hi : Option Int) : List D := (xs.drop (HT.sIx xs.length 0 lo)).take (HT.sIx xs.length xs.length hi - HT.sIx xs.length 0 lo)
theorem RpL.cut {K : PySem.W.Frag} {H : Hp} {ds : List D} {vs : List V} (l : RpL K H ds vs) (lo hi : Option Int) : RpL K H (cutD ds lo hi) (cutV vs lo hi) := by
  unfold cutD cutV
  rw [l.length]
  exact (l.drop _).take _
abbrev TOd := Env → (Option Int → Env → Prop) → Prop
def liftO (K : PySem.W.Frag) (G : Gh) (t : TOd) : TO := fun σ H Q => ∃ (E : Env) (QE : Option Int → Env → Prop), RelE K G H E σ ∧ t E QE ∧ ∀ o E' H', QE o E' → Ext H H' → RelE K G H' E' σ → Q o H'
structure EO (X : Cx) (G : Gh) (e : Option Expr) (t : TOd) : Prop where
  po : PO X e (liftO X.K G t)
theorem PO.weak {e : Option Expr} {t u : TO} (h : PO X e t) (w : ∀ σ H Q, u σ H Q → t σ H Q) : PO X e u := ⟨fun pins s σ H Q I q => h.run pins s σ H Q I (w σ H Q q)⟩
def oNo : TOd := fun E Q => Q none E
def oE (t : TD) : TOd := fun E Q => t E fun d E1 => match d with
  | .int i => Q (some i) E1
  | _ => False
theorem eo_no : EO X G none oNo := ⟨PO.weak po_none fun σ H Q ⟨E, QE, r, q, k⟩ => k _ _ _ q (Ext.refl _) r⟩
theorem eo_e {t : TD} (h : ED X G e t) : EO X G (some e) (oE t) := ⟨PO.weak (po_some h.pe) fun σ H Q ⟨E, QE, r, q, k⟩ => ⟨E, _, r, q, fun d E1 v H1 q1 x1 r1 p1 => by
  cases p1 with
  | int i => exact ⟨i, rfl, k _ _ _ q1 x1 r1⟩
  | _ => exact q1.elim⟩⟩
/-- t[lo:hi], the whole: t itself -/
theorem whole_tuple {prog : Program} {w : World} {A : Around} {E : Value → Shared → Prop} {s : Shared} {t sl : Addr} {items : Array Value} {vl vu : Value} {lo hi : Option Int} {Q : Value → Shared → Prop} (ht : IsTup s.heap t items) (hs : s.heap.IsSliceOf sl vl vu .none) (pl : IsPart vl lo) (pu : IsPart vu hi)
    (hw : HT.sIx items.size 0 lo = 0 ∧ HT.sIx items.size items.size hi = items.size) (h : Q (.ref t) s) : wpAny (model prog w) A (getItem (.ref t) (.ref sl)) Q E s := by
  obtain ⟨os, hos, hcs, hds⟩ := id hs
  have hTs : s.TypeIs (.ref sl) "slice" := ⟨os, hos, hcs⟩
  unfold getItem
  try with_reducible refine wpAny_holding ?_
  first | refine wpAny_bind (wpAny_pure ?_) | skip
  refine wpAny_bind (wpAny_sequenceKey ht.typeIs (by decide) ?_)
  refine wpAny_bind (wpAny_callSpecial?_slot (name := Str.ofString "__getitem__") ht.typeIs PyProof.Rows.slot_tuple_getitem
    (wpAny_call_entry PyProof.Rows.slot_tuple_getitem ht.typeIs entry_tuple_getitem ?_ (args_tuple_getitem _ _)))
  show wpAny _ _ (Builtin.Tuple.tupleItemsOf (.ref t) >>= _) _ _ s
  refine wpAny_bind (tupleItemsOf_ ht ?_)
  refine wpAny_bind (wpAny_typeOf hTs ?_)
  rw [if_pos (by decide)]
  refine wpAny_bind (HT.sliceApplied_gen hs pl pu ?_)
  have hyes : (((HT.sIx items.size 0 lo : Nat) : Int) == 0 && (1 : Int) == 1 && (HT.sIx items.size items.size hi - HT.sIx items.size 0 lo) == items.size) = true := by
    rw [hw.1, hw.2]; simp
  show wpAny _ _ (if (((HT.sIx items.size 0 lo : Nat) : Int) == 0 && (1 : Int) == 1 && (HT.sIx items.size items.size hi - HT.sIx items.size 0 lo) == items.size) = true then _ else _) _ _ s
  rw [if_pos hyes]
  refine wpAny_bind ?_
  · unfold Builtin.Tuple.tupleIsExact
    refine wpAny_bind (wpAny_typeOf ht.typeIs (wpAny_pure ?_))
    rw [if_pos (by decide)]
    exact wpAny_bind (wpAny_rule (wpAny_pure ⟨_, rfl, wpAny_pure h⟩))
theorem sl_tupW : SlR X (fun x lo hi H Q => ∃ a xs, x = .ref a ∧ SqT X.K H a xs ∧ (HT.sIx xs.length 0 lo = 0 ∧ HT.sIx xs.length xs.length hi = xs.length) ∧ Q (.ref a) H) := by
  intro pins s σ H x v vl vu lo hi sl Q I rx hs pl pu h
  obtain ⟨a, xs, rfl, hx, hw, q⟩ := h
  cases rx
  obtain ⟨its, r, ht, hz⟩ := I.tuple hx
  have hlen : its.toArray.size = xs.length := by rw [List.size_toArray]; exact r.length.symm
  refine ⟨"tuple", _, PyProof.Rows.slot_tuple_getitem.lookup, ht.typeIs, ?_⟩
  exact whole_tuple ht hs pl pu (by rw [hlen]; exact hw) ⟨.ref a, H, I, rfl, q⟩
/-- t[lo:hi], not the whole: a new, plain tuple -/
theorem sl_tupF : SlR X (fun x lo hi H Q => ∃ a xs, x = .ref a ∧ SqT X.K H a xs ∧ ¬ (HT.sIx xs.length 0 lo = 0 ∧ HT.sIx xs.length xs.length hi = xs.length) ∧ ∀ p o, H p = none → o.dict = none → Q (.ref p) (upd H p (.frz o (.tup (cutV xs lo hi))))) := by
  intro pins s σ H x v vl vu lo hi sl Q I rx hs pl pu h
  obtain ⟨a, xs, rfl, hx, hw, q⟩ := h
  cases rx
  obtain ⟨its, r, ht, hz⟩ := I.tuple hx
  have hlen : its.toArray.size = xs.length := by rw [List.size_toArray]; exact r.length.symm
  refine ⟨"tuple", _, PyProof.Rows.slot_tuple_getitem.lookup, ht.typeIs, HT.getItem_tuple_cut ht hs pl pu (by rw [hlen]; exact hw) ?_ (by rw [hlen]; exact hz)⟩
  rw [hlen]
  exact ⟨.ref s.heap.objs.size, _, I.laid (t' := s.toks) (o := .frz _ (.tup (cutV xs lo hi))) (fun b ob q => Heap.get?_push_of_some _ q) (Nat.le_refl _) ⟨Heap.get?_push_size _ rfl, Nat.le_trans (cutV_length xs lo hi) hz, _, (r.drop (HT.sIx xs.length 0 lo)).take (HT.sIx xs.length xs.length hi - HT.sIx xs.length 0 lo), IsTup.new _ _⟩, rfl, q _ _ (I.hok.fresh (Nat.le_refl _)) rfl⟩
def slD (x : D) (lo hi : Option Int) (Q : D → Prop) : Prop := match x with
  | .tuple xs => Q (.tuple (cutD xs lo hi))
  | .str z => z.length ≤ sizeLine ∧ Q (.str (cutS z lo hi))
  | _ => False
def tSlD (ta : TD) (tl th : TOd) : TD := fun E Q => ta E fun x E1 => tl E1 fun l E2 => th E2 fun u E3 => slD x l u fun z => Q z E3
theorem cut_whole {xs : List D} {lo hi : Option Int} (h : HT.sIx xs.length 0 lo = 0 ∧ HT.sIx xs.length xs.length hi = xs.length) : cutD xs lo hi = xs := by
  unfold cutD; rw [h.1, h.2]; simp
theorem ed_sl {lo hi : Option Expr} {ta : TD} {tl th : TOd} (ha : ED X G a ta) (hl : EO X G lo tl) (hh : EO X G hi th) : ED X G (.Subscript a (.Slice lo hi none p2) pos) (tSlD ta tl th) := by
  refine ⟨PE.weak (pe_slice (sl_tupF.or (sl_tupW.or sl_str)) ha.pe hl.po hh.po) fun σ H Q ⟨E, QE, rel, q, k⟩ => ⟨E, _, rel, q, fun x E1 v H1 q1 x1 r1 p1 => ⟨E1, _, r1, q1, fun l E2 H2 q2 x2 r2 => ⟨E2, _, r2, q2, fun u E3 H3 q3 x3 r3 => ?_⟩⟩⟩⟩
  have xx := (x1.trans x2).trans x3
  have p3 := (p1.ext x2).ext x3
  cases p3 with
  | tup hs ll =>
    rename_i a0 vs ds
    by_cases hw : HT.sIx vs.length 0 l = 0 ∧ HT.sIx vs.length vs.length u = vs.length
    · have hw' := hw
      rw [← ll.length] at hw'
      refine .inr (.inl ⟨_, _, rfl, hs.1, hw, k _ _ _ _ q3 xx r3 ?_⟩)
      rw [cut_whole hw']; exact .tup hs ll
    · exact .inl ⟨_, _, rfl, hs.1, hw, fun p o hp ho => k _ _ _ _ q3 (xx.trans (PExt.new hp).ext) (r3.pext (PExt.new hp)) (.tup (.new ho) ((ll.cut l u).ext (PExt.new hp).ext))⟩
  | str z => exact .inr (.inr ⟨z, rfl, q3.1, k _ _ _ _ q3.2 xx r3 (.str _)⟩)
  | _ => exact q3.elim
def tSlL (ta : TD) (tl th : TOd) : TLd := fun E Q => ta E fun x E1 => tl E1 fun l E2 => th E2 fun u E3 => match x with
  | .list xs => Q (cutD xs l u) E3
  | _ => False
theorem el_sl {lo hi : Option Expr} {ta : TD} {tl th : TOd} (ha : ED X G a ta) (hl : EO X G lo tl) (hh : EO X G hi th) : EL X G (.Subscript a (.Slice lo hi none p2) pos) (tSlL ta tl th) := by
  refine ⟨PE.weak (pe_slice sl_list ha.pe hl.po hh.po) fun σ H Q ⟨E, QE, rel, q, k⟩ => ⟨E, _, rel, q, fun x E1 v H1 q1 x1 r1 p1 => ⟨E1, _, r1, q1, fun l E2 H2 q2 x2 r2 => ⟨E2, _, r2, q2, fun u E3 H3 q3 x3 r3 => ?_⟩⟩⟩⟩
  have xx := (x1.trans x2).trans x3
  have p3 := (p1.ext x2).ext x3
  cases p3 with
  | lst hs ll =>
    refine ⟨_, _, rfl, hs.sq, fun p hp => ?_⟩
    obtain ⟨r4, h0, na⟩ := r3.fresh (o := .lst (cutV _ l u)) hp
    exact k _ _ _ _ _ q3 (xx.trans (PExt.new hp).ext) r4 h0 na upd_same ((ll.cut l u).ext (PExt.new hp).ext)
  | _ => exact q3.elim
/-- xs[::-1] of a list -/
def tRevD (ta : TD) : TLd := fun E Q => ta E fun x E1 => match x with
  | .list xs => Q xs.reverse E1
  | _ => False
theorem el_rev {k : Nat} {ta : TD} (ha : ER X G a ta) : EL X G (.Subscript a (.Slice none none (some (.UnaryOp .USub (.Constant (.int 1) k p1) p2)) p3) pos) (tRevD ta) :=
  ⟨PE.weak (pe_revL ha.pe) fun σ H Q ⟨E, QE, rel, q, k⟩ => ⟨E, _, rel, q, fun x E1 v H1 q1 x1 r1 p1 => by
    cases x with
    | list xs =>
      obtain ⟨a, vs, rfl, hs, ll⟩ := p1.list
      refine ⟨a, vs, rfl, hs, fun p hp => ?_⟩
      obtain ⟨r4, h0, na⟩ := r1.fresh (o := .lst vs.reverse) hp
      exact k _ _ _ _ _ q1 (x1.trans (PExt.new hp).ext) r4 h0 na upd_same (ll.reverse.ext (PExt.new hp).ext)
    | _ => exact q1.elim⟩⟩
/-! ### isinstance with a built-in class -/
def tyD : D → String
  | .none => "NoneType"
  | .bool _ => "bool"
  | .int _ => "int"
  | .str _ => "str"
  | .list _ => "list"
  | .tuple _ => "tuple"
  | .dict _ => "dict"
theorem call_isiR {T : String} {bf : D → Bool} (hb : ∀ d : D, (match d with | .dict _ => True | _ => kitB (tyD d) T = some (bf d))) : CallR X (.builtin "isinstance") (fun vs H Q => ∃ d v, vs = [v, .ty T] ∧ Rp X.K H d v ∧ (∀ k, d ≠ .dict k) ∧ Q (.bl (bf d)) H) := by
  intro pins s σ H vs us Q I r h
  obtain ⟨d, v, rfl, hd, hn, q⟩ := h
  obtain ⟨u1, u2, rfl, r1, r2⟩ := vals2 r
  cases (show u2 = Value.type T from r2)
  have kit : ∃ P : Heap → Prop, PySem.W.KitX X.K u1 (.type (tyD d)) P ∧ P s.heap ∧ u1 ≠ .builtin "__main__.__loader__#opaque" := by
    cases hd with
    | non => cases (show u1 = Value.none from r1); exact ⟨_, PySem.W.kitx_none, True.intro, fun z => nomatch z⟩
    | bl y => cases (show u1 = Value.bool y from r1); exact ⟨_, PySem.W.kitx_bool, True.intro, fun z => nomatch z⟩
    | int i => obtain ⟨t, q⟩ := (show ∃ t, u1 = Value.int i t from r1); cases q; exact ⟨_, PySem.W.kitx_int, True.intro, fun z => nomatch z⟩
    | str y => obtain ⟨t, q⟩ := (show ∃ t, u1 = Value.str y t from r1); cases q; exact ⟨_, PySem.W.kitx_str, True.intro, fun z => nomatch z⟩
    | dct _ _ _ _ => exact absurd rfl (hn _)
    | hdl a => exact absurd rfl (hn _)
    | dck _ _ _ _ => exact absurd rfl (hn _)
    | lst hs _ =>
      rename_i a xs ds _
      cases (show u1 = Value.ref a from r1)
      obtain ⟨its, rv, hl, _⟩ := I.list hs.sq
      obtain ⟨o, n, ho, hc, _⟩ := hl
      exact ⟨_, PySem.W.kitx_list, ⟨o, ho, hc⟩, fun z => nomatch z⟩
    | tup hs _ =>
      rename_i a xs ds _
      cases (show u1 = Value.ref a from r1)
      obtain ⟨its, rv, ⟨o, ho, hc, _⟩, _⟩ := I.tuple hs.1
      exact ⟨_, PySem.W.kitx_tuple, ⟨o, ho, hc⟩, fun z => nomatch z⟩
  obtain ⟨P, Z, p, hx⟩ := kit
  have e : PySem.W.kitOne X.K (.type (tyD d)) (.type T) = some (bf d) := by
    have := hb d
    cases d with
    | dict k => exact absurd rfl (hn k)
    | _ => exact kit_ty this
  exact PySem.W.kia_one Z I.kIn p e hx fun tk => ⟨.bl _, H, I.tok tk, rfl, q⟩
def isInt : D → Bool
  | .int _ => true
  | .bool _ => true
  | _ => false
def isBool : D → Bool
  | .bool _ => true
  | _ => false
def isStr : D → Bool
  | .str _ => true
  | _ => false
def isTuple : D → Bool
  | .tuple _ => true
  | _ => false
def isList : D → Bool
  | .list _ => true
  | _ => false
def notDict : D → Prop
  | .dict _ => False
  | _ => True
def tIsi (bf : D → Bool) (ta : TD) : TD := fun E Q => ta E fun x E1 => notDict x ∧ Q (.bool (bf x)) E1
theorem ed_isi {T : String} {ty : Str} {bf : D → Bool} {ta : TD} {pt : Pos} (hb : ∀ d : D, (match d with | .dict _ => True | _ => kitB (tyD d) T = some (bf d))) (ha : ED X G a ta) (hg : Gl X "isinstance") (hm : X.mg "isinstance" = none) (hg2 : Gl X ty) (hm2 : X.mg ty = none) (hv2 : bootBuiltins ty = some (.type T))
    (hn2 : ty ≠ "__name__" := by decide) (hd2 : (ty == ("__debug__" : Str)) = false := by decide)
    (hs : starEach [a, .Name ty pt] X.env = (false, eval a X.env) :: starEach [.Name ty pt] X.env := by rfl) (hs2 : starEach [.Name ty pt] X.env = (false, eval (.Name ty pt) X.env) :: starEach [] X.env := by rfl) (hpl : (backTo pos (starEach [.Name ty pt] X.env)).any (·.1) = false := by rfl) :
    ED X G (.Call (.Name "isinstance" p) [a, .Name ty pt] [] pos) (tIsi bf ta) := by
  refine ⟨PE.weak (pe_callB (call_isiR hb) hg hm (by decide +kernel) (pa_cons ha.pe (pa_cons (pe_bltn (v := .ty T) hg2 hm2 hv2 rfl hn2 hd2) pa_nil hs2) hs) (by decide) (by decide) hs hpl) fun σ H Q ⟨E, QE, rel, q, k⟩ => ⟨E, _, rel, q, fun x E1 v H1 q1 x1 r1 p1 => ?_⟩⟩
  refine ⟨x, v, rfl, p1, ?_, k _ _ _ _ q1.2 x1 r1 (.bl _)⟩
  intro z e; subst e; exact q1.1
theorem isi_int : ∀ d : D, (match d with | .dict _ => True | _ => kitB (tyD d) "int" = some (isInt d)) := by intro d; cases d <;> first | trivial | (show kitB _ _ = _; decide +kernel)
theorem isi_bool : ∀ d : D, (match d with | .dict _ => True | _ => kitB (tyD d) "bool" = some (isBool d)) := by intro d; cases d <;> first | trivial | (show kitB _ _ = _; decide +kernel)
theorem isi_str : ∀ d : D, (match d with | .dict _ => True | _ => kitB (tyD d) "str" = some (isStr d)) := by intro d; cases d <;> first | trivial | (show kitB _ _ = _; decide +kernel)
theorem isi_tuple : ∀ d : D, (match d with | .dict _ => True | _ => kitB (tyD d) "tuple" = some (isTuple d)) := by intro d; cases d <;> first | trivial | (show kitB _ _ = _; decide +kernel)
/-! ### zip of two tuples, of two lists -/
def zipD (xs ys : List D) : List D := (xs.zip ys).map fun p => .tuple [p.1, p.2]
def iZipD (ta tb : TD) : TDs := fun E Q => ta E fun x E1 => tb E1 fun y E2 => match x, y with
  | .tuple xs, .tuple ys => Q (zipD xs ys) E2
  | .list xs, .list ys => Q (zipD xs ys) E2
  | _, _ => False
theorem zipD_len (xs ys : List D) : (zipD xs ys).length = min xs.length ys.length := by simp [zipD]
theorem zipD_get {xs ys : List D} {i : Nat} {x y : D} (h1 : xs[i]? = some x) (h2 : ys[i]? = some y) : (zipD xs ys)[i]? = some (.tuple [x, y]) := by
  unfold zipD
  rw [List.getElem?_map, (List.getElem?_zip_eq_some (z := (x, y))).mpr ⟨h1, h2⟩]; rfl
theorem walkD_zipT {K : PySem.W.Frag} {H : Hp} {a b : Addr} {vs us : List V} {ds es : List D} (h : SqT K H a vs) (h' : SqT K H b us) (l : RpL K H ds vs) (l' : RpL K H es us) : WalkD true K (RZ.ItzT K a b) H (zipD ds es) where
  goes := fun i H' x hi => by
    rw [zipD_len, l.length, l'.length] at hi
    exact ⟨vs, us, vs[i], us[i], SqT.ext x h, SqT.ext x h', List.getElem?_eq_getElem _, List.getElem?_eq_getElem _⟩
  yld := fun i H' v H2 x hi hy => by
    obtain ⟨T, v1, v2, rfl, hT, rfl, e1, e2⟩ := hy
    obtain ⟨d, hd, p⟩ := l.getV (e1 vs (SqT.ext x h))
    obtain ⟨d', hd', p'⟩ := l'.getV (e2 us (SqT.ext x h'))
    have px := PExt.new (o := .tup [v1, v2]) hT
    exact ⟨px, _, zipD_get hd hd', .pair (SqT.of upd_same) (.cons ((p.ext x).ext px.ext) (.cons ((p'.ext x).ext px.ext) .nil))⟩
  stops := fun H' x => ⟨vs, us, SqT.ext x h, SqT.ext x h', by rw [zipD_len, l.length, l'.length]; omega⟩
theorem walkD_zipL {K : PySem.W.Frag} {H : Hp} {a b : Addr} {vs us : List V} {ds es : List D} (h : LsF K H a vs) (h' : LsF K H b us) (l : RpL K H ds vs) (l' : RpL K H es us) : WalkD true K (Itz K a b) H (zipD ds es) where
  goes := fun i H' x hi => by
    rw [zipD_len, l.length, l'.length] at hi
    exact ⟨vs, us, vs[i], us[i], (LsF.ext x h).sq, (LsF.ext x h').sq, List.getElem?_eq_getElem _, List.getElem?_eq_getElem _⟩
  yld := fun i H' v H2 x hi hy => by
    obtain ⟨T, v1, v2, rfl, hT, rfl, e1, e2⟩ := hy
    obtain ⟨d, hd, p⟩ := l.getV (e1 vs ((LsF.ext x h).sq))
    obtain ⟨d', hd', p'⟩ := l'.getV (e2 us ((LsF.ext x h').sq))
    have px := PExt.new (o := .tup [v1, v2]) hT
    exact ⟨px, _, zipD_get hd hd', .pair (SqT.of upd_same) (.cons ((p.ext x).ext px.ext) (.cons ((p'.ext x).ext px.ext) .nil))⟩
  stops := fun H' x => ⟨vs, us, (LsF.ext x h).sq, (LsF.ext x h').sq, by rw [zipD_len, l.length, l'.length]; omega⟩
theorem id_zip {elts : List Expr} {kk : Nat} {tpos : Pos} {ta tb : TD} (ha : ED X G a ta) (hb : ED X G b tb) (hg : Gl X "zip") (hm : X.mg "zip" = none)
    (hs : starEach [a, b] X.env = (false, eval a X.env) :: starEach [b] X.env := by rfl) (hs2 : starEach [b] X.env = (false, eval b X.env) :: starEach [] X.env := by rfl) (hpl : (backTo pos (starEach [b] X.env)).any (·.1) = false := by rfl) :
    ID X G true (.Tuple elts kk tpos) (.Call (.Name "zip" p) [a, b] [] pos) (iZipD ta tb) := by
  refine ⟨PI.weak (RZ.pi_zipA hg hm (pa_cons ha.pe (pa_cons hb.pe pa_nil hs2) hs) hs hpl) fun σ H R ⟨E, QE, rel, q, k⟩ => ⟨E, _, rel, q, fun x E1 v H1 q1 x1 r1 p1 => ⟨E1, _, r1, q1, fun y E2 u H2 q2 x2 r2 p2 => ?_⟩⟩⟩
  have p1 := p1.ext x2
  cases p1 with
  | tup h1 l1 =>
    cases p2 with
    | tup h2 l2 => exact ⟨_, _, _, _, rfl, .inr ⟨h1.1, h2.1, k _ _ _ _ q2 (x1.trans x2) r2 (walkD_zipT h1.1 h2.1 l1 l2)⟩⟩
    | _ => exact q2.elim
  | lst h1 l1 =>
    cases p2 with
    | lst h2 l2 => exact ⟨_, _, _, _, rfl,   .inl ⟨h1.sq, h2.sq, k _ _ _ _ q2 (x1.trans x2) r2 (walkD_zipL h1 h2 l1 l2)⟩⟩
    | _ => exact q2.elim
  | _ => cases p2 <;> exact q2.elim
end
end DL
set_option Elab.async false
set_option linter.all false
set_option maxRecDepth 100000
set_option maxHeartbeats 1000000
namespace DL
open PySem PySem.Spec PyProof.Rows L2
theorem ns {G : Gh} {l : List Nat} (h : G.slots = l) {i : Nat} (hd : i ∉ l) : i ∉ G.slots := by rw [h]; exact hd
theorem nsA {G : Gh} {l ms : List Nat} (h : G.slots = l) (hd : ∀ i ∈ ms, i ∉ l) : ∀ i ∈ ms, i ∉ G.slots := by rw [h]; exact hd
theorem u65 {k : Nat} {A : Around} (r : Room k A) : A.units + 65 < cLine := by have := r.un; omega
theorem bb_len : bootBuiltins "len" = some (.builtin "len") := by decide +kernel
theorem bb_abs : bootBuiltins "abs" = some (.builtin "abs") := by decide +kernel
theorem bb_max : bootBuiltins "max" = some (.builtin "max") := by decide +kernel
theorem bb_all : bootBuiltins "all" = some (.builtin "all") := by decide +kernel
theorem bb_sorted : bootBuiltins "sorted" = some (.builtin "sorted") := by decide +kernel
theorem bb_tuple : bootBuiltins "tuple" = some (.type "tuple") := by decide +kernel
theorem bb_list : bootBuiltins "list" = some (.type "list") := by decide +kernel
theorem bb_int : bootBuiltins "int" = some (.type "int") := by decide +kernel
theorem bb_bool : bootBuiltins "bool" = some (.type "bool") := by decide +kernel
theorem bb_str : bootBuiltins "str" = some (.type "str") := by decide +kernel
end DL
set_option Elab.async false
set_option linter.all false
set_option maxRecDepth 100000
set_option maxHeartbeats 1000000
namespace DL
open PySem PySem.Spec PyProof.Rows L2
/-! ### reading: one statement after another, what follows a letter -/
theorem seq_step {t u : TSd} {DE : EndsD} {E : Env} (h : ∀ R : Env → Prop, (∀ E', u DE E' → R E') → t { DE with nx := R } E) : sSeq t u DE E := h _ fun _ h => h
theorem ifB {b : Bool} {A B : Prop} (h1 : b = true → A) (h2 : b = false → B) : if b = true then A else B := by
  cases b with
  | true => exact if_pos rfl ▸ h1 rfl
  | false => rw [if_neg Bool.false_ne_true]; exact h2 rfl
theorem ifT {b : Bool} {A B : Prop} (hb : b = true) (h1 : A) : if b = true then A else B := by rw [if_pos hb]; exact h1
theorem ifF {b : Bool} {A B : Prop} (hb : b = false) (h1 : B) : if b = true then A else B := by rw [hb, if_neg Bool.false_ne_true]; exact h1
/-! == of numbers, truths -/
theorem eqv_int (i j : Int) : PyData.eqv (.int i) (.int j) = decide (i = j) := by
  show (i == j) = decide (i = j)
  by_cases h : i = j
  · subst h; simp
  · simp [h]
theorem eqv_bool (i j : Bool) : PyData.eqv (.bool i) (.bool j) = (i == j) := rfl
theorem eqv_str (i j : Str) : PyData.eqv (.str i) (.str j) = (i == j) := rfl
theorem eqv_none : PyData.eqv .none .none = true := rfl
theorem eqv_lst (xs ys : List D) : PyData.eqv (.list xs) (.list ys) = PyData.eqvAll xs ys := by simp [PyData.eqv]
theorem shaped_int (i : Int) : SeqAt.shaped (.int i) = true := rfl
theorem shaped_bool (i : Bool) : SeqAt.shaped (.bool i) = true := rfl
theorem shaped_none : SeqAt.shaped .none = true := rfl
/-! items -/
theorem atI_at {α : Type} {xs : List α} {i : Int} {d : α} (h0 : 0 ≤ i) (h : xs[i.toNat]? = some d) : atI xs i = some d := by
  obtain ⟨hl, _⟩ := List.getElem?_eq_some_iff.mp h
  unfold atI ixN
  rw [if_pos h0, if_pos (by omega)]
  exact h
theorem atD_at {xs : List D} {i : Int} {d : D} {Q : D → Prop} (h0 : 0 ≤ i) (h : xs[i.toNat]? = some d) (q : Q d) : atD xs i Q := by unfold atD; rw [atI_at h0 h]; exact q
theorem atD_0 {x : D} {xs : List D} {Q : D → Prop} : atD (x :: xs) 0 Q = Q x := by
  unfold atD; rw [atI_at (d := x) (by decide) rfl]
theorem atD_1 {x y : D} {xs : List D} {Q : D → Prop} : atD (x :: y :: xs) 1 Q = Q y := by
  unfold atD; rw [atI_at (d := y) (by decide) rfl]
theorem atD_2 {x y z : D} {xs : List D} {Q : D → Prop} : atD (x :: y :: z :: xs) 2 Q = Q z := by
  unfold atD; rw [atI_at (d := z) (by decide) rfl]
theorem atD_3 {x y z u : D} {xs : List D} {Q : D → Prop} : atD (x :: y :: z :: u :: xs) 3 Q = Q u := by
  unfold atD; rw [atI_at (d := u) (by decide) rfl]
theorem putD_0 {x d : D} {xs : List D} {Q : List D → Prop} : putD (x :: xs) 0 d Q = Q (d :: xs) := by
  unfold putD ixN; rw [if_pos (by decide), if_pos (by rw [List.length_cons]; omega)]; rfl
theorem getElem_map_int {ns : List Int} {i : Nat} (h : i < ns.length) : (ns.map PyData.int)[i]? = some (.int ns[i]) := by
  rw [List.getElem?_map, List.getElem?_eq_getElem h]; rfl
/-- a for by what holds between two turns; R: what follows a turn -/
theorem forD_inv {g : TGd} {tb : TSd} {DE : EndsD} {ds : List D} {E : Env} (I : Nat → Env → Prop) (h0 : I 0 E)
    (hs : ∀ (i : Nat) (d : D) (E : Env), ds[i]? = some d → I i E → ∀ R : Env → Prop, (∀ E', I (i + 1) E' → R E') → g d E fun E1 => tb { DE with nx := R, ct := R, bk := DE.nx } E1)
    (hd : ∀ E, I ds.length E → DE.nx E) : forD g tb ds DE E := by
  induction ds generalizing E I with
  | nil => exact hd E h0
  | cons d ds ih =>
    refine hs 0 d E rfl h0 _ fun E' h' => ?_
    exact ih (fun i => I (i + 1)) h' (fun i d E e q => hs (i + 1) d E (by simpa using e) q) fun E q => hd E (by simpa using q)
theorem for_inv {ti : TDs} {g : TGd} {tb : TSd} {DE : EndsD} {E : Env} {ds : List D} {E1 : Env} (h : ∀ Q : List D → Env → Prop, Q ds E1 → ti E Q) (I : Nat → Env → Prop) (h0 : I 0 E1)
    (hs : ∀ (i : Nat) (d : D) (E : Env), ds[i]? = some d → I i E → ∀ R : Env → Prop, (∀ E', I (i + 1) E' → R E') → g d E fun E1 => tb { DE with nx := R, ct := R, bk := DE.nx } E1)
    (hd : ∀ E, I ds.length E → DE.nx E) : sFor ti g tb DE E := h _ (forD_inv I h0 hs hd)
/-- behind it the environment is the one ahead (its own names were not in use, and hold nothing known) -/
theorem rest_wipe {E E' : Env} : ∀ {ms : List Nat}, wipeE E' ms = wipeE E ms → (∀ i ∈ ms, E[i]? = some .un ∨ (∃ x, E[i]? = some (.d x))) → restE E E' ms = E := by
  intro ms hw hE
  have hl : E'.length = E.length := by
    have : ∀ (F : Env) (l : List Nat), (wipeE F l).length = F.length := by
      intro F l
      induction l with
      | nil => rfl
      | cons v vs ih => show ((wipeE F vs).set v .un).length = _; rw [List.length_set, ih]
    rw [← this E' ms, hw, this]
  have wg : ∀ (F : Env) (l : List Nat) (i : Nat), i ∉ l → (wipeE F l)[i]? = F[i]? := by
    intro F l
    induction l with
    | nil => intro _ _; rfl
    | cons v vs ih => intro i h; show ((wipeE F vs).set v .un)[i]? = _; rw [List.getElem?_set_ne (fun z => h (by simp [z])), ih i fun z => h (List.mem_cons_of_mem _ z)]
  refine List.ext_getElem? fun i => ?_
  by_cases hi : i ∈ ms
  · have key : ∀ (l : List Nat), i ∈ l → (restE E E' l)[i]? = some (datOf E[i]?) := by
      intro l
      induction l with
      | nil => intro h; cases h
      | cons v vs ih =>
        intro h
        show ((restE E E' vs).set v (datOf E[v]?))[i]? = _
        have rl : ∀ (l : List Nat), (restE E E' l).length = E'.length := by
          intro l
          induction l with
          | nil => rfl
          | cons v vs ih => show ((restE E E' vs).set v _).length = _; rw [List.length_set, ih]
        by_cases hv : v = i
        · subst hv
          have : v < E.length := by
            rcases hE v hi with z | ⟨x, z⟩
            · exact (List.getElem?_eq_some_iff.mp z).1
            · exact (List.getElem?_eq_some_iff.mp z).1
          rw [List.getElem?_set_self (by rw [rl, hl]; exact this)]
        · rw [List.getElem?_set_ne hv]
          exact ih (by rcases List.mem_cons.mp h with q | q; exact absurd q.symm hv; exact q)
    rw [key ms hi]
    rcases hE i hi with z | ⟨x, z⟩
    · rw [z]; rfl
    · rw [z]; rfl
  · have rg : ∀ (l : List Nat), i ∉ l → (restE E E' l)[i]? = E'[i]? := by
      intro l
      induction l with
      | nil => intro _; rfl
      | cons v vs ih => intro h; show ((restE E E' vs).set v _)[i]? = _; rw [List.getElem?_set_ne (fun z => h (by simp [z])), ih fun z => h (List.mem_cons_of_mem _ z)]
    rw [rg ms hi, ← wg E' ms i hi, hw, wg E ms i hi]
/-- over typed items -/
theorem compD_map {α : Type} {g : TGd} {tt : TTd} {te : TD} {ms : List Nat} {W : Env} (enc : α → D) (p : α → Bool) (f : α → D) : ∀ (xs : List α) (acc : List D) (E : Env) (Q : List D → Env → Prop), wipeE E ms = W →
    (∀ x ∈ xs, ∀ R : Option D → Env → Prop, (∀ E', wipeE E' ms = W → R (if p x = true then some (f x) else none) E') → turnD g tt te (enc x) W R) → acc.length + xs.length ≤ sizeLine → (∀ E', wipeE E' ms = W → Q (acc ++ (xs.filter p).map f) E') → compD g tt te ms (xs.map enc) acc E Q
  | [], acc, E, Q, hE, _, _, q => by have := q E hE; rw [List.filter_nil, List.map_nil, List.append_nil] at this; exact this
  | x :: xs, acc, E, Q, hE, hf, hl, q => by
    show turnD g tt te (enc x) (wipeE E ms) _
    rw [hE]
    refine hf x (List.mem_cons_self ..) _ fun E' hE' => ?_
    rw [List.length_cons] at hl
    cases hp : p x with
    | false =>
      rw [if_neg Bool.false_ne_true]
      refine compD_map enc p f xs acc E' Q hE' (fun d hd => hf d (List.mem_cons_of_mem _ hd)) (by omega) fun E2 h2 => ?_
      have := q E2 h2
      rw [List.filter_cons_of_neg (by rw [hp]; exact Bool.false_ne_true)] at this; exact this
    | true =>
      rw [if_pos rfl]
      refine ⟨by omega, compD_map enc p f xs (acc ++ [f x]) E' Q hE' (fun d hd => hf d (List.mem_cons_of_mem _ hd)) (by rw [List.length_append]; simp; omega) fun E2 h2 => ?_⟩
      have := q E2 h2
      rw [List.filter_cons_of_pos hp] at this
      rw [List.append_assoc]; exact this
theorem comp_filter {α : Type} {ti : TDs} {g : TGd} {tt : TTd} {te : TD} {ms : List Nat} {E E1 : Env} {Q : List D → Env → Prop} (xs : List α) (enc : α → D) (p : α → Bool) (f : α → D) (hi : ∀ R : List D → Env → Prop, R (xs.map enc) E1 → ti E R)
    (hE : ∀ i ∈ ms, E1[i]? = some .un ∨ (∃ x, E1[i]? = some (.d x))) (hl : xs.length ≤ sizeLine)
    (hf : ∀ x ∈ xs, ∀ R : Option D → Env → Prop, (∀ E', wipeE E' ms = wipeE E1 ms → R (if p x = true then some (f x) else none) E') → turnD g tt te (enc x) (wipeE E1 ms) R) (q : Q ((xs.filter p).map f) E1) : tComp ti g tt te ms E Q :=
  hi _ (compD_map enc p f xs [] E1 _ rfl hf (by simpa using hl) fun E' hE' => by rw [rest_wipe hE' hE]; exact q)
theorem comp_map {α : Type} {ti : TDs} {g : TGd} {te : TD} {ms : List Nat} {E E1 : Env} {Q : List D → Env → Prop} (xs : List α) (enc : α → D) (f : α → D) (hi : ∀ R : List D → Env → Prop, R (xs.map enc) E1 → ti E R)
    (hE : ∀ i ∈ ms, E1[i]? = some .un ∨ (∃ x, E1[i]? = some (.d x))) (hl : xs.length ≤ sizeLine)
    (hf : ∀ x ∈ xs, ∀ R : D → Env → Prop, (∀ E', wipeE E' ms = wipeE E1 ms → R (f x) E') → g (enc x) (wipeE E1 ms) fun E1 => te E1 R) (q : Q (xs.map f) E1) : tComp ti g tTrue te ms E Q := by
  refine comp_filter xs enc (fun _ => true) f hi hE hl (fun x hx R hR => ?_) (by rw [List.filter_eq_self.mpr (fun _ _ => rfl)]; exact q)
  exact hf x hx (fun y E3 => R (some y) E3) hR
theorem un1 {E : Env} {i : Nat} (h : E[i]? = some .un) : ∀ j ∈ [i], E[j]? = some .un ∨ (∃ x, E[j]? = some (.d x)) := fun j hj => by
  rcases List.mem_cons.mp hj with rfl | z
  · exact .inl h
  · cases z
theorem un2 {E : Env} {i k : Nat} (h : E[i]? = some .un) (h' : E[k]? = some .un) : ∀ j ∈ [i, k], E[j]? = some .un ∨ (∃ x, E[j]? = some (.d x)) := fun j hj => by
  rcases List.mem_cons.mp hj with rfl | z
  · exact .inl h
  · exact un1 h' j z
end DL
set_option Elab.async false
set_option linter.all false
set_option maxRecDepth 100000
set_option maxHeartbeats 1000000
namespace DL
open PySem PySem.Spec PyProof.Rows L2
section
variable {X : Cx} {G : Gh} {a b c e : Expr} {es : List Expr} {pos p p1 p2 p3 : Pos} {x : Str}
/-! ### range(a, b, c): as an object, its len -/
def tLenRange (ta tb tc : TD) : TD := fun E Q => ta E fun x E1 => tb E1 fun y E2 => tc E2 fun z E3 => match x, y, z with
  | .int i, .int j, .int k => ∃ n : Nat, (k ≠ 0 ∧ k.natAbs < 1073741824) ∧ Builtin.Range.rangeSize i j k = n ∧ n < 2 ^ 62 ∧ Q (.int n) E3
  | _, _, _ => False
/-! range with a step, walked -/
/-! ### slices by numbers from 0 on -/
theorem sIx_int {n d : Nat} {i : Int} (h : 0 ≤ i) : HT.sIx n d (some i) = min i.toNat n := by
  show (if i < 0 then (i + (n : Int)).toNat else min i.toNat n) = _
  rw [if_neg (by omega)]
theorem cut_to {xs : List D} {i : Int} (h : 0 ≤ i) : cutD xs none (some i) = xs.take i.toNat := by
  unfold cutD
  rw [HT.sIx_none, sIx_int h]
  show xs.take (min i.toNat xs.length - 0) = _
  rw [Nat.sub_zero]
  rcases Nat.le_total i.toNat xs.length with z | z
  · rw [Nat.min_eq_left z]
  · rw [Nat.min_eq_right z, List.take_of_length_le (Nat.le_refl _), List.take_of_length_le z]
theorem cut_from {xs : List D} {i : Int} (h : 0 ≤ i) : cutD xs (some i) none = xs.drop i.toNat := by
  unfold cutD
  rw [HT.sIx_none, sIx_int h]
  rcases Nat.le_total i.toNat xs.length with z | z
  · rw [Nat.min_eq_left z, List.take_of_length_le (by rw [List.length_drop]; omega)]
  · rw [Nat.min_eq_right z, List.drop_eq_nil_of_le (Nat.le_refl _), List.drop_eq_nil_of_le z, List.take_nil]
theorem cut_mid {xs : List D} {i j : Int} (h : 0 ≤ i) (h' : 0 ≤ j) : cutD xs (some i) (some j) = (xs.take j.toNat).drop i.toNat := by
  unfold cutD
  rw [sIx_int h, sIx_int h', List.drop_take]
  rcases Nat.le_total i.toNat xs.length with z | z
  · rw [Nat.min_eq_left z]
    rcases Nat.le_total j.toNat xs.length with y | y
    · rw [Nat.min_eq_left y]
    · rw [Nat.min_eq_right y, List.take_of_length_le (by rw [List.length_drop]; omega), List.take_of_length_le (by rw [List.length_drop]; omega)]
  · rw [Nat.min_eq_right z, List.drop_eq_nil_of_le (Nat.le_refl _), List.drop_eq_nil_of_le z, List.take_nil, List.take_nil]
end
end DL
set_option Elab.async false
set_option linter.all false
set_option maxRecDepth 100000
namespace DL
open PySem PySem.Spec PyProof.Rows L2
/-- a def that nobody calls at this height -/
theorem no_ok {P : Program} {w : World} {K : PySem.W.Frag} {mg : Str → Option Value} {base : Heap} {x qual : Str} {st : Stmt} {f : Addr} {fd : FuncData} {N ps : List Str} {k : Nat} (F : Fun K x qual st f fd) (Sc : FnScope N ps (defScope st)) : FnOk P w K mg base CX0 (k + 1) f fd ps (spL K fun _ _ => False) :=
  F.ok Sc (fun vs H Q E ⟨_, _, _, h, _⟩ => h.elim) (fun cdv A outer s H vs Q E hr ⟨_, _, _, h, _⟩ => h.elim)
/-- the end of a law: the law's def keeps the promise spLaw-like on every script -/
theorem law_walk {l : PySem.W.OpenLaw} {n k : Nat} {q : Program} {loose : List Str} {XP : (Str → Option Value) → Heap → Prop} {YP : World → Heap → Prop} {d : DefRec} {KK : Params → PySem.W.Frag} {sp : SpD} {x : Str} (hm : l.most = some n) (hl : n ≤ sizeLine) (hdf : d.params.defaults = []) (rm : Room k callerA) (hY : ∀ (w : World) (h : Heap), YP w h → (KK w.params).In h)
    (F : ∀ (w : World) (mg : Str → Option Value) (fa : Addr) (h : Heap), (KK w.params).In h → h.Ns mainGlobals mg → mg d.name = some (.ref fa) → ∃ fd : FuncData, (∀ (s : Shared) (u : Value), BindsTo s fd ⟨[u], []⟩ [(x, u)]) ∧ ∀ base : Heap, (KK w.params).In base → base.Ns mainGlobals mg → FnOk l.prog w (KK w.params) mg base L2.CX0 k fa fd [x] (spL (KK w.params) sp))
    (hsp : ∀ (ns : List Int) (Q : D → List S → Prop), ns.length ≤ n → (∀ z ∈ ns, Builtin.Int.intBits z ≤ 1048576) → Q (.bool true) [] → sp [.d (.list (ns.map PyData.int))] Q) :
    PySem.W.WalkO q loose XP YP l.row.toRowW d [] (fun f vs => PySem.call f vs) := by
  refine Att.attach_callB hm hdf fun w s₀ s₁ mg mb fa o pm cd doc a vs ns G Y ho hd hcd hmg hobj hints hlen hbits hg => ?_
  have KX := hY w _ Y
  obtain ⟨fd, hb, hF⟩ := F w mg fa _ KX G.T.g hmg
  refine law_call KX G.T.g G.T.b G.T.builtins G.T.nolimit hg hobj hints (Nat.le_trans hlen hl) rm hF hb (fun H hO hS => ?_) (fun H e s' h => h)
  have hF : LsF (KK w.params) H a (ns.map V.int) := by
    rcases hS with (z | z) | ⟨ob, its, m, e, hc, hdd, hdt, hz, r⟩
    · rcases hO a with y | ⟨ob, xs, y⟩
      · rw [z] at y; cases y
      · rw [z] at y; cases y
    · exact .inl z
    · have e2 := KX _ _ e
      rw [hobj] at e2
      cases e2
      cases hdt
      exact .inr ⟨_, _, e, hz, r⟩
  refine ⟨[.d (.list (ns.map PyData.int))], [], fun d outs => d = .bool true, hsp ns _ hlen hbits rfl, .d (.lst hF (RpL.ofInts ns)) .nil, List.nodup_nil, fun d outs v H' h _ _ r => ?_⟩
  subst h
  cases r
  rfl
end DL
set_option Elab.async false
set_option linter.all false
set_option maxRecDepth 100000
set_option maxHeartbeats 3200000
/-! DL13: set(xs) of a list of ints, sorted(set(xs)), len(set(xs)). -/
namespace DL
open PySem PySem.Spec PyProof.Rows L2
section
variable {P : Program} {w : World} {A : Around} {E : Value → Shared → Prop} {s : Shared}
abbrev nSet (w : World) : Obj := { cls := .type "set", dict := none, data := .set #[] 0 (.fresh 0 0 (!w.params.followText "set-order")) }
theorem set_of_list {l : Addr} {items : Array Value} (ns : List Int) {Q : Value → Shared → Prop} (hh : A.handled = none) (hl : s.heap.IsList l items) (hit : IntsAre items.toList ns) (hb : ns.length + 1 < scanBound)
    (fin : ∀ (h' : Heap) (tk c : Nat), SetR w h' s.heap.objs.size (fun j => decide (j ∈ ns)) c → c ≤ ns.length → (∀ b o, s.heap.get? b = some o → h'.get? b = some o) → Q (.ref s.heap.objs.size) { s with heap := h', toks := tk }) :
    wpAny (model P w) A (call (.type "set") [.ref l]) Q E s := by
  have sz : items.size = ns.length := by have q := IntsAre.length hit; rw [Array.length_toList] at q; exact q
  obtain ⟨cm, tlm, _⟩ := F.called_set.mro
  have made := F.called_set.made; have subs := F.called_set.sub
  refine wpAny_call (codeAny_of_tree ?_); show wpAny _ _ (callAny (.type "set") _) _ _ _
  refine wpAny_pure ⟨Code.quiet_builtin _ (by decide +kernel), codeAny_builtin F.entry_type_call ?_⟩; rw [Around.under_plain (weight_type_call_type "set" [.ref l] []) rfl]
  have n1 := F.called_set.notType; have n2 := F.called_set.canCreate; have n3 := F.typeCall_set_1 (.ref l)
  repeat (any_goals (first | assumption | wp_step))
  refine codeAny_mono (code_set_led1 (.ref l) (E := E) (Q₁ := fun ob s₁ => ob = .ref s.heap.objs.size ∧ s₁ = { s with heap := s.heap.push (nSet w) }) ⟨rfl, rfl⟩) fun res s₁ hres => ?_
  cases res with
  | error e => exact hres
  | ok fl =>
    cases fl with
    | ret ob =>
      obtain ⟨rfl, rfl⟩ := hres
      have there : (s.heap.push (nSet w)).get? s.heap.objs.size = some (nSet w) := Heap.get?_push_size _ rfl
      have isS : Shared.TypeIs { s with heap := s.heap.push (nSet w) } (.ref s.heap.objs.size) "set" := ⟨_, there, rfl⟩
      have i1 := F.called_set.init.lookup; have i2 := F.called_set.init.bind (.ref s.heap.objs.size)
      repeat (any_goals (first | assumption | wp_step))
      refine codeAny_mono (codeAny_call_builtin (R := wants (fun r s₂ => r = .none ∧ ∃ h' tk c, s₂ = { s with heap := h', toks := tk } ∧ SetR w h' s.heap.objs.size (fun j => decide (j ∈ ns)) c ∧ c ≤ ns.length ∧ (∀ b o, s.heap.get? b = some o → h'.get? b = some o)) E) F.called_set.init.plain F.entry_set_init (check_set_init_1 isS ?_)) fun r₂ s₂ hr₂ => ?_
      · obtain ⟨⟨ocls, odict, odata, oslots⟩, hol, hcl, nl, hdl⟩ := hl
        simp only at hcl hdl; subst hcl; subst hdl
        have lthere : (s.heap.push (nSet w)).get? l = some { cls := .type "list", dict := odict, data := .seq items nl, slots := oslots } := Heap.get?_push_of_some _ hol
        have s1 := F.sub_list_set; have s2 := F.sub_list_frozenset; have s3 : (Value.type "list" == Value.type "dict") = false := by decide
        have isL : (s.heap.push (nSet w)).IsList l items := ⟨_, lthere, rfl, nl, rfl⟩
        unfold Builtin.«set.__init__» noKeywords Builtin.Frozenset.updateFrom; generalize ePI : pyIter = PI
        wp_walk
        subst ePI
        refine wpAny_pyIter_list isL ?_; refine wpAny_bind (wpAny_runValue ?_)
        have lt : l < s.heap.objs.size := Heap.lt_size hol
        have calm3 : A.in1.in1.in1.handled = none := by simp [hh]
        have neI : l ≠ (s.heap.push (nSet w)).objs.size := by rw [Heap.size_push]; exact Nat.ne_of_lt (Nat.lt_succ_of_lt lt)
        have notin : s.heap.objs.size ∉ [(s.heap.push (nSet w)).objs.size, l] := by
          rw [Heap.size_push]; simp only [List.mem_cons, List.mem_singleton, List.not_mem_nil, or_false, not_or]; exact ⟨Nat.ne_of_lt (Nat.lt_succ_self _), Nat.ne_of_gt lt⟩
        have vals : ∀ (i : Nat) (v : Value), items[i]? = some v → ∃ k t, ns[i]? = some k ∧ v = .int k t := fun i v hv => by
          have hi : i < ns.length := by rw [← sz]; exact (Array.getElem?_eq_some_iff.mp hv).1
          obtain ⟨t, e⟩ := PyProof.Rows.IntsAre.int_at hit i v (by rw [Array.getElem?_toList]; exact hv)
          refine ⟨ns[i], t, List.getElem?_eq_getElem hi, ?_⟩; rw [e, List.getD_eq_getElem?_getD, List.getElem?_eq_getElem hi] <;> rfl
        refine set_update_ints ((Walks.list calm3 _ l neI items).toS) s.heap.objs.size notin ns sz hb vals (items.size - 0) 0 _ (by omega) (Nat.zero_le _) ⟨⟨_, Heap.get?_push_size _ rfl, rfl, rfl⟩, (isL.push _)⟩ ⟨0, Nat.le_refl 0, setR_new_at (Heap.get?_push_of_some _ there)⟩ fun s' c' hm hc' hS' => ?_
        obtain ⟨h', g2, d', tk', os'⟩ := s'
        have eg : g2 = s.gens := hm.gens; have ed : d' = s.drawn := hm.drawn; have eo : os' = s.os := hm.os
        subst eg; subst ed; subst eo
        show wpAny _ _ _ _ _ _
        refine wpAny_pure ?_; show wpAny _ _ (ret Value.none) _ _ _
        rw [sz] at hc'; refine wpAny_pure ⟨rfl, h', tk', c', rfl, hS', hc', fun b o e => ?_⟩
        have hb0 : b < s.heap.objs.size := Heap.lt_size e
        have hb2 : b ≠ (s.heap.push (nSet w)).objs.size := by rw [Heap.size_push]; exact Nat.ne_of_lt (Nat.lt_succ_of_lt hb0)
        exact hm.heap b o (by simp only [List.mem_cons, List.mem_singleton, List.not_mem_nil, or_false, not_or]; exact ⟨Nat.ne_of_lt hb0, hb2⟩) (Heap.get?_push_of_some _ (Heap.get?_push_of_some _ e))
      · cases r₂ with
        | error e => exact hr₂
        | ok fl₂ =>
          cases fl₂ with
          | ret r =>
            obtain ⟨rfl, h', tk, c', rfl, hS', hc', hk'⟩ := hr₂
            repeat (any_goals (first | assumption | wp_step))
            exact fin _ _ _ hS' hc' hk'
          | _ => exact hr₂.elim
    | _ => exact hres.elim
end
end DL
namespace DL
open PySem PySem.Spec PyProof.Rows L2
section
variable {X : Cx} {G : Gh} {a : Expr} {pos p p1 p2 p3 : Pos}
theorem cr_setL (hc : X.calm = true) : CallR X (.type "set") (fun vs H Q => ∃ (l : Addr) (ns : List Int), vs = [.ref l] ∧ SqL X.K H l (ns.map V.int) ∧ ns.length ≤ 4000 ∧ ∀ q c, H q = none → c ≤ ns.length → Q (.ref q) (upd H q (SetO X.w q (fun j => decide (j ∈ ns)) c))) := by
  intro pins s σ H vs us Q I r h
  obtain ⟨l, ns, rfl, hS, hl, q⟩ := h
  rw [Vals.ref1 r]
  obtain ⟨its, rv, pl, hz⟩ := I.list hS
  refine set_of_list ns (I.ok.hd hc) pl.isList (by simpa using rv.ints) (by unfold scanBound; omega) fun h' tk c R hcn k => ?_
  exact ⟨.ref _, upd H s.heap.objs.size (SetO X.w s.heap.objs.size (fun j => decide (j ∈ ns)) c), I.laid (t' := tk) k (Nat.le_refl _) (setO_new R), rfl, q _ _ (I.hok.fresh (Nat.le_refl _)) hcn⟩
/-- sorted(set(xs)), xs a list of fewer than 64 ints -/
def tSortSet (ta : TD) : TLd := fun E Q => ta E fun x E1 => match x with
  | .list xs => ∃ ns : List Int, xs = ns.map PyData.int ∧ ns.length < 64 ∧ ∀ zs : List Int, zs.Pairwise (· < ·) → (∀ k, k ∈ zs ↔ k ∈ ns) → Q (zs.map PyData.int) E1
  | _ => False
theorem el_sortSet {ta : TD} (ha : ER X G a ta) (hg : Gl X "sorted") (hm : X.mg "sorted" = none) (hg2 : Gl X "set") (hm2 : X.mg "set" = none) (hc : X.calm = true := by rfl)
    (hs : starEach [a] X.env = (false, eval a X.env) :: starEach [] X.env := by rfl) : EL X G (.Call (.Name "sorted" p) [.Call (.Name "set" p1) [a] [] p2] [] pos) (tSortSet ta) := by
  refine ⟨PE.weak (pe_callB (cr_sortedSet hc) hg hm bb_sorted (pa_cons (pe_callTy (cr_setL hc) hg2 hm2 PyProof.Rows.boot_set (pa_cons ha.pe pa_nil hs) (by decide) (by decide) hs) pa_nil)) fun σ H Q ⟨E, QE, rel, q, k⟩ => ⟨E, _, rel, q, fun x E1 v H1 q1 x1 r1 p1 => ?_⟩⟩
  cases x with
  | list xs =>
    obtain ⟨ns, rfl, hl, q1⟩ := q1
    obtain ⟨b, us, rfl, hs, l⟩ := p1.list
    rw [l.ints] at hs
    refine ⟨b, ns, rfl, hs, by omega, fun q c hq hcn => ⟨q, _, c, rfl, upd_same, by omega, fun zs p' h1 h2 h3 hp => ?_⟩⟩
    obtain ⟨r3, h30, n3⟩ := (r1.pext (PExt.new (o := SetO X.w q (fun j => decide (j ∈ ns)) c) hq)).fresh (o := .lst (zs.map V.int)) hp
    exact k _ _ _ _ _ (q1 zs h1 fun z => by rw [h2 z]; exact decide_eq_true_iff) ((x1.trans (PExt.new hq).ext).trans (PExt.new hp).ext) r3 h30 n3 upd_same (RpL.ofInts zs)
  | _ => exact q1.elim
/-- len(set(xs)) -/
def tLenSet (ta : TD) : TD := fun E Q => ta E fun x E1 => match x with
  | .list xs => ∃ ns : List Int, xs = ns.map PyData.int ∧ ns.Nodup ∧ ns.length ≤ 4000 ∧ Q (.int (ns.length : Nat)) E1
  | _ => False
end
end DL
set_option Elab.async false
set_option linter.all false
set_option maxRecDepth 100000
/-! DL14: plain laws of data: shaped, == of encoded lists. -/
namespace DL
open PySem PySem.Spec PyProof.Rows L2
/-- n lists or tuples deep at most, no dict -/
def shOk : Nat → D → Bool
  | _, .none => true
  | _, .bool _ => true
  | _, .int _ => true
  | _, .str x => PyData.strOk x
  | n + 1, .tuple ds => ds.all (shOk n)
  | n + 1, .list ds => ds.all (shOk n)
  | _, _ => false
theorem shOk_all {n : Nat} (ih : ∀ d, shOk n d = true → d.canLay0 = true ∧ d.depth ≤ n) : ∀ ds : List D, ds.all (shOk n) = true → PyData.canLayAll0 ds = true ∧ PyData.depthAll ds ≤ n
  | [], _ => ⟨rfl, Nat.zero_le _⟩
  | d :: ds, h => by
    rw [List.all_cons, Bool.and_eq_true] at h
    have ⟨a, b⟩ := ih d h.1
    have ⟨c, e⟩ := shOk_all ih ds h.2
    exact ⟨by rw [PyData.canLayAll0, a, c]; rfl, by rw [PyData.depthAll]; omega⟩
theorem shOk_spec : ∀ (n : Nat) (d : D), shOk n d = true → d.canLay0 = true ∧ d.depth ≤ n
  | n, .none, _ => ⟨rfl, Nat.zero_le _⟩
  | n, .bool _, _ => ⟨rfl, Nat.zero_le _⟩
  | n, .int _, _ => ⟨rfl, Nat.zero_le _⟩
  | n, .str x, h => ⟨by cases n <;> exact h, Nat.zero_le _⟩
  | n + 1, .tuple ds, h => by
    have ⟨a, b⟩ := shOk_all (shOk_spec n) ds h
    exact ⟨by rw [PyData.canLay0]; exact a, by rw [PyData.depth]; omega⟩
  | n + 1, .list ds, h => by
    have ⟨a, b⟩ := shOk_all (shOk_spec n) ds h
    exact ⟨by rw [PyData.canLay0]; exact a, by rw [PyData.depth]; omega⟩
  | 0, .tuple _, h => by cases h
  | 0, .list _, h => by cases h
  | 0, .dict _, h => by cases h
  | n + 1, .dict _, h => by cases h
theorem shaped_of {n : Nat} {d : D} (h : shOk n d = true) (hn : n ≤ 64 := by decide) : SeqAt.shaped d = true := by
  have ⟨a, b⟩ := shOk_spec n d h
  show (d.canLay0 && decide (d.depth ≤ 64)) = true
  rw [a, decide_eq_true (show d.depth ≤ 64 by omega)]; rfl
theorem shOk_lst {n : Nat} {ds : List D} : shOk (n + 1) (.list ds) = ds.all (shOk n) := rfl
theorem eqvAll_enc {α : Type} [DecidableEq α] {e : α → D} (he : ∀ a b, PyData.eqv (e a) (e b) = decide (a = b)) : ∀ xs ys : List α, PyData.eqvAll (xs.map e) (ys.map e) = decide (xs = ys)
  | [], [] => rfl
  | [], _ :: _ => rfl
  | _ :: _, [] => rfl
  | x :: xs, y :: ys => by
    rw [List.map_cons, List.map_cons, PyData.eqvAll, he, eqvAll_enc he xs ys]
    by_cases h1 : x = y <;> by_cases h2 : xs = ys <;> simp [h1, h2]
end DL
set_option Elab.async false
set_option linter.all false
set_option maxRecDepth 100000
set_option maxHeartbeats 1000000
/-! DL15: sorted(xs), sorted(xs, reverse=b): lists and tuples of any data that is alike. -/
namespace DL
open PySem PySem.Spec PyProof.Rows L2
section
variable {prog : Program} {w : World} {A : Around} {E : Value → Shared → Prop} {s : Shared} {β : Type} {vs : List Value} {bs : List β} {enc : β → PyData} {R : Value → β → Prop}
/-- what is made of a list's or a tuple's items: a new list, in the very next place -/
theorem collect_one {l : Addr} {T : String} {o : Obj} {n : Nat} {Q : List Value → Shared → Prop} (hT : T = "list" ∨ T = "tuple") (ho : s.heap.get? l = some o) (hc : o.cls = .type T) (hd : o.data = .seq vs.toArray n) (small : vs.length ≤ sizeLine)
    (fin : Q vs { s with heap := (s.heap.push (seqObj "list" #[] 0)).update s.heap.objs.size (Obj.mapSeq (· ++ vs.toArray)) }) : wpAny (model prog w) A (collect (.ref l)) Q E s := by
  have new : (s.heap.push (seqObj "list" #[] 0)).get? s.heap.objs.size = some (seqObj "list" #[] 0) := Heap.get?_push_size _ rfl
  have was : (s.heap.push (seqObj "list" #[] 0)).get? l = some o := Heap.get?_push_of_some _ ho
  unfold collect; refine wpAny_bind (wpAny_runValue (codeAny_builtin entry_proto_collect' ?_))
  show wpAny _ _ (do again (.builtin "list.__iadd__" ⟨[← newList [], Value.ref l], []⟩)) _ _ s
  refine wpAny_bind (wpAny_newList (wpAny_pure ⟨Code.quiet_builtin _ (by decide +kernel), codeAny_builtin entry_list_iadd' ?_⟩) (Nat.zero_le _))
  show wpAny _ _ (Builtin.List.listExtendWith (Value.ref s.heap.objs.size) (Value.ref l) (Value.ref s.heap.objs.size)) _ _ { s with heap := s.heap.push (seqObj "list" #[] 0) }
  unfold Builtin.List.listExtendWith; refine wpAny_bind (wpAny_typeOf (T := T) ⟨o, was, hc⟩ ?_)
  rw [if_pos (by rcases hT with rfl | rfl; · rw [show (Value.type "list" == Value.type "list") = true from rfl, Bool.or_true, Bool.true_or]
                 · rw [show (Value.type "tuple" == Value.type "tuple") = true from rfl, Bool.or_true])]; refine wpAny_bind (listItems_at was hd ?_); refine wpAny_bind (listItems_at (xs := #[]) (n := 0) new rfl ?_)
  rw [if_neg (by simp)]
  refine wpAny_bind (listUpdate_at (xs := #[]) (n := 0) new rfl ?_ (Nat.zero_le _) (by show (#[] ++ vs.toArray).size ≤ sizeLine + 1; simp only [Array.size_append, List.size_toArray, List.length_nil]; omega)); refine wpAny_pure ?_
  show wpAny (model prog w) A (do
      let ob ← load s.heap.objs.size
      match ob.data with | .seq xs _ => pure xs.toList | _ => unsupported "internal:collect") Q E { s with heap := (s.heap.push (seqObj "list" #[] 0)).update s.heap.objs.size (Obj.mapSeq (· ++ vs.toArray)) }
  refine wpAny_bind (wpAny_load (get?_update_seq new _) ?_); show wpAny _ _ (pure ((#[] : Array Value) ++ vs.toArray).toList) Q E _
  have e0 : ((#[] : Array Value) ++ vs.toArray).toList = vs := by simp
  rw [e0]; exact wpAny_pure fin
theorem sorted_seqD {l : Addr} {T : String} {o : Obj} {n : Nat} {rv : Bool} {kw : List (Str × Value)} {Q : Value → Shared → Prop} (hT : T = "list" ∨ T = "tuple") (ho : s.heap.get? l = some o) (hc : o.cls = .type T) (hd : o.data = .seq vs.toArray n)
    (hkw : ∀ p, Builtin.«list.sort» ⟨[.ref p], kw⟩ = Builtin.«list.sort» ⟨[.ref p], [(Str.ofString "reverse", .bool rv)]⟩) (ok1 : argsOk "sorted" ⟨[.ref l], kw⟩) (ok2 : ∀ x, argsOk "list.sort" ⟨[.ref x], kw⟩)
    (e : PySem.W.EachIs R vs bs) (er : PySem.W.EachIs (fun v b => ∃ as, Reads s.heap v (enc b) as) vs bs) (hal : PySem.W.AllAlike (bs.map enc)) (hk : PySem.W.Sortable (bs.map enc)) (hL : vs.length ≤ sizeLine) (hu : ∀ b, b ∈ bs → A.units + 2 + (enc b).depth < cLine)
    (h : ∀ h' p out c, (∀ b o, s.heap.get? b = some o → h'.get? b = some o) → s.heap.objs.size ≤ p → h'.get? p = some { cls := .type "list", data := .seq (List.toArray out) c } → PySem.W.EachIs R out (bs.mergeSort (PySem.W.dataLe rv enc)) → Q (.ref p) { s with heap := h' }) :
    wpAny (model prog w) A (call (.builtin "sorted") [.ref l] kw) Q E s := by
  refine call_function_entry_kw kind_sorted plain_sorted entry_sorted ok1 ?_
  unfold Builtin.«sorted»
  refine wpAny_bind (m := checkCount "sorted" 1 1 _) (wpAny_pure ?_)
  refine wpAny_bind (collect_one hT ho hc hd hL ?_)
  generalize hh1 : (s.heap.push (seqObj "list" #[] 0)).update s.heap.objs.size (Obj.mapSeq (· ++ vs.toArray)) = h1
  have le1 : s.heap.objs.size ≤ h1.objs.size := by rw [← hh1, Heap.size_update, size_push']; exact Nat.le_succ _
  have k1 : ∀ b u, s.heap.get? b = some u → h1.get? b = some u := fun b u q => by
    rw [← hh1, Heap.get?_update_ne _ _ _ _ (Nat.ne_of_lt (Heap.lt_size q))]; exact Heap.get?_push_of_some _ q
  refine wpAny_bind (wpAny_newList ?_ hL)
  have hp : (h1.push (seqObj "list" vs.toArray 0)).get? h1.objs.size = some (seqObj "list" vs.toArray 0) := Heap.get?_push_size _ rfl
  have old : ∀ b u, s.heap.get? b = some u → b ≠ h1.objs.size ∧ (h1.push (seqObj "list" vs.toArray 0)).get? b = some u := fun b u q => ⟨Nat.ne_of_lt (Heap.lt_size (k1 b u q)), Heap.get?_push_of_some _ (k1 b u q)⟩
  refine wpAny_bind (wpAny_holding (wpAny_call_entry_kw slot_list_sort ⟨_, hp, rfl⟩ entry_list_sort ?body (ok2 _)))
  case body =>
    have er' : PySem.W.EachIs (fun v b => ∃ as, Reads (PySem.W.sortingHeap (h1.push (seqObj "list" vs.toArray 0)) h1.objs.size vs) v (enc b) as) vs bs := er.mono fun _ _ ⟨as, r⟩ => ⟨as, PyProof.Rows.Reads.keeps (fun b u q => PySem.W.sortingHeap_old (old b u q).1 (old b u q).2) r⟩
    show wpAny (model prog w) A.in1.in1 (Builtin.«list.sort» ⟨[.ref h1.objs.size], kw⟩) _ _ _
    rw [hkw]
    refine PySem.W.list_sort_rev_vals (κ := PySem.W.dataKind (PySem.W.sortingHeap (h1.push (seqObj "list" vs.toArray 0)) h1.objs.size vs) (bs.map enc)) hp (PySem.W.SortsAt.data (s := { s with heap := PySem.W.sortingHeap (h1.push (seqObj "list" vs.toArray 0)) h1.objs.size vs }) (PySem.W.each_map (R := fun v d => ∃ as, Reads (PySem.W.sortingHeap (h1.push (seqObj "list" vs.toArray 0)) h1.objs.size vs) v d as) enc er') hal hk (PySem.W.bound_map hu)) hL ⟨_, rfl, wpAny_pure ⟨_, rfl, ?_⟩⟩
    obtain ⟨c, hc2⟩ := sortedHeap_at (vs := vs) (out := (PySem.W.sortVals (PySem.W.dataKind (PySem.W.sortingHeap (h1.push (seqObj "list" vs.toArray 0)) h1.objs.size vs) (bs.map enc)) rv vs vs).toArray) hp
    refine h _ _ _ c (fun b u q => ?_) le1 hc2 (PySem.W.sortVals_data rv e er' hal)
    rw [sortedHeap_old (old b u q).1 (Heap.lt_size (old b u q).2)]
    exact (old b u q).2
end
section
variable {X : Cx} {G : Gh}
theorem each_pairs {K : PySem.W.Frag} {H : Hp} : ∀ {ds : List D} {us : List V} {vs : List Value}, RpL K H ds us → Vals us vs → PySem.W.EachIs (fun v (b : V × D) => RelV b.1 v) vs (us.zip ds)
  | _, _, _, .nil, .nil => .nil
  | _, _, _, .cons _ l, .cons r t => .cons r (each_pairs l t)
theorem each_reads {pins : List (Addr × Obj)} {s : Shared} {σ : St} {H : Hp} (I : Inv X pins σ H s) : ∀ {ds : List D} {us : List V} {vs : List Value}, (∀ d ∈ ds, d.canLay0 = true) → RpL X.K H ds us → Vals us vs → PySem.W.EachIs (fun v (b : V × D) => ∃ as, Reads s.heap v b.2 as) vs (us.zip ds)
  | _, _, _, _, .nil, .nil => .nil
  | _, _, _, z, .cons h l, .cons r t => .cons (Dp.reads I _ _ _ (h.dp (z _ (List.mem_cons_self ..))) r) (each_reads I (fun d hd => z d (List.mem_cons_of_mem _ hd)) l t)
theorem each_vals : ∀ {bs : List (V × D)} {vs : List Value}, PySem.W.EachIs (fun v (b : V × D) => RelV b.1 v) vs bs → Vals (bs.map (·.1)) vs
  | _, _, .nil => .nil
  | _, _, .cons r t => .cons r (each_vals t)
theorem zip_rp {K : PySem.W.Frag} {H : Hp} : ∀ {ds : List D} {us : List V}, RpL K H ds us → ∀ b ∈ us.zip ds, Rp K H b.2 b.1
  | _, _, .nil, b, hb => by simp at hb
  | _, _, .cons r l, b, hb => by
    rw [List.zip_cons_cons] at hb
    rcases List.mem_cons.mp hb with e | e
    · subst e; exact r
    · exact zip_rp l b e
theorem rp_zip {K : PySem.W.Frag} {H : Hp} : ∀ {bs : List (V × D)}, (∀ b ∈ bs, Rp K H b.2 b.1) → RpL K H (bs.map (·.2)) (bs.map (·.1))
  | [], _ => .nil
  | b :: bs, h => .cons (h b List.mem_cons_self) (rp_zip fun c hc => h c (List.mem_cons_of_mem _ hc))
theorem zip_snd2 {K : PySem.W.Frag} {H : Hp} {ds : List D} {us : List V} (l : RpL K H ds us) : (us.zip ds).map (·.2) = ds := by
  have := l.length
  rw [List.map_snd_zip (by omega)]
theorem le_snd (rv : Bool) : ∀ a b : V × D, PySem.W.dataLe rv (fun b : V × D => b.2) a b = PySem.W.dataLe rv (fun d : D => d) a.2 b.2 := fun _ _ => rfl
/-- sorted: the data in order -/
def sortD (rv : Bool) (xs : List D) : List D := xs.mergeSort (PySem.W.dataLe rv fun d : D => d)
def sortOk (xs : List D) : Prop := PySem.W.AllAlike xs ∧ PySem.W.Sortable xs ∧ ∀ d ∈ xs, d.depth ≤ 60 ∧ d.canLay0 = true
theorem sorted_run {rv : Bool} {kw : List (Str × Value)} (hu : X.A.units + 65 < cLine) {pins : List (Addr × Obj)} {s : Shared} {σ : St} {H : Hp} {a : Addr} {us : List V} {ds : List D} {Q : VK} (I : Inv X pins σ H s)
    (hs : SqL X.K H a us ∨ SqT X.K H a us) (l : RpL X.K H ds us) (ok : sortOk ds)
    (hkw : ∀ p, Builtin.«list.sort» ⟨[.ref p], kw⟩ = Builtin.«list.sort» ⟨[.ref p], [(Str.ofString "reverse", .bool rv)]⟩) (ok1 : argsOk "sorted" ⟨[.ref a], kw⟩) (ok2 : ∀ x, argsOk "list.sort" ⟨[.ref x], kw⟩)
    (q : ∀ ws p, H p = none → RpL X.K H (sortD rv ds) ws → Q (.ref p) (upd H p (.lst ws))) : wpAny (model X.prog X.w) X.A (call (.builtin "sorted") [.ref a] kw) (EP X pins σ Q) X.xe s := by
  obtain ⟨T, o, n, its, hT, ho, hc, hd, r, hz⟩ : ∃ (T : String) (o : Obj) (n : Nat) (its : List Value), (T = "list" ∨ T = "tuple") ∧ s.heap.get? a = some o ∧ o.cls = .type T ∧ o.data = .seq its.toArray n ∧ Vals us its ∧ us.length ≤ sizeLine := by
    rcases hs with hs | hs
    · obtain ⟨its, r, ⟨o, n, ho, hc, _, hd⟩, hz⟩ := I.list hs
      exact ⟨"list", o, n, its, .inl rfl, ho, hc, hd, r, hz⟩
    · obtain ⟨its, r, ⟨o, ho, hc, n, hd⟩, hz⟩ := I.tuple hs
      exact ⟨"tuple", o, n, its, .inr rfl, ho, hc, hd, r, hz⟩
  have e2 := zip_snd2 l
  refine sorted_seqD (enc := fun b : V × D => b.2) (R := fun v b => RelV b.1 v) (bs := us.zip ds) hT ho hc hd hkw ok1 ok2 (each_pairs l r) (each_reads I (fun d hd => (ok.2.2 d hd).2) l r) (by rw [e2]; exact ok.1) (by rw [e2]; exact ok.2.1) (by rw [← r.length]; exact hz) (fun b hb => ?_) fun h' p out c k1 hp hp2 eo => ?_
  · have := (ok.2.2 b.2 (by rw [← e2]; exact List.mem_map_of_mem hb)).1; omega
  · have rv1 := each_vals eo
    have hn : H p = none := I.hok.fresh hp
    have mem : ∀ b ∈ (us.zip ds).mergeSort (PySem.W.dataLe rv fun b : V × D => b.2), Rp X.K H b.2 b.1 := fun b hb => zip_rp l b ((List.mergeSort_perm _ _).mem_iff.mp hb)
    have e3 : ((us.zip ds).mergeSort (PySem.W.dataLe rv fun b : V × D => b.2)).map (·.2) = sortD rv ds := by
      unfold sortD
      rw [PySem.W.sort_maps (s := PySem.W.dataLe rv fun d : D => d) (fun b : V × D => b.2) (fun a _ b _ => le_snd rv a b), e2]
    have hr := rp_zip mem
    rw [e3] at hr
    have hlen : (((us.zip ds).mergeSort (PySem.W.dataLe rv fun b : V × D => b.2)).map (·.1)).length ≤ sizeLine := by
      rw [List.length_map, (List.mergeSort_perm _ _).length_eq, List.length_zip]; omega
    exact ⟨.ref p, upd H p (.lst _), I.laid (t' := s.toks) k1 hp ⟨hlen, out, c, rv1, hp2⟩, rfl, q _ p hn hr⟩
def caSorted : CaL := fun ds Q => match ds with
  | [.list xs] => sortOk xs ∧ Q (sortD false xs)
  | [.tuple xs] => sortOk xs ∧ Q (sortD false xs)
  | _ => False
theorem cr_sortedD (hu : X.A.units + 65 < cLine) : CallR X (.builtin "sorted") (fun vs H Q => ∃ (a : Addr) (us : List V) (ds : List D), vs = [.ref a] ∧ (SqL X.K H a us ∨ SqT X.K H a us) ∧ RpL X.K H ds us ∧ sortOk ds ∧ ∀ ws p, H p = none → RpL X.K H (sortD false ds) ws → Q (.ref p) (upd H p (.lst ws))) := by
  intro pins s σ H vs us Q I r h
  obtain ⟨a, ws, ds, rfl, hs, l, ok, q⟩ := h
  obtain rfl := Vals.ref1 r
  exact DL.sorted_run hu I hs l ok (fun p => PySem.W.plain_is_rev p) (args_sorted1 _) (fun _ => args_list_sort _) q
theorem cd_sorted (hu : X.A.units + 65 < cLine) : CaLD X (.builtin "sorted") caSorted := ⟨_, cr_sortedD hu, fun ds vs H QD Q hd q k => by
  match ds, q, hd with
  | [.list xs], q, hd =>
    obtain ⟨v, rfl, h⟩ := hd.one
    obtain ⟨a, us, rfl, hs, l⟩ := h.list
    exact ⟨a, us, xs, rfl, .inl hs, l, q.1, fun ws p hp hr => k _ _ _ q.2 hp hr⟩
  | [.tuple xs], q, hd =>
    obtain ⟨v, rfl, h⟩ := hd.one
    obtain ⟨a, us, rfl, hs, l⟩ := h.tuple
    exact ⟨a, us, xs, rfl, .inr hs, l, q.1, fun ws p hp hr => k _ _ _ q.2 hp hr⟩⟩
end
end DL
set_option Elab.async false
set_option linter.all false
set_option maxRecDepth 100000
set_option maxHeartbeats 1000000
/-! DL16: enumerate(t) of a tuple; count, index. -/
namespace DL
open PySem PySem.Spec PyProof.Rows L2 AutoSeq1
section
variable {X : Cx} {G : Gh} {e : Expr} {p pos tpos : Pos} {elts : List Expr} {kk : Nat}
def enumD (xs : List D) : List D := xs.zipIdx.map fun p => .tuple [.int ((p.2 : Nat) : Int), p.1]
theorem enumD_len (xs : List D) : (enumD xs).length = xs.length := by simp [enumD]
theorem enumD_get {xs : List D} {i : Nat} {d : D} (h : xs[i]? = some d) : (enumD xs)[i]? = some (.tuple [.int (i : Int), d]) := by
  unfold enumD
  rw [List.getElem?_map, List.getElem?_zipIdx, h]; simp
def iEnumT (t : TD) : TDs := fun E Q => t E fun d E1 => match d with
  | .tuple ds => Q (enumD ds) E1
  | _ => False
def iEnumL (t : TD) : TDs := fun E Q => t E fun d E1 => match d with
  | .list ds => Q (enumD ds) E1
  | _ => False
theorem walkD_enumL {K : PySem.W.Frag} {H : Hp} {a : Addr} {vs : List V} {ds : List D} (h : LsF K H a vs) (l : RpL K H ds vs) : WalkD true K (Ite K a) H (enumD ds) where
  goes := fun i H' x hi => by
    rw [enumD_len, l.length] at hi
    exact ⟨vs, vs[i], (LsF.ext x h).sq, List.getElem?_eq_getElem hi⟩
  yld := fun i H' v H2 x hi hy => by
    obtain ⟨T, v1, rfl, hT, rfl, e1⟩ := hy
    obtain ⟨d, hd, p⟩ := l.getV (e1 vs (LsF.ext x h).sq)
    have px := PExt.new (o := .tup [.int (i : Nat), v1]) hT
    exact ⟨px, _, enumD_get hd, .pair (SqT.of upd_same) (.cons (.int _) (.cons ((p.ext x).ext px.ext) .nil))⟩
  stops := fun H' x => ⟨vs, (LsF.ext x h).sq, by rw [enumD_len, l.length]; exact Nat.le_refl _⟩
theorem id_enumL {t : TD} (h : ED X G e t) (hg : Gl X "enumerate") (hm : X.mg "enumerate" = none) (hs : starEach [e] X.env = [(false, eval e X.env)] := by rfl) : ID X G true (.Tuple elts kk tpos) (.Call (.Name "enumerate" p) [e] [] pos) (iEnumL t) :=
  ⟨PI.weak (pi_enum hg hm (pa_cons h.pe pa_nil hs) hs) fun σ H R ⟨E, QE, r, q, k⟩ => ⟨E, _, r, q, fun d E1 v H1 q1 x1 r1 p1 => by
    cases p1 with
    | lst hs l => exact ⟨_, _, rfl, hs.sq, k _ _ _ _ q1 x1 r1 (walkD_enumL hs l)⟩
    | _ => exact q1.elim⟩⟩
end
end DL
set_option Elab.async false
set_option linter.all false
set_option maxRecDepth 100000
set_option maxHeartbeats 1000000
/-! DL17: count, index; x or y, not x by truth; sorted(.., reverse=True). -/
namespace DL
open PySem PySem.Spec PyProof.Rows L2
section
variable {X : Cx} {G : Gh} {a b e o : Expr} {es : List Expr} {pos p apos cpos : Pos}
/-! ### methods of tuples -/
theorem SqD.is {pins : List (Addr × Obj)} {s : Shared} {σ : St} {H : Hp} {p : Addr} {xs : List V} (I : Inv X pins σ H s) (h : SqD X.K H p xs) : s.TypeIs (.ref p) "tuple" ∧ ∃ ob, s.heap.get? p = some ob ∧ ob.dict = none := by
  obtain ⟨its, r, ⟨o, ho, hc, _⟩, hz⟩ := I.tuple h.1
  refine ⟨⟨o, ho, hc⟩, ?_⟩
  rcases h.2 with ⟨o2, u, e2, d2⟩ | ⟨o2, e2, d2⟩
  · exact ⟨o2, (I.hok _ _ e2).1, d2⟩
  · exact ⟨o2, I.kIn _ _ e2, d2⟩
def okAll (xs : List D) (y : D) : Prop := xs.all (shOk 60) = true ∧ shOk 60 y = true
def cntD (xs : List D) (y : D) : Nat := xs.countP fun z => PyData.eqv z y
/-- xs.index(y): the first place of an equal one -/
def idxOk (xs : List D) (y : D) (j : Nat) : Prop := (∃ z, xs[j]? = some z ∧ PyData.eqv z y = true) ∧ ∀ m z, m < j → xs[m]? = some z → PyData.eqv z y = false
def tCountT (ta tb : TD) : TD := fun E Q => ta E fun x E1 => match x with
  | .tuple xs => tb E1 fun y E2 => okAll xs y ∧ Q (.int (cntD xs y : Nat)) E2
  | _ => False
def tCountL (ta tb : TD) : TD := fun E Q => ta E fun x E1 => match x with
  | .list xs => tb E1 fun y E2 => okAll xs y ∧ Q (.int (cntD xs y : Nat)) E2
  | _ => False
def tIndexT (ta tb : TD) : TD := fun E Q => ta E fun x E1 => match x with
  | .tuple xs => tb E1 fun y E2 => ∃ j, okAll xs y ∧ idxOk xs y j ∧ Q (.int (j : Nat)) E2
  | _ => False
def tIndexL (ta tb : TD) : TD := fun E Q => ta E fun x E1 => match x with
  | .list xs => tb E1 fun y E2 => ∃ j, okAll xs y ∧ idxOk xs y j ∧ Q (.int (j : Nat)) E2
  | _ => False
section
variable {ta tb : TD}
theorem shaped_all {xs : List D} (h : xs.all (shOk 60) = true) : SeqAt.shaped (.list xs) = true := shaped_of (n := 61) (by rw [shOk_lst]; exact h)
end
/-! ### truth -/
def tOrT (t u : TD) : TD := fun E Q => t E fun x E1 => match truD x with
  | some c => okLen x ∧ if c = true then Q x E1 else u E1 Q
  | none => False
def tAndT (t u : TD) : TD := fun E Q => t E fun x E1 => match truD x with
  | some c => okLen x ∧ if c = true then u E1 Q else Q x E1
  | none => False
def tNotT (t : TD) : TD := fun E Q => t E fun x E1 => match truD x with
  | some c => okLen x ∧ Q (.bool (!c)) E1
  | none => False
/-! ### sorted(xs, reverse=True) -/
def tSortRev (ta : TD) : TLd := fun E Q => ta E fun x E1 => match x with
  | .list xs => sortOk xs ∧ Q (sortD true xs) E1
  | .tuple xs => sortOk xs ∧ Q (sortD true xs) E1
  | _ => False
end
end DL
set_option Elab.async false
set_option linter.all false
set_option maxRecDepth 100000
set_option maxHeartbeats 1000000
/-! DL18: a list of one's own is frozen where it is handed on; calls without arguments. -/
namespace DL
open PySem PySem.Spec PyProof.Rows L2
section
variable {K : PySem.W.Frag} {G : Gh} {H : Hp} {E : Env} {σ : St}
theorem RelX.freezeM {i : Nat} {s0 : S} {a : Addr} {u' : HO} {d : D} (r : RelE K G H E σ) (e : E[i]? = some s0) (m0 : s0.isMut = true) (hs : σ[i]? = some (some (.ref a))) (p : Rp K (upd H a u') d (.ref a)) :
    RelE K G (upd H a u') (E.set i (.d d)) σ := by
  obtain ⟨l, k, pn, dm, x0, A, h1, h2, h3⟩ := r
  obtain ⟨b, e1, e2, e3⟩ := (h3 i _ e).mut m0
  rw [hs] at e2
  have e2' : a = b := by injection e2 with z; injection z with z; injection z
  subst e2'
  obtain ⟨u0, g1, g2, g3⟩ := e3.soft
  have x : Ext H (upd H a u') := Ext.putS g1 g2 g3
  have own := h2 i a (by rw [e1]; simp)
  have hl : i < E.length := (List.getElem?_eq_some_iff.mp e).1
  refine ⟨by simpa using l, fun q u he ne => ?_, pn, fun q hq => ?_, x0.trans x, fun j => if j = i then [] else A j, fun j m b q1 q2 => ?_, fun j b q1 => ?_, fun j s he => ?_⟩
  · have : q ≠ a := by
      rintro rfl
      rcases own.1 with z | z
      · exact ne z
      · rw [z] at he; cases he
    rw [upd_ne this]; exact k q u he ne
  · by_cases z : q = a
    · subst z; rw [upd_same]; simp
    · rw [upd_ne z]; exact dm q hq
  · dsimp only at q1 q2
    split at q1
    · cases q1
    · split at q2
      · cases q2
      · exact h1 j m b q1 q2
  · dsimp only at q1
    split at q1
    · cases q1
    · exact h2 j b q1
  · by_cases z : j = i
    · subst z
      rw [List.getElem?_set_self hl] at he
      cases he
      simp only [if_true]
      exact ⟨rfl, _, hs, p⟩
    · rw [List.getElem?_set_ne (Ne.symm z)] at he
      simp only [z, if_false]
      exact (h3 j s he).move x fun c hc => upd_ne fun zz => z (h1 j i c hc (by rw [e1, zz]; simp))
theorem RelX.freezeV {i : Nat} {xs : List D} {a : Addr} {vs : List V} {o : Obj} (r : RelE K G H E σ) (e : E[i]? = some (.ol xs)) (hs : σ[i]? = some (some (.ref a))) (ha : H a = some (.lst vs)) (p : RpL K H xs vs) :
    RelE K G (upd H a (.frz o (.lst vs))) (E.set i (.d (.list xs))) σ :=
  r.freezeM e rfl hs (.lst (.of upd_same) (p.ext (Ext.put ha)))
end
section
variable {X : Cx} {G : Gh} {e : Expr} {pos p0 : Pos} {x : Str}
theorem PE.fzIf {t : TE} (h : PE X e t) : PE X e (fun σ H Q => t σ H fun v H1 => Q v H1 ∨ ∃ a u, v = .ref a ∧ H1 a = some u ∧ Mut (some u) ∧ ∀ o, Q v (upd H1 a (.frz o u))) :=
  ⟨fun pins s σ H Q I q => thn (h.run pins s σ H _ I q) fun u s1 ⟨v, H1, I1, r1, q1⟩ => by
    rcases q1 with q1 | ⟨a, xs, e1, e2, mu, q1⟩
    · exact ⟨v, _, I1, r1, q1⟩
    · obtain ⟨o, I2⟩ := I1.lock e2 mu
      exact ⟨v, _, I2, r1, q1 o⟩⟩
def tFzV (i : Nat) : TD := fun E Q => match E[i]? with
  | some (.d x) => Q x E
  | some (.ol xs) => Q (.list xs) (E.set i (.d (.list xs)))
  | some (.dt kvs) => Q (.dict kvs) (E.set i (.d (.dict kvs)))
  | _ => False
theorem ed_fzv (i : Nat) (hN : X.N[i]? = some x := by rfl) (hv : Vis X.env.scope x := by first | exact Or.inl rfl | exact Or.inr (Or.inl rfl) | exact Or.inr (Or.inr rfl)) (hd : (x == ("__debug__" : Str)) = false := by decide)
    (hcd : (x == ("__classdict__" : Str)) = false := by decide) : ED X G (.Name x p0) (tFzV i) :=
  ⟨PE.weak (PE.fzIf (pe_var hN hv hd hcd)) fun σ H Q ⟨E, QE, r, q, k⟩ => by
    unfold tFzV at q
    split at q
    · rename_i d0 he
      obtain ⟨v, e1, e2⟩ := r.data he
      exact ⟨v, e1, .inl (k _ _ _ _ q (Ext.refl _) r e2)⟩
    · rename_i xs he
      obtain ⟨a, vs, e1, e2, e3⟩ := r.ol he
      exact ⟨_, e1, .inr ⟨a, _, rfl, e2, trivial, fun o => k _ _ _ _ q (Ext.put e2) (r.freezeV he e1 e2 e3) (.lst (.of upd_same) (e3.ext (Ext.put e2)))⟩⟩
    · rename_i kvs he
      obtain ⟨a, e1, es, e2, l, nd, sm⟩ := r.mutAt he rfl
      refine ⟨_, e1, .inr ⟨a, _, rfl, e2, trivial, fun o => ?_⟩⟩
      have x : Ext H (upd H a (.frz o (dO a es))) := Ext.putS e2 (fun _ z => by cases z) (fun _ _ z => by cases z)
      have p : Rp X.K (upd H a (.frz o (dO a es))) (.dict kvs) (.ref a) := .dct upd_same (l.ext x) nd sm
      exact k _ _ _ _ q x (r.freezeM he rfl e1 p) p
    · exact q.elim⟩
end
end DL
set_option Elab.async false
set_option linter.all false
set_option maxRecDepth 100000
set_option maxHeartbeats 1000000
/-! DL19: x > y of any data that is alike. -/
namespace DL
open PySem PySem.Spec PyProof.Rows L2
section
variable {X : Cx}
def opGtD : OpT := fun x y Q => (PySem.W.alike x y = true ∧ x ≠ .none ∧ x.depth ≤ 60 ∧ x.canLay0 = true ∧ y.canLay0 = true) ∧ Q (.bool (PySem.W.dataLt y x))
end
end DL
set_option Elab.async false
set_option linter.all false
set_option maxRecDepth 100000
set_option maxHeartbeats 1000000
/-! DL20: sum, min, max of a tuple of ints. -/
namespace DL
open PySem PySem.Spec PyProof.Rows L2
section
variable {X : Cx}
def caSumT : CaT := fun ds Q => match ds with
  | [.tuple xs] => ∃ ns : List Int, xs = ns.map PyData.int ∧ Q (.int ns.sum)
  | _ => False
def caMaxT : CaT := fun ds Q => match ds with
  | [.tuple xs] => ∃ ns : List Int, xs = ns.map PyData.int ∧ 0 < ns.length ∧ ∀ m, m ∈ ns → (∀ y, y ∈ ns → y ≤ m) → Q (.int m)
  | _ => False
def caMinT : CaT := fun ds Q => match ds with
  | [.tuple xs] => ∃ ns : List Int, xs = ns.map PyData.int ∧ 0 < ns.length ∧ ∀ m, m ∈ ns → (∀ y, y ∈ ns → m ≤ y) → Q (.int m)
  | _ => False
end
end DL
set_option Elab.async false
set_option linter.all false
set_option maxRecDepth 100000
set_option maxHeartbeats 1000000
/-! DL21: zip of a list and a tuple. -/
namespace DL
open PySem PySem.Spec PyProof.Rows L2
section
variable {X : Cx} {G : Gh} {a b : Expr} {p pos tpos : Pos} {elts : List Expr} {kk : Nat}
def iZipM (ta tb : TD) : TDs := fun E Q => ta E fun x E1 => tb E1 fun y E2 => match x, y with
  | .list xs, .tuple ys => Q (zipD xs ys) E2
  | _, _ => False
end
end DL
set_option Elab.async false
set_option linter.all false
set_option maxRecDepth 100000
set_option maxHeartbeats 1000000
/-! DL22: t[::-1] of a tuple, str of an int, tuple * int, a chain of three comparisons, zip of three tuples, a comprehension with effects. -/
namespace DL
open PySem PySem.Spec PyProof.Rows L2
section
variable {prog : Program} {w : World} {A : Around} {E : Value → Shared → Prop} {s : Shared}
theorem sliceApplied_rev {sl : Addr} {vs : Value} {n : Nat} {Q : Int × Int × Nat → Shared → Prop} (hs : s.heap.IsSliceOf sl .none .none vs) (ps : IsPart vs (some (-1)))
    (h : Q ((n : Int) - 1, -1, n) s) : wpAny (model prog w) A (Builtin.Slice.sliceApplied (.ref sl) (pure (n : Int))) Q E s := by
  obtain ⟨os, hos, hcs, hds⟩ := id hs
  unfold Builtin.Slice.sliceApplied Builtin.Slice.sliceFields
  refine wpAny_bind (wpAny_bind (wpAny_field hos hds (x := .none) rfl (wpAny_bind (wpAny_field hos hds (x := .none) rfl (wpAny_bind (wpAny_field hos hds (x := vs) rfl (wpAny_pure ?_)))))))
  refine wpAny_bind (HT.slicePart_ ps ?_)
  show wpAny _ _ (if ((-1 : Int) == 0) = true then _ else _) _ _ s
  rw [if_neg (by decide)]
  refine wpAny_bind (slicePart_none (wpAny_bind (slicePart_none (wpAny_bind (wpAny_pure ?_)))))
  show wpAny _ _ (pure ((n : Int) - 1, (-1 : Int), Builtin.Slice.slicePlaces ((n : Int) - 1) (-1) (-1))) _ _ s
  have e : Builtin.Slice.slicePlaces ((n : Int) - 1) (-1) (-1) = n := by
    unfold Builtin.Slice.slicePlaces
    rw [if_neg (by decide)]
    split
    · have : ((n : Int) - 1 - -1 - 1) / (- -1) = n - 1 := by
        rw [show (- -1 : Int) = 1 from rfl, Int.ediv_one]; omega
      rw [this]; omega
    · omega
  rw [e]
  exact wpAny_pure h
theorem fm_congr {α β : Type} {f g : α → Option β} : ∀ {l : List α}, (∀ k ∈ l, f k = g k) → l.filterMap f = l.filterMap g
  | [], _ => rfl
  | a :: l, h => by rw [List.filterMap_cons, List.filterMap_cons, h a (List.mem_cons_self ..), fm_congr fun k hk => h k (List.mem_cons_of_mem _ hk)]
theorem pick_rev (xs : Array Value) : ((List.range xs.size).filterMap fun (k : Nat) => xs[(((xs.size : Int) - 1) + (k : Int) * (-1)).toNat]?).toArray = xs.toList.reverse.toArray := by
  congr 1
  have h : ∀ k ∈ List.range xs.size, xs[(((xs.size : Int) - 1) + (k : Int) * (-1)).toNat]? = xs.toList.reverse[k]? := fun k hk => by
    have hk := List.mem_range.mp hk
    rw [show ((((xs.size : Int) - 1) + (k : Int) * (-1)).toNat) = xs.size - 1 - k by omega, List.getElem?_reverse (by simpa using hk)]
    simp
  rw [fm_congr h]
  have g : ∀ (l : List Value), (List.range l.length).filterMap (fun k => l[k]?) = l := by
    intro l
    refine List.ext_getElem? fun i => ?_
    have : (List.range l.length).filterMap (fun k => l[k]?) = l := by
      have e2 : (List.range l.length).filterMap (fun k => l[k]?) = (List.range l.length).attach.map fun p => l[p.1]'(List.mem_range.mp p.2) := by
        have : ∀ (m : List Nat) (hm : ∀ k ∈ m, k < l.length), m.filterMap (fun k => l[k]?) = m.attach.map fun p => l[p.1]'(hm p.1 p.2) := by
          intro m
          induction m with
          | nil => intro _; rfl
          | cons a m ih =>
            intro hm
            rw [List.filterMap_cons, List.getElem?_eq_getElem (hm a (List.mem_cons_self ..)), List.attach_cons, List.map_cons]
            dsimp only
            rw [ih fun k hk => hm k (List.mem_cons_of_mem _ hk), List.map_map]
            rfl
        exact this _ fun k hk => List.mem_range.mp hk
      rw [e2]
      refine List.ext_getElem (by simp) fun i h1 h2 => ?_
      simp
    rw [this]
  have := g xs.toList.reverse
  rw [List.length_reverse, Array.length_toList] at this
  exact this
theorem rev_tuple {t sl : Addr} {items : Array Value} {vs : Value} {Q : Value → Shared → Prop} (ht : IsTup s.heap t items) (hs : s.heap.IsSliceOf sl .none .none vs) (ps : IsPart vs (some (-1)))
    (h : Q (.ref s.heap.objs.size) { s with heap := s.heap.push { cls := .type "tuple", data := .seq items.toList.reverse.toArray } }) (hsz : items.size ≤ sizeLine) : wpAny (model prog w) A (getItem (.ref t) (.ref sl)) Q E s := by
  have htake : sizeOk (.seq items.toList.reverse.toArray) := by
    show items.toList.reverse.toArray.size ≤ sizeLine
    rw [List.size_toArray, List.length_reverse, Array.length_toList]; exact hsz
  obtain ⟨os, hos, hcs, hds⟩ := id hs
  have hTs : s.TypeIs (.ref sl) "slice" := ⟨os, hos, hcs⟩
  unfold getItem
  try with_reducible refine wpAny_holding ?_
  first | refine wpAny_bind (wpAny_pure ?_) | skip
  refine wpAny_bind (wpAny_sequenceKey ht.typeIs (by decide) ?_)
  refine wpAny_bind (wpAny_callSpecial?_slot (name := Str.ofString "__getitem__") ht.typeIs PyProof.Rows.slot_tuple_getitem
    (wpAny_call_entry PyProof.Rows.slot_tuple_getitem ht.typeIs entry_tuple_getitem ?_ (args_tuple_getitem _ _)))
  show wpAny _ _ (Builtin.Tuple.tupleItemsOf (.ref t) >>= _) _ _ s
  refine wpAny_bind (tupleItemsOf_ ht ?_)
  refine wpAny_bind (wpAny_typeOf hTs ?_)
  rw [if_pos (by decide)]
  refine wpAny_bind (sliceApplied_rev hs ps ?_)
  have hno : ¬ (((((items.size : Int) - 1) == 0 && (-1 : Int) == 1 && items.size == items.size) = true)) := by simp
  show wpAny _ _ (if (((items.size : Int) - 1) == 0 && (-1 : Int) == 1 && items.size == items.size) = true then _ else _) _ _ s
  rw [if_neg hno, pick_rev]
  first
    | exact wpAny_bind (m := Builtin.Tuple.tupleExact _) (wpAny_newObj_type (wpAny_pure ⟨_, rfl, wpAny_pure h⟩) htake)
    | exact wpAny_bind (m := Builtin.Tuple.tupleExact _) (wpAny_newObj_type (wpAny_bind (wpAny_pure (wpAny_pure ⟨_, rfl, wpAny_pure h⟩))) htake)
    | exact wpAny_bind (wpAny_bind (m := Builtin.Tuple.tupleExact _) (wpAny_newObj_type (wpAny_pure (wpAny_pure ⟨_, rfl, wpAny_pure h⟩)) htake))
    | exact wpAny_bind (wpAny_bind (m := Builtin.Tuple.tupleExact _) (wpAny_newObj_type (wpAny_pure ⟨_, rfl, wpAny_pure h⟩) htake))
end
section
variable {X : Cx} {G : Gh} {a b c d e : Expr} {pos p p1 p2 p3 : Pos}
theorem pe_revT {te : TE} {k : Nat} (he : PE X e te) : PE X (.Subscript e (.Slice none none (some (.UnaryOp .USub (.Constant (.int 1) k p1) p2)) p3) pos)
    (fun σ H Q => te σ H fun x H1 => ∃ a xs, x = .ref a ∧ SqT X.K H1 a xs ∧ ∀ p o, H1 p = none → o.dict = none → Q (.ref p) (upd H1 p (.frz o (.tup xs.reverse)))) := by
  refine ⟨fun pins s σ H Q I h => ?_⟩
  refine Subscript_ (thn (he.run pins s σ H _ I h) fun v s1 ⟨x, H1, I1, r1, q1⟩ => ?_)
  obtain ⟨a, xs, ex, hx, q⟩ := q1
  subst ex
  cases r1
  have hst : PO X (some (.UnaryOp .USub (.Constant (.int 1) k p1) p2)) (tPart (tUn (rU fun i => .int (-i)) (tC (.int 1)))) := po_some (pe_un un_neg pe_int)
  refine wpAny_Slice (thn (po_none.run pins s1 σ H1 (fun o H2 => o = none ∧ H2 = H1) I1 ⟨rfl, rfl⟩) fun vl s2 ⟨l, H2, I2, pl, el, e2⟩ => ?_)
  subst el e2
  refine thn (po_none.run pins s2 σ H2 (fun o H3 => o = none ∧ H3 = H2) I2 ⟨rfl, rfl⟩) fun vu s3 ⟨u, H3, I3, pu, eu, e3⟩ => ?_
  subst eu e3
  refine thn (hst.run pins s3 σ H3 (fun o H4 => o = some (-1) ∧ H4 = H3) I3 ⟨1, rfl, -1, rfl, rfl, rfl⟩) fun vs s4 ⟨o, H4, I4, ps, eo, e4⟩ => ?_
  subst eo e4
  have I5 : Inv X pins σ H4 { s4 with heap := s4.heap.push { cls := .type "slice", data := .fields #[vl, vu, vs] } } := I4.kept (t' := s4.toks) fun b ob q => Heap.get?_push_of_some _ q
  obtain ⟨its, r, ht, hz⟩ := I5.tuple hx
  have hlen := r.length
  cases pl
  cases pu
  show wpAny (model X.prog X.w) X.A (subscriptTail e (.Slice none none (some (.UnaryOp .USub (.Constant (.int 1) k p1) p2)) p3) (.ref a) (.ref s4.heap.objs.size)) (EP X pins σ Q) X.xe { s4 with heap := s4.heap.push { cls := .type "slice", data := .fields #[.none, .none, vs] } }
  refine tail_any (ops := [.ref a, .ref s4.heap.objs.size]) ht.typeIs (PyProof.Rows.slot_tuple_getitem.lookup) ?_ (by with_unfolding_all rfl)
  refine rev_tuple ht (Heap.IsSliceOf.new _ .none .none vs) ps ?_ (by rw [List.size_toArray]; omega)
  exact ⟨.ref _, _, I5.laid (t' := s4.toks) (o := .frz _ (.tup xs.reverse)) (fun b ob q => Heap.get?_push_of_some _ q) (Nat.le_refl _) ⟨Heap.get?_push_size _ rfl, by rw [List.length_reverse]; exact hz, _, r.reverse, IsTup.new _ _⟩, rfl, q _ _ (I5.hok.fresh (Nat.le_refl _)) rfl⟩
/-- t[::-1] of a tuple -/
def tRevT (ta : TD) : TD := fun E Q => ta E fun x E1 => match x with
  | .tuple xs => Q (.tuple xs.reverse) E1
  | _ => False
theorem ed_revT {k : Nat} {ta : TD} (ha : ED X G a ta) : ED X G (.Subscript a (.Slice none none (some (.UnaryOp .USub (.Constant (.int 1) k p1) p2)) p3) pos) (tRevT ta) :=
  ⟨PE.weak (pe_revT ha.pe) fun σ H Q ⟨E, QE, rel, q, k⟩ => ⟨E, _, rel, q, fun x E1 v H1 q1 x1 r1 p1 => by
    cases p1 with
    | tup hs ll => exact ⟨_, _, rfl, hs.1, fun p o hp ho => k _ _ _ _ q1 (x1.trans (PExt.new hp).ext) (r1.pext (PExt.new hp)) (.tup (.new ho) (ll.reverse.ext (PExt.new hp).ext))⟩
    | _ => exact q1.elim⟩⟩
/-! ### str of an int -/
def caStr : CaT := fun ds Q => match ds with
  | [.int i] => i.natAbs.log2 < 1920 ∧ Q (.str (toString i))
  | _ => False
/-! ### tuple * int -/
def opRepT : OpT := fun x y Q => match x, y with
  | .tuple xs, .int k => (xs ≠ [] ∧ 2 ≤ k ∧ k ≤ 1000 ∧ xs.length ≤ 1000) ∧ Q (.tuple (List.replicate k.toNat xs).flatten)
  | _, _ => False
/-! ### a op b op' c op'' d -/
def tChain3D (o o' o'' : OpT) (ta tb tc td : TD) : TD := fun E Q => ta E fun x E1 => tb E1 fun y E2 => o x y fun z => match z with
  | .bool true => tc E2 fun w E3 => o' y w fun z' => match z' with
    | .bool true => td E3 fun u E4 => o'' w u fun r => Q r E4
    | .bool false => Q (.bool false) E3
    | _ => False
  | .bool false => Q (.bool false) E2
  | _ => False
end
/-! ### a comprehension with effects: an invariant of what was found and the environment -/
theorem compD_inv {g : TGd} {tt : TTd} {te : TD} {ms : List Nat} (I : Nat → List D → Env → Prop) : ∀ (ds : List D) (k : Nat) (acc : List D) (E : Env) (Q : List D → Env → Prop), acc.length ≤ k → k + ds.length ≤ sizeLine → I k acc E →
    (∀ (i : Nat) (d : D) (acc : List D) (E : Env), ds[i]? = some d → I (k + i) acc E → ∀ R : Option D → Env → Prop, (∀ E', I (k + i + 1) acc E' → R none E') → (∀ y E', I (k + i + 1) (acc ++ [y]) E' → R (some y) E') → turnD g tt te d (wipeE E ms) R) →
    (∀ acc E, I (k + ds.length) acc E → Q acc E) → compD g tt te ms ds acc E Q
  | [], k, acc, E, Q, _, _, h0, _, hd => hd _ _ h0
  | d :: ds, k, acc, E, Q, hl, hz, h0, hs, hd => by
    show turnD g tt te d (wipeE E ms) _
    rw [List.length_cons] at hz
    have hs' : ∀ (i : Nat) (d : D) (acc : List D) (E : Env), ds[i]? = some d → I (k + 1 + i) acc E → ∀ R : Option D → Env → Prop, (∀ E', I (k + 1 + i + 1) acc E' → R none E') → (∀ y E', I (k + 1 + i + 1) (acc ++ [y]) E' → R (some y) E') → turnD g tt te d (wipeE E ms) R := fun i d acc E e h => by
      have := hs (i + 1) d acc E (by simpa using e) (by rw [show k + (i + 1) = k + 1 + i by omega]; exact h)
      rw [show k + (i + 1) = k + 1 + i by omega] at this
      exact this
    have hd' : ∀ acc E, I (k + 1 + ds.length) acc E → Q acc E := fun acc E h => hd acc E (by rw [List.length_cons, show k + (ds.length + 1) = k + 1 + ds.length by omega]; exact h)
    refine hs 0 d acc E rfl h0 _ (fun E' h => compD_inv I ds (k + 1) acc E' Q (by omega) (by omega) h hs' hd') fun y E' h => ⟨by omega, compD_inv I ds (k + 1) (acc ++ [y]) E' Q (by rw [List.length_append, List.length_cons, List.length_nil]; omega) (by omega) h hs' hd'⟩
theorem comp_inv {ti : TDs} {g : TGd} {tt : TTd} {te : TD} {ms : List Nat} {E E1 : Env} {Q : List D → Env → Prop} (ds : List D) (I : Nat → List D → Env → Prop) (hi : ∀ R : List D → Env → Prop, R ds E1 → ti E R) (hz : ds.length ≤ sizeLine) (h0 : I 0 [] E1)
    (hs : ∀ (i : Nat) (d : D) (acc : List D) (E : Env), ds[i]? = some d → I i acc E → ∀ R : Option D → Env → Prop, (∀ E', I (i + 1) acc E' → R none E') → (∀ y E', I (i + 1) (acc ++ [y]) E' → R (some y) E') → turnD g tt te d (wipeE E ms) R)
    (hd : ∀ acc E2, I ds.length acc E2 → Q acc (restE E1 E2 ms)) : tComp ti g tt te ms E Q :=
  hi _ (compD_inv I ds 0 [] E1 _ (Nat.le_refl _) (by omega) h0 (fun i d acc E e h => by rw [Nat.zero_add] at h ⊢; exact hs i d acc E e h) fun acc E2 h => hd acc E2 (by rw [Nat.zero_add] at h; exact h))
end DL
set_option Elab.async false
set_option linter.all false
set_option maxRecDepth 100000
set_option maxHeartbeats 1000000
/-! DL23: zip of three tuples. -/
namespace DL
open PySem PySem.Spec PyProof.Rows L2
end DL
set_option Elab.async false
set_option linter.all false
set_option maxRecDepth 100000
set_option maxHeartbeats 1000000
/-! DL24: the module's own constants. -/
namespace DL
open PySem PySem.Spec PyProof.Rows L2
end DL
set_option Elab.async false
set_option linter.all false
set_option maxRecDepth 100000
set_option maxHeartbeats 1000000
/-! DL25: max of a list of alike data, x < y of alike data. -/
namespace DL
open PySem PySem.Spec PyProof.Rows L2
section
variable {X : Cx}
theorem op_ltD (hu : X.A.units + 65 < cLine) : OpR X (compareOp .Lt) (fun x y H Q => ∃ d e, Dp X.K H x d ∧ Dp X.K H y e ∧ PySem.W.alike d e = true ∧ d ≠ .none ∧ d.depth ≤ 60 ∧ Q (.bl (PySem.W.dataLt d e)) H) := by
  intro pins s σ H x y v u Q I rx ry h
  obtain ⟨d, e, hd, he, al, nn, dp, q⟩ := h
  obtain ⟨as, r1⟩ := Dp.reads I d x v hd rx
  obtain ⟨bs, r2⟩ := Dp.reads I e y u he ry
  have : min d.depth e.depth ≤ d.depth := Nat.min_le_left _ _
  exact PySem.W.lt_data r1 r2 al nn (by omega) ⟨.bl _, H, I, rfl, q⟩
def opLtD : OpT := fun x y Q => (PySem.W.alike x y = true ∧ x ≠ .none ∧ x.depth ≤ 60 ∧ x.canLay0 = true ∧ y.canLay0 = true) ∧ Q (.bool (PySem.W.dataLt x y))
theorem od_ltD (hu : X.A.units + 65 < cLine) : OpD X (compareOp .Lt) opLtD := ⟨_, op_ltD hu, fun x y v u H QD Q hx hy q k => ⟨x, y, hx.dp q.1.2.2.2.1, hy.dp q.1.2.2.2.2, q.1.1, q.1.2.1, q.1.2.2.1, k _ _ _ q.2 (PExt.refl _) (.bl _)⟩⟩
end
end DL
set_option Elab.async false
set_option linter.all false
set_option maxRecDepth 100000
set_option maxHeartbeats 3200000
/-! DL26: set(t) of a tuple of pairs of ints, len and sorted of it. -/
namespace DL
open PySem PySem.Spec PyProof.Rows L2
section
variable {P : Program} {w : World} {A : Around} {E : Value → Shared → Prop} {s : Shared}
theorem set_of_tuple {l : Addr} {items : Array Value} (ks : List (Addr × List Int)) {Q : Value → Shared → Prop} (hh : A.handled = none) (hl : s.heap.IsTuple l items) (hit : items.toList = ks.map fun p => Value.ref p.1)
    (hk : ∀ p ∈ ks, IsT P w s.heap p.2 p.1) (hfew : ks.length < 64) (hu : A.units + 3 < cLine)
    (fin : ∀ (h' : Heap) (tk : Nat) L es ep t, SetTR P w h' s.heap.objs.size L es ep t → Got ks ks.length L → (∀ b o, s.heap.get? b = some o → h'.get? b = some o) → Q (.ref s.heap.objs.size) { s with heap := h', toks := tk }) :
    wpAny (model P w) A (call (.type "set") [.ref l]) Q E s := by
  have sz : items.size = ks.length := by
    have q := congrArg List.length hit
    rw [Array.length_toList, List.length_map] at q; exact q
  obtain ⟨cm, tlm, _⟩ := F.called_set.mro
  have made := F.called_set.made; have subs := F.called_set.sub
  refine wpAny_call (codeAny_of_tree ?_); show wpAny _ _ (callAny (.type "set") _) _ _ _
  refine wpAny_pure ⟨Code.quiet_builtin _ (by decide +kernel), codeAny_builtin F.entry_type_call ?_⟩; rw [Around.under_plain (weight_type_call_type "set" [.ref l] []) rfl]
  have n1 := F.called_set.notType; have n2 := F.called_set.canCreate; have n3 := F.typeCall_set_1 (.ref l)
  repeat (any_goals (first | assumption | wp_step))
  refine codeAny_mono (code_set_led1 (.ref l) (E := E) (Q₁ := fun ob s₁ => ob = .ref s.heap.objs.size ∧ s₁ = { s with heap := s.heap.push (nSet w) }) ⟨rfl, rfl⟩) fun res s₁ hres => ?_
  cases res with
  | error e => exact hres
  | ok fl =>
    cases fl with
    | ret ob =>
      obtain ⟨rfl, rfl⟩ := hres
      have there : (s.heap.push (nSet w)).get? s.heap.objs.size = some (nSet w) := Heap.get?_push_size _ rfl
      have isS : Shared.TypeIs { s with heap := s.heap.push (nSet w) } (.ref s.heap.objs.size) "set" := ⟨_, there, rfl⟩
      have i1 := F.called_set.init.lookup; have i2 := F.called_set.init.bind (.ref s.heap.objs.size)
      repeat (any_goals (first | assumption | wp_step))
      refine codeAny_mono (codeAny_call_builtin (R := wants (fun r s₂ => r = .none ∧ ∃ h' tk L es ep t, s₂ = { s with heap := h', toks := tk } ∧ SetTR P w h' s.heap.objs.size L es ep t ∧ Got ks ks.length L ∧ (∀ b o, s.heap.get? b = some o → h'.get? b = some o)) E) F.called_set.init.plain F.entry_set_init (check_set_init_1 isS ?_)) fun r₂ s₂ hr₂ => ?_
      · obtain ⟨⟨ocls, odict, odata, oslots⟩, hol, hcl, nl, hdl⟩ := id hl
        simp only at hcl hdl; subst hcl; subst hdl
        have lthere : (s.heap.push (nSet w)).get? l = some { cls := .type "tuple", dict := odict, data := .seq items nl, slots := oslots } := Heap.get?_push_of_some _ hol
        have s1 := F.sub_tuple_set; have s2 := F.sub_tuple_frozenset; have s3 : (Value.type "tuple" == Value.type "dict") = false := by decide
        have isL : (s.heap.push (nSet w)).IsTuple l items := hl.push _
        unfold Builtin.«set.__init__» noKeywords Builtin.Frozenset.updateFrom; generalize ePI : pyIter = PI
        wp_walk
        subst ePI
        refine wpAny_pyIter_tuple isL ?_; refine wpAny_bind (wpAny_runValue ?_)
        have lt : l < s.heap.objs.size := Heap.lt_size hol
        have calm3 : A.in1.in1.in1.handled = none := by simp [hh]
        have neI : l ≠ (s.heap.push (nSet w)).objs.size := by rw [Heap.size_push]; exact Nat.ne_of_lt (Nat.lt_succ_of_lt lt)
        have notin : s.heap.objs.size ∉ [(s.heap.push (nSet w)).objs.size, l] := by
          rw [Heap.size_push]; simp only [List.mem_cons, List.mem_singleton, List.not_mem_nil, or_false, not_or]; exact ⟨Nat.ne_of_lt (Nat.lt_succ_self _), Nat.ne_of_gt lt⟩
        have vals : ∀ (i : Nat) (v : Value), items[i]? = some v → ∃ p, ks[i]? = some p ∧ v = .ref p.1 := fun i v hv => by
          have q : items.toList[i]? = some v := by rw [Array.getElem?_toList]; exact hv
          rw [hit, List.getElem?_map, Option.map_eq_some_iff] at q
          obtain ⟨p, hp, e⟩ := q
          exact ⟨p, hp, e.symm⟩
        have none_of : ∀ b, s.heap.objs.size ≤ b → s.heap.get? b = none := fun b hb => by
          cases q : s.heap.get? b with
          | none => rfl
          | some o => exact absurd (Nat.lt_of_lt_of_le (Heap.lt_size q) hb) (Nat.lt_irrefl _)
        refine set_update_tups ((Walks.tuple calm3 _ l neI items).toS) s.heap.objs.size notin ks sz hfew vals s.heap hk (none_of _ (Nat.le_refl _)) (fun b hb => none_of b (by rw [List.mem_singleton.mp hb, Heap.size_push]; exact Nat.le_succ _)) hu (items.size - 0) 0 _ (by omega) (Nat.zero_le _) ⟨⟨_, Heap.get?_push_size _ rfl, rfl, rfl⟩, (isL.push _)⟩ (fun b o e => Heap.get?_push_of_some _ (Heap.get?_push_of_some _ e)) ⟨[], #[], 0, _, setTR_fresh (Heap.get?_push_of_some _ there), Got.zero ks⟩ fun s' L es ep t hm hS' g' hkp => ?_
        obtain ⟨h', g2, d', tk', os'⟩ := s'
        have eg : g2 = s.gens := hm.gens; have ed : d' = s.drawn := hm.drawn; have eo : os' = s.os := hm.os
        subst eg; subst ed; subst eo
        show wpAny _ _ _ _ _ _
        refine wpAny_pure ?_; show wpAny _ _ (ret Value.none) _ _ _
        rw [sz] at g'; exact wpAny_pure ⟨rfl, h', tk', L, es, ep, t, rfl, hS', g', hkp⟩
      · cases r₂ with
        | error e => exact hr₂
        | ok fl₂ =>
          cases fl₂ with
          | ret r =>
            obtain ⟨rfl, h', tk, L, es, ep, t, rfl, hS', g', hk'⟩ := hr₂
            repeat (any_goals (first | assumption | wp_step))
            exact fin _ _ _ _ _ _ hS' g' hk'
          | _ => exact hr₂.elim
    | _ => exact hres.elim
end
section
variable {X : Cx} {G : Gh} {a : Expr} {pos p p1 p2 p3 : Pos}
theorem cr_setTT (hc : X.calm = true) (hu : X.A.units + 64 < cLine) : CallR X (.type "set") (fun xs H Q => ∃ (l : Addr) (ks : List (Addr × List Int)), xs = [V.ref l] ∧ SqT X.K H l (ks.map fun p => V.ref p.1) ∧ (∀ p ∈ ks, SqT X.K H p.1 (p.2.map V.int)) ∧ ks.length < 64 ∧
    ∀ a L, H a = none → (∀ p ∈ L, p ∈ ks) → (∀ p ∈ ks, p.2 ∈ L.map (·.2)) → Q (.ref a) (upd H a (SetTO X.prog X.w a L))) := by
  intro pins s σ H xs us Q I r h
  obtain ⟨l, ks, rfl, hl, hk, hf, q⟩ := h
  rw [Vals.ref1 r]
  obtain ⟨its, rv, pl, hz⟩ := I.tuple hl
  have hn : H s.heap.objs.size = none := I.hok.fresh (Nat.le_refl _)
  refine set_of_tuple (P := X.prog) (w := X.w) ks (I.ok.hd hc) pl (by simpa using refs_of_vals rv) (fun p hp => I.isT (hk p hp)) hf (by omega) fun h' tk L es ep t R g k => ?_
  refine ⟨.ref s.heap.objs.size, upd H s.heap.objs.size (SetTO X.prog X.w s.heap.objs.size L), I.laid (t' := tk) k (Nat.le_refl _) (setTO_new R.t0), rfl, q _ L hn (fun p hp => ?_) fun p hp => ?_⟩
  · exact List.mem_of_mem_take (g.sub p hp)
  · exact g.all p (by rw [List.take_length]; exact hp)
theorem cr_lenT : CallR X (.builtin "len") (fun vs H Q => ∃ (a : Addr) (L : List (Addr × List Int)), vs = [V.ref a] ∧ H a = some (SetTO X.prog X.w a L) ∧ (∀ p ∈ L, SqT X.K H p.1 (p.2.map V.int)) ∧ ((L.map (·.2)).Nodup → Q (.int L.length) H)) := by
  intro pins s σ H vs us Q I r h
  obtain ⟨a, L, rfl, ha, hk, q⟩ := h
  have R0 : SetT0 X.prog X.w s.heap a L := (I.hok a _ ha).1
  obtain ⟨es, ep, t, R⟩ := R0.full fun p hp => I.isT (hk p hp)
  rw [Vals.ref1 r]
  obtain ⟨o, ho, hex, hd⟩ := R.ob
  have hs := R.size
  have hw := R.few
  exact call_len_set ho hex hd R.fits (by omega) ⟨.int L.length, H, I.tok _, ⟨_, by rw [hs]⟩, q R.nd⟩
end
end DL
set_option Elab.async false
set_option linter.all false
set_option maxRecDepth 100000
set_option maxHeartbeats 3200000
/-! DL27: len(set(t)), sorted(set(t)) of a tuple of pairs of ints. -/
namespace DL
open PySem PySem.Spec PyProof.Rows L2
def pE (c : Int × Int) : D := .tuple [.int c.1, .int c.2]
def prL (c : Int × Int) : List Int := [c.1, c.2]
def dP (l : List Int) : Int × Int := (l.getD 0 0, l.getD 1 0)
theorem dP_prL (c : Int × Int) : dP (prL c) = c := rfl
def ltC (a b : Int × Int) : Prop := a.1 < b.1 ∨ (a.1 = b.1 ∧ a.2 < b.2)
/-- a row of pairs: where they stand -/
theorem pairs_ks {K : PySem.W.Frag} {H : Hp} : ∀ {cs : List (Int × Int)} {vs : List V}, RpL K H (cs.map pE) vs → ∃ ks : List (Addr × List Int), vs = ks.map (fun p => V.ref p.1) ∧ ks.map (·.2) = cs.map prL ∧ ∀ p ∈ ks, Rp K H (.tuple (p.2.map PyData.int)) (.ref p.1)
  | [], _, .nil => ⟨[], rfl, rfl, fun p hp => by cases hp⟩
  | c :: cs, _, .cons h l => by
    obtain ⟨ks, rfl, e, hk⟩ := pairs_ks l
    have h' : Rp K H (.tuple ((prL c).map PyData.int)) _ := h
    cases h' with
    | tup hs ll =>
      rename_i a vs
      refine ⟨(a, prL c) :: ks, rfl, by rw [List.map_cons, List.map_cons, e], fun p hp => ?_⟩
      rcases List.mem_cons.mp hp with rfl | hp
      · exact .tup hs ll
      · exact hk p hp
theorem Rp.ints_sq {K : PySem.W.Frag} {H : Hp} {ns : List Int} {a : Addr} (h : Rp K H (.tuple (ns.map PyData.int)) (.ref a)) : SqT K H a (ns.map V.int) := by
  generalize e : PyData.tuple (ns.map PyData.int) = d at h
  cases h with
  | tup hs ll =>
    injection e with e
    rw [← e] at ll
    rw [ll.ints] at hs
    exact hs.1
  | lst _ _ => cases e
  | dct _ _ _ _ => cases e
  | hdl _ => cases e
  | dck _ _ _ _ => cases e
section
variable {X : Cx} {G : Gh} {a : Expr} {pos p p1 p2 p3 : Pos}
def tLenSetP (ta : TD) : TD := fun E Q => ta E fun x E1 => match x with
  | .tuple xs => ∃ cs : List (Int × Int), xs = cs.map pE ∧ cs.length < 64 ∧ ∀ zs : List (Int × Int), zs.Nodup → (∀ c, c ∈ zs ↔ c ∈ cs) → Q (.int (zs.length : Nat)) E1
  | _ => False
theorem zs_of {cs : List (Int × Int)} {ks L : List (Addr × List Int)} (e : ks.map (·.2) = cs.map prL) (h1 : ∀ p ∈ L, p ∈ ks) (h2 : ∀ p ∈ ks, p.2 ∈ L.map (·.2)) : (∀ p ∈ L, p.2 = prL (dP p.2)) ∧ (∀ c, c ∈ L.map (fun p => dP p.2) ↔ c ∈ cs) := by
  have k : ∀ p ∈ ks, ∃ c ∈ cs, p.2 = prL c := fun p hp => by
    have : p.2 ∈ cs.map prL := by rw [← e]; exact List.mem_map_of_mem hp
    obtain ⟨c, hc, e⟩ := List.mem_map.mp this
    exact ⟨c, hc, e.symm⟩
  refine ⟨fun p hp => ?_, fun c => ⟨fun h => ?_, fun h => ?_⟩⟩
  · obtain ⟨c, _, e⟩ := k p (h1 p hp)
    rw [e, dP_prL]
  · obtain ⟨p, hp, rfl⟩ := List.mem_map.mp h
    obtain ⟨c, hc, e⟩ := k p (h1 p hp)
    rw [e, dP_prL]; exact hc
  · have : prL c ∈ ks.map (·.2) := by rw [e]; exact List.mem_map_of_mem h
    obtain ⟨p, hp, e2⟩ := List.mem_map.mp this
    obtain ⟨q, hq, e3⟩ := List.mem_map.mp (h2 p hp)
    refine List.mem_map.mpr ⟨q, hq, ?_⟩
    show dP q.2 = c
    rw [show q.2 = p.2 from e3, show p.2 = prL c from e2, dP_prL]
theorem nd_of_zs {L : List (Addr × List Int)} (h : ∀ p ∈ L, p.2 = prL (dP p.2)) (nd : (L.map (·.2)).Nodup) : (L.map (fun p => dP p.2)).Nodup := by
  have e : L.map (·.2) = (L.map (fun p => dP p.2)).map prL := by
    rw [List.map_map]; exact List.map_congr_left fun p hp => h p hp
  rw [e] at nd
  exact nd.of_map _ fun a b hne h => hne (by rw [h])
theorem ed_lenSetP {ta : TD} (ha : ED X G a ta) (hu : X.A.units + 65 < cLine) (hg : Gl X "len") (hm : X.mg "len" = none) (hg2 : Gl X "set") (hm2 : X.mg "set" = none) (hc : X.calm = true := by rfl)
    (hs : starEach [a] X.env = (false, eval a X.env) :: starEach [] X.env := by rfl) : ED X G (.Call (.Name "len" p) [.Call (.Name "set" p1) [a] [] p2] [] pos) (tLenSetP ta) := by
  refine ⟨PE.weak (pe_callB cr_lenT hg hm bb_len (pa_cons (pe_callTy (cr_setTT hc (by omega)) hg2 hm2 PyProof.Rows.boot_set (pa_cons ha.pe pa_nil hs) (by decide) (by decide) hs) pa_nil)) fun σ H Q ⟨E, QE, rel, q, k⟩ => ⟨E, _, rel, q, fun x E1 v H1 q1 x1 r1 p1 => ?_⟩⟩
  cases p1 with
  | tup h1 l1 =>
    obtain ⟨cs, rfl, hl, q1⟩ := q1
    obtain ⟨ks, rfl, e, hk⟩ := pairs_ks l1
    have hlen : ks.length = cs.length := by have := congrArg List.length e; simpa using this
    refine ⟨_, ks, rfl, h1.1, fun p hp => (hk p hp).ints_sq, by omega, fun a L hn m1 m2 => ⟨a, L, rfl, upd_same, fun p hp => SqT.ext (PExt.new hn).ext (hk p (m1 p hp)).ints_sq, fun nd => ?_⟩⟩
    obtain ⟨z1, z2⟩ := zs_of e m1 m2
    have := q1 _ (nd_of_zs z1 nd) z2
    rw [List.length_map] at this
    exact k _ _ _ _ this (x1.trans (PExt.new hn).ext) (r1.pext (PExt.new hn)) (.int _)
  | _ => exact q1.elim
def tSortSetP (ta : TD) : TLd := fun E Q => ta E fun x E1 => match x with
  | .tuple xs => ∃ cs : List (Int × Int), xs = cs.map pE ∧ cs.length < 64 ∧ (∀ c ∈ cs, (0 ≤ c.1 ∧ c.1 < 64) ∧ (0 ≤ c.2 ∧ c.2 < 64)) ∧ ∀ zs : List (Int × Int), zs.Pairwise ltC → (∀ c, c ∈ zs ↔ c ∈ cs) → Q (zs.map pE) E1
  | _ => False
end
end DL
set_option Elab.async false
set_option linter.all false
set_option maxRecDepth 100000
set_option maxHeartbeats 1000000
/-! DL28: chains of comparisons as tests. -/
namespace DL
open PySem PySem.Spec PyProof.Rows L2
section
variable {X : Cx} {G : Gh} {a b c d e : Expr} {pos p p1 p2 p3 : Pos}
theorem tBo_lift {t : TD} {σ : St} {H : Hp} {Q : Bool → Hp → Prop} (h : liftT X.K G (tBo t) σ H Q) : liftE X.K G t σ H fun x H' => ∃ k, x = .bl k ∧ Q k H' := by
  obtain ⟨E, QE, rel, q, k⟩ := h
  refine ⟨E, _, rel, q, fun d E' v H' q1 x1 r1 p1 => ?_⟩
  cases p1 with
  | bl b => exact ⟨b, rfl, k b E' H' q1 x1 r1⟩
  | _ => exact q1.elim
theorem eb_chain {op op' : CmpOp} {o o' : OpT} {ta tb tc : TD} (ho : OpD X (compareOp op) o) (ho' : OpD X (compareOp op') o') (ha : ED X G a ta) (hb : ED X G b tb) (hc : ED X G c tc)
    (h1 : lastMarks [op, op'] [b, c] = false := by with_unfolding_all rfl) : EB X G (.Compare a [op, op'] [b, c] pos) (tBo (tChainD o o' ta tb tc)) := by
  obtain ⟨r, hr, hq⟩ := ho
  obtain ⟨r', hr', hq'⟩ := ho'
  refine ⟨PT.weak (pt_chain hr hr' ha.pe hb.pe hc.pe h1) fun σ H Q h => ?_⟩
  obtain ⟨E, QE, rel, q, k⟩ := tBo_lift h
  refine ⟨E, _, rel, q, fun x E1 v H1 q1 x1 r1 p1 => ⟨E1, _, r1, q1, fun y E2 u H2 q2 x2 r2 p2 => ?_⟩⟩
  refine hq x y v u H2 _ _ (.inl (p1.ext x2)) (.inl p2) q2 fun z w H3 q3 px rz => ?_
  cases rz with
  | bl b =>
    refine ⟨b, rfl, ?_⟩
    cases b with
    | true =>
      refine iteT ⟨E2, _, r2.pext px, q3, fun c E3 w H4 q4 x4 r4 p4 => ?_⟩
      exact hq' y c u w H4 _ _ (.inl ((p2.ext px.ext).ext x4)) (.inl p4) q4 fun z w H5 q5 px5 rz5 => k _ _ _ _ q5 ((((x1.trans x2).trans px.ext).trans x4).trans px5.ext) (r4.pext px5) rz5
    | false => exact iteF (k _ _ _ _ q3 ((x1.trans x2).trans px.ext) (r2.pext px) (.bl false))
  | _ => exact q3.elim
end
end DL
set_option Elab.async false
set_option linter.all false
set_option maxRecDepth 100000
set_option maxHeartbeats 1000000
/-! DL29: dicts whose keys are tuples of ints (nested): look-up, store, in. -/
namespace DL
open PySem PySem.Spec PyProof.Rows L2
def valN (kvs : List (D × D)) (k : D) : Option D := (kvs.find? fun p => decide (nkOf p.1 = nkOf k)).map (·.2)
def putN (kvs : List (D × D)) (k v : D) : List (D × D) := if (valN kvs k).isSome then kvs.map (fun p => if nkOf p.1 = nkOf k then (p.1, v) else p) else kvs ++ [(k, v)]
theorem valN_cons (p : D × D) (kvs : List (D × D)) (k : D) : valN (p :: kvs) k = if nkOf p.1 = nkOf k then some p.2 else valN kvs k := by
  unfold valN
  rw [List.find?_cons]
  by_cases h : nkOf p.1 = nkOf k
  · simp [h]
  · simp [h]
abbrev TR (K : PySem.W.Frag) (H : Hp) : List (D × D) → List (NestedKey × Addr × Value) → Prop :=
  Paired fun p x => (∃ l, p.1 = .tuple l) ∧ nkOf p.1 = some x.1 ∧ x.1.depth ≤ 8 ∧ Rp K H p.1 (.ref x.2.1) ∧ ∃ v, Rp K H p.2 v ∧ RelV v x.2.2
section
variable {K : PySem.W.Frag} {H : Hp} {P : Program} {w : World}
theorem RpD.tr (P : Program) (w : World) : ∀ {kvs : List (D × D)} {es : List DictEntry}, RpD K H kvs es → ∃ xs, TR K H kvs xs ∧ es = xs.map (entryOfKey (nestedKind P w))
  | _, _, .nil => ⟨[], .nil, rfl⟩
  | _, _, .cons (nk := nk) (b := b) (v := v) (e := e) t n1 n2 n3 e1 h g r l => by
    obtain ⟨xs, h1, rfl⟩ := RpD.tr P w l
    refine ⟨(nk, b, e.val) :: xs, .cons ⟨t, n1, n2, h, v, g, r⟩ h1, ?_⟩
    rw [List.map_cons]
    congr 1
    obtain ⟨eh, ek, ev⟩ := e
    have hh : eh = nk.hash w := n3 w
    have hk : ek = Value.ref b := e1
    subst hh hk
    rfl
theorem TR.ext {H' : Hp} (x : Ext H H') {kvs : List (D × D)} {xs : List (NestedKey × Addr × Value)} (h : TR K H kvs xs) : TR K H' kvs xs :=
  Paired.mapP h fun _ _ ⟨h1, h2, h3, h4, v, h5, h6⟩ => ⟨h1, h2, h3, h4.ext x, v, h5.ext x, h6⟩
theorem TR.keys {kvs : List (D × D)} {xs : List (NestedKey × Addr × Value)} (h : TR K H kvs xs) (nd : (kvs.map fun p => nkOf p.1).Nodup) : (xs.map (·.1)).Nodup := by
  have e : kvs.map (fun p => nkOf p.1) = (xs.map (·.1)).map some := by
    unfold TR at h
    induction h with
    | nil => rfl
    | cons q t ih => 
      rw [List.map_cons, List.map_cons, List.map_cons, q.2.1, ih (List.nodup_cons.mp (by simpa using nd)).2]
  rw [e] at nd
  exact (List.pairwise_map.mp nd).imp fun h z => h (by rw [z])
/-- what stands at a key -/
theorem TR.val {kvs : List (D × D)} {xs : List (NestedKey × Addr × Value)} (h : TR K H kvs xs) {k : D} {nk : NestedKey} (e : nkOf k = some nk) :
    (∀ d, valN kvs k = some d → ∃ p v, atKey xs nk = some p ∧ Rp K H d v ∧ RelV v p.2) ∧ (valN kvs k = none → atKey xs nk = none) := by
  unfold TR at h
  induction h with
  | nil => exact ⟨fun d hd => by simp [valN] at hd, fun _ => rfl⟩
  | @cons p x ps xs q t ih =>
    obtain ⟨h1, h2, h3, h4, v, h5, h6⟩ := q
    rw [valN_cons]
    by_cases hk : nkOf p.1 = nkOf k
    · have hx : x.1 = nk := by rw [h2, e] at hk; exact Option.some.inj hk
      rw [if_pos hk]
      refine ⟨fun d hd => ?_, fun z => nomatch z⟩
      cases hd
      exact ⟨x.2, v, by simp [atKey, hx], h5, h6⟩
    · have hx : ¬ x.1 = nk := fun z => hk (by rw [h2, e, z])
      rw [if_neg hk]
      have : atKey (x :: xs) nk = atKey xs nk := by simp [atKey, hx]
      rw [this]; exact ih
theorem TR.isSome {kvs : List (D × D)} {xs : List (NestedKey × Addr × Value)} (h : TR K H kvs xs) {k : D} {nk : NestedKey} (e : nkOf k = some nk) : (atKey xs nk).isSome = (valN kvs k).isSome := by
  obtain ⟨h1, h2⟩ := h.val e
  cases q : valN kvs k with
  | none => rw [h2 q]; rfl
  | some d => obtain ⟨p, v, hp, _⟩ := h1 d q; rw [hp]; rfl
end
end DL
set_option Elab.async false
set_option linter.all false
set_option maxRecDepth 100000
set_option maxHeartbeats 1000000
/-! DL30: rules for dicts whose keys are tuples of ints. -/
namespace DL
open PySem PySem.Spec PyProof.Rows L2
section
variable {X : Cx} {G : Gh} {pins : List (Addr × Obj)} {σ : St} {H : Hp} {s : Shared}
mutual
theorem nested_of (I : Inv X pins σ H s) : ∀ {d : D} {v : V} {u : Value} {k : NestedKey}, nkOf d = some k → Rp X.K H d v → RelV v u → NestedIs s.heap k u
  | .int i, v, u, k, h, r, q => by
    unfold nkOf at h; cases h; cases r
    obtain ⟨t, rfl⟩ := (show ∃ t, u = Value.int i t from q)
    exact .int i t
  | .tuple xs, v, u, k, h, r, q => by
    unfold nkOf at h
    obtain ⟨ks, h1, rfl⟩ := Option.map_eq_some_iff.mp h
    cases r with
    | tup hs l =>
      rename_i a vs
      obtain rfl : u = Value.ref a := q
      obtain ⟨its, rv, ⟨o, ho, hc, n, hd⟩, hz⟩ := I.tuple hs.1
      exact .tup ho hc hd (by simpa using nested_all I h1 l rv)
  | .none, _, _, k, h, _, _ => by simp [nkOf] at h
  | .bool _, _, _, k, h, _, _ => by simp [nkOf] at h
  | .str _, _, _, k, h, _, _ => by simp [nkOf] at h
  | .list _, _, _, k, h, _, _ => by simp [nkOf] at h
  | .dict _, _, _, k, h, _, _ => by simp [nkOf] at h
theorem nested_all (I : Inv X pins σ H s) : ∀ {ds : List D} {vs : List V} {us : List Value} {ks : List NestedKey}, nksOf ds = some ks → RpL X.K H ds vs → Vals vs us → NestedAll s.heap ks us
  | [], _, _, ks, h, r, q => by unfold nksOf at h; cases h; cases r; cases q; exact .nil
  | d :: ds, _, _, ks, h, r, q => by
    unfold nksOf at h
    split at h
    · rename_i k ks' h1 h2
      cases h
      cases r with
      | cons r1 r2 =>
        cases q with
        | cons q1 q2 => exact .cons (nested_of I h1 r1 q1) (nested_all I h2 r2 q2)
    · cases h
end
/-- a key -/
def keyB (d : D) : Bool := match d with
  | .tuple xs => match nksOf xs with
    | some ks => decide (NestedKey.depthAll ks ≤ 7)
    | none => false
  | _ => false
/-- a dict that is read -/
def DN (K : PySem.W.Frag) (H : Hp) (a : Addr) (kvs : List (D × D)) : Prop := ∃ es, Rd H a (dO a es) ∧ RpD K H kvs es ∧ (kvs.map fun p => nkOf p.1).Nodup ∧ (a == sysModules) = false
theorem DN.at (I : Inv X pins σ H s) {a : Addr} {kvs : List (D × D)} (h : DN X.K H a kvs) : ∃ xs, TR X.K H kvs xs ∧ s.heap.DictOfH (nestedKind X.prog X.w) a xs ∧ (a == sysModules) = false := by
  obtain ⟨es, e, l, nd, sm⟩ := h
  obtain ⟨xs, tr, rfl⟩ := l.tr X.prog X.w
  obtain ⟨⟨o, ep, h1, h2, h3⟩, _⟩ := e.ok I.hok
  refine ⟨xs, tr, ⟨o, _, ep, h1, h2, h3, by simp, ?_, tr.keys nd⟩, sm⟩
  intro x hx
  have : ∀ (kvs : List (D × D)) (xs : List (NestedKey × Addr × Value)), TR X.K H kvs xs → ∀ x ∈ xs, (nestedKind X.prog X.w).is s.heap x.1 x.2.1 := by
    intro kvs xs t
    unfold TR at t
    induction t with
    | nil => intro x hx; cases hx
    | cons q t ih =>
      intro x hx
      rcases List.mem_cons.mp hx with rfl | hx
      · exact ⟨nested_of I q.2.1 q.2.2.2.1 rfl, q.2.2.1⟩
      · exact ih x hx
  exact this kvs xs tr x hx
/-! ### expressions -/
variable {o i e f value : Expr} {pos pos' tpos apos cpos : Pos} {td ty tv tx : TE}
end
end DL
set_option Elab.async false
set_option linter.all false
set_option maxRecDepth 100000
set_option maxHeartbeats 1000000
/-! DL31: dicts over data. -/
namespace DL
open PySem PySem.Spec PyProof.Rows L2
theorem keyB_2 (a b : Int) : keyB (.tuple [.int a, .int b]) = true := rfl
theorem keyB_3 (a b c : Int) : keyB (.tuple [.int a, .int b, .int c]) = true := rfl
theorem keyB_4 (a b c d : Int) : keyB (.tuple [.int a, .int b, .int c, .int d]) = true := rfl
def dictAt (E : Env) (i : Nat) : Option (List (D × D)) := match E[i]? with
  | some (.dt kvs) => some kvs
  | some (.d (.dict kvs)) => some kvs
  | _ => none
def tupKeys (kvs : List (D × D)) : Bool := kvs.all fun p => match p.1 with
  | .tuple _ => true
  | _ => false
def optQ {α : Type} (o : Option α) (Q : α → Prop) : Prop := match o with
  | some d => Q d
  | none => False
section
variable {K : PySem.W.Frag} {G : Gh} {H : Hp} {E : Env} {σ : St} {ex : List Addr}
theorem Rd.pext {H' : Hp} (p : PExt H H') {a : Addr} {u : HO} (h : Rd H a u) : Rd H' a u := by
  rcases h with h | ⟨o, h⟩
  · exact .inl (p _ _ h)
  · exact .inr ⟨o, p _ _ h⟩
end
section
variable {X : Cx} {G : Gh} {a b c e f : Expr} {es : List Expr} {pos pos' p0 apos cpos : Pos} {x : Str} {tk tv tx ta : TD}
/-- d[k], d a name -/
def tDGetV (i : Nat) (tk : TD) : TD := fun E Q => match dictAt E i with
  | some _ => tk E fun k E1 => match dictAt E1 i with
    | some kvs => keyB k = true ∧ optQ (valN kvs k) fun d => Q d E1
    | none => False
  | none => False
/-- d[k], d data -/
def tDGetD (ta tk : TD) : TD := fun E Q => ta E fun x E1 => tk E1 fun k E2 => match x with
  | .dict kvs => keyB k = true ∧ optQ (valN kvs k) fun d => Q d E2
  | _ => False
/-- d.get(k, x), d a name -/
def tDGet2V (i : Nat) (tk tx : TD) : TD := fun E Q => match dictAt E i with
  | some kvs0 => tupKeys kvs0 = true ∧ tk E fun k E1 => tx E1 fun z E2 => match dictAt E2 i with
    | some kvs => keyB k = true ∧ tupKeys kvs = true ∧ Q ((valN kvs k).getD z) E2
    | none => False
  | none => False
/-- k in d, d a name of a dict of one's own -/
def tInN (tk : TD) (i : Nat) : TTd := fun E Q => tk E fun k E1 => match E1[i]? with
  | some (.dt kvs) => keyB k = true ∧ Q (valN kvs k).isSome E1
  | _ => False
def tNotInN (tk : TD) (i : Nat) : TTd := fun E Q => tk E fun k E1 => match E1[i]? with
  | some (.dt kvs) => keyB k = true ∧ Q (!(valN kvs k).isSome) E1
  | _ => False
/-- d[k] = v -/
def sDPutV (i : Nat) (tk tv : TD) : TSd := fun DE E => tv E fun d E1 => match E1[i]? with
  | some (.dt _) => tk E1 fun k E2 => match E2[i]? with
    | some (.dt kvs) => keyB k = true ∧ kvs.length < sizeLine ∧ DE.nx (E2.set i (.dt (putN kvs k d)))
    | _ => False
  | _ => False
/-! ### new mutable things -/
abbrev TM := Env → (S → Env → Prop) → Prop
def liftM (K : PySem.W.Frag) (G : Gh) (t : TM) : TE := fun σ H Q => ∃ (E : Env) (QE : S → Env → Prop), RelE K G H E σ ∧ t E QE ∧
  ∀ s E' a H', QE s E' → Ext H H' → RelX K G [a] H' E' σ → G.H0 a = none → a ∉ G.addrs → RelM K H' s a → Q (.ref a) H'
structure EM (X : Cx) (G : Gh) (e : Expr) (t : TM) : Prop where
  pe : PE X e (liftM X.K G t)
def mDt : TM := fun E Q => Q (.dt []) E
def mDk : TM := fun E Q => Q (.dk []) E
def sSetM (i : Nat) (t : TM) : TSd := fun DE E => t E fun s E1 => DE.nx (E1.set i s)
def pM (t : TM) (u : TPs) : TPs := fun E Q => t E fun s E1 => u E1 fun ss E2 => Q (s :: ss) E2
end
end DL
set_option Elab.async false
set_option linter.all false
set_option maxRecDepth 100000
set_option maxHeartbeats 1000000
/-! DL32: defs that may raise: raise X(), calls of such defs, try .. except X. -/
namespace DL
open PySem PySem.Spec PyProof.Rows L2
/-- X() -/
theorem pmk_own0 {X : Cx} {C : Addr} {bmB : List Value} {B newId initId : String} {x : Str} {p pos : Pos} (F : ExcBaseFacts B newId initId bmB) (q : PySem.W.excIn X.K C bmB newId = true) (gC : X.mg x = some (.ref C)) (kC : PySem.W.keepIn X.K (.ref C) = true) (r : Raises X (.ref C)) (hg : Gl X x)
    (hdb : (x == ("__debug__" : Str)) = false := by decide) : PMk X (.Call (.Name x p) [] [] pos) (fun _ H Q => Q (.ref C) none H) := by
  intro pins s σ H Q I h
  refine wpAny_Call_Name_kw (ld_glob I hg gC ?_ hdb)
  refine PySem.W.callWith_K0 I.kIn kC ?_
  show wpAny _ _ (call (.ref C) []) _ _ _
  obtain ⟨bm, N, nm, qn, bs, hdct, sn, sub, ab, col, dd, k0, k1, k2, k3, k5, mN, hC, hN, hni, T⟩ := exc_obj I.kIn q
  refine wpAny_call_exc_subT F T hC hN hni (fun h' e hm => ?_) (by show 0 ≤ sizeLine; exact Nat.zero_le _)
  exact mk_of I hm r h (I.hok.gone hm.new)
/-- an own class catches itself, and what stands below it -/
theorem exm_sub {K : PySem.W.Frag} {S T : Addr} {b : Bool} (h1 : PySem.W.subIn K (.ref T) (.type "BaseException") = some true) (h2 : PySem.W.isClsIn K T = true) (h3 : PySem.W.typeIn K (.ref T) = some (.type "type")) (h4 : PySem.W.subIn K (.ref S) (.ref T) = some b) : PySem.W.exmOne K (.ref S) (.ref T) = some b := by
  unfold PySem.W.exmOne
  rw [h1, if_pos (by rfl)]
  have e2 : ((PySem.W.clsIn K T).isSome && PySem.W.typeIn K (.ref T) == some (.type "type")) = true := by
    have h2' : (PySem.W.clsIn K T).isSome = true := h2
    rw [h2', h3] <;> rfl
  show (if ((PySem.W.clsIn K T).isSome && PySem.W.typeIn K (.ref T) == some (.type "type")) = true then PySem.W.subIn K (.ref S) (.ref T) else none) = some b
  rw [if_pos e2]
  exact h4
/-- a def's promise: what it gives, what it raises -/
abbrev SpX := List S → (D → List S → Prop) → (Value → List S → Prop) → Prop
def spLX (K : PySem.W.Frag) (sp : SpX) : Sp := fun vs H Q E => ∃ (ss : List S) (as : List Addr) (QD : D → List S → Prop) (QX : Value → List S → Prop), sp ss QD QX ∧ AR K H ss vs as ∧ as.Nodup ∧
  (∀ d outs v H', QD d outs → (∀ p o, H p = some o → p ∉ as → H' p = some o) → Paired (RelM K H') outs as → Rp K H' d v → Q v H') ∧
  ∀ cls outs H', QX cls outs → (∀ p o, H p = some o → p ∉ as → H' p = some o) → Paired (RelM K H') outs as → E cls none H'
/-- what is wished of an exception, over data -/
abbrev WDt := Value → Env → Prop
def Wish (K : PySem.W.Frag) (G : Gh) (WD : WDt) (W : WX) : Prop := ∀ cls E σ H, WD cls E → RelE K G H E σ → W cls none σ H
section
variable {X : Cx} {G : Gh} {e : Expr} {pos : Pos}
def sRaise (WD : WDt) (c : Value) : TSd := fun _ E => WD c E
theorem sd_raise {W : WX} {WD : WDt} {c : Value} (hc : X.calm = true) (tk : Takes X W) (hW : Wish X.K G WD W) (mk : PMk X e (fun _ H Q => Q c none H)) : SD X G (.Raise (some e) none pos) (sRaise WD c) :=
  ⟨PS.weak (ps_raise hc tk mk) fun F σ H ⟨E, DE, r, q, _⟩ => hW c E σ H q r⟩
theorem SDs.nox {st : List Stmt} {t : TSd} (h : SDs X.nox G st t) : SDs X G st t := ⟨PSs.nox h.pss⟩
theorem SD.nox {st : Stmt} {t : TSd} (h : SD X.nox G st t) : SDs X G [st] t := SDs.nox (sds_one h)
end
/-- THE RULE for a def that may raise -/
theorem fn_okX {P : Program} {w : World} {K : PySem.W.Frag} {mg : Str → Option Value} {base : Heap} {x qual : Str} {st : Stmt} {f : Addr} {fd : FuncData} {N ps : List Str} {k : Nat} {sp : SpX} {slots : List Nat} {tb : WDt → TSd}
    (F : Fun K x qual st f fd) (Sc : FnScope N ps (defScope st)) (shape : ∀ ss QD QX, sp ss QD QX → ss.length = ps.length ∧ mpos 0 ss = slots)
    (body : ∀ (cdv : Value) (A : Around) (outer : List PySem.Env) (s : Shared) (H : Hp) (E : XK), Room k (A.deeper (envOfC qual (defScope st) s.heap.objs.size f cdv)) → ∀ G : Gh, G.slots = slots → ∀ WD : WDt, Wish K G WD (fun cls d _ H' => E cls d H') →
      SDs (cxOf (L2.CX P w) P w K mg base N qual (defScope st) f cdv A outer s H E) G (defBody st) (tb WD))
    (read : ∀ ss QD QX, sp ss QD QX → tb (fun cls E' => finO slots E' (QX cls)) { nx := fun E' => finO slots E' (QD .none), rt := fun d E' => finO slots E' (QD d) } (ss ++ List.replicate (N.length - ps.length) .un)) :
    FnOk P w K mg base (L2.CX P w) (k + 1) f fd ps (spLX K sp) := by
  refine F.okX Sc (fun vs H Q E h => ?_) (fun cdv A outer s H vs Q E hr h => ?_)
  · obtain ⟨ss, as, QD, QX, h1, h2, _⟩ := h
    rw [← h2.length]; exact (shape ss QD QX h1).1
  · obtain ⟨ss, as, QD, QX, h1, h2, nd, h4, h5⟩ := h
    obtain ⟨hl, hm⟩ := shape ss QD QX h1
    have ml := h2.mlen 0
    have hG : (⟨H, (mpos 0 ss).zip as, fun _ => none, []⟩ : Gh).slots = slots := by show ((mpos 0 ss).zip as).map (·.1) = slots; rw [zip_fst ml, hm]
    have hA : (⟨H, (mpos 0 ss).zip as, fun _ => none, []⟩ : Gh).addrs = as := by show ((mpos 0 ss).zip as).map (·.2) ++ [] = as; rw [zip_snd ml, List.append_nil]
    have hW : Wish K ⟨H, (mpos 0 ss).zip as, fun _ => none, []⟩ (fun cls E' => finO slots E' (QX cls)) (fun cls d _ H' => E cls d H') := fun cls E' σ H' q r => by
      obtain ⟨outs, q1, p1⟩ := finO_rel r (as := as) (by rw [← hm]; exact ml) (by rw [← hm]; exact fun p hp => hp) q
      exact h5 cls outs H' q1 (fun p o e ne => r.keep p o e (by rw [hA]; exact ne)) p1
    refine ⟨_, (body cdv A outer s H E hr ⟨H, (mpos 0 ss).zip as, fun _ => none, []⟩ hG _ hW).pss, ?_⟩
    have hst : L2.start N vs = vs.map some ++ List.replicate (N.length - ps.length) none := by unfold L2.start; rw [← h2.length, hl]
    refine ⟨ss ++ List.replicate (N.length - ps.length) .un, { nx := fun E' => finO slots E' (QD .none), rt := fun d E' => finO slots E' (QD d) }, by rw [hst]; exact h2.start nd, read ss QD QX h1, fun E' σ' H' q x r => ?_, fun d E' v σ' H' q x r p => ?_, fun _ _ _ q => False.elim q, fun _ _ _ q => False.elim q⟩
    · obtain ⟨outs, q1, p1⟩ := finO_rel r (as := as) (by rw [← hm]; exact ml) (by rw [← hm]; exact fun p hp => hp) q
      exact h4 .none outs .non H' q1 (fun p o e ne => r.keep p o e (by rw [hA]; exact ne)) p1 .non
    · obtain ⟨outs, q1, p1⟩ := finO_rel r (as := as) (by rw [← hm]; exact ml) (by rw [← hm]; exact fun p hp => hp) q
      exact h4 d outs v H' q1 (fun p o e ne => r.keep p o e (by rw [hA]; exact ne)) p1 p
/-! ### a call of such a def -/
def tCallX (sp : SpX) (ta : TAd) (WD : WDt) : TD := fun E Q => ta E fun as E1 => match argS E1 as with
  | some ss => ndp (oixs as) = true ∧ sp ss (fun r outs => Q r (putO as outs E1)) (fun cls outs => WD cls (putO as outs E1))
  | none => False
section
variable {X : Cx} {G : Gh} {e : Expr} {es : List Expr} {pos p : Pos} {x : Str} {f : Addr} {fd : FuncData} {ps : List Str} {k : Nat} {sp : SpX} {ta : TAd}
theorem ed_callX {W : WX} {WD : WDt} (F : FnOk X.prog X.w X.K X.mg X.base (L2.CX X.prog X.w) k f fd ps (spLX X.K sp)) (tk : Takes X W) (hW : Wish X.K G WD W) (hr : Room k X.A) (hg : Gl X x) (hm : X.mg x = some (.ref f)) (hk : PySem.W.keepIn X.K (.ref f) = true) (hb : Binds X.K fd ps []) (ha : EA X G (e :: es) ta) (hdb : (x == ("__debug__" : Str)) = false := by decide)
    (hs : starEach (e :: es) X.env = (false, eval e X.env) :: starEach es X.env := by rfl) (hplain : (backTo pos (starEach es X.env)).any (·.1) = false := by rfl) : ED X G (.Call (.Name x p) (e :: es) [] pos) (tCallX sp ta WD) := by
  refine ⟨PE.weak (pe_callS (E := WE W) F hr hg hm hk hb (fun σ => passAt tk σ) ha.pa (hdb := hdb) (he := hs) (hpl := hplain)) fun σ H Q ⟨E0, QE, r, q, kk⟩ => ?_⟩
  refine ⟨E0, _, r, q, fun as E1 vs H1 q1 x1 r1 p1 => ?_⟩
  show spLX X.K sp vs H1 Q _
  split at q1
  · rename_i ss hs
    obtain ⟨nd, q1⟩ := q1
    obtain ⟨ad, ar, po⟩ := RelA.args r1 p1 hs
    have adn := addrs_nodup r1 nd po
    have islst : ∀ a ∈ ad, Soft H1 a := fun a ha => by
      obtain ⟨i, hi, e1, s, e2, m⟩ := Paired.mem2 po ha
      obtain ⟨b, f1, f2⟩ := r1.mutAt e2 m
      rw [e1] at f1; cases f1; exact f2.soft
    refine ⟨ss, ad, _, _, q1, ar, adn, fun d outs v H' q2 keep pr pd => ?_, fun cls outs H' q2 keep pr => ?_⟩
    · exact kk d _ v H' q2 (x1.trans (Ext.ofSoft keep islst)) (RelX.puts nd r1 keep islst pr po) pd
    · exact hW _ _ _ _ q2 (RelX.puts nd r1 keep islst pr po)
  · exact q1.elim
end
/-! ### try .. except X -/
section
variable {X : Cx} {G : Gh} {x : Str} {c : Value} {body suite : List Stmt} {b₀ : Stmt} {np pos pos' : Pos}
/-- m tells whether a class is caught -/
def sTry (m : Value → Option Bool) (Wo : WDt) (tb : WDt → TSd) (ts : TSd) : TSd := fun DE E => tb (fun cls E1 => match m cls with
  | some true => ts DE E1
  | some false => Wo cls E1
  | none => False) DE E
theorem RelX.mark {K : PySem.W.Frag} {H : Hp} {E : Env} {σ : St} (r : RelE K G H E σ) : RelE K { G with X0 := H } H E σ := by
  obtain ⟨l, k, pn, dm, x0, A, h1, h2, h3⟩ := r
  exact ⟨l, k, pn, dm, Ext.refl _, A, h1, h2, h3⟩
theorem RelX.unmark {K : PySem.W.Frag} {H0 H H1 : Hp} {E E0 : Env} {σ σ0 : St} (r0 : RelE K G H0 E0 σ0) (r : RelE K { G with X0 := H0 } H E σ) : RelE K G H E σ := by
  obtain ⟨l, k, pn, dm, x0, A, h1, h2, h3⟩ := r
  exact ⟨l, k, pn, dm, r0.ext.trans x0, A, h1, h2, h3⟩
theorem sd_try {m : Value → Option Bool} {Wo : WDt} {Wout : WX} {tb : WDt → TSd} {ts : TSd} (hm : ∀ cls b, m cls = some b → PySem.W.exmOne X.K cls c = some b) (hWo : Wish X.K G Wo Wout) (hs : X.stack = X.env :: X.outer) (hf : X.env.frame = some X.env.locals) (hc : Names X x c) (tk : Takes X Wout)
    (hb : ∀ (W : WX) (pn : List (Addr × Obj)) (xe : Value → Shared → Prop), Takes (X.tr pn xe) W → PassesOwn (model X.prog X.w) X.A X.env xe → ∀ G' : Gh, G'.slots = G.slots → ∀ WD : WDt, Wish X.K G' WD W → SDs (X.tr pn xe) G' body (tb WD))
    (hsu : ∀ (a : Addr) (oe : Obj) (pn : List (Addr × Obj)), SDs (X.suite a ((a, oe) :: pn)) G (b₀ :: suite) ts) :
    SD X G (.Try body [.ExceptHandler (some (.Name x np)) none (b₀ :: suite) pos'] [] [] pos) (sTry m Wo tb ts) := by
  let tB : WX → TS := fun W D σ H => ∃ (G' : Gh) (WD : WDt), G'.slots = G.slots ∧ Wish X.K G' WD W ∧ liftS X.K G' (tb WD) D σ H
  have hb' : ∀ (W : WX) (pn : List (Addr × Obj)) (xe : Value → Shared → Prop), Takes (X.tr pn xe) W → PassesOwn (model X.prog X.w) X.A X.env xe → PSs (X.tr pn xe) body (tB W) := fun W pn xe t p =>
    ⟨fun pins s σ H F I ⟨G', WD, hg, hw, q⟩ => (hb W pn xe t p G' hg WD hw).pss.run pins s σ H F I q⟩
  refine ⟨PS.weak (ps_try_only hs hf hc tk hb' (ts := fun _ _ _ => liftS X.K G ts) fun a oe cls d pn _ _ => (hsu a oe pn).pss) fun F σ H ⟨E, DE, r, q, k1, k2, k3, k4⟩ => ?_⟩
  refine ⟨{ G with X0 := H }, _, rfl, fun cls E1 σ1 H1 q1 r1 => ?_, E, DE, r.mark, q, fun E' σ' H' z x r' => k1 E' σ' H' z x (RelX.unmark (H1 := H) r r'), fun d E' v σ' H' z x r' p => k2 d E' v σ' H' z x (RelX.unmark (H1 := H) r r') p, fun E' σ' H' z x r' => k3 E' σ' H' z x (RelX.unmark (H1 := H) r r'), fun E' σ' H' z x r' => k4 E' σ' H' z x (RelX.unmark (H1 := H) r r')⟩
  have ext : Ext H H1 := r1.ext
  have r2 : RelE X.K G H1 E1 σ1 := RelX.unmark (H1 := H) r r1
  show wOnly X.K c _ Wout F cls none σ1 H1
  cases e : m cls with
  | none => rw [e] at q1; exact q1.elim
  | some b =>
    rw [e] at q1
    refine ⟨b, hm cls b e, fun hb a ha => ?_, fun hb => ?_⟩
    · subst hb
      exact ⟨E1, DE, r2, q1, fun E' σ' H' z x r => k1 E' σ' H' z (ext.trans x) r, fun d E' v σ' H' z x r => k2 d E' v σ' H' z (ext.trans x) r, fun E' σ' H' z x r => k3 E' σ' H' z (ext.trans x) r, fun E' σ' H' z x r => k4 E' σ' H' z (ext.trans x) r⟩
    · subst hb
      exact hWo _ _ _ _ q1 r2
end
end DL
set_option Elab.async false
set_option linter.all false
set_option maxRecDepth 100000
set_option maxHeartbeats 1000000
/-! DL33: a call without arguments. -/
namespace DL
open PySem PySem.Spec PyProof.Rows L2
def tCall0D (sp : SpD) : TD := fun E Q => sp [] fun r _ => Q r E
end DL
set_option Elab.async false
set_option linter.all false
set_option maxRecDepth 100000
set_option maxHeartbeats 1000000
/-! DL34: a call whose last argument is a new mutable thing; list(range(n)). -/
namespace DL
open PySem PySem.Spec PyProof.Rows L2
abbrev TAm := Env → (List D → S → Env → Prop) → Prop
def amM (t : TM) : TAm := fun E Q => t E fun s E1 => s.isMut = true ∧ Q [] s E1
def amV (t : TD) (u : TAm) : TAm := fun E Q => t E fun d E1 => u E1 fun ds s E2 => Q (d :: ds) s E2
def tCallM (sp : SpD) (ta : TAm) : TD := fun E Q => ta E fun ds s E1 => sp (ds.map S.d ++ [s]) fun r _ => Q r E1
theorem AR.data {K : PySem.W.Frag} {H : Hp} {s : S} {a : Addr} (hm : s.isMut = true) (h : RelM K H s a) : ∀ {ds : List D} {vs : List V}, RpL K H ds vs → AR K H (ds.map S.d ++ [s]) (vs ++ [.ref a]) [a]
  | _, _, .nil => .o hm h .nil
  | _, _, .cons p t => .d p (AR.data hm h t)
section
variable {X : Cx} {G : Gh} {e : Expr} {es : List Expr} {pos p p1 p2 : Pos} {x : Str} {f : Addr} {fd : FuncData} {ps : List Str} {k : Nat} {sp : SpD} {ta : TAm}
/-- list(range(n)) -/
def tListRg (ta : TD) : TLd := fun E Q => ta E fun d E1 => match d with
  | .int n => (0 ≤ n ∧ n ≤ 10000000) ∧ Q (rangeD 0 n.toNat) E1
  | _ => False
end
end DL
set_option Elab.async false
set_option linter.all false
set_option maxRecDepth 100000
set_option maxHeartbeats 1000000
/-! DL35: a, b = a list -/
namespace DL
open PySem PySem.Spec PyProof.Rows L2
section
variable {X : Cx} {G : Gh} {e : Expr} {es : List Expr} {pos : Pos}
def gLstD (n : Nat) (u : TGsd) : TGd := fun d E Q => match d with
  | .list ds => ds.length = n ∧ u ds E Q
  | _ => False
end
end DL
set_option Elab.async false
set_option linter.all false
set_option maxRecDepth 100000
set_option maxHeartbeats 1000000
/-! DL36: dicts as data, walked: keys, values, pairs; list(d), list(d.values()). -/
namespace DL
open PySem PySem.Spec PyProof.Rows L2
/-- what stands in the entries -/
abbrev KVs (ps : List (V × V)) (es : List DictEntry) : Prop := Paired (fun p e => RelV p.1 e.key ∧ RelV p.2 e.val) ps es
theorem RpD.kvs {K : PySem.W.Frag} {H : Hp} : ∀ {kvs : List (D × D)} {es : List DictEntry}, RpD K H kvs es → ∃ ps, KVs ps es ∧ RpL K H (kvs.map (·.1)) (ps.map (·.1)) ∧ RpL K H (kvs.map (·.2)) (ps.map (·.2))
  | _, _, .nil => ⟨[], .nil, .nil, .nil⟩
  | _, _, .cons (b := b) (v := v) t n1 n2 n3 e1 h g r l => by
    obtain ⟨ps, h1, h2, h3⟩ := RpD.kvs l
    exact ⟨(.ref b, v) :: ps, .cons ⟨by rw [e1]; rfl, r⟩ h1, .cons h h2, .cons g h3⟩
/-! over data -/
section
variable {K : PySem.W.Frag} {H : Hp}
def pairD (p : D × D) : D := .tuple [p.1, p.2]
variable {d : Addr} {o : Obj} {es : List DictEntry} {ps : List (V × V)} {kvs : List (D × D)}
end
section
variable {X : Cx} {G : Gh} {tg e : Expr} {ta : TD} {apos cpos : Pos}
def iDk (ta : TD) : TDs := fun E Q => ta E fun x E1 => match x with
  | .dict kvs => tupKeys kvs = true ∧ Q (kvs.map (·.1)) E1
  | _ => False
def iDv (ta : TD) : TDs := fun E Q => ta E fun x E1 => match x with
  | .dict kvs => tupKeys kvs = true ∧ Q (kvs.map (·.2)) E1
  | _ => False
def iDi (ta : TD) : TDs := fun E Q => ta E fun x E1 => match x with
  | .dict kvs => tupKeys kvs = true ∧ Q (kvs.map pairD) E1
  | _ => False
end
end DL
set_option Elab.async false
set_option linter.all false
set_option maxRecDepth 100000
set_option maxHeartbeats 1000000
/-! DL37: list(d), list(d.values()), if d, {k: v} of dicts with tuple keys; new mutable things frozen. -/
namespace DL
open PySem PySem.Spec PyProof.Rows L2
/-! ### if d -/
section
variable {X : Cx} {G : Gh} {e : Expr} {ta : TD} {p p1 p2 apos cpos pos : Pos}
def tTruDk (ta : TD) : TTd := fun E Q => ta E fun x E1 => match x with
  | .dict kvs => tupKeys kvs = true ∧ kvs.length ≤ sizeLine ∧ Q (!kvs.isEmpty) E1
  | _ => False
/-! ### list(d), list(d.values()) -/
def tLDk (ta : TD) : TLd := fun E Q => ta E fun x E1 => match x with
  | .dict kvs => tupKeys kvs = true ∧ kvs.length ≤ sizeLine ∧ Q (kvs.map (·.1)) E1
  | _ => False
def tLDv (ta : TD) : TLd := fun E Q => ta E fun x E1 => match x with
  | .dict kvs => tupKeys kvs = true ∧ kvs.length ≤ sizeLine ∧ Q (kvs.map (·.2)) E1
  | _ => False
/-! ### new mutable things: one entry; frozen -/
def mDt1 (tk tv : TD) : TM := fun E Q => tk E fun k E1 => tv E1 fun d E2 => keyB k = true ∧ Q (.dt [(k, d)]) E2
def tFzM (t : TM) : TD := fun E Q => t E fun s E1 => match s with
  | .dt kvs => Q (.dict kvs) E1
  | .ol xs => Q (.list xs) E1
  | _ => False
theorem EM.ed {t : TM} (h : EM X G e t) : ED X G e (tFzM t) :=
  ⟨PE.weak (PE.fzIf h.pe) fun σ H Q ⟨E, QE, r, q, k⟩ => ⟨E, _, r, q, fun s E1 a H1 q1 x1 r1 h0 na m => by
    split at q1
    · rename_i kvs
      obtain ⟨es, e2, l, nd, sm⟩ := m
      refine .inr ⟨a, _, rfl, e2, trivial, fun o => ?_⟩
      have x2 : Ext H1 (upd H1 a (.frz o (dO a es))) := Ext.putS e2 (fun _ z => by cases z) (fun _ _ z => by cases z)
      exact k _ _ _ _ q1 (x1.trans x2) (r1.freezeS h0 na e2 (fun _ z => by cases z) (fun _ _ z => by cases z)) (.dct upd_same (l.ext x2) nd sm)
    · rename_i xs
      obtain ⟨vs, e2, l⟩ := m
      refine .inr ⟨a, _, rfl, e2, trivial, fun o => ?_⟩
      exact k _ _ _ _ q1 (x1.trans (Ext.put e2)) (r1.freeze h0 na e2) (.lst (.of upd_same) (l.ext (Ext.put e2)))
    · exact q1.elim⟩⟩
end
end DL
set_option Elab.async false
set_option linter.all false
set_option maxRecDepth 100000
set_option maxHeartbeats 1000000
/-! DL38: objects: where they stand in the environment, and how they change. -/
namespace DL
open PySem PySem.Spec PyProof.Rows L2
def obsAt (E : Env) : List Nat → Option (List S)
  | [] => some []
  | j :: js => match E[j]?, obsAt E js with
    | some (.ob a C fs), some os => some (.ob a C fs :: os)
    | _, _ => none
def putOb : List Nat → List S → Env → Env
  | j :: js, s :: os, E => putOb js os (E.set j s)
  | _, _, E => E
theorem RelOb.soft {K : PySem.W.Frag} {H : Hp} {a C : Addr} {fs : List (Str × FS)} {fp : List Addr} (h : RelOb K H a C fs fp) : ∀ p ∈ fp, Soft H p := RelS.indom (s := .ob a C fs) (o := none) h
end DL
set_option Elab.async false
set_option linter.all false
set_option maxRecDepth 100000
set_option maxHeartbeats 1000000
/-! DL39: defs and methods over objects: promises, calls. -/
namespace DL
open PySem PySem.Spec PyProof.Rows L2
/-- a promise: arguments (data), objects; what it gives, what it raises -/
abbrev SpO := List D → List S → (D → List S → Prop) → (Value → List S → Prop) → Prop
/-! ### calls -/
/-- the objects that go along: js says where they stand -/
def tObs (sp : SpO) (ds : List D) (E : Env) (Q : D → Env → Prop) (WD : WDt) : Prop := ∃ js os, js.Nodup ∧ obsAt E js = some os ∧
  sp ds os (fun d os' => os'.length = js.length ∧ Q d (putOb js os' E)) (fun cls os' => os'.length = js.length ∧ WD cls (putOb js os' E))
end DL
set_option Elab.async false
set_option linter.all false
set_option maxRecDepth 100000
set_option maxHeartbeats 1000000
/-! DL40: objects: fields read and written, their lists, methods. -/
namespace DL
open PySem PySem.Spec PyProof.Rows L2
/-- whose name it is -/
def unH : D → Option Addr
  | .dict [(.none, .int (.ofNat a))] => some a
  | _ => none
theorem unH_hdl (a : Addr) : unH (hdl a) = some a := rfl
def obGet (a : Addr) : Env → Option (Addr × List (Str × FS))
  | [] => none
  | .ob b C fs :: E => if b = a then some (C, fs) else obGet a E
  | _ :: E => obGet a E
def setOb (a : Addr) (fs : List (Str × FS)) : Env → Env
  | [] => []
  | .ob b C gs :: E => if b = a then .ob b C fs :: E else .ob b C gs :: setOb a fs E
  | s :: E => s :: setOb a fs E
/-- the fields of the object that d names, of the class at C -/
def obD (C : Addr) (d : D) (E : Env) : Option (List (Str × FS)) := match unH d with
  | some a => match obGet a E with
    | some (C', fs) => if C' = C then some fs else none
    | none => none
  | none => none
def putOD (d : D) (fs : List (Str × FS)) (E : Env) : Env := match unH d with
  | some a => setOb a fs E
  | none => E
def putFS (f : Str) (x : FS) : List (Str × FS) → List (Str × FS)
  | [] => [(f, x)]
  | (g, y) :: r => if g = f then (g, x) :: r else (g, y) :: putFS f x r
section
variable {K : PySem.W.Frag} {H H' : Hp}
theorem lk_cons {α : Type} {f g : Str} {x : α} {r : List (Str × α)} : ((g, x) :: r).lookup f = if f = g then some x else r.lookup f := by
  by_cases h : f = g
  · subst h; simp [List.lookup]
  · have hb : (f == g) = false := beq_eq_false_iff_ne.mpr h
    rw [if_neg h]; simp only [List.lookup, hb]
theorem FsR.getD {f : Str} {x : D} : ∀ {fs : List (Str × FS)} {vs : List (Str × V)} {ls : List Addr}, FsR K H fs vs ls → fs.lookup f = some (.d x) → ∃ v, vs.lookup f = some v ∧ Rp K H x v
  | _, _, _, .nil, h => by cases h
  | _, _, _, FsR.d r t, h => by
    rw [lk_cons] at h ⊢
    split at h
    · rename_i e; cases h; rw [if_pos e]; exact ⟨_, rfl, r⟩
    · rename_i e; rw [if_neg e]; exact FsR.getD t h
  | _, _, _, FsR.l r q t, h => by
    rw [lk_cons] at h ⊢
    split at h
    · cases h
    · rename_i e; rw [if_neg e]; exact FsR.getD t h
theorem FsR.putL {f : Str} {xs : List D} {l : Addr} {us : List V} (hl : H l = some (.lst us)) (p : RpL K H xs us) : ∀ {fs : List (Str × FS)} {vs : List (Str × V)} {ls : List Addr}, FsR K H fs vs ls → ls.Nodup → l ∉ ls → ∃ ls', FsR K H (putFS f (.l xs) fs) (putF f (.ref l) vs) ls' ∧ ls'.Nodup ∧ ∀ b ∈ ls', b ∈ ls ∨ b = l
  | _, _, _, .nil, _, _ => ⟨[l], FsR.l hl p .nil, by simp, by simp⟩
  | _, _, _, FsR.d (f := g) r t, nd, ni => by
    unfold putFS putF
    by_cases e : g = f
    · rw [if_pos e, if_pos e]; exact ⟨_, FsR.l hl p t, List.nodup_cons.mpr ⟨ni, nd⟩, fun b hb => (List.mem_cons.mp hb).elim .inr .inl⟩
    · rw [if_neg e, if_neg e]
      obtain ⟨ls', h1, h2, h3⟩ := FsR.putL (f := f) hl p t nd ni
      exact ⟨_, FsR.d r h1, h2, h3⟩
  | _, _, _, FsR.l (f := g) (a := b0) r q t, nd, ni => by
    obtain ⟨n1, n2⟩ := List.nodup_cons.mp nd
    have ni2 : l ∉ _ := fun z => ni (List.mem_cons_of_mem _ z)
    unfold putFS putF
    by_cases e : g = f
    · rw [if_pos e, if_pos e]; exact ⟨_, FsR.l hl p t, List.nodup_cons.mpr ⟨ni2, n2⟩, fun b hb => (List.mem_cons.mp hb).elim .inr fun z => .inl (List.mem_cons_of_mem _ z)⟩
    · rw [if_neg e, if_neg e]
      obtain ⟨ls', h1, h2, h3⟩ := FsR.putL (f := f) hl p t n2 ni2
      refine ⟨_, FsR.l r q h1, List.nodup_cons.mpr ⟨fun z => ?_, h2⟩, fun b hb => ?_⟩
      · rcases h3 _ z with w | w
        · exact n1 w
        · exact ni (by rw [w]; exact List.mem_cons_self ..)
      · rcases List.mem_cons.mp hb with w | w
        · exact .inl (by rw [w]; exact List.mem_cons_self ..)
        · exact (h3 b w).elim (fun z => .inl (List.mem_cons_of_mem _ z)) .inr
end
/-! ### rules -/
def fldD (C : Addr) (f : Str) (d : D) (E : Env) : Option D := match obD C d E with
  | some fs => match fs.lookup f with
    | some (.d x) => some x
    | _ => none
  | none => none
def fldL (C : Addr) (f : Str) (d : D) (E : Env) : Option (List D) := match obD C d E with
  | some fs => match fs.lookup f with
    | some (.l x) => some x
    | _ => none
  | none => none
/-- x.f, data -/
def tFldD (C : Addr) (f : Str) (i : Nat) : TD := fun E Q => match E[i]? with
  | some (.d d) => match fldD C f d E with
    | some x => Q x E
    | none => False
  | _ => False
/-- x.f, a list of its own, read now -/
def tFldR (C : Addr) (f : Str) (i : Nat) : TD := fun E Q => match E[i]? with
  | some (.d d) => match fldL C f d E with
    | some xs => Q (.list xs) E
    | none => False
  | _ => False
/-- x.f = e -/
def sFldD (C : Addr) (f : Str) (i : Nat) (tv : TD) : TSd := fun DE E => tv E fun x E1 => match E1[i]? with
  | some (.d d) => match obD C d E1 with
    | some fs => fs.length < 1000 ∧ DE.nx (putOD d (putFS f (.d x) fs) E1)
    | none => False
  | _ => False
/-- x.f = a new list -/
def sFldL (C : Addr) (f : Str) (i : Nat) (tv : TLd) : TSd := fun DE E => tv E fun xs E1 => match E1[i]? with
  | some (.d d) => match obD C d E1 with
    | some fs => fs.length < 1000 ∧ DE.nx (putOD d (putFS f (.l xs) fs) E1)
    | none => False
  | _ => False
/-- x.f.append((x.g, y)) -/
def tAppF (C : Addr) (f g : Str) (i k : Nat) : TD := fun E Q => match E[i]? with
  | some (.d d) => match obD C d E, fldL C f d E, fldD C g d E, E[k]? with
    | some fs, some xs, some x, some (.d y) => xs.length < sizeLine ∧ Q .none (putOD d (putFS f (.l (xs ++ [.tuple [x, y]])) fs) E)
    | _, _, _, _ => False
  | _ => False
/-- x.f.pop() -/
def tPopF (C : Addr) (f : Str) (i : Nat) : TD := fun E Q => match E[i]? with
  | some (.d d) => match obD C d E, fldL C f d E with
    | some fs, some xs => match xs.getLast? with
      | some y => Q y (putOD d (putFS f (.l xs.dropLast) fs) E)
      | none => False
    | _, _ => False
  | _ => False
/-- o.m(..) -/
def tMethO (C : Addr) (m : Str) (sp : SpO) (to : TD) (ta : TDs) (WD : WDt) : TD := fun E Q => to E fun d E1 => (match obD C d E1 with
  | some fs => fs.lookup m = none
  | none => False) ∧ ta E1 fun ds E2 => tObs sp (d :: ds) E2 Q WD
/-! ### methods -/
end DL
set_option Elab.async false
set_option linter.all false
set_option maxRecDepth 100000
set_option maxHeartbeats 1000000
/-! DL41: objects are made; a def with defaults; a comprehension over a field's list. -/
namespace DL
open PySem PySem.Spec PyProof.Rows L2
/-! ### a new object -/
/-! ### a comprehension over a list that stands in the heap and may change later -/
end DL
set_option Elab.async false
set_option linter.all false
set_option maxRecDepth 100000
set_option maxHeartbeats 1000000
/-! DL42: except X as e: got = word(e); a def that tells an exception's class by a text. -/
namespace DL
open PySem PySem.Spec PyProof.Rows L2
/-! ### isinstance of it -/
/-! ### try .. except X as e: got = word(e) -/
end DL
set_option Elab.async false
set_option linter.all false
set_option maxRecDepth 100000
/-! DL43: small things for defs over objects. -/
namespace DL
open PySem PySem.Spec PyProof.Rows L2
end DL
set_option Elab.async false
set_option linter.all false
set_option maxRecDepth 100000
set_option maxHeartbeats 3200000
/-! DL44: tuple * int, any int from 0 on. -/
namespace DL
open PySem PySem.Spec PyProof.Rows L2
end DL
set_option Elab.async false
set_option linter.all false
set_option maxRecDepth 100000
set_option maxHeartbeats 3200000
/-! DL45: len(o), str(o) by own __len__, __str__; f-strings. -/
namespace DL
open PySem PySem.Spec PyProof.Rows L2
/-! ### f-strings -/
end DL
set_option Elab.async false
set_option linter.all false
set_option maxRecDepth 100000
set_option maxHeartbeats 3200000
/-! DL46: own dicts with int and text keys: d[k]. -/
namespace DL
open PySem PySem.Spec PyProof.Rows L2
def keyOf : D → Option Key
  | .int i => some (.inl i)
  | .str x => some (.inr x)
  | _ => none
def valK (kvs : List (Key × D)) (k : Key) : Option D := (kvs.find? fun kv => decide (kv.1 = k)).map (·.2)
def tDkGet (i : Nat) (tk : TD) : TD := fun E Q => match E[i]? with
  | some (.dk _) => tk E fun k E1 => match E1[i]?, keyOf k with
    | some (.dk kvs), some ky => optQ (valK kvs ky) fun d => Q d E1
    | _, _ => False
  | _ => False
end DL
set_option Elab.async false
set_option linter.all false
set_option maxRecDepth 100000
set_option maxHeartbeats 3200000
/-! DL47: {k: v, ..}: a new dict with int and text keys. -/
namespace DL
open PySem PySem.Spec PyProof.Rows L2
def putD2 (kvs : List (Key × D)) (k : Key) (v : D) : List (Key × D) :=
  if (kvs.any fun kv => decide (kv.1 = k)) = true then kvs.map (fun kv => if kv.1 = k then (kv.1, v) else kv) else kvs ++ [(k, v)]
def mergeD (kvs more : List (Key × D)) : List (Key × D) := more.foldl (fun acc kv => putD2 acc kv.1 kv.2) kvs
/-- keys alike, values stand for data -/
def KR (K : PySem.W.Frag) (H : Hp) (kvs : List (Key × D)) (us : List (Key × V)) : Prop := us.map (·.1) = kvs.map (·.1) ∧ RpL K H (kvs.map (·.2)) (us.map (·.2))
theorem KR.nil {K : PySem.W.Frag} {H : Hp} : KR K H [] [] := ⟨rfl, .nil⟩
theorem KR.cons {K : PySem.W.Frag} {H : Hp} {k : Key} {d : D} {v : V} {kvs : List (Key × D)} {us : List (Key × V)} (h : Rp K H d v) (r : KR K H kvs us) : KR K H ((k, d) :: kvs) ((k, v) :: us) := ⟨by simp [r.1], .cons h r.2⟩
theorem KR.ext {K : PySem.W.Frag} {H H' : Hp} {kvs : List (Key × D)} {us : List (Key × V)} (r : KR K H kvs us) (x : Ext H H') : KR K H' kvs us := ⟨r.1, r.2.ext x⟩
theorem KR.any {K : PySem.W.Frag} {H : Hp} {kvs : List (Key × D)} {us : List (Key × V)} (r : KR K H kvs us) (k : Key) : (us.any fun kv => decide (kv.1 = k)) = kvs.any fun kv => decide (kv.1 = k) := by
  have e1 : (us.any fun kv => decide (kv.1 = k)) = (us.map (·.1)).any fun j => decide (j = k) := by rw [List.any_map]; rfl
  have e2 : (kvs.any fun kv => decide (kv.1 = k)) = (kvs.map (·.1)).any fun j => decide (j = k) := by rw [List.any_map]; rfl
  rw [e1, e2, r.1]
end DL
set_option Elab.async false
set_option linter.all false
set_option maxRecDepth 100000
set_option maxHeartbeats 3200000
/-! DL48: {k: v, ..} as a new dict of one's own; d.update({..}); d[k] = v; d.get(k, x). -/
namespace DL
open PySem PySem.Spec PyProof.Rows L2
abbrev TDP := Env → (List (D × D) → Env → Prop) → Prop
/-- the keys of pairs -/
def keysOf : List (D × D) → Option (List (Key × D))
  | [] => some []
  | (k, d) :: r => match keyOf k, keysOf r with
    | some y, some l => some ((y, d) :: l)
    | _, _ => none
theorem KR.length {K : PySem.W.Frag} {H : Hp} {l : List (Key × D)} {us : List (Key × V)} (r : KR K H l us) : us.length = l.length := by
  have := congrArg List.length r.1
  simpa using this
def mDkD (t : TDP) : TM := fun E Q => t E fun kds E1 => optQ (keysOf kds) fun l => l.length ≤ 15 ∧ Q (.dk (mergeD [] l)) E1
end DL
set_option Elab.async false
set_option linter.all false
set_option maxRecDepth 100000
set_option maxHeartbeats 3200000
/-! DL49: sets of things on the heap that are alike by a key of any kind; up to 76 of them. -/
namespace DL
open PySem PySem.Spec PyProof.Rows L2
section
variable {P : Program} {w : World} {κ : Type} [DecidableEq κ] {kd : HeapKind P w κ} {A : Around} {E : Value → Shared → Prop} {s : Shared}
abbrev Ent (κ : Type) := Addr × κ
def ents (kd : HeapKind P w κ) (M : List (Ent κ)) : List (Int × Value) := M.map fun q => (kd.hash q.2, Value.ref q.1)
def hshs (kd : HeapKind P w κ) (M : List (Ent κ)) : List Int := M.map fun q => kd.hash q.2
/-- at a stands a set with these members -/
structure SetG (kd : HeapKind P w κ) (h : Heap) (a : Addr) (M : List (Ent κ)) (ws : Array (Int × Value)) (g : Nat) (T : SetTable) : Prop where
  at_ : ∃ o, h.get? a = some o ∧ o.ExactSet ∧ o.data = .set ws g T
  ent : ws.toList = ents kd M
  tb : TabOk T (hshs kd M)
  nd : (M.map (·.2)).Nodup
  mem : ∀ q ∈ M, kd.is h q.2 q.1
  pl : T.plain = true
  ld : w.params.followText "set-order" = true ∨ T.led = true
  rm : M.length * 5 < T.mask * 3
variable {a : Addr} {M : List (Ent κ)} {ws : Array (Int × Value)} {g : Nat} {T : SetTable}
theorem SetG.few {h : Heap} (R : SetG kd h a M ws g T) : M.length ≤ 76 := by
  have z := R.rm
  rcases R.tb.mok with e | e | e <;> rw [e] at z <;> omega
theorem SetG.get {h : Heap} (R : SetG kd h a M ws g T) {i : Nat} {q : Ent κ} (z : M[i]? = some q) : ws[i]? = some (kd.hash q.2, Value.ref q.1) := by
  rw [← Array.getElem?_toList, R.ent]
  unfold ents
  rw [List.getElem?_map, z]; rfl
end
end DL
set_option Elab.async false
set_option linter.all false
set_option maxRecDepth 100000
set_option maxHeartbeats 3200000
/-! DL50: adding to sets of any keys; set(xs). -/
namespace DL
open PySem PySem.Spec PyProof.Rows L2
section
variable {P : Program} {w : World} {κ : Type} [DecidableEq κ] {kd : HeapKind P w κ} {A : Around} {E : Value → Shared → Prop} {s : Shared}
variable {a : Addr} {M : List (Ent κ)} {ws : Array (Int × Value)} {g : Nat} {T : SetTable}
theorem filterMap_all {α : Type} (M : List α) : (List.range M.length).filterMap (fun i => M[i]?) = M := by
  have all : ∀ n, n ≤ M.length → (List.range n).filterMap (fun i => M[i]?) = M.take n := by
    intro n
    induction n with
    | zero => exact fun _ => rfl
    | succ n ih =>
      intro z
      rw [List.range_succ, List.filterMap_append, ih (by omega), List.take_add_one, List.getElem?_eq_getElem (by omega), List.filterMap_cons_some (List.getElem?_eq_getElem (by omega))]
      rfl
  rw [all _ (Nat.le_refl _), List.take_length]
end
end DL
set_option Elab.async false
set_option linter.all false
set_option maxRecDepth 100000
set_option maxHeartbeats 3200000
/-! DL51: set(xs) of lists and tuples of things that are alike by keys. -/
namespace DL
open PySem PySem.Spec PyProof.Rows L2
section
variable {P : Program} {w : World} {κ : Type} [DecidableEq κ] {kd : HeapKind P w κ} {A : Around} {E : Value → Shared → Prop} {s : Shared}
/-- what the first i things made -/
structure GotG (ks : List (Ent κ)) (i : Nat) (M : List (Ent κ)) : Prop where
  sub : ∀ q ∈ M, q ∈ ks.take i
  all : ∀ q ∈ ks.take i, q.2 ∈ M.map (·.2)
theorem GotG.zero (ks : List (Ent κ)) : GotG ks 0 [] := ⟨(fun q z => nomatch z), fun q z => by simp at z⟩
end
end DL
set_option Elab.async false
set_option linter.all false
set_option maxRecDepth 100000
set_option maxHeartbeats 3200000
/-! DL52: set(xs) as a call, sets as objects. -/
namespace DL
open PySem PySem.Spec PyProof.Rows L2
end DL
set_option Elab.async false
set_option linter.all false
set_option maxRecDepth 100000
set_option maxHeartbeats 3200000
/-! DL53: len(set(xs)), sorted(set(xs)) of things that are alike by keys. -/
namespace DL
open PySem PySem.Spec PyProof.Rows L2
section
variable {P : Program} {w : World} {κ : Type} [DecidableEq κ] {kd : HeapKind P w κ} {A : Around} {E : Value → Shared → Prop} {s : Shared}
/-- the set, without its members -/
def SetG0 (kd : HeapKind P w κ) (h : Heap) (a : Addr) (M : List (Ent κ)) : Prop :=
  ∃ (ws : Array (Int × Value)) (g : Nat) (T : SetTable), (∃ o, h.get? a = some o ∧ o.ExactSet ∧ o.data = .set ws g T) ∧ ws.toList = ents kd M ∧ TabOk T (hshs kd M) ∧ (M.map (·.2)).Nodup ∧ T.plain = true ∧ (w.params.followText "set-order" = true ∨ T.led = true) ∧ M.length * 5 < T.mask * 3
theorem SetG0.full {h : Heap} {a : Addr} {M : List (Ent κ)} (R : SetG0 kd h a M) (mem : ∀ q ∈ M, kd.is h q.2 q.1) : ∃ ws g T, SetG kd h a M ws g T := by
  obtain ⟨ws, g, T, h1, h2, h3, h4, h5, h6, h7⟩ := R
  exact ⟨ws, g, T, h1, h2, h3, h4, mem, h5, h6, h7⟩
end
end DL
set_option Elab.async false
set_option linter.all false
set_option maxRecDepth 100000
set_option maxHeartbeats 3200000
/-! DL54: len(set(xs)), sorted(set(xs)): lists and tuples of tuples of ints, up to 75 unlike ones. -/
namespace DL
open PySem PySem.Spec PyProof.Rows L2
end DL
set_option Elab.async false
set_option linter.all false
set_option maxRecDepth 100000
set_option maxHeartbeats 3200000
/-! DL55: len(set(xs)) of nested tuples of ints, truths and None, up to 75. -/
namespace DL
open PySem PySem.Spec PyProof.Rows L2
end DL
set_option Elab.async false
set_option linter.all false
set_option maxRecDepth 100000
set_option maxHeartbeats 3200000
/-! DL56: xs[a:c] = ys, ys any list. -/
namespace DL
open PySem PySem.Spec PyProof.Rows L2
section
variable {prog : Program} {w : World} {A : Around} {E : Value → Shared → Prop} {s : Shared}
theorem setItem_sliceG {l b sl : Addr} {items new : Array Value} {n : Nat} {vl vu : Value} {a c : Nat} {Q : Unit → Shared → Prop}
    (e : s.heap.get? l = some { cls := .type "list", data := .seq items n }) (hb : s.heap.IsList b new)
    (hs : s.heap.IsSliceOf sl vl vu .none) (pl : IsPart vl (some (a : Int))) (pu : IsPart vu (some (c : Int))) (hac : a ≤ c) (hc : c ≤ items.size)
    (hsz : items.size + new.size ≤ sizeLine) (h : Q () { s with heap := s.heap.update l (Obj.mapSeq fun xs => xs.extract 0 a ++ new ++ xs.extract c xs.size) }) :
    wpAny (model prog w) A (setItem (.ref l) (.ref sl) (.ref b)) Q E s := by
  have hl : s.heap.IsList l items := PySem.IsL.isList e
  obtain ⟨ob, hob, hcb, n2, hdb⟩ := id hb
  obtain ⟨os, hos, hcs, hds⟩ := id hs
  have hTs : s.TypeIs (.ref sl) "slice" := ⟨os, hos, hcs⟩
  have hstep : ¬ ((rawPart none == rawInt 0) = true) := Bool.false_ne_true
  have hmax : (max (a : Int) (c : Int)).toNat = c := by omega
  have hz' : ((fun xs : Array Value => xs.extract 0 a ++ new ++ xs.extract c xs.size) items).size ≤ sizeLine + 1 := by
    simp only [Array.size_append, Array.size_extract]
    omega
  unfold setItem
  try with_reducible refine wpAny_holding ?_
  first | refine wpAny_bind (wpAny_pure ?_) | skip
  refine wpAny_bind (wpAny_sequenceKey hl.typeIs (by decide) ?_)
  refine wpAny_bind (wpAny_callSpecial?_slot (name := Str.ofString "__setitem__") hl.typeIs slot_list_setitem
    (wpAny_call_entry slot_list_setitem hl.typeIs entry_list_setitem ?_ (args_list_setitem _ _ _)))
  show wpAny _ _ (Builtin.List.listSubscript? (.ref sl) >>= _) _ _ s
  refine wpAny_bind ?_
  unfold Builtin.List.listSubscript?
  refine wpAny_bind (wpAny_specialOf hTs slice_no_index ?_)
  simp only [Option.isNone_none, if_true]
  refine wpAny_pure ?_
  show wpAny _ _ (typeOf (.ref sl) >>= _) _ _ s
  refine wpAny_bind (wpAny_typeOf hTs ?_)
  first
    | rw [if_neg (by decide)]
    | refine PySem.W.KFB.if_not (by decide) ?_
  rw [listSliceParts_eq]
  refine wpAny_bind (wpAny_bind (wpAny_field hos hds (x := .none) rfl (wpAny_bind (wpAny_listPart .none ?_))))
  rw [if_neg hstep]
  refine wpAny_bind (wpAny_field hos hds (x := vl) rfl (wpAny_bind (wpAny_listPart pl ?_)))
  refine wpAny_bind (wpAny_field hos hds (x := vu) rfl (wpAny_bind (wpAny_listPart pu (wpAny_pure ?_))))
  cases hsame : Builtin.List.listSameRef (.ref l) (.ref b) with
  | false =>
    first
      | simp only [hsame, Bool.false_eq_true, if_false]
      | refine PySem.W.KFB.if_not hsame ?_
      | (dsimp only
         rw [if_neg (by rw [hsame]; exact Bool.false_ne_true)])
    refine wpAny_bind (m := Builtin.List.listAllItems (.ref b) "must assign iterable to extended slice") ?_
    unfold Builtin.List.listAllItems
    refine wpAny_bind (wpAny_typeOf hb.typeIs ?_)
    first
      | refine PySem.W.KFB.if_so (by decide) ?_
      | rw [if_pos (by decide)]
      | simp only [beq_self_eq_true, Bool.true_or, if_true]
    unfold Builtin.List.listItems
    refine wpAny_bind (wpAny_seqItems hob hdb (wpAny_pure ?_))
    refine wpAny_bind (wpAny_bind (wpAny_seqItems e rfl (wpAny_pure ?_)))
    refine wpAny_bind (wpAny_of_eq ((sliceIndices_raw (some (a : Int)) (some (c : Int)) none items.size (by simp)).trans (congrArg (pure : Int × Int × Int → Sem (Int × Int × Int)) (bounds_run hac hc))) ?_)
    show wpAny _ _ (if ((1 : Int) == 1) = true then _ else _) _ _ s
    rw [if_pos (by decide)]
    refine wpAny_bind (wpAny_rule ?_)
    first
      | simp only [notLongL hsz, Bool.false_eq_true, if_false]
      | refine PySem.W.KFB.if_not (notLongL hsz) ?_
    first | refine wpAny_bind (wpAny_pure ?_) | skip
    show wpAny _ _ (updateSeq l (fun xs => xs.extract 0 ((a : Int)).toNat ++ new ++ xs.extract (max (a : Int) (c : Int)).toNat xs.size) >>= _) _ _ s
    rw [hmax, Int.toNat_natCast]
    refine wpAny_bind (wpAny_updateSeq (hz := Nat.le_trans (Nat.le_add_right _ _) hsz) (_hz' := hz') e rfl ?_)
    refine wpAny_bind (wpAny_letGo ?_)
    first
      | exact wpAny_bind (wpAny_pure (wpAny_pure ⟨.none, rfl, wpAny_pure h⟩))
      | exact wpAny_pure ⟨.none, rfl, wpAny_pure h⟩
  | true =>
    first
      | simp only [hsame, if_true]
      | refine PySem.W.KFB.if_so hsame ?_
      | (dsimp only
         rw [if_pos hsame])
    refine wpAny_bind (m := Builtin.List.listItems (.ref b)) ?_
    unfold Builtin.List.listItems
    refine wpAny_bind (wpAny_seqItems hob hdb (wpAny_pure ?_))
    refine wpAny_bind (wpAny_bind (wpAny_seqItems e rfl (wpAny_pure ?_)))
    refine wpAny_bind (wpAny_of_eq ((sliceIndices_raw (some (a : Int)) (some (c : Int)) none items.size (by simp)).trans (congrArg (pure : Int × Int × Int → Sem (Int × Int × Int)) (bounds_run hac hc))) ?_)
    show wpAny _ _ (if ((1 : Int) == 1) = true then _ else _) _ _ s
    rw [if_pos (by decide)]
    refine wpAny_bind (wpAny_rule ?_)
    first
      | simp only [notLongL hsz, Bool.false_eq_true, if_false]
      | refine PySem.W.KFB.if_not (notLongL hsz) ?_
    first | refine wpAny_bind (wpAny_pure ?_) | skip
    show wpAny _ _ (updateSeq l (fun xs => xs.extract 0 ((a : Int)).toNat ++ new ++ xs.extract (max (a : Int) (c : Int)).toNat xs.size) >>= _) _ _ s
    rw [hmax, Int.toNat_natCast]
    refine wpAny_bind (wpAny_updateSeq (hz := Nat.le_trans (Nat.le_add_right _ _) hsz) (_hz' := hz') e rfl ?_)
    refine wpAny_bind (wpAny_letGo ?_)
    first
      | exact wpAny_bind (wpAny_pure (wpAny_pure ⟨.none, rfl, wpAny_pure h⟩))
      | exact wpAny_pure ⟨.none, rfl, wpAny_pure h⟩
end
section
variable {X : Cx} {G : Gh}
def rSetSl (K : PySem.W.Frag) : V → Option Int → Option Int → V → Hp → (Hp → Prop) → Prop := fun x lo hi v H Q => ∃ (l b : Addr) (xs ys : List V) (a c : Int), x = .ref l ∧ v = .ref b ∧ lo = some a ∧ hi = some c ∧ H l = some (.lst xs) ∧ SqL K H b ys ∧ 0 ≤ a ∧ a ≤ c ∧ c ≤ xs.length ∧ xs.length + ys.length ≤ sizeLine ∧
  Q (upd H l (.lst (xs.take a.toNat ++ ys ++ xs.drop c.toNat)))
theorem set_sliceG {pins : List (Addr × Obj)} {s : Shared} {σ : St} {H : Hp} {l b sl : Addr} {xs ys : List V} {a c : Int} {vl vu : Value} {Q : Unit → Shared → Prop} (I : Inv X pins σ H s)
    (hH : H l = some (.lst xs)) (hB : SqL X.K H b ys) (hs : s.heap.IsSliceOf sl vl vu .none) (pa : IsPart vl (some a)) (pc : IsPart vu (some c)) (h0 : 0 ≤ a) (hac : a ≤ c) (hc : c ≤ xs.length)
    (hz : xs.length + ys.length ≤ sizeLine) (h : ∀ s', Inv X pins σ (upd H l (.lst (xs.take a.toNat ++ ys ++ xs.drop c.toNat))) s' → Q () s') :
    wpAny (model X.prog X.w) X.A (setItem (.ref l) (.ref sl) (.ref b)) Q X.xe s := by
  obtain ⟨z, its, n, r, hl, e⟩ := I.lstM hH
  obtain ⟨its2, r2, ⟨ob, n2, ho2, hc2, hi2, hd2⟩, z2⟩ := I.list hB
  obtain ⟨a', rfl⟩ := Int.eq_ofNat_of_zero_le h0
  obtain ⟨c', rfl⟩ := Int.eq_ofNat_of_zero_le (Int.le_trans h0 hac)
  simp only [Int.toNat_natCast] at h
  have l1 := r.length
  have l2 := r2.length
  refine setItem_sliceG (a := a') (c := c') (new := its2.toArray) e ⟨ob, ho2, hc2, n2, hd2⟩ hs pa pc (by omega) (by rw [List.size_toArray]; omega) (by rw [List.size_toArray, List.size_toArray]; omega) (h _ ?_)
  refine I.lset (its' := its.take a' ++ its2 ++ its.drop c') (t' := s.toks) hH e ?_ (Vals.append (Vals.append (r.take _) r2) (r.drop _)) ?_
  · exact splice_eq its its2 a' c'
  · rw [List.length_append, List.length_append, List.length_take, List.length_drop]
    omega
theorem pg_setsl {o lo hi : Expr} {apos p2 : Pos} {to : TE} {tl th : TO} (ho : PE X o to) (hl : PO X (some lo) tl) (hu : PO X (some hi) th)
    (ha : ∀ v, assign (.Subscript o (.Slice (some lo) (some hi) none p2) apos) X.env v = (do
      let ov ← holding [v] (eval o X.env)
      let iv ← holding [v, ov] (eval (.Slice (some lo) (some hi) none p2) X.env)
      standAt apos
      holding [v, ov, iv] (setItem ov iv v)
      release [iv, v, ov] []) := by intro _; rfl) :
    PG X (.Subscript o (.Slice (some lo) (some hi) none p2) apos) (fun v σ H Q => to σ H fun x H1 => tl σ H1 fun i H2 => th σ H2 fun j H3 => rSetSl X.K x i j v H3 fun H4 => Q σ H4) := by
  refine ⟨fun pins s σ H v u Q I r h => ?_⟩
  rw [ha]
  refine wpAny_bind (wpAny_holding (thn (ho.run pins s σ H _ I h) fun ov s1 ⟨x, H1, I1, r1, q1⟩ => ?_))
  refine wpAny_bind (wpAny_holding (wpAny_Slice (thn (hl.run pins s1 σ H1 _ I1 q1) fun vl s2 ⟨i, H2, I2, pl, q2⟩ => thn (hu.run pins s2 σ H2 _ I2 q2) fun vu s3 ⟨j, H3, I3, pu, q3⟩ => ?_)))
  rw [evalPart_none]
  refine wpAny_pure ?_
  obtain ⟨l, b, xs, ys, a, c, rfl, rfl, rfl, rfl, hH, hB, h0, hac, hc, hz, q4⟩ := q3
  have I4 : Inv X pins σ H3 { s3 with heap := s3.heap.push { cls := .type "slice", data := .fields #[vl, vu, .none] } } := I3.kept (t' := s3.toks) fun b ob q => Heap.get?_push_of_some _ q
  cases r1
  cases r
  refine wpAny_bind (wpAny_standAt (wpAny_bind (wpAny_holding (set_sliceG I4 hH hB (Heap.IsSliceOf.new ..) pl pu h0 hac hc hz fun s' I5 => ?_))))
  exact wpAny_release ⟨σ, _, I5, q4⟩
end
end DL
set_option Elab.async false
set_option linter.all false
set_option maxRecDepth 100000
set_option maxHeartbeats 1600000
/-! DL57: lists that other things hold: by their handle. -/
namespace DL
open PySem PySem.Spec PyProof.Rows L2
section
variable {X : Cx} {G : Gh} {a e o ix : Expr} {es : List Expr} {pos p p0 apos cpos : Pos} {x : Str}
/-! ### made -/
/-! ### read -/
/-! ### frozen -/
/-! ### an item -/
/-! ### .append -/
/-! ### o[i] = e, o[i:j] = [..] -/
def slPut (xs ys : List D) (i j : Int) (Q : List D → Prop) : Prop := (0 ≤ i ∧ i ≤ j ∧ j ≤ xs.length ∧ xs.length + ys.length ≤ sizeLine) ∧ Q (xs.take i.toNat ++ ys ++ xs.drop j.toNat)
/-- a list of one's own at a name: x[i:j] = e -/
def sSetSlO (k : Nat) (ta tc te : TD) : TSd := fun DE E => te E fun z E1 => match z with
  | .list ys => (match E1[k]? with | some (.ol _) => True | _ => False) ∧ ta E1 fun i E3 => match i with
    | .int m => tc E3 fun j E4 => match j, E4[k]? with
      | .int n, some (.ol xs) => slPut xs ys m n fun zs => DE.nx (E4.set k (.ol zs))
      | _, _ => False
    | _ => False
  | _ => False
theorem sd_setSlO (k : Nat) {lo hi : Expr} {p2 : Pos} {ta tc te : TD} (hl : ED X G lo ta) (hh : ED X G hi tc) (he : ED X G e te) (hN : X.N[k]? = some x := by rfl) (hv : Vis X.env.scope x := by first | exact Or.inl rfl | exact Or.inr (Or.inl rfl) | exact Or.inr (Or.inr rfl)) (hd : (x == ("__debug__" : Str)) = false := by decide)
    (hcd : (x == ("__classdict__" : Str)) = false := by decide)
    (ha : ∀ v, assign (.Subscript (.Name x p0) (.Slice (some lo) (some hi) none p2) apos) X.env v = (do
      let ov ← holding [v] (eval (.Name x p0) X.env)
      let iv ← holding [v, ov] (eval (.Slice (some lo) (some hi) none p2) X.env)
      standAt apos
      holding [v, ov, iv] (setItem ov iv v)
      release [iv, v, ov] []) := by intro _; rfl)
    (hs : swapsWithSole [.Subscript (.Name x p0) (.Slice (some lo) (some hi) none p2) apos] e pos.line X.env = pure false := by rfl) (hw : swappedStores [.Subscript (.Name x p0) (.Slice (some lo) (some hi) none p2) apos] e X.env = pure none := by rfl)
    (hb : (assignEach [.Subscript (.Name x p0) (.Slice (some lo) (some hi) none p2) apos] X.env).map (·.2) = [assign (.Subscript (.Name x p0) (.Slice (some lo) (some hi) none p2) apos) X.env] := by rfl) :
    SD X G (.Assign [.Subscript (.Name x p0) (.Slice (some lo) (some hi) none p2) apos] e pos) (sSetSlO k ta tc te) := by
  refine ⟨PS.weak (ps_asg he.pe (pg_setsl (pe_var hN hv hd hcd) (po_some hl.pe) (po_some hh.pe) ha) hs hw hb) fun F σ H ⟨E, DE, r, q, k1, k2, k3, k4⟩ => ⟨E, _, r, q, fun z E1 b H1 q1 x1 r1 p1 => ?_⟩⟩
  cases p1 with
  | @lst b vs2 ys hls l2 =>
    dsimp only at q1
    obtain ⟨q0, q1⟩ := q1
    split at q0
    · rename_i xs0 he0
      obtain ⟨l0, vs0, e1, e2, e3⟩ := r1.ol he0
      refine ⟨_, e1, E1, _, r1, q1, fun i E3 v3 H3 q3 x3 r3 p3 => ?_⟩
      cases p3 with
      | int m =>
        dsimp only at q3
        refine ⟨m, rfl, E3, _, r3, q3, fun j E4 v4 H4 q4 x4 r4 p4 => ?_⟩
        split at q4
        · rename_i d0 o0 n xs he4
          cases p4
          obtain ⟨l', vs, f1, f2, f3⟩ := r4.ol he4
          rw [e1] at f1; cases f1
          obtain ⟨⟨c0, c1, c2, c3⟩, q4⟩ := q4
          have x14 := x3.trans x4
          have l4 := l2.ext x14
          have pp := RpL.append (RpL.append (f3.take m.toNat) l4) (f3.drop n.toNat)
          exact ⟨n, rfl, l0, b, vs, vs2, m, n, rfl, rfl, rfl, rfl, f2, (hls.ext x14).sq, c0, c1, by rw [← f3.length]; exact c2, by rw [← f3.length, ← l4.length]; exact c3, k1 _ _ _ q4 ((x1.trans x14).trans (Ext.put f2)) (r4.putL he4 e1 pp)⟩
        · exact q4.elim
      | _ => exact q3.elim
    · exact q0.elim
  | _ => exact q1.elim
end
end DL
set_option Elab.async false
set_option linter.all false
set_option maxRecDepth 100000
set_option maxHeartbeats 3200000
/-! DL58: == and != of own objects by their __eq__, isinstance of an own class. -/
namespace DL
open PySem PySem.Spec PyProof.Rows L2
/-- data whose type is told, no object -/
def plainTy : D → Option Value
  | .none => some (.type "NoneType")
  | .bool _ => some (.type "bool")
  | .int _ => some (.type "int")
  | .str _ => some (.type "str")
  | .tuple _ => some (.type "tuple")
  | _ => none
theorem TyX.of {K : PySem.W.Frag} {H : Hp} {d : D} {v : V} {t : Value} (h : plainTy d = some t) (r : Rp K H d v) : TyX K H v t := by
  cases d with
  | none => cases h; cases r; exact .base .non
  | bool b => cases h; cases r; exact .base (.bl b)
  | int b => cases h; cases r; exact .base (.int b)
  | str b => cases h; cases r; exact .base (.str b)
  | tuple xs =>
    cases h
    cases r with
    | tup hs l =>
      rcases hs.1 with (e | ⟨o, e⟩) | ⟨o, its, n, e, c, _⟩
      · exact .base (.tup e)
      · exact .fTuple e
      · exact .kTuple e c
  | list _ => cases h
  | dict _ => cases h
end DL
set_option Elab.async false
set_option linter.all false
set_option maxRecDepth 100000
set_option maxHeartbeats 3200000
/-! DL59: making by keywords; functions of one object or more. -/
namespace DL
open PySem PySem.Spec PyProof.Rows L2
/-- where a parameter's value comes from -/
inductive Src where
  | p : Nat → Src
  | d : Nat → Src
  | k : Nat → Src
def Src.get {α : Type} (vs ds zs : List α) : Src → Option α
  | .p i => vs[i]?
  | .d i => ds[i]?
  | .k i => zs[i]?
section
variable {X : Cx} {G : Gh} {e : Expr} {es : List Expr} {kws : List Keyword} {pos p kpos : Pos} {x : Str} {nm : Option Str} {C f : Addr} {fd : FuncData} {ps ks : List Str} {k n m : Nat} {sp : SpO} {ta tk : TDs} {dvs : List V} {its : List Value} {dd : List D} {pl : List Src}
theorem PK.weak {t t' : TA} (h : PK X kws t) (w : ∀ σ H Q, t' σ H Q → t σ H Q) : PK X kws t' := ⟨fun pos pins s σ H Q I q => h.run pos pins s σ H Q I (w σ H Q q)⟩
end
end DL
set_option Elab.async false
set_option linter.all false
set_option maxRecDepth 100000
set_option maxHeartbeats 3200000
/-! DL60: sets of texts: set(xs), sorted(set(xs)). -/
namespace DL
open PySem PySem.Spec PyProof.Rows L2
def txtOf (e : Int × Value) : Str := match e.2 with
  | .str k _ => k
  | _ => Str.empty
def TxtE (P : Program) (w : World) (e : Int × Value) : Prop := ∃ k tk, e.2 = Value.str k tk ∧ e.1 = (PySem.strKind P w).hash k
/-- at a stands a set of these texts -/
def SetS (P : Program) (w : World) (h : Heap) (a : Addr) (ks : List Str) : Prop :=
  ∃ o ws g T, h.get? a = some o ∧ o.ExactSet ∧ o.data = .set ws g T ∧ (∀ e ∈ ws.toList, TxtE P w e) ∧ ws.toList.map txtOf = ks ∧ ks.Nodup ∧
    ws.size < scanBound ∧ T.fits ws.size = true ∧ Ris T.place.toList ∧ (w.params.followText "set-order" = true ∨ T.led = true)
section
variable {P : Program} {w : World} {h h' : Heap} {a : Addr} {ks : List Str}
theorem SetS.at (R : SetS P w h a ks) (k : ∀ o, h.get? a = some o → h'.get? a = some o) : SetS P w h' a ks := by
  obtain ⟨o, ws, g, T, ho, r⟩ := R
  exact ⟨o, ws, g, T, k o ho, r⟩
theorem SetS.size (R : SetS P w h a ks) : ∃ o ws g T, h.get? a = some o ∧ o.data = .set ws g T ∧ ws.size = ks.length := by
  obtain ⟨o, ws, g, T, ho, _, hd, _, e, _⟩ := R
  exact ⟨o, ws, g, T, ho, hd, by rw [← e, List.length_map, Array.length_toList]⟩
end
/-! ### the rules -/
section
variable {X : Cx} {G : Gh} {a : Expr} {pos p p1 p2 : Pos}
theorem RpL.strs {K : PySem.W.Frag} {H : Hp} : ∀ {ns : List Str} {vs : List V}, RpL K H (ns.map PyData.str) vs → vs = ns.map V.str
  | [], _, .nil => rfl
  | _ :: _, _, .cons (.str _) t => by rw [RpL.strs t]; rfl
theorem RpL.ofStrs {K : PySem.W.Frag} {H : Hp} : ∀ (ns : List Str), RpL K H (ns.map PyData.str) (ns.map V.str)
  | [] => .nil
  | n :: ns => .cons (.str n) (RpL.ofStrs ns)
/-- sorted(set(xs)), xs a list of fewer than 64 texts -/
def tSortSetS (ta : TD) : TLd := fun E Q => ta E fun x E1 => match x with
  | .list xs => ∃ ns : List Str, xs = ns.map PyData.str ∧ ns.length < 64 ∧ ∀ ys : List Str, ys.Nodup → (∀ k, k ∈ ys ↔ k ∈ ns) → sortedS ys = true → Q (ys.map PyData.str) E1
  | _ => False
end
end DL
set_option Elab.async false
set_option linter.all false
set_option maxRecDepth 100000
set_option maxHeartbeats 3200000
/-! DL61: dicts with int and text keys: d.get(k, x), d[k] = v, k in d, sorted(d), frozen ones as data. -/
namespace DL
open PySem PySem.Spec PyProof.Rows L2
/-- as data -/
def dkD (kvs : List (Key × D)) : D := .dict (kvs.map fun p => (keyDt p.1, p.2))
section
variable {X : Cx} {G : Gh} {e f a : Expr} {pos pos' p p0 apos cpos : Pos} {x : Str} {tk tv tx ta : TD} {tg : Expr}
/-- a new dict as data -/
def tFzKM (t : TM) : TD := fun E Q => t E fun s E1 => match s with
  | .dk kvs => kvs ≠ [] ∧ Q (dkD kvs) E1
  | _ => False
/-- d[k], d data -/
def tDkGetD (ta tk : TD) : TD := fun E Q => ta E fun x E1 => tk E1 fun k E2 => match x with
  | .dict kds => optQ (keysOf kds) fun l => l ≠ [] ∧ optQ (keyOf k) fun ky => optQ (valK l ky) fun d => Q d E2
  | _ => False
/-- d.values() walked, d data -/
def iDvK (ta : TD) : TDs := fun E Q => ta E fun x E1 => match x with
  | .dict kds => optQ (keysOf kds) fun l => l ≠ [] ∧ Q (l.map (·.2)) E1
  | _ => False
/-- d.get(k, x), d a name of one's own -/
def tDkGet2 (i : Nat) (tk tx : TD) : TD := fun E Q => match E[i]? with
  | some (.dk _) => tk E fun k E1 => tx E1 fun z E2 => match E2[i]?, keyOf k with
    | some (.dk kvs), some ky => Q ((valK kvs ky).getD z) E2
    | _, _ => False
  | _ => False
/-- k in d -/
def tInDk (tk : TD) (i : Nat) : TTd := fun E Q => tk E fun k E1 => match E1[i]?, keyOf k with
  | some (.dk kvs), some ky => Q (valK kvs ky).isSome E1
  | _, _ => False
/-- d[k] = v -/
def sDkPut (i : Nat) (tk tv : TD) : TSd := fun DE E => tv E fun d E1 => match E1[i]? with
  | some (.dk _) => tk E1 fun k E2 => match E2[i]?, keyOf k with
    | some (.dk kvs), some ky => kvs.length < sizeLine ∧ DE.nx (E2.set i (.dk (putD2 kvs ky d)))
    | _, _ => False
  | _ => False
/-- sorted(d), all keys texts -/
def tSortDk (i : Nat) : TLd := fun E Q => match E[i]? with
  | some (.dk kvs) => ∃ ks : List Str, kvs.map (·.1) = ks.map Sum.inr ∧ ks.length < 64 ∧ ∀ ys : List Str, ys.Perm ks → sortedS ys = true → Q (ys.map PyData.str) E
  | _ => False
end
/-! ### texts in their order: one row only -/
end DL
set_option Elab.async false
set_option linter.all false
set_option maxRecDepth 100000
set_option maxHeartbeats 3200000
/-! DL62: texts: order, find, split, join, turned about, repeated, int(text), walked by signs. -/
namespace DL
open PySem PySem.Spec PyProof.Rows L2
section
variable {X : Cx} {G : Gh} {a b e : Expr} {pos p p1 p2 p3 apos : Pos} {ta tb : TD} {tg : Expr}
/-! ### order -/
def opLeS : OpT := fun x y Q => match x, y with
  | .str i, .str j => Q (.bool (!decide (j.cps.toList < i.cps.toList)))
  | _, _ => False
/-! ### find -/
def tFind (ta tb : TD) : TD := fun E Q => ta E fun x E1 => match x with
  | .str i => tb E1 fun y E2 => match y with
    | .str j => Q (.int (Txt.find i j)) E2
    | _ => False
  | _ => False
theorem ed_find (ha : ED X G a ta) (hb : ED X G b tb) (hs : starEach [b] X.env = [(false, eval b X.env)] := by rfl) (hbase : attributeBase a "find" X.env (eval a X.env) = eval a X.env := by rfl) (hline : (apos.endLine == pos.line) = true := by rfl) :
    ED X G (.Call (.Attribute a "find" apos) [b] [] pos) (tFind ta tb) :=
  ⟨PE.weak (pe_m1 F.slot_str_find F.type_str_find mt_find ha.pe hb.pe hs hbase hline) fun σ H Q ⟨E, QE, r, q, k⟩ => ⟨E, _, r, q, fun x E1 v H1 q1 x1 r1 p1 => by
    cases p1 with
    | str i => exact ⟨⟨i, rfl⟩, E1, _, r1, q1, fun y E2 u H2 q2 x2 r2 p2 => by
        cases p2 with
        | str j => exact ⟨i, j, rfl, rfl, k _ _ _ _ q2 (x1.trans x2) r2 (.int _)⟩
        | _ => exact q2.elim⟩
    | _ => exact q1.elim⟩⟩
/-! ### split -/
def tSplit (ta tb : TD) : TLd := fun E Q => ta E fun x E1 => match x with
  | .str i => tb E1 fun y E2 => match y with
    | .str j => (j.length == 0) = false ∧ i.length + 2 ≤ sizeLine ∧ Q ((Txt.split i j).map PyData.str) E2
    | _ => False
  | _ => False
theorem el_split (ha : ED X G a ta) (hb : ED X G b tb) (hs : starEach [b] X.env = [(false, eval b X.env)] := by rfl) (hbase : attributeBase a "split" X.env (eval a X.env) = eval a X.env := by rfl) (hline : (apos.endLine == pos.line) = true := by rfl) :
    EL X G (.Call (.Attribute a "split" apos) [b] [] pos) (tSplit ta tb) :=
  ⟨PE.weak (pe_split ha.pe hb.pe hs hbase hline) fun σ H Q ⟨E, QE, r, q, k⟩ => ⟨E, _, r, q, fun x E1 v H1 q1 x1 r1 p1 => by
    cases p1 with
    | str i => exact ⟨⟨i, rfl⟩, E1, _, r1, q1, fun y E2 u H2 q2 x2 r2 p2 => by
        cases p2 with
        | str j =>
          refine ⟨i, j, rfl, rfl, q2.1, q2.2.1, fun p' hp => ?_⟩
          obtain ⟨r3, h0, na⟩ := r2.fresh (o := .lst ((Txt.split i j).map V.str)) hp
          exact k _ _ _ _ _ q2.2.2 ((x1.trans x2).trans (PExt.new hp).ext) r3 h0 na upd_same (RpL.ofStrs _)
        | _ => exact q2.elim⟩
    | _ => exact q1.elim⟩⟩
/-! ### join -/
def tJoinS (ta tb : TD) : TD := fun E Q => ta E fun x E1 => match x with
  | .str i => tb E1 fun y E2 => match y with
    | .list ys => ∃ zs : List Str, ys = zs.map PyData.str ∧ (zs.map (·.length)).sum + zs.length * i.length ≤ 16777216 ∧ Q (.str (Txt.join i zs)) E2
    | _ => False
  | _ => False
theorem ed_joinS (ha : ED X G a ta) (hb : ER X G b tb) (hs : starEach [b] X.env = [(false, eval b X.env)] := by rfl) (hbase : attributeBase a "join" X.env (eval a X.env) = eval a X.env := by rfl) (hline : (apos.endLine == pos.line) = true := by rfl) :
    ED X G (.Call (.Attribute a "join" apos) [b] [] pos) (tJoinS ta tb) :=
  ⟨PE.weak (pe_join ha.pe hb.pe hs hbase hline) fun σ H Q ⟨E, QE, r, q, k⟩ => ⟨E, _, r, q, fun x E1 v H1 q1 x1 r1 p1 => by
    cases p1 with
    | str i => exact ⟨⟨i, rfl⟩, E1, _, r1, q1, fun y E2 u H2 q2 x2 r2 p2 => by
        cases y with
        | list ys =>
          obtain ⟨zs, rfl, hz, q2⟩ := q2
          obtain ⟨c, us, rfl, sq, rl⟩ := p2.list
          rw [rl.strs] at sq
          exact ⟨i, c, zs, rfl, rfl, .inl sq, hz, k _ _ _ _ q2 (x1.trans x2) r2 (.str _)⟩
        | _ => exact q2.elim⟩
    | _ => exact q1.elim⟩⟩
/-! ### int(text) -/
def caIntS : CaT := fun ds Q => match ds with
  | [.str i] => ∃ n, PySem.intText? i = some n ∧ i.length ≤ 640 ∧ Q (.int n)
  | _ => False
/-! ### walked by its signs -/
def sgn (c : Nat) : Str := ⟨#[c]⟩
def signsD (x : Str) : List D := x.cps.toList.map fun c => PyData.str (sgn c)
def iStrD (ta : TD) : TDs := fun E Q => ta E fun x E1 => match x with
  | .str i => Q (signsD i) E1
  | _ => False
theorem walk_str {K : PySem.W.Frag} {H : Hp} (x : Str) : WalkD false K (Its x) H (signsD x) where
  goes := fun i H' _ hi => by unfold signsD at hi; rw [List.length_map, Array.length_toList] at hi; exact hi
  yld := fun i H' v H2 _ hi hy => by
    obtain ⟨rfl, c, hc, rfl⟩ := hy
    refine ⟨PExt.refl _, .str (sgn c), ?_, .str _⟩
    unfold signsD
    rw [List.getElem?_map, Array.getElem?_toList, hc]; rfl
  stops := fun H' _ => by
    show x.cps.size ≤ (signsD x).length
    unfold signsD
    rw [List.length_map, Array.length_toList]; exact Nat.le_refl _
theorem id_str (h : ED X G a ta) : ID X G false tg a (iStrD ta) :=
  ⟨PI.weak (pi_str h.pe) fun σ H R ⟨E, QE, r, q, k⟩ => ⟨E, _, r, q, fun x E1 v H1 q1 x1 r1 p1 => by
    cases p1 with
    | str i => exact ⟨i, rfl, k _ _ _ _ q1 x1 r1 (walk_str i)⟩
    | _ => exact q1.elim⟩⟩
/-! ### text * int -/
def repS (x : Str) (n : Int) : Str := if n < 1 then Str.empty else if (n == 1 || x.length == 0) = true then x else ⟨(List.replicate n.toNat x.cps).foldl (· ++ ·) #[]⟩
theorem fold_app : ∀ (l : List (Array Nat)) (z : Array Nat), (l.foldl (· ++ ·) z).size = z.size + (l.map (·.size)).sum
  | [], z => by simp
  | y :: l, z => by rw [List.foldl_cons, fold_app l, Array.size_append, List.map_cons, List.sum_cons]; omega
theorem repS_length (x : Str) (n : Int) : (repS x n).length ≤ x.length * n.toNat := by
  unfold repS
  split
  · show 0 ≤ _; omega
  · split
    · rename_i h1 h2
      have : 1 ≤ n.toNat := by omega
      calc x.length = x.length * 1 := by omega
        _ ≤ _ := Nat.mul_le_mul_left _ this
    · show (((List.replicate n.toNat x.cps).foldl (· ++ ·) #[]) : Array Nat).size ≤ _
      rw [fold_app]
      have : ((List.replicate n.toNat x.cps).map (·.size)).sum = x.length * n.toNat := by
        rw [List.map_replicate]
        have : ∀ (m k : Nat), (List.replicate m k).sum = k * m := by
          intro m k
          induction m with
          | zero => simp
          | succ m ih => rw [List.replicate_succ, List.sum_cons, ih, Nat.mul_succ]; omega
        rw [this]; rfl
      rw [this]; show 0 + _ ≤ _; omega
theorem op_mulS : OpR X (binaryOp .Mult) (fun x y H Q => ∃ i n, x = .str i ∧ y = .int n ∧ 0 ≤ n ∧ n ≤ 1000 ∧ i.length ≤ 1000 ∧ Q (.str (repS i n)) H) := by
  intro pins s σ H x y v u Q I rx ry h
  obtain ⟨i, n, rfl, rfl, h0, h1, h2, q⟩ := h
  obtain ⟨t, rfl⟩ := rx
  obtain ⟨t2, rfl⟩ := ry
  have big : i.length * n.toNat ≤ 1000 * 1000 := Nat.mul_le_mul h2 (by omega)
  refine P.mul_str ?_ (fun h3 _ h4 => ?_) (fun h3 _ => ?_) ?_
  · rw [decide_eq_false (by omega), decide_eq_false (by omega)]; rfl
  · have h5 : (1000 : Int) ≤ (2 ^ 63 - 1) / n := by
      refine (Int.le_ediv_iff_mul_le (by omega)).mpr ?_
      have : (1000 : Int) * n ≤ 1000 * 1000 := Int.mul_le_mul_of_nonneg_left h1 (by omega)
      omega
    omega
  · unfold PySem.Builtin.Str.tooLong
    first
      | exact decide_eq_false (by rw [sizeLine_eq]; omega)
      | (simp only [sizeLine_eq, decide_eq_false_iff_not]; omega)
  · have hl := repS_length i n
    unfold repS at q hl
    by_cases c1 : n < 1
    · rw [if_pos c1] at q hl ⊢
      exact ⟨by decide, .str _, H, I.tok _, ⟨_, rfl⟩, q⟩
    · rw [if_neg c1] at q hl ⊢
      by_cases c2 : (n == 1 || i.length == 0) = true
      · rw [if_pos c2] at q ⊢
        exact ⟨.str _, H, I, ⟨t, rfl⟩, q⟩
      · rw [if_neg c2] at q hl ⊢
        exact ⟨Nat.le_trans hl (by rw [sizeLine_eq]; omega), .str _, H, I.tok _, ⟨_, rfl⟩, q⟩
def opMulS : OpT := fun x y Q => match x, y with
  | .str i, .int n => (0 ≤ n ∧ n ≤ 1000 ∧ i.length ≤ 1000) ∧ Q (.str (repS i n))
  | _, _ => False
theorem od_mulS : OpD X (binaryOp .Mult) opMulS := ⟨_, op_mulS, fun x y v u H QD Q hx hy q k => by
  cases x with
  | str i =>
    cases y with
    | int n => rw [hx.str, hy.int]; exact ⟨i, n, rfl, rfl, q.1.1, q.1.2.1, q.1.2.2, k _ _ _ q.2 (PExt.refl _) (.str _)⟩
    | _ => exact q.elim
  | _ => exact q.elim⟩
/-! ### text[::-1] -/
def revS (x : Str) : Str := ⟨x.cps.toList.reverse.toArray⟩
theorem pick_revS (xs : Array Nat) : ((Builtin.Str.strSliceIndices none none (-1) xs.size).filterMap (xs[·]?)).toArray = xs.toList.reverse.toArray := by
  congr 1
  have e : Builtin.Str.strSliceIndices none none (-1) xs.size = (List.range xs.size).map fun (k : Nat) => (((xs.size : Int) - 1) + (-1) * (k : Int)).toNat := by
    unfold Builtin.Str.strSliceIndices sliceRange
    have c : ((if ((xs.size : Int) - 1) > -1 then (((xs.size : Int) - 1) - -1 - -1 - 1) / (- -1) else 0) : Int).toNat = xs.size := by
      split
      · rw [show (- -1 : Int) = 1 from rfl, Int.ediv_one]; omega
      · omega
    have n1 : ¬ ((-1 : Int) > 0) := by decide
    simp only [if_neg n1]
    rw [c]
  rw [e, List.filterMap_map]
  have h : ∀ k ∈ List.range xs.size, ((fun x => xs[x]?) ∘ fun (k : Nat) => (((xs.size : Int) - 1) + (-1) * (k : Int)).toNat) k = xs.toList.reverse[k]? := fun k hk => by
    have hk := List.mem_range.mp hk
    show xs[(((xs.size : Int) - 1) + (-1) * (k : Int)).toNat]? = _
    rw [show ((((xs.size : Int) - 1) + (-1) * (k : Int)).toNat) = xs.size - 1 - k by omega, List.getElem?_reverse (by simpa using hk)]
    simp
  rw [fm_congr h]
  have g := filterMap_all xs.toList.reverse
  rw [List.length_reverse, Array.length_toList] at g
  exact g
theorem pe_revS {te : TE} {k : Nat} (he : PE X e te) : PE X (.Subscript e (.Slice none none (some (.UnaryOp .USub (.Constant (.int 1) k p1) p2)) p3) pos)
    (fun σ H Q => te σ H fun x H1 => ∃ i, x = .str i ∧ i.length ≤ sizeLine ∧ Q (.str (revS i)) H1) := by
  refine ⟨fun pins s σ H Q I h => ?_⟩
  refine Subscript_ (thn (he.run pins s σ H _ I h) fun v s1 ⟨x, H1, I1, r1, q1⟩ => ?_)
  obtain ⟨i, ex, hx, q⟩ := q1
  subst ex
  obtain ⟨t, rfl⟩ := r1
  have hst : PO X (some (.UnaryOp .USub (.Constant (.int 1) k p1) p2)) (tPart (tUn (rU fun i => .int (-i)) (tC (.int 1)))) := po_some (pe_un un_neg pe_int)
  refine wpAny_Slice (thn (po_none.run pins s1 σ H1 (fun o H2 => o = none ∧ H2 = H1) I1 ⟨rfl, rfl⟩) fun vl s2 ⟨l, H2, I2, pl, el, e2⟩ => ?_)
  subst el e2
  refine thn (po_none.run pins s2 σ H2 (fun o H3 => o = none ∧ H3 = H2) I2 ⟨rfl, rfl⟩) fun vu s3 ⟨u, H3, I3, pu, eu, e3⟩ => ?_
  subst eu e3
  refine thn (hst.run pins s3 σ H3 (fun o H4 => o = some (-1) ∧ H4 = H3) I3 ⟨1, rfl, -1, rfl, rfl, rfl⟩) fun vs s4 ⟨o, H4, I4, ps, eo, e4⟩ => ?_
  subst eo e4
  have I5 : Inv X pins σ H4 { s4 with heap := s4.heap.push { cls := .type "slice", data := .fields #[vl, vu, vs] } } := I4.kept (t' := s4.toks) fun b ob q => Heap.get?_push_of_some _ q
  cases pl
  cases pu
  obtain ⟨st, rfl, hst2⟩ := IsPart.raw ps
  show wpAny (model X.prog X.w) X.A (subscriptTail e (.Slice none none (some (.UnaryOp .USub (.Constant (.int 1) k p1) p2)) p3) (.str i t) (.ref s4.heap.objs.size)) (EP X pins σ Q) X.xe { s4 with heap := s4.heap.push { cls := .type "slice", data := .fields #[.none, .none, partValue st] } }
  refine tail_any (ops := [.str i t, .ref s4.heap.objs.size]) (typeIs_str _ i t) F.slot_str_getitem.lookup ?_ (by with_unfolding_all rfl)
  have e0 : ((st.map (·.1)).getD 1 == 0) = false := by rw [hst2]; rfl
  refine wpAny_getItem_str_slice (l := none) (u := none) (st := st) ⟨_, Heap.get?_push_size _ rfl, rfl, rfl⟩ e0 ?_
  unfold sliceMade
  have e1 : ¬ (((st.map (·.1)).getD 1 == 1 && (slicePicked i none none st).length == i.length) = true) := by rw [hst2]; simp
  rw [if_neg e1]
  have e2 : (⟨((slicePicked i none none st).filterMap (i.cps[·]?)).toArray⟩ : Str) = revS i := by
    unfold revS
    rw [← pick_revS]
    unfold slicePicked
    rw [hst2]
    rfl
  rw [e2]
  refine ⟨?_, .str _, H4, I5.tok _, ⟨_, rfl⟩, q⟩
  show (revS i).cps.size ≤ sizeLine
  unfold revS
  rw [List.size_toArray, List.length_reverse, Array.length_toList]; exact hx
def tRevS (ta : TD) : TD := fun E Q => ta E fun x E1 => match x with
  | .str i => i.length ≤ sizeLine ∧ Q (.str (revS i)) E1
  | _ => False
theorem ed_revS {k : Nat} (ha : ED X G a ta) : ED X G (.Subscript a (.Slice none none (some (.UnaryOp .USub (.Constant (.int 1) k p1) p2)) p3) pos) (tRevS ta) :=
  ⟨PE.weak (pe_revS ha.pe) fun σ H Q ⟨E, QE, rel, q, k⟩ => ⟨E, _, rel, q, fun x E1 v H1 q1 x1 r1 p1 => by
    cases p1 with
    | str i => exact ⟨i, rfl, q1.1, k _ _ _ _ q1.2 x1 r1 (.str _)⟩
    | _ => exact q1.elim⟩⟩
end
end DL
set_option Elab.async false
set_option linter.all false
set_option maxRecDepth 100000
set_option maxHeartbeats 3200000
/-! DL63: exceptions that leave a comprehension. -/
namespace DL
open PySem PySem.Spec PyProof.Rows L2
/-- fresh, or noted by whomever -/
def SkyA (B : Heap) (l : List PySem.Env) (a : Addr) (Z : Obj → Prop) (h : Heap) : Prop :=
  (B.StaysIn h ∧ B.get? a = none ∧ h.FunFrames B l ∧ ∃ oe vs, h.get? a = some oe ∧ Z oe ∧ oe.data = .fields vs ∧ vs[1]? = some .none) ∨
  (B.StaysIn h ∧ B.get? a = none ∧ h.FunFrames B l ∧ ∃ fl, HandSPX.TracedZ h B a Z fl)
theorem SkyA.of {B : Heap} {l : List PySem.Env} {a L : Addr} {Z : Obj → Prop} {h : Heap} (x : Sky B l a Z L h) : SkyA B l a Z h := by
  rcases x with x | ⟨x1, x2, x3, x4⟩ | ⟨x1, x2, x3, x4⟩
  · exact .inl x
  · exact .inr ⟨x1, x2, x3, _, x4⟩
  · exact .inr ⟨x1, x2, x3, _, x4⟩
def XEA (X : Cx) (W : WX) (u : Value) (s' : Shared) : Prop :=
  ∃ (a : Addr) (B : Heap) (sI : Shared) (pins : List (Addr × Obj)) (σ : L2.St) (H : Hp) (cls : Value) (d : Option Addr),
    u = .ref a ∧ Inv X pins σ H sI ∧ (∀ b o, sI.heap.get? b = some o → b ∉ frs X.stack → B.get? b = some o) ∧ sI.heap.UpToSlots s'.heap ∧
      SkyA B X.stack a (Zc cls d) s'.heap ∧ H a = none ∧ s'.os = sI.os ∧ AllBare s'.gens ∧ W cls d σ H
def TakesA (X : Cx) (W : WX) : Prop := ∀ u s', XEA X W u s' → X.xe u s'
section
variable {M : Model} {A : Around} {E : Value → Shared → Prop} {s : Shared} {Z : Obj → Prop} {base : Heap} {env : PySem.Env} {outer l : List PySem.Env} {L e : Addr}
theorem upRefl (h : Heap) : h.UpToSlots h := fun b o e _ => ⟨o.slots, e⟩
/-- noted by this frame, by whomever it was noted before -/
theorem note_any {fl : Value} {Q : Unit → Shared → Prop} (hZ : HandSPX.Steady Z) (hfr : A.frames = some (env :: outer)) (hf : env.frame = some L) (hkb : base.StaysIn s.heap) (hen : base.get? e = none) (hl : s.heap.FunFrames base (env :: outer)) (ht : HandSPX.TracedZ s.heap base e Z fl)
    (hQ : ∀ h', HandSPX.HeldZ base (env :: outer) e Z L h' → s.heap.UpToSlots h' → Q () { s with heap := h' }) : wpAny M A (noteFrame (.ref e) env) Q E s := by
  by_cases c : (fl == rawInt L) = true
  · have c : fl = rawInt L := eq_of_beq c
    subst c
    exact HandSPX.againZ hf ht (hQ s.heap ⟨hkb, hen, hl, ht⟩ (upRefl _))
  · obtain ⟨oe, vs, T, oT, ts, he, hz, hd, h1, hnT, hTe, hT, hdT, h3⟩ := ht
    unfold noteFrame
    simp only [hf]
    refine wpAny_bind (wpAny_field he hd h1 ?_)
    rw [if_pos (show (Value.ref T != Value.none) = true from by simp)]
    refine wpAny_bind (wpAny_field hT hdT h3 ?_)
    rw [if_neg c]
    refine wpAny_bind (wpAny_setField hT hdT (Array.getElem?_eq_some_iff.mp h3).1 ?_)
    have oth : ∀ b, b ≠ T → (s.heap.update T (Obj.mapFields (·.setIfInBounds 3 Value.none))).get? b = s.heap.get? b := fun b hb => Heap.get?_update_other _ _ (Ne.symm hb)
    have noRec : ∀ b o, s.heap.get? b = some o → (∀ vs, o.data ≠ .fields vs) → b ≠ T := fun b o hb hnf q => by
      rw [q, hT] at hb; injection hb with hb; subst hb; exact hnf ts hdT
    refine HandSPX.wpAny_entryZ hZ hfr (hl.of_keeps fun b o hb hnf => ⟨o, (oth b (noRec b o hb hnf)).trans hb, rfl⟩) hf ((oth e (Ne.symm hTe)).trans he)
      (fun b o hbo => (oth b fun q => by rw [q, hnT] at hbo; cases hbo).trans (hkb b o hbo)) hen hd (Array.getElem?_eq_some_iff.mp h1).1 hz fun h' hN => ?_
    obtain ⟨x1, x2, x3, x4⟩ := hN
    exact hQ h' ⟨x1, hen, x2, x3⟩ fun b o hb hnf => x4 b o ((oth b (noRec b o hb hnf)).trans hb) hnf
theorem note_sky {Q : Unit → Shared → Prop} (hZ : HandSPX.Steady Z) (hfr : A.frames = some (env :: outer)) (hf : env.frame = some L) (x : SkyA base (env :: outer) e Z s.heap)
    (hQ : ∀ h', HandSPX.HeldZ base (env :: outer) e Z L h' → s.heap.UpToSlots h' → Q () { s with heap := h' }) : wpAny M A (noteFrame (.ref e) env) Q E s := by
  rcases x with ⟨hB, hn, hl, oe, vs, he, hz, hd, h1⟩ | ⟨hB, hn, hl, fl, ht⟩
  · exact HandSPX.look_newZ hZ hfr hl hf he hB hn hd h1 hz hQ
  · exact note_any hZ hfr hf hB hn hl ht hQ
theorem leaves_sky {Q : Unit → Shared → Prop} (hZ : HandSPX.Steady Z) (hfr : A.frames = some (env :: outer)) (hf : env.frame = some L) (x : SkyA base (env :: outer) e Z s.heap)
    (hQ : ∀ h', HandSPX.FlyingZ base outer e Z h' → s.heap.UpToSlots h' → Q () { s with heap := h' }) : wpAny M A (leaving env (.ref e)) Q E s := by
  unfold leaving
  refine wpAny_bind (note_sky hZ hfr hf x fun h1 hh up => ?_)
  refine HandSPX.landsZ hh fun h' hfl k => ?_
  obtain ⟨k1, k2, ⟨_, _, k3⟩, k4⟩ := hfl
  exact hQ h' ⟨k1, k2, k3, k4⟩ (up.trans k)
end
section
variable {X : Cx} {pins : List (Addr × Obj)} {σ : L2.St} {H : Hp} {sI s s' : Shared} {B : Heap} {W : WX} {E : XK}
theorem XEA.leave (hs : X.stack = X.env :: X.outer) (hf : X.env.frame = some X.env.locals) (hex : X.ex = []) {E₁ : Value → Shared → Prop} (hW : ∀ cls d σ H, W cls d σ H → E cls d H) {u : Value} (x : XEA X W u s') :
    wpAny (model X.prog X.w) X.A (leaving X.env u) (fun _ s'' => CX X.prog X.w X.outer X.H_0 X.s_0 E u s'') E₁ s' := by
  obtain ⟨a, B, sI, pins, σ, H, cls, d, rfl, I, nb, up, sky, na, os, ag, w⟩ := x
  have hfr : X.A.frames = some (X.env :: X.outer) := by rw [I.ok.frames, hs]
  have nst : ∀ b o, X.s_0.heap.get? b = some o → b ∉ X.fs → b ∉ frs X.stack := fun b o e hb hm => by
    rcases List.mem_cons.mp (I.stkSub b hm) with z | z
    · have h1 := Heap.lt_size e
      have h2 := I.ok.above
      rw [z] at h1
      exact absurd (Nat.lt_of_lt_of_le h1 h2) (Nat.lt_irrefl _)
    · exact hb z
  have hex' : ∀ b, b ∉ X.ex := fun b hb => by rw [hex] at hb; cases hb
  have hokB := I.inGround nb
  rw [hs] at sky
  refine leaves_sky Zc.steady hfr hf sky fun h' fl up' => ?_
  refine ⟨a, B, H, cls, d, rfl, fl, hokB, ⟨fun b o e n hb => nb b o (I.base.keep b o e n hb (hex' b)) (nst b o e hb), fun b o e hb => ?_, fun b o e n => I.base.free b o e n (hex' b), fun b o e hb => ?_, I.base.tups, I.base.frzs, I.base.tbls⟩,
      na, os.trans I.os, ag, hW _ _ _ _ w⟩
  · obtain ⟨_, o₀, e₀, hnf⟩ := I.ok.funs.mem hb
    rw [e] at e₀; cases e₀
    obtain ⟨sl, e1⟩ := I.base.slot b o e (I.ok.frf b hb) hb (hex' b)
    obtain ⟨sl2, e2⟩ := up b _ e1 hnf
    obtain ⟨sl3, e3⟩ := up' b _ e2 hnf
    exact ⟨sl3, e3⟩
  · obtain ⟨o', e1⟩ := I.base.there b o e (hex' b)
    exact ⟨o', nb b o' e1 (nst b o e hb)⟩
theorem takesA_of (hs : X.stack = X.env :: X.outer) (hf : X.env.frame = some X.env.locals) (hex : X.ex = []) {E₁ : Value → Shared → Prop}
    (hx : X.xe = fun e s' => wpAny (model X.prog X.w) X.A (leaving X.env e) (fun _ s'' => CX X.prog X.w X.outer X.H_0 X.s_0 E e s'') E₁ s') : TakesA X (fun cls d _ H => E cls d H) := fun u s' x => by
  rw [hx]
  exact XEA.leave (W := fun cls d _ H => E cls d H) (E := E) hs hf hex (fun _ _ _ _ h => h) x
end
/-! ### the block -/
/-- what is wished, whatever the slots -/
abbrev WB := Value → Option Addr → Hp → Prop
abbrev wB (Wb : WB) : WX := fun c d _ H => Wb c d H
abbrev blkX (X : Cx) (Wb : WB) (s : Shared) (H : Hp) (scope : Scope) (cenv : PySem.Env) (fp : List Addr) : Cx := (X.blk s H scope cenv fp).wish fun u s' => XE (X.blk s H scope cenv fp) (wB Wb) u s'
theorem takes_blkX {X : Cx} {Wb : WB} {s : Shared} {H : Hp} {scope : Scope} {cenv : PySem.Env} {fp : List Addr} : Takes (blkX X Wb s H scope cenv fp) (wB Wb) := fun u s' ⟨a, B, sI, pins, σ, H', cls, d, e, I, rest⟩ => ⟨a, B, sI, pins, σ, H', cls, d, e, I.unwish, rest⟩
theorem funFrames_but {B B2 h h2 : Heap} {C : Addr} (hB : ∀ b, B.get? b = none → B2.get? b = none) (hC : B.get? C ≠ none) (sb : ∀ b o, b ≠ C → h.get? b = some o → h2.get? b = some o) : ∀ {l : List PySem.Env}, h.FunFrames B l → h2.FunFrames B2 l
  | [], _ => trivial
  | env :: l, x => by
    obtain ⟨hk, ⟨L, o, hf, hn, ho, hd⟩, hr⟩ := x
    exact ⟨hk, ⟨L, o, hf, hB L hn, sb L o (fun z => hC (by rw [← z]; exact hn)) ho, hd⟩, funFrames_but hB hC sb hr⟩
section
variable {X : Cx} {G : Gh} {tg iter e elt : Expr} {ifs : List Expr} {scope : Scope} {pos : Pos}
theorem pe_lcX {Wb : WB} {own : List (Str × Nat)} {wi : TI} {g : TG} {tt : TT} {te : TE} (hc : X.calm = true) (hN : X.N.Nodup) (hi : PI X tg iter wi) (ok : BlkOk X.N X.env.scope scope own) (tk : TakesA X (wB Wb)) (hst : X.stack = X.env :: X.outer) (hff : X.env.frame = some X.env.locals)
    (hg : ∀ (s : Shared) (H : Hp) (C : Addr) (cl : List (Str × Addr)) (fp : List Addr), PG (X.blk s H scope (compEnvC scope cl C X.env) fp) tg g) (ht : ∀ (s : Shared) (H : Hp) (C : Addr) (cl : List (Str × Addr)) (fp : List Addr), PTs (X.blk s H scope (compEnvC scope cl C X.env) fp) ifs tt)
    (he : ∀ (s : Shared) (H : Hp) (C : Addr) (cl : List (Str × Addr)) (fp : List Addr), PE (blkX X Wb s H scope (compEnvC scope cl C X.env) fp) elt te) (hs : ∀ x, foldedSetIterable iter X.env x = pure x := by intro _; rfl) :
    PE X (.ListComp elt [⟨tg, iter, ifs, 0⟩] scope pos) (tLc wi g tt te (own.map (·.2))) := by
  refine ⟨fun pins s σ H Q I h => ?_⟩
  rw [eval_ListComp]
  have hfree : ∀ y ∈ scope.names, y.2 = .free → ∃ c, X.env.cells.lookup y.1 = some c := fun y hy e => by
    rcases ok.free y hy e with k | k
    · exact I.ok.has _ (.inl k)
    · exact I.ok.has _ (.inr k)
  refine wpAny_comprehension_free (use := none) rfl hs (closure_ok hfree) ok.kind (fun y hy e => by rw [ok.uniq y hy, e])
    (thn (hi.run pins s σ H _ I h) fun xv s1 hx => thn hx fun itv s2 h2 => ?_)
  obtain ⟨it, fp, tn, J, H2, e, I2, T, st2, f2, q⟩ := h2
  subst e
  refine wpAny_newObj_type (newEnv_comp ?_) (by show 0 ≤ sizeLine; decide)
  generalize hD : s2.heap.objs.size = D
  have hDn : H2 D = none := I2.hok.fresh (Nat.le_of_eq hD)
  obtain ⟨W, ⟨m0, w0⟩, turn⟩ := q D hDn
  generalize hs3 : ({ s2 with heap := s2.heap.push { cls := .type "list", data := .seq ([] : List Value).toArray } } : Shared) = s3
  have I3 : Inv X pins σ (upd H2 D (.lst [])) s3 := by
    rw [← hs3]
    refine I2.laid (t' := s2.toks) (fun b o e => Heap.get?_push_of_some _ e) (Nat.le_of_eq hD) ⟨Nat.zero_le _, [], 0, .nil, ?_⟩
    rw [← hD]
    exact Heap.get?_push_size _ rfl
  have h3 : s3.heap = s2.heap.push { cls := .type "list", data := .seq ([] : List Value).toArray } := by rw [← hs3]
  have sz : ∀ b ∈ fp, b < s2.heap.objs.size := fun b hb => by
    obtain ⟨o, e, _⟩ := T.obj _ _ st2 b hb
    exact Heap.lt_size e
  have f3 : ∀ b ∈ fp, FpOk X pins (upd H2 D (.lst [])) b ∧ b < s3.heap.objs.size := fun b hb => by
    have hlt := sz b hb
    refine ⟨⟨?_, (f2 b hb).2⟩, by rw [h3, Heap.size_push]; exact Nat.lt_succ_of_lt hlt⟩
    rw [upd_ne (by rw [← hD]; exact Nat.ne_of_lt hlt)]
    exact (f2 b hb).1
  have st3 : tn 0 s3.heap := T.keep _ _ _ st2 fun b _ o e => by rw [h3]; exact Heap.get?_push_of_some _ e
  have I4 := block_start I3 ok hN f3
  have pg := hg s3 (upd H2 D (.lst [])) s3.heap.objs.size (cellsFrom (s3.heap.objs.size + 1) scope.names (cloFrom X.env.cells scope.names [])) fp
  have pt := ht s3 (upd H2 D (.lst [])) s3.heap.objs.size (cellsFrom (s3.heap.objs.size + 1) scope.names (cloFrom X.env.cells scope.names [])) fp
  have pe := he s3 (upd H2 D (.lst [])) s3.heap.objs.size (cellsFrom (s3.heap.objs.size + 1) scope.names (cloFrom X.env.cells scope.names [])) fp
  show codeAny _ _ (.compStart (.ListComp elt [⟨tg, iter, ifs, 0⟩] scope pos) 0 (.ref it) (.ref D) (compEnvC scope (cellsFrom (s3.heap.objs.size + 1) scope.names (cloFrom X.env.cells scope.names [])) s3.heap.objs.size X.env)) (compPost (model X.prog X.w) X.A X.xe none (EP X pins σ Q) (.ref D) s3.heap.objs.size) { s3 with heap := pushCells (s3.heap.push { cls := .type "dict", data := .dict #[] }) scope.names }
  have nfp : ∀ b ∈ fp, (upd H2 D (.lst [])) b = none := fun b hb => (f3 b hb).1.1
  have cfr : (compEnvC scope (cellsFrom (s3.heap.objs.size + 1) scope.names (cloFrom X.env.cells scope.names [])) s3.heap.objs.size X.env).frame = X.env.frame := rfl
  generalize hce : compEnvC scope (cellsFrom (s3.heap.objs.size + 1) scope.names (cloFrom X.env.cells scope.names [])) s3.heap.objs.size X.env = ce at I4 pg pt pe cfr ⊢
  have cL : ce.locals = s3.heap.objs.size := by subst hce; rfl
  generalize hH3 : upd H2 D (.lst []) = H3 at I3 I4 pg pt pe w0 nfp f3
  generalize hs4 : ({ s3 with heap := pushCells (s3.heap.push { cls := .type "dict", data := .dict #[] }) scope.names } : Shared) = s4 at I4 ⊢
  have st4 : tn 0 s4.heap := T.keep _ _ _ st3 fun b _ o e => by rw [← hs4]; exact pushCells_keeps _ _ _ _ (Heap.get?_push_of_some _ e)
  have stat : ∀ {σ' : L2.St} {H' : Hp} {s' : Shared}, Inv (X.blk s3 H3 scope ce fp) [] σ' H' s' → (∀ b ∈ fp, H' b = none) → ∀ b ∈ fp, FpOk (X.blk s3 H3 scope ce fp) [] H' b := fun {σ' H' s'} I' hn b hb =>
    ⟨hn b hb, (I'.ok.exf b hb).1, I'.ok.exfs b hb, .inl hb, fun x c e => (I'.ok.exf b hb).2 x c e, fun p hp => absurd (show p ∈ ([] : List (Addr × Obj)) ++ [] from hp) (by simp)⟩
  -- an exception of the element's
  have fails : ∀ (u : Value) (s' : Shared), XE (X.blk s3 H3 scope ce fp) (wB Wb) u s' → notedBy (model X.prog X.w) X.A ce (fun e s' => compPost (model X.prog X.w) X.A X.xe none (EP X pins σ Q) (.ref D) s3.heap.objs.size (.error e) s') u s' := by
    rintro u s' ⟨a, B, sI, pins', σ', H', cls, d, rfl, J', nb, up, sky, na, os, ag, w⟩
    show wpAny _ _ (noteFrame (.ref a) ce) _ _ s'
    rw [noteFrame_env _ (env := X.env) cfr]
    have hfr : X.A.frames = some (X.env :: X.outer) := by rw [I.ok.frames, hst]
    have sky : SkyA B (X.env :: X.outer) a (Zc cls d) s'.heap := by
      have z := SkyA.of sky
      rw [← hst]; exact z
    refine note_sky Zc.steady hfr hff sky fun h1 hh up1 => ?_
    obtain ⟨m, hn, _⟩ := J'.loc
    have hn : sI.heap.Ns ce.locals m := hn
    rw [cL] at hn
    refine ⟨m, hn.upToSlots (up.trans up1), fun h2 sb cenv' _ => ?_⟩
    obtain ⟨st1, n1, fr1, oe, vs, Tb, oT, ts, hea, hz, hd, ht1, hnT, hTe, hT, hdT, h3'⟩ := hh
    obtain ⟨oL, hoL⟩ : ∃ o, sI.heap.get? s3.heap.objs.size = some o := by obtain ⟨oL, es, ep, hoL, _⟩ := hn; exact ⟨oL, hoL⟩
    have nfr : s3.heap.objs.size ∉ frs X.stack := fun hm => by
      obtain ⟨_, o, e, _⟩ := I3.stack.mem hm
      exact absurd (Heap.lt_size e) (Nat.lt_irrefl _)
    have hBC : B.get? s3.heap.objs.size = some oL := nb _ _ hoL nfr
    have haC : a ≠ s3.heap.objs.size := fun z => by rw [z, hBC] at n1; cases n1
    have hTC : Tb ≠ s3.heap.objs.size := fun z => by rw [z, hBC] at hnT; cases hnT
    have hide : ∀ {h : Heap} {b : Addr} {o : Obj}, (PySem.W.hideAll h [s3.heap.objs.size]).get? b = some o → h.get? b = some o ∧ b ≠ s3.heap.objs.size := fun {h b o} e =>
      ⟨PySem.W.of_hideAll _ e, fun z => by
        rw [PySem.W.hideAll_none [s3.heap.objs.size] (by rw [z]; exact List.mem_singleton.mpr rfl)] at e; cases e⟩
    have show_ : ∀ {h : Heap} {b : Addr} {o : Obj}, h.get? b = some o → b ≠ s3.heap.objs.size → (PySem.W.hideAll h [s3.heap.objs.size]).get? b = some o := fun e ne => PySem.W.hideAll_get _ e fun z => ne (List.mem_singleton.mp z)
    have hB2 : ∀ b, B.get? b = none → (PySem.W.hideAll B [s3.heap.objs.size]).get? b = none := fun b e => by
      cases q : (PySem.W.hideAll B [s3.heap.objs.size]).get? b with
      | none => rfl
      | some o => rw [(hide q).1] at e; cases e
    have sb' : ∀ b o, b ≠ s3.heap.objs.size → h1.get? b = some o → h2.get? b = some o := fun b o ne e => (sb.2 b ne).trans e
    have fr2 : h2.FunFrames (PySem.W.hideAll B [s3.heap.objs.size]) (X.env :: X.outer) := funFrames_but hB2 (by rw [hBC]; simp) sb' fr1
    have st2' : (PySem.W.hideAll B [s3.heap.objs.size]).StaysIn h2 := fun b o e => sb' b o (hide e).2 (st1 b o (hide e).1)
    have tr2 : HandSPX.TracedZ h2 (PySem.W.hideAll B [s3.heap.objs.size]) a (Zc cls d) (rawInt X.env.locals) := ⟨oe, vs, Tb, oT, ts, sb' _ _ haC hea, hz, hd, ht1, hB2 _ hnT, hTe, sb' _ _ hTC hT, hdT, h3'⟩
    unfold PySem.passOn
    refine wpAny_bind (wpAny_field (sb' _ _ haC hea) hd ht1 ?_)
    rw [if_neg (show ¬ ((Value.ref Tb == Value.none) = true) from by simp)]
    refine wpAny_bind (HandSPX.setFlight_anyZ (fr := cenv'.frame) st2' fr2 tr2 fun h4 st4 fr4 tr4 up4 => wpAny_throw ?_)
    have I7 : Inv X pins σ H' sI := I3.call' (ch := fp) J'.os J'.base J'.hok J'.bare fun b hb => ⟨(f3 b hb).1.2.2.2.1, (f3 b hb).1.2.1, (f3 b hb).1.2.2.2.2.1, (f3 b hb).1.2.2.2.2.2⟩
    have nC : H' s3.heap.objs.size = none := by
      have z : H' ce.locals = none := J'.free
      rw [cL] at z
      exact z
    obtain ⟨f0, f1, f2', f3', f4, f5⟩ := I3.fpOk (Nat.le_refl _) nC
    have I8 := I7.turned (t' := sI.toks) (h' := PySem.W.hideAll sI.heap [s3.heap.objs.size]) (fun b o hb e => show_ e hb) f0 f1 f3' f4 f5
    refine tk _ _ ⟨a, PySem.W.hideAll B [s3.heap.objs.size], _, pins, σ, H', cls, d, rfl, I8, fun b o e hb => show_ (nb b o (hide e).1 hb) (hide e).2, fun b o e hnf => ?_, .inr ⟨st4, hB2 _ n1, by rw [hst]; exact fr4, _, tr4⟩, na, os, ag, w⟩
    obtain ⟨e1, ne⟩ := hide e
    obtain ⟨sl1, g1⟩ := (up.trans up1) b o e1 hnf
    exact up4 b { o with slots := sl1 } (sb' b _ ne g1) hnf
  have loop : codeAny (model X.prog X.w) X.A (.compLoop (.ListComp elt [⟨tg, iter, ifs, 0⟩] scope pos) 0 (.ref it) (.ref D) ce) (compPost (model X.prog X.w) X.A X.xe none (EP X pins σ Q) (.ref D) s3.heap.objs.size) s4 := by
    refine compLoop_any (fun n s' => ∃ i H', Inv (X.blk s3 H3 scope ce fp) [] (L2.wipe σ (own.map (·.2))) H' s' ∧ tn i s'.heap ∧ (∀ b ∈ fp, H' b = none) ∧ W i n H') ?_ m0 ⟨0, H3, I4, st4, nfp, w0⟩
    rintro n s5 ⟨i, H5, I5, st5, n5, w5⟩
    rcases turn i n H5 w5 with ⟨stop, qq⟩ | ⟨go, Nx, hNx, step⟩
    · have td := T.done (X.blk s3 H3 scope ce fp) rfl rfl rfl hc i [] s5 _ H5 (fun _ _ => False) I5 (stat I5 n5) st5 stop
      refine thnF td fun r s6 ⟨hr, I6⟩ => ?_
      subst hr
      have I7 : Inv X pins σ H5 s6 := I3.call' (ch := fp) I6.os I6.base I6.hok I6.bare fun b hb => ⟨(f3 b hb).1.2.2.2.1, (f3 b hb).1.2.1, (f3 b hb).1.2.2.2.2.1, (f3 b hb).1.2.2.2.2.2⟩
      have nC : H5 s3.heap.objs.size = none := by
        have z : H5 ce.locals = none := I6.free
        rw [cL] at z
        exact z
      obtain ⟨m, hn, _⟩ := I6.loc
      have hn : s6.heap.Ns ce.locals m := hn
      rw [cL] at hn
      refine ⟨m, hn, fun h'' sb => ?_⟩
      obtain ⟨f0, f1, f2', f3', f4, f5⟩ := I3.fpOk (Nat.le_refl _) nC
      exact ⟨.ref D, H5, I7.turned (t' := s6.toks) (fun b o hb e => (sb.2 b hb).trans e) f0 f1 f3' f4 f5, rfl, qq⟩
    · have ti := T.item (X.blk s3 H3 scope ce fp) rfl rfl rfl hc i [] s5 _ H5 (fun _ _ => False) I5 (stat I5 n5) st5 go
      refine thnF ti fun r s6 ⟨u, hr, h6⟩ => ?_
      subst hr
      refine thnF h6 fun _ s7 ⟨x, H7, I7, r7, y7, st7, n7⟩ => ?_
      have I7' := I7.pinned (stat I7 n7) (T.obj _ _ st7)
      refine thnF (pg.run _ s7 _ H7 x u _ I7' r7 (step x H7 y7)) fun _ s8 ⟨σ8, H8, I8, hw8, q8⟩ => ?_
      refine thnF (pt.run _ s8 σ8 H8 _ I8 q8) fun b s9 ⟨H9, I9, q9⟩ => ?_
      have fin : ∀ {s' : Shared} {H' : Hp}, Inv (X.blk s3 H3 scope ce fp) ([] ++ pinsAt fp s7.heap) σ8 H' s' → Nx H' → ∃ m, m < n ∧ ∃ i H', Inv (X.blk s3 H3 scope ce fp) [] (L2.wipe σ (own.map (·.2))) H' s' ∧ tn i s'.heap ∧ (∀ b ∈ fp, H' b = none) ∧ W i m H' := fun {s' H'} I' nx => by
        obtain ⟨m', hm, w'⟩ := hNx H' nx
        have pin' : ∀ b ∈ fp, ∀ o, s7.heap.get? b = some o → s'.heap.get? b = some o ∧ H' b = none := fun b hb o e =>
          let z := I'.pin (b, o) (List.mem_append_right _ (List.mem_append_right _ (mem_pinsAt hb e)))
          ⟨z.1, z.2.1⟩
        have hl : (L2.wipe σ (own.map (·.2))).length = σ8.length := by rw [← hw8, wipe_length]
        refine ⟨m', hm, i + 1, H', (I'.unpinned (pins := [])).weak hl (fun j v e => ?_), T.keep _ _ _ st7 fun b hb o e => (pin' b hb o e).1, fun b hb => ?_, w'⟩
        · rw [← hw8] at e
          exact (wipe_some e).1
        · obtain ⟨o, e, _⟩ := T.obj _ _ st7 b hb
          exact (pin' b hb o e).2
      cases b with
      | false =>
        simp only [Bool.false_eq_true, if_false] at q9 ⊢
        exact fin I9 q9
      | true =>
        simp only [if_true] at q9 ⊢
        refine wpAny_mono (pe.run _ s9 σ8 H9 _ (I9.wish _) q9) (fun z s10 ⟨yv, H10, I10, r10, acc, hD10, hz10, nx⟩ => ?_) fails
        exact app_ok (X := X.blk s3 H3 scope ce fp) I10.unwish hD10 hz10 r10 fun s11 I11 => fin I11 nx
  exact codeAny_compStart_list loop (T.self X.A 0 _ _ _ st4 loop)
end
end DL
set_option Elab.async false
set_option linter.all false
set_option maxRecDepth 100000
set_option maxHeartbeats 3200000
/-! DL64: comprehensions that may raise, over data; defs that have such; small things for texts. -/
namespace DL
open PySem PySem.Spec PyProof.Rows L2
abbrev anyX (K : PySem.W.Frag) (G : Gh) (Wb : WB) (te : WDt → TD) : TE := fun σ H Q => ∃ (G' : Gh) (WD' : WDt), G'.slots = G.slots ∧ Wish K G' WD' (wB Wb) ∧ liftE K G' (te WD') σ H Q
theorem wipe_wipe (σ : L2.St) (l : List Nat) : L2.wipe (L2.wipe σ l) l = L2.wipe σ l := by
  have : ∀ (τ : L2.St) (l k : List Nat), (∀ j ∈ l, j ∈ k) → (∀ j ∈ k, ∀ v, τ[j]? = some v → v = none) → L2.wipe τ l = τ := by
    intro τ l
    induction l with
    | nil => intro _ _ _; rfl
    | cons v vs ih =>
      intro k hk hn
      show (L2.wipe τ vs).set v none = τ
      rw [ih k (fun j hj => hk j (List.mem_cons_of_mem _ hj)) hn]
      refine List.ext_getElem? fun j => ?_
      by_cases hv : v = j
      · subst hv
        by_cases hl : v < τ.length
        · rw [List.getElem?_set_self hl]
          have := hn v (hk v (List.mem_cons_self ..)) _ (List.getElem?_eq_getElem hl)
          rw [List.getElem?_eq_getElem hl, this]
        · rw [List.getElem?_eq_none (by simpa using hl), List.getElem?_eq_none (by simpa using hl)]
      · rw [List.getElem?_set_ne hv]
  refine this _ l l (fun j hj => hj) fun j hj v e => ?_
  cases v with
  | none => rfl
  | some y => exact absurd hj (wipe_some e).2
section
variable {X : Cx} {G : Gh} {tg iter : Expr} {pos : Pos}
theorem lift_compX {W : Bool} {Wb : WB} {WD : WDt} {ti : TDs} {g : TGd} {tt : TTd} {te : WDt → TD} {ms : List Nat} (hW : Wish X.K G WD (wB Wb)) (hE : ∀ cls E E', WD cls E → WD cls E') (hm : ∀ i ∈ ms, i ∉ G.slots) (σ : L2.St) (H : Hp) (Q : VK)
    (h : liftL X.K G (tComp ti g tt (te fun cls _ => WD cls []) ms) σ H Q) : tLc (liftI W X.K G ti) (anyG W X.K G ms g) (anyT X.K G tt) (anyX X.K G Wb te) ms σ H Q := by
  obtain ⟨E, QE, r, q, k⟩ := h
  refine ⟨E, _, r, q, fun ds E1 J H1 q1 x1 r1 wk L hL => ?_⟩
  obtain ⟨rL, h0, na⟩ := r1.fresh (o := .lst []) hL
  refine ⟨fun i m H' => ∃ (E' : Env) (σ' : L2.St) (acc : List D) (vs : List V), i + m = ds.length ∧ Ext (upd H1 L (.lst [])) H' ∧ RelX X.K G [L] H' E' σ' ∧ L2.wipe σ' ms = L2.wipe σ ms ∧ H' L = some (.lst vs) ∧ RpL X.K H' acc vs ∧
    compD g tt (te fun cls _ => WD cls []) ms (ds.drop i) acc E' fun xs E2 => QE xs (restE E1 E2 ms), ⟨ds.length, E1, σ, [], [], by omega, Ext.refl _, rL, rfl, upd_same, .nil, q1⟩, fun i m H2 hW2 => ?_⟩
  obtain ⟨E2, σ2, acc, vs, hm2, x2, r2, w2, a2, p2, q2⟩ := hW2
  have xL : Ext H1 H2 := (PExt.new hL).ext.trans x2
  by_cases hi : i < ds.length
  · obtain ⟨d, hd⟩ : ∃ d, ds[i]? = some d := ⟨ds[i], List.getElem?_eq_getElem hi⟩
    have hdr : ds.drop i = d :: ds.drop (i + 1) := by
      rw [List.drop_eq_getElem_cons hi]
      rw [List.getElem?_eq_getElem hi] at hd
      rw [Option.some.inj hd]
    rw [hdr] at q2
    refine .inr ⟨wk.goes i H2 xL hi, fun H' => ∃ (E' : Env) (σ' : L2.St) (acc : List D) (vs : List V), Ext (upd H1 L (.lst [])) H' ∧ RelX X.K G [L] H' E' σ' ∧ L2.wipe σ' ms = L2.wipe σ ms ∧ H' L = some (.lst vs) ∧ RpL X.K H' acc vs ∧
      compD g tt (te fun cls _ => WD cls []) ms (ds.drop (i + 1)) acc E' fun xs E2 => QE xs (restE E1 E2 ms), fun H' ⟨E', σ', acc, vs, b1, b2, b3, b4, b5, b6⟩ => ⟨m - 1, by omega, E', σ', acc, vs, by omega, b1, b2, b3, b4, b5, b6⟩, fun x H3 hy => ?_⟩
    obtain ⟨px, d', hd', p⟩ := wk.yld i H2 x H3 xL hi hy
    rw [hd] at hd'; cases hd'
    have hs0 : (pend G L (.lst vs)).slots = G.slots := rfl
    have r3 : RelE X.K (pend G L (.lst vs)) H3 (wipeE E2 ms) (L2.wipe σ ms) := by
      have := ((r2.pext px).wipe hm).toPend (px _ _ a2) na
      rw [w2] at this; exact this
    refine ⟨pend G L (.lst vs), hs0, _, d, _, r3, p, q2, fun E4 σ4 H4 q4 x4 r4 w4 => ?_⟩
    refine ⟨by rw [w4]; exact wipe_wipe σ ms, pend G L (.lst vs), hs0, E4, _, r4, q4, fun b E5 H5 q5 x5 r5 => ?_⟩
    have w45 : L2.wipe σ4 ms = L2.wipe σ ms := by rw [w4]; exact wipe_wipe σ ms
    have x5' : Ext (upd H1 L (.lst [])) H5 := ((x2.trans px.ext).trans x4).trans x5
    cases b with
    | false =>
      rw [if_neg Bool.false_ne_true] at q5
      refine iteF ?_
      obtain ⟨r6, a6⟩ := RelX.ofPend r5 h0 na
      exact ⟨E5, σ4, acc, vs, x5', r6, w45, a6, p2.ext ((px.ext.trans x4).trans x5), q5⟩
    | true =>
      rw [if_pos rfl] at q5
      refine iteT ?_
      refine ⟨pend G L (.lst vs), fun cls _ => WD cls [], hs0, fun cls E' σ' H' w r' => hW cls E' σ' H' (hE cls [] E' w) (RelX.ofPend r' h0 na).1.weak, E5, _, r5, q5, fun y E6 u H6 q6 x6 r6 p6 => ?_⟩
      obtain ⟨r7, a7⟩ := RelX.ofPend r6 h0 na
      have pv := p2.ext (((px.ext.trans x4).trans x5).trans x6)
      have xp : Ext H6 (upd H6 L (.lst (vs ++ [u]))) := Ext.put a7
      refine ⟨vs, a7, by rw [← pv.length]; exact q6.1, E6, σ4, acc ++ [y], vs ++ [u], (x5'.trans x6).trans xp, ?_, w45, upd_same, (RpL.append pv (.cons p6 .nil)).ext xp, q6.2⟩
      obtain ⟨l, kk, pn, dm, x0, A, h1, h2, h3⟩ := r7
      refine ⟨l, fun p o e ne => ?_, pn, fun p hp => ?_, x0.trans xp, fun j => if E6[j]? = none then [] else A j, fun i j b e1 e2 => ?_, fun i b e => ?_, fun j s e => ?_⟩
      · have : p ≠ L := by rintro rfl; rw [h0] at e; cases e
        rw [upd_ne this]; exact kk p o e ne
      · have : p ≠ L := by rintro rfl; exact na hp
        rw [upd_ne this]; exact dm p hp
      · dsimp only at e1 e2
        split at e1
        · cases e1
        · split at e2
          · cases e2
          · exact h1 i j b e1 e2
      · dsimp only at e
        split at e
        · cases e
        · exact h2 i b e
      · have : E6[j]? ≠ none := by rw [e]; simp
        simp only [this, if_false]
        exact (h3 j s e).move xp fun p hp => upd_ne (by rintro rfl; exact (h2 j p hp).2 (by simp))
  · have e0 : ds.drop i = [] := List.drop_eq_nil_of_le (by omega)
    have ei : i = ds.length := by omega
    rw [e0] at q2
    exact .inl ⟨by rw [ei]; exact wk.stops H2 xL, k _ _ _ _ _ q2 (x1.trans xL) (RelX.rest r1 xL r2 w2 hm) h0 na a2 p2⟩
theorem el_compX {W : Bool} {Wb : WB} {WD : WDt} {elt : Expr} {ifs : List Expr} {scope : Scope} {ti : TDs} {g : TGd} {tt : TTd} {te : WDt → TD} {ms : List Nat} (own : List (Str × Nat)) (tk : TakesA X (wB Wb)) (hW : Wish X.K G WD (wB Wb)) (hE : ∀ cls E E', WD cls E → WD cls E') (hst : X.stack = X.env :: X.outer) (hff : X.env.frame = some X.env.locals)
    (hc : X.calm = true) (hN : X.N.Nodup) (hms : own.map (·.2) = ms) (hm : ∀ i ∈ ms, i ∉ G.slots) (hi : ID X G W tg iter ti) (ok : BlkOk X.N X.env.scope scope own)
    (hg : ∀ (G' : Gh), G'.slots = G.slots → ∀ (s : Shared) (H : Hp) (C : Addr) (cl : List (Str × Addr)) (fp : List Addr), GD (X.blk s H scope (compEnvC scope cl C X.env) fp) G' W ms tg g)
    (ht : ∀ (G' : Gh), G'.slots = G.slots → ∀ (s : Shared) (H : Hp) (C : Addr) (cl : List (Str × Addr)) (fp : List Addr), EBs (X.blk s H scope (compEnvC scope cl C X.env) fp) G' ifs tt)
    (he : ∀ (G' : Gh), G'.slots = G.slots → ∀ (WD' : WDt), Wish X.K G' WD' (wB Wb) → ∀ (s : Shared) (H : Hp) (C : Addr) (cl : List (Str × Addr)) (fp : List Addr), Takes (blkX X Wb s H scope (compEnvC scope cl C X.env) fp) (wB Wb) → ED (blkX X Wb s H scope (compEnvC scope cl C X.env) fp) G' elt (te WD')) (hs : ∀ x, foldedSetIterable iter X.env x = pure x := by intro _; rfl) :
    EL X G (.ListComp elt [⟨tg, iter, ifs, 0⟩] scope pos) (tComp ti g tt (te fun cls _ => WD cls []) ms) := by
  have Pg : ∀ (s : Shared) (H : Hp) (C : Addr) (cl : List (Str × Addr)) (fp : List Addr), PG (X.blk s H scope (compEnvC scope cl C X.env) fp) tg (anyG W X.K G ms g) := fun s H C cl fp => ⟨fun pins s' σ H' v x Q I r ⟨G', hG', q⟩ => (hg G' hG' s H C cl fp).pg.run pins s' σ H' v x Q I r q⟩
  have Pt : ∀ (s : Shared) (H : Hp) (C : Addr) (cl : List (Str × Addr)) (fp : List Addr), PTs (X.blk s H scope (compEnvC scope cl C X.env) fp) ifs (anyT X.K G tt) := fun s H C cl fp => ⟨fun pins s' σ H' Q I ⟨G', hG', q⟩ => (ht G' hG' s H C cl fp).pt.run pins s' σ H' Q I q⟩
  have Pe : ∀ (s : Shared) (H : Hp) (C : Addr) (cl : List (Str × Addr)) (fp : List Addr), PE (blkX X Wb s H scope (compEnvC scope cl C X.env) fp) elt (anyX X.K G Wb te) := fun s H C cl fp => ⟨fun pins s' σ H' Q I ⟨G', WD', hG', hW', q⟩ => (he G' hG' WD' hW' s H C cl fp takes_blkX).pe.run pins s' σ H' Q I q⟩
  refine ⟨PE.weak (pe_lcX hc hN hi.pi ok tk hst hff Pg Pt Pe hs) fun σ H Q h => ?_⟩
  rw [hms]; exact lift_compX hW hE hm σ H Q h
end
/-- THE RULE for a def that may raise, and has no mutable parameters -/
theorem fn_okXE {P : Program} {w : World} {K : PySem.W.Frag} {mg : Str → Option Value} {base : Heap} {x qual : Str} {st : Stmt} {f : Addr} {fd : FuncData} {N ps : List Str} {k : Nat} {sp : SpX} {tb : WDt → TSd}
    (F : Fun K x qual st f fd) (Sc : FnScope N ps (defScope st)) (shape : ∀ ss QD QX, sp ss QD QX → ss.length = ps.length ∧ mpos 0 ss = [])
    (body : ∀ (cdv : Value) (A : Around) (outer : List PySem.Env) (s : Shared) (H : Hp) (E : XK), Room k (A.deeper (envOfC qual (defScope st) s.heap.objs.size f cdv)) → ∀ G : Gh, G.slots = [] → ∀ WD : WDt, Wish K G WD (fun cls d _ H' => E cls d H') → (∀ cls E E', WD cls E → WD cls E') →
      SDs (cxOf (L2.CX P w) P w K mg base N qual (defScope st) f cdv A outer s H E) G (defBody st) (tb WD))
    (read : ∀ ss QD QX, sp ss QD QX → tb (fun cls _ => QX cls []) { nx := fun E' => finO [] E' (QD .none), rt := fun d E' => finO [] E' (QD d) } (ss ++ List.replicate (N.length - ps.length) .un)) :
    FnOk P w K mg base (L2.CX P w) (k + 1) f fd ps (spLX K sp) := by
  refine F.okX Sc (fun vs H Q E h => ?_) (fun cdv A outer s H vs Q E hr h => ?_)
  · obtain ⟨ss, as, QD, QX, h1, h2, _⟩ := h
    rw [← h2.length]; exact (shape ss QD QX h1).1
  · obtain ⟨ss, as, QD, QX, h1, h2, nd, h4, h5⟩ := h
    obtain ⟨hl, hm⟩ := shape ss QD QX h1
    have ml := h2.mlen 0
    have hG : (⟨H, (mpos 0 ss).zip as, fun _ => none, []⟩ : Gh).slots = [] := by show ((mpos 0 ss).zip as).map (·.1) = []; rw [zip_fst ml, hm]
    have hA : (⟨H, (mpos 0 ss).zip as, fun _ => none, []⟩ : Gh).addrs = as := by show ((mpos 0 ss).zip as).map (·.2) ++ [] = as; rw [zip_snd ml, List.append_nil]
    have hW : Wish K ⟨H, (mpos 0 ss).zip as, fun _ => none, []⟩ (fun cls _ => QX cls []) (fun cls d _ H' => E cls d H') := fun cls E' σ H' q r => by
      obtain ⟨outs, q1, p1⟩ := finO_rel (slots := []) (Q := QX cls) r (as := as) (by rw [← hm]; exact ml) (by rw [← hm]; exact fun p hp => hp) q
      exact h5 cls outs H' q1 (fun p o e ne => r.keep p o e (by rw [hA]; exact ne)) p1
    refine ⟨_, (body cdv A outer s H E hr ⟨H, (mpos 0 ss).zip as, fun _ => none, []⟩ hG _ hW fun _ _ _ h => h).pss, ?_⟩
    have hst : L2.start N vs = vs.map some ++ List.replicate (N.length - ps.length) none := by unfold L2.start; rw [← h2.length, hl]
    refine ⟨ss ++ List.replicate (N.length - ps.length) .un, { nx := fun E' => finO [] E' (QD .none), rt := fun d E' => finO [] E' (QD d) }, by rw [hst]; exact h2.start nd, read ss QD QX h1, fun E' σ' H' q x r => ?_, fun d E' v σ' H' q x r p => ?_, fun _ _ _ q => False.elim q, fun _ _ _ q => False.elim q⟩
    · obtain ⟨outs, q1, p1⟩ := finO_rel (slots := []) (Q := QD .none) r (as := as) (by rw [← hm]; exact ml) (by rw [← hm]; exact fun p hp => hp) q
      exact h4 .none outs .non H' q1 (fun p o e ne => r.keep p o e (by rw [hA]; exact ne)) p1 .non
    · obtain ⟨outs, q1, p1⟩ := finO_rel (slots := []) (Q := QD d) r (as := as) (by rw [← hm]; exact ml) (by rw [← hm]; exact fun p hp => hp) q
      exact h4 d outs v H' q1 (fun p o e ne => r.keep p o e (by rw [hA]; exact ne)) p1 p
/-! ### slices of a list of one's own -/
section
variable {X : Cx} {G : Gh} {a b e f : Expr} {pos p p0 p2 apos cpos tpos : Pos} {x : Str} {elts : List Expr} {kk : Nat} {keys : List (Option Expr)} {values : List Expr}
def tSlO (i : Nat) (tl th : TOd) : TLd := fun E Q => match E[i]? with
  | some (.ol _) => tl E fun l E1 => th E1 fun u E2 => match E2[i]? with
    | some (.ol xs) => Q (cutD xs l u) E2
    | _ => False
  | _ => False
theorem el_slO (i : Nat) {lo hi : Option Expr} {tl th : TOd} (hl : EO X G lo tl) (hh : EO X G hi th) (hN : X.N[i]? = some x := by rfl) (hv : Vis X.env.scope x := by first | exact Or.inl rfl | exact Or.inr (Or.inl rfl) | exact Or.inr (Or.inr rfl)) (hd : (x == ("__debug__" : Str)) = false := by decide)
    (hcd : (x == ("__classdict__" : Str)) = false := by decide) : EL X G (.Subscript (.Name x p0) (.Slice lo hi none p2) pos) (tSlO i tl th) := by
  refine ⟨PE.weak (pe_slice sl_list (pe_var hN hv hd hcd) hl.po hh.po) fun σ H Q ⟨E, QE, r, q, k⟩ => ?_⟩
  unfold tSlO at q
  split at q
  · rename_i xs0 he0
    obtain ⟨c, vs0, e1, _, _⟩ := r.ol he0
    refine ⟨_, e1, E, _, r, q, fun l E2 H2 q2 x2 r2 => ⟨E2, _, r2, q2, fun u E3 H3 q3 x3 r3 => ?_⟩⟩
    split at q3
    · rename_i xs he
      obtain ⟨c', vs, f1, f2, ll⟩ := r3.ol he
      rw [e1] at f1; cases f1
      refine ⟨_, _, rfl, SqL.of f2, fun p' hp => ?_⟩
      obtain ⟨r4, h0, na⟩ := r3.fresh (o := .lst (cutV _ l u)) hp
      exact k _ _ _ _ _ q3 ((x2.trans x3).trans (PExt.new hp).ext) r4 h0 na upd_same ((ll.cut l u).ext (PExt.new hp).ext)
    · exact q3.elim
  · exact q.elim
/-! ### {..}.get(k, x) -/
def tDkGet2M (t : TM) (tk tx : TD) : TD := fun E Q => t E fun s E1 => match s with
  | .dk kvs => kvs ≠ [] ∧ tk E1 fun k E2 => tx E2 fun z E3 => optQ (keyOf k) fun ky => Q ((valK kvs ky).getD z) E3
  | _ => False
end
end DL
set_option Elab.async false
set_option linter.all false
set_option maxRecDepth 100000
set_option maxHeartbeats 1000000
/-! DL65: zip of a tuple and a list. -/
namespace DL
open PySem PySem.Spec PyProof.Rows L2
/-- the tuple at a and the list at b, the items in new pairs -/
def ItzN (K : PySem.W.Frag) (a b : Addr) : It :=
  ⟨fun i H => ∃ (xs ys : List V) (x y : V), SqT K H a xs ∧ SqL K H b ys ∧ xs[i]? = some x ∧ ys[i]? = some y,
    fun i H v H' => ∃ T x y, v = .ref T ∧ H T = none ∧ H' = upd H T (.tup [x, y]) ∧ (∀ xs, SqT K H a xs → xs[i]? = some x) ∧ ∀ ys, SqL K H b ys → ys[i]? = some y,
    fun i H => ∃ xs ys : List V, SqT K H a xs ∧ SqL K H b ys ∧ i ≤ xs.length ∧ i ≤ ys.length ∧ (i = xs.length ∨ i = ys.length)⟩
theorem turn_zipN {P : Program} {w : World} {K : PySem.W.Frag} {elts : List Expr} {kk : Nat} {tpos : Pos} {a b z TI TO i1 i2 : Addr} (D : ZipSep2 z TI TO i1 i2 [i1, a] [i2, b]) (ha : a ≠ i1) (hb : b ≠ i2) :
    Turn P w K (.Tuple elts kk tpos) (ItzN K a b) [z, TI, TO, i1, i2] z (fun i h => IsZip h z TI TO .none ∧ IsTupOf2 h TI (.ref i1) (.ref i2) ∧ (∃ x y, IsTupOf2 h TO x y) ∧ h.IsTupleIter i1 a i ∧ h.IsListIter i2 b i) where
  mem := by simp
  obj := fun i h st c hc => by
    obtain ⟨hz, hTI, ⟨x, y, hTO⟩, ⟨o1, e1, _, d1⟩, ⟨o2, e2, _, d2⟩⟩ := st
    rcases (show c = z ∨ c = TI ∨ c = TO ∨ c = i1 ∨ c = i2 by simpa using hc) with q | q | q | q | q <;> rw [q]
    · exact ⟨_, hz, fun v q => nomatch q⟩
    · exact ⟨_, hTI, fun v q => nomatch q⟩
    · exact ⟨_, hTO, fun v q => nomatch q⟩
    · exact ⟨o1, e1, fun v q => by rw [d1] at q; cases q⟩
    · exact ⟨o2, e2, fun v q => by rw [d2] at q; cases q⟩
  keep := fun i h h' st k => by
    obtain ⟨hz, hTI, ⟨x, y, hTO⟩, h1, h2⟩ := st
    exact ⟨k z (by simp) _ hz, k TI (by simp) _ hTI, ⟨x, y, k TO (by simp) _ hTO⟩, h1.at fun o q => k i1 (by simp) o q, h2.at fun o q => k i2 (by simp) o q⟩
  item := by
    intro X hP hw hK hc i pins s σ H E I hf st hg
    subst hP hw hK
    obtain ⟨hz, hTI, ⟨x0, y0, hTO⟩, h1, h2⟩ := st
    obtain ⟨xs, ys, x, y, hqx, hqy, hx, hy⟩ := hg
    obtain ⟨its, rv, p, _⟩ := I.tuple hqx
    obtain ⟨its2, rv2, p2, _⟩ := I.list hqy
    obtain ⟨u, hu, ru⟩ := rv.get hx
    obtain ⟨u2, hu2, ru2⟩ := rv2.get hy
    have hzl : z < s.heap.objs.size := Heap.lt_size hz
    have t1 : i < its.toArray.size := by simpa using (List.getElem?_eq_some_iff.mp hu).1
    have t2 : i < its2.toArray.size := by simpa using (List.getElem?_eq_some_iff.mp hu2).1
    refine wpAny_pyNext_zipD2_item D (Draws.tuple (A := X.A.in1) (I.ok.hd hc) i1 a ha its.toArray) (Draws.list (A := X.A.in1) (I.ok.hd hc) i2 b hb its2.toArray) hz hTI hTO ⟨h1, p⟩ ⟨h2, p2.isList⟩ t1 t2 fun v1 v2 h' tk g1 g2 z' TO' h1' h2' hT hsz hk => ?_
    have q1 : its[i]? = some v1 := by simpa using g1
    have q2 : its2[i]? = some v2 := by simpa using g2
    obtain rfl : v1 = u := by rw [hu] at q1; exact (Option.some.inj q1).symm
    obtain rfl : v2 = u2 := by rw [hu2] at q2; exact (Option.some.inj q2).symm
    refine ⟨_, rfl, wpAny_letOwnedTupleGo_zip (s := { s with heap := h', toks := tk }) z' fun h'' z'' sb => ?_⟩
    have hT2 : h''.get? s.heap.objs.size = some { cls := .type "tuple", data := .seq #[v1, v2] } := (sb.2 _ (Nat.ne_of_gt hzl)).trans hT
    have new : ObjOk X.prog X.w (upd H s.heap.objs.size (.tup [x, y])) h'' s.heap.objs.size (.tup [x, y]) := ⟨by show 2 ≤ sizeLine; decide, [v1, v2], .cons ru (.cons ru2 .nil), ⟨_, hT2, rfl, _, rfl⟩⟩
    have I1 : Inv X pins σ (upd H s.heap.objs.size (.tup [x, y])) { s with heap := h'', toks := tk } :=
      I.turnedNew (ch := [z, TI, TO, i1, i2]) (fun c o hb q => (sb.2 c (fun q' => hb (by simp [q']))).trans (hk c o (fun q' => hb (by simp [q'])) (fun q' => hb (by simp [q'])) (fun q' => hb (by simp [q'])) (fun q' => hb (by simp [q'])) q)) hf (Nat.le_refl _) new
    refine ⟨.ref s.heap.objs.size, _, I1, rfl, ⟨_, x, y, rfl, I.hok.fresh (Nat.le_refl _), rfl, fun l hl => by rw [I.tuple_inj hl hqx]; exact hx, fun l hl => by rw [I.list_inj hl hqy]; exact hy⟩, ⟨z'', ?_, ⟨v1, v2, (sb.2 _ D.TOz).trans TO'⟩, h1'.1.at fun o q => (sb.2 _ (Ne.symm D.zi1)).trans q, h2'.1.at fun o q => (sb.2 _ (Ne.symm D.zi2)).trans q⟩, fun c hcm => ?_⟩
    · exact (sb.2 _ D.TIz).trans (hk _ _ D.TIz D.TITO D.TIi1 D.TIi2 hTI)
    · have hlt : c < s.heap.objs.size := by
        rcases (show c = z ∨ c = TI ∨ c = TO ∨ c = i1 ∨ c = i2 by simpa using hcm) with q | q | q | q | q <;> rw [q]
        · exact hzl
        · exact Heap.lt_size hTI
        · exact Heap.lt_size hTO
        · obtain ⟨_, e1, _⟩ := h1; exact Heap.lt_size e1
        · obtain ⟨_, e2, _⟩ := h2; exact Heap.lt_size e2
      rw [upd_ne (Nat.ne_of_lt hlt)]; exact (hf c hcm).1
  done := by
    intro X hP hw hK hc i pins s σ H E I hf st hg
    subst hP hw hK
    obtain ⟨hz, hTI, ⟨x0, y0, hTO⟩, h1, h2⟩ := st
    obtain ⟨xs, ys, hqx, hqy, le1, le2, hend⟩ := hg
    obtain ⟨its, rv, p, _⟩ := I.tuple hqx
    obtain ⟨its2, rv2, p2, _⟩ := I.list hqy
    have l1 := rv.length
    have l2 := rv2.length
    exact wpAny_pyNext_zipD2_end D (Draws.tuple (A := X.A.in1) (I.ok.hd hc) i1 a ha its.toArray) (Draws.list (A := X.A.in1) (I.ok.hd hc) i2 b hb its2.toArray) hz hTI hTO ⟨h1, p⟩ ⟨h2, p2.isList⟩ (by simp; omega) (by simp; omega) (by simp; omega) fun h' tk hk => ⟨rfl, I.turnedL (t' := tk) (ch := [z, TI, TO, i1, i2]) (fun c o hb q =>
      hk c o (fun q' => hb (by simp [q'])) (fun q' => hb (by simp [q'])) (fun q' => hb (by simp [q'])) (fun q' => hb (by simp [q'])) q) hf⟩
  self := fun A i s Q E st h => wpAny_pyIter_zip st.1 h
section
variable {X : Cx} {G : Gh} {a b : Expr} {p pos tpos : Pos} {elts : List Expr} {kk : Nat}
theorem pi_zipN {ta : TA} (hg : Gl X "zip") (hm : X.mg "zip" = none) (ha : PA X [a, b] ta) (hs : starEach [a, b] X.env = (false, eval a X.env) :: starEach [b] X.env := by rfl) (hpl : (backTo pos (starEach [b] X.env)).any (·.1) = false := by rfl) :
    PI X (.Tuple elts kk tpos) (.Call (.Name "zip" p) [a, b] [] pos) (fun σ H R => ta σ H fun vs H1 => ∃ a b xs ys, vs = [.ref a, .ref b] ∧ SqT X.K H1 a xs ∧ SqL X.K H1 b ys ∧ R (ItzN X.K a b) H1) := by
  refine ⟨fun pins s σ H R I h => Call_ (ld_blt I hg hm PyProof.Rows.boot_zip (PyProof.Rows.callWith_type1 (thn (ha.run pos pins s σ H _ I h) fun us s1 ⟨vs, H1, I1, r1, q1⟩ => ?_) hs hpl))⟩
  obtain ⟨a, b, xs, ys, rfl, hqx, hqy, q⟩ := q1
  obtain ⟨w1, w2, rfl, e1, e2⟩ := vals2 r1
  obtain rfl : w1 = Value.ref a := e1
  obtain rfl : w2 = Value.ref b := e2
  obtain ⟨its, rv, p, _⟩ := I1.tuple hqx
  obtain ⟨its2, rv2, p2, _⟩ := I1.list hqy
  have lta : a < s1.heap.objs.size := by obtain ⟨_, ho, _⟩ := p; exact Heap.lt_size ho
  have ltb : b < s1.heap.objs.size := by obtain ⟨_, _, ho, _⟩ := p2; exact Heap.lt_size ho
  refine zip_begins2 (begins_tuple a its.toArray) (begins_list b its2.toArray) p p2.isList fun h' hz hTI hTO g1 g2 _ hk => wpAny_pyIter_zip hz ?_
  have I2 : Inv X pins σ H1 { s1 with heap := h' } := I1.kept (t' := s1.toks) hk
  refine ⟨s1.heap.objs.size + 4, [s1.heap.objs.size + 4, s1.heap.objs.size + 2, s1.heap.objs.size + 3, s1.heap.objs.size, s1.heap.objs.size + 1], _, _, H1, rfl, I2, turn_zipN (zip_sep2 (fp1 := [a]) (fp2 := [b]) (fun c hc => by rw [List.mem_singleton.mp hc]; exact lta) (fun c hc => by rw [List.mem_singleton.mp hc]; exact ltb)) (Nat.ne_of_lt lta) (Nat.ne_of_lt (Nat.lt_succ_of_lt ltb)), ⟨hz, hTI, ⟨_, _, hTO⟩, ⟨_, g1, rfl, rfl⟩, ⟨_, g2, rfl, rfl⟩⟩, fun c hc => ?_, q⟩
  have hle : s1.heap.objs.size ≤ c := by
    have := (show c = s1.heap.objs.size + 4 ∨ c = s1.heap.objs.size + 2 ∨ c = s1.heap.objs.size + 3 ∨ c = s1.heap.objs.size ∨ c = s1.heap.objs.size + 1 by simpa using hc)
    rcases this with z | z | z | z | z <;> rw [z]
    all_goals first | exact Nat.le_refl _ | exact Nat.le_add_right _ _
  exact I1.fpOk hle (I1.hok.fresh hle)
def iZipN (ta tb : TD) : TDs := fun E Q => ta E fun x E1 => tb E1 fun y E2 => match x, y with
  | .tuple xs, .list ys => Q (zipD xs ys) E2
  | _, _ => False
theorem walkD_zipN {K : PySem.W.Frag} {H : Hp} {a b : Addr} {vs us : List V} {ds es : List D} (h : SqT K H a vs) (h' : LsF K H b us) (l : RpL K H ds vs) (l' : RpL K H es us) : WalkD true K (ItzN K a b) H (zipD ds es) where
  goes := fun i H' x hi => by
    rw [zipD_len, l.length, l'.length] at hi
    exact ⟨vs, us, vs[i], us[i], SqT.ext x h, (LsF.ext x h').sq, List.getElem?_eq_getElem _, List.getElem?_eq_getElem _⟩
  yld := fun i H' v H2 x hi hy => by
    obtain ⟨T, v1, v2, rfl, hT, rfl, e1, e2⟩ := hy
    obtain ⟨d, hd, p⟩ := l.getV (e1 vs (SqT.ext x h))
    obtain ⟨d', hd', p'⟩ := l'.getV (e2 us ((LsF.ext x h').sq))
    have px := PExt.new (o := .tup [v1, v2]) hT
    exact ⟨px, _, zipD_get hd hd', .pair (SqT.of upd_same) (.cons ((p.ext x).ext px.ext) (.cons ((p'.ext x).ext px.ext) .nil))⟩
  stops := fun H' x => ⟨vs, us, SqT.ext x h, (LsF.ext x h').sq, by rw [zipD_len, l.length, l'.length]; omega, by rw [zipD_len, l.length, l'.length]; omega, by rw [zipD_len, l.length, l'.length]; omega⟩
theorem id_zipN {ta tb : TD} (ha : ED X G a ta) (hb : ED X G b tb) (hg : Gl X "zip") (hm : X.mg "zip" = none)
    (hs : starEach [a, b] X.env = (false, eval a X.env) :: starEach [b] X.env := by rfl) (hs2 : starEach [b] X.env = (false, eval b X.env) :: starEach [] X.env := by rfl) (hpl : (backTo pos (starEach [b] X.env)).any (·.1) = false := by rfl) :
    ID X G true (.Tuple elts kk tpos) (.Call (.Name "zip" p) [a, b] [] pos) (iZipN ta tb) := by
  refine ⟨PI.weak (pi_zipN hg hm (pa_cons ha.pe (pa_cons hb.pe pa_nil hs2) hs) hs hpl) fun σ H R ⟨E, QE, rel, q, k⟩ => ⟨E, _, rel, q, fun x E1 v H1 q1 x1 r1 p1 => ⟨E1, _, r1, q1, fun y E2 u H2 q2 x2 r2 p2 => ?_⟩⟩⟩
  have p1 := p1.ext x2
  cases p1 with
  | tup h1 l1 =>
    cases p2 with
    | lst h2 l2 => exact ⟨_, _, _, _, rfl, h1.1, h2.sq, k _ _ _ _ q2 (x1.trans x2) r2 (walkD_zipN h1.1 h2 l1 l2)⟩
    | _ => exact q2.elim
  | _ => cases p2 <;> exact q2.elim
end
end DL
set_option Elab.async false
set_option linter.all false
set_option maxRecDepth 100000
set_option maxHeartbeats 4000000
/-! FnBase: _law_draw, _law_pick, _law_same -/
namespace DL
open PySem PySem.Spec PyProof.Rows L2
local macro_rules | `(tactic| walk_at "dl") => `(tactic| simp only [tV, tVr, tFzV, turnD, DL.wipeE, tK, tOpD, tUnD, tBo, tAndD, tOrD, tNotD, tIfE, DL.tAndV, DL.tOrV, DL.tNotV, tTru, truD, okLen, sSet, sSetL, sExpr, sRet, sIf, sNx, tTupD, dNil, dCons, tLstD, tFzD, tApp, tExtd, tPopAt, sSetIx, tIxO, tChainD, tChain3D, tRevT, caStr, opRepT, opAdd, opSub, opMul, opDiv, opMod, opPow, DL.opI, DL.opI0, opB0, opLt, opLe, opGt, opGtD, opLtD, opGe, opEq, opNe, opIs, opIsN, isNone, opIn, opNotIn, opIx, atD_0, atD_1, atD_2, atD_3, putD_0, unNeg, tCa1, tCa2, tCaL1, caLen, caAbs, caMax2, caMin2, caSum, caMax, caMin, caSumT, caMaxT, caMinT, caAll, caTuple, caList, caInt, tIsi, isInt, isBool, isStr, isTuple, isList, notDict, sAsg, gSet, gTupD, gsNil, gsCons, sPar, pNil, pD, pL, setAll, tCallD, aNil, aV, aO, argS, oixs, ndp, putO, tOpL, opCat, opRep, tSlD, slD, tSlL, oNo, oE, tRevD, iLstD, iTupD, iRange1, iRange2, iZipD, iZipM, finO, tTrue, Option.map, eqv_int, eqv_bool, eqv_none, shaped_int, shaped_bool, shaped_none, tLenRange, tSortSet, tLenSet, tLenSetP, tSortSetP, tCountL, tCountT, tIndexL, tIndexT, DL.tOrT, DL.tAndT, DL.tNotT, tSortRev, caSorted, iEnumL, iEnumT, decide_eq_true_eq, and_self, List.cons_append, List.nil_append, List.replicate, List.getElem?_cons_zero, List.getElem?_cons_succ, List.set_cons_zero, List.set_cons_succ, List.length_cons, List.length_nil, true_and, and_true, if_true, if_false, Bool.false_eq_true, List.contains_nil, Bool.not_false, Bool.not_true, Bool.and_self, Bool.and_true, Bool.true_and, decide_true, decide_false, beq_self_eq_true])
def tb_law_draw : TSd :=
  sSeq (sIf (tNotD (tTru (tVr 1))) (sExpr (tApp 1 (tCa1 caMax (tFzD (tOpL opCat (tFzD (tComp (iLstD (tV 0)) (gSet 4) (tTrue) (tCa1 caAbs (tV 4)) [4])) (tFzD (tLstD (dCons (tK (.int 0)) (dNil))))))))) (sNx))
      (sSeq (sExpr (tApp 1 (tK (.int 0))))
      (sSeq (sSet 3 (tCa1 caLen (tVr 1)))
      (sSeq (sSet 4 (tIfE (tTru (tV 0)) (tOpD opIx (tV 0) (tOpD opMod (tV 3) (tCa1 caLen (tV 0)))) (tK (.int 0))))
      (sSeq (sSet 5 (tOpD opMod (tIxO 1 (tK (.int 0))) (tK (.int 65536))))
      (sSeq (sSetIx 1 (tK (.int 0)) (tOpD opDiv (tIxO 1 (tK (.int 0))) (tK (.int 65536))))
      (sSeq (sSet 6 (tOpD opMod (tOpD opAdd (tOpD opAdd (tV 4) (tOpD opMul (tK (.int 40503)) (tV 5))) (tOpD opMul (tK (.int 104729)) (tV 3))) (tK (.int 4294967291))))
      (sSeq (sSet 6 (tOpD opMod (tOpD opMul (tOpD opMod (tOpD opMul (tV 6) (tV 6)) (tK (.int 4294967279))) (tK (.int 48271))) (tK (.int 4294967291))))
      (sSeq (sSet 7 (tOpD opMod (tOpD opMul (tOpD opMod (tOpD opMul (tV 6) (tV 6)) (tK (.int 4294967279))) (tK (.int 69621))) (tK (.int 4294967291))))
      (sRet (tOpD opMod (tOpD opAdd (tOpD opMul (tOpD opDiv (tV 6) (tK (.int 64))) (tK (.int 67108864))) (tOpD opDiv (tV 7) (tK (.int 64)))) (tV 2)))))))))))
def tb_law_pick (sp_law_draw : SpD) : TSd :=
  sRet (tOpD opIx (tV 2) (tCallD sp_law_draw (aV (tV 0) (aO 1 (aV (tCa1 caLen (tV 2)) (aNil))))))
def tb_law_same (sp_law_same : SpD) : TSd :=
  sSeq (sIf (tBo (tOpD opIs (tV 1) (tK .none))) (sRet (tOpD opIs (tV 0) (tK .none))) (sNx))
      (sSeq (sIf (tTru (tIsi isBool (tV 1))) (sRet (tAndV (tIsi isBool (tV 0)) (tOpD opEq (tV 0) (tV 1)))) (sNx))
      (sSeq (sIf (tTru (tIsi isTuple (tV 1))) (sSeq (sIf (tOrD (tNotD (tTru (tIsi isTuple (tV 0)))) (tBo (tOpD opNe (tCa1 caLen (tV 0)) (tCa1 caLen (tV 1))))) (sRet (tK (.bool false))) (sNx))
      (sRet (tCa1 caAll (tFzD (tComp (iZipD (tV 0) (tV 1)) (gTupD 2 (gsCons (gSet 2) (gsCons (gSet 3) (gsNil)))) (tTrue) (tCallD sp_law_same (aV (tV 2) (aV (tV 3) (aNil)))) [2, 3]))))) (sNx))
      (sSeq (sIf (tTru (tIsi isStr (tV 1))) (sRet (tAndV (tIsi isStr (tV 0)) (tOpD opEq (tV 0) (tV 1)))) (sNx))
      (sRet (tAndV (tIsi isInt (tV 0)) (tAndV (tNotV (tIsi isBool (tV 0))) (tOpD opEq (tV 0) (tV 1))))))))
def TownOk (t : List D) (b : Nat) : Prop := t.length ≤ b ∧ (t = [] ∨ ∃ (h : Int) (r : List D), t = .int h :: r)
theorem TownOk.mono {t : List D} {b b' : Nat} (h : TownOk t b) (hb : b ≤ b') : TownOk t b' := ⟨Nat.le_trans h.1 hb, h.2⟩
def spDraw : SpD := fun ss Q => ∃ (ns : List Int) (t : List D) (m : Int) (b : Nat), ss = [.d (.list (ns.map PyData.int)), .ol t, .d (.int m)] ∧ 0 < m ∧ ns.length ≤ 63 ∧ TownOk t b ∧ b ≤ 10000000 ∧
  ∀ r t', 0 ≤ r → r < m → TownOk t' (b + 2) → Q (.int r) [.ol t']
theorem small_line {n : Nat} (h : n ≤ 10000010) : n ≤ sizeLine := by rw [sizeLine_eq]; omega
theorem cmul_small {i j : Int} (h1 : i.natAbs < 2 ^ 64) (h2 : j.natAbs < 2 ^ 64) : CMulW i j := wide_mul (a := 64) (b := 64) h1 h2 (by decide) (by decide) (by decide)
theorem cdiv_small {i j : Int} (h0 : 0 < j) (h1 : j < 2 ^ 64) : CDivW i j := wide_div (b := 64) h0 (by omega) (by decide) (by decide)
theorem rd_law_draw : ∀ ss QD, spDraw ss QD → tb_law_draw { nx := fun E' => finO [1] E' (QD .none), rt := fun d E' => finO [1] E' (QD d) } (ss ++ List.replicate 5 .un) := by
  rintro ss QD ⟨ns, t, m, b, rfl, hm, hn, ht, hb, k⟩
  unfold tb_law_draw
  refine seq_step fun R hR => ?_
  have main : ∀ (h : Int) (r : List D), (h' : (PyData.int h :: r).length ≤ b + 1) → R [.d (.list (ns.map PyData.int)), .ol (.int h :: r), .d (.int m), .un, .un, .un, .un, .un] := by
    intro h r h'
    refine hR _ ?_
    rw [List.length_cons] at h'
    refine seq_step fun R hR => ?_
    walk_at "dl"
    refine ⟨Nat.lt_of_lt_of_le (show r.length + 1 < 10000002 by omega) (small_line (by omega)), hR _ ?_⟩
    refine seq_step fun R hR => ?_
    walk_at "dl"
    refine hR _ ?_
    generalize hk : (((r ++ [PyData.int 0]).length + 1 : Nat) : Int) = kk
    have hkk : 0 ≤ kk ∧ kk ≤ 10000003 := by rw [List.length_append, List.length_cons, List.length_nil] at hk; omega
    refine seq_step fun R hR => ?_
    have c4 : ∀ c : Int, R [.d (.list (ns.map PyData.int)), .ol (.int h :: (r ++ [.int 0])), .d (.int m), .d (.int kk), .d (.int c), .un, .un, .un] := by
      intro c
      refine hR _ ?_
      refine seq_step fun R hR => ?_
      walk_at "dl"
      refine ⟨by decide, hR _ ?_⟩
      have hd0 : 0 ≤ h % 65536 := Int.emod_nonneg _ (by decide)
      have hd1 : h % 65536 < 65536 := Int.emod_lt_of_pos _ (by decide)
      generalize h % 65536 = dg at hd0 hd1 ⊢
      refine seq_step fun R hR => ?_
      walk_at "dl"
      refine ⟨cdiv_small (by decide) (by decide), hR _ ?_⟩
      generalize h / 65536 = h2
      refine seq_step fun R hR => ?_
      walk_at "dl"
      refine ⟨cmul_small (by omega) (by omega), cmul_small (by omega) (by omega), by decide, hR _ ?_⟩
      generalize hn1 : (c + 40503 * dg + 104729 * kk) % 4294967291 = n1
      have h10 : 0 ≤ n1 := by rw [← hn1]; exact Int.emod_nonneg _ (by decide)
      have h11 : n1 < 4294967291 := by rw [← hn1]; exact Int.emod_lt_of_pos _ (by decide)
      refine seq_step fun R hR => ?_
      walk_at "dl"
      have g0 : 0 ≤ n1 * n1 % 4294967279 := Int.emod_nonneg _ (by decide)
      have g1 : n1 * n1 % 4294967279 < 4294967279 := Int.emod_lt_of_pos _ (by decide)
      generalize n1 * n1 % 4294967279 = n2 at g0 g1 ⊢
      refine ⟨cmul_small (by omega) (by omega), by decide, cmul_small (by omega) (by omega), by decide, hR _ ?_⟩
      generalize hn3 : n2 * 48271 % 4294967291 = n3
      have h30 : 0 ≤ n3 := by rw [← hn3]; exact Int.emod_nonneg _ (by decide)
      have h31 : n3 < 4294967291 := by rw [← hn3]; exact Int.emod_lt_of_pos _ (by decide)
      refine seq_step fun R hR => ?_
      walk_at "dl"
      have g0 : 0 ≤ n3 * n3 % 4294967279 := Int.emod_nonneg _ (by decide)
      have g1 : n3 * n3 % 4294967279 < 4294967279 := Int.emod_lt_of_pos _ (by decide)
      generalize n3 * n3 % 4294967279 = n4 at g0 g1 ⊢
      refine ⟨cmul_small (by omega) (by omega), by decide, cmul_small (by omega) (by omega), by decide, hR _ ?_⟩
      generalize n4 * 69621 % 4294967291 = n5
      walk_at "dl"
      refine ⟨cdiv_small (by decide) (by decide), cmul_small (by omega) (by omega), cdiv_small (by decide) (by decide), hm, ?_⟩
      refine k _ _ (Int.emod_nonneg _ (by omega)) (Int.emod_lt_of_pos _ hm) ⟨?_, .inr ⟨_, _, rfl⟩⟩
      rw [List.length_cons, List.length_append, List.length_cons, List.length_nil]; omega
    walk_at "dl"
    refine ifB (fun e => ?_) (fun e => c4 0)
    have hp : 0 < ns.length := by
      cases ns with
      | nil => simp at e
      | cons a l => simp
    rw [List.length_map]
    refine ⟨by omega, ?_⟩
    have i0 : 0 ≤ kk % (ns.length : Int) := Int.emod_nonneg _ (by omega)
    have i1 : kk % (ns.length : Int) < ns.length := Int.emod_lt_of_pos _ (by omega)
    exact atD_at i0 (getElem_map_int (by omega)) (c4 _)
  walk_at "dl"
  refine ifB (fun e => ?_) (fun e => ?_)
  · have e0 : t = [] := by
      cases t with
      | nil => rfl
      | cons a l => simp at e
    subst e0
    refine comp_map (E1 := [.d (.list (ns.map PyData.int)), .ol [], .d (.int m), .un, .un, .un, .un, .un]) ns PyData.int (fun i => .int (if i < 0 then -i else i)) (fun R h => h) (un1 rfl) (small_line (by omega)) (fun i _ R hq => hq _ rfl) ?_
    · refine ⟨small_line (by omega), ?_, (ns.map fun i => if i < 0 then -i else i) ++ [0], ?_, ?_, fun mm _ _ => ?_⟩
      · rw [List.length_map]; exact small_line (by omega)
      · rw [List.map_append, List.map_map]; rfl
      · simp
      · refine ⟨small_line (by decide), ?_⟩
        exact main mm [] (by rw [List.length_cons, List.length_nil]; omega)
  · rcases ht.2 with e0 | ⟨h, r, e0⟩
    · subst e0; simp at e
    · subst e0
      exact main h r (by have := ht.1; omega)
theorem sh_law_draw : ∀ ss QD, spDraw ss QD → ss.length = 3 ∧ mpos 0 ss = [1] := by
  rintro ss QD ⟨ns, t, m, b, rfl, _⟩
  exact ⟨rfl, rfl⟩
/-- some[..]: any item -/
def spPick : SpD := fun ss Q => ∃ (ns : List Int) (t : List D) (sm : D) (xs : List D) (b : Nat), ss = [.d (.list (ns.map PyData.int)), .ol t, .d sm] ∧ (sm = .list xs ∨ sm = .tuple xs) ∧ xs ≠ [] ∧ ns.length ≤ 63 ∧ TownOk t b ∧ b ≤ 10000000 ∧
  ∀ x t', x ∈ xs → TownOk t' (b + 2) → Q x [.ol t']
theorem sh_law_pick : ∀ ss QD, spPick ss QD → ss.length = 3 ∧ mpos 0 ss = [1] := by
  rintro ss QD ⟨ns, t, sm, xs, b, rfl, _⟩
  exact ⟨rfl, rfl⟩
theorem rd_law_pick : ∀ ss QD, spPick ss QD → tb_law_pick spDraw { nx := fun E' => finO [1] E' (QD .none), rt := fun d E' => finO [1] E' (QD d) } (ss ++ List.replicate 0 .un) := by
  rintro ss QD ⟨ns, t, sm, xs, b, rfl, hs, hx, hn, ht, hb, k⟩
  unfold tb_law_pick
  have hp : 0 < xs.length := by
    cases xs with
    | nil => exact absurd rfl hx
    | cons a l => simp
  have mem : ∀ (r : Int) (t' : List D), 0 ≤ r → r < xs.length → TownOk t' (b + 2) → atD xs r fun x => QD x [.ol t'] := fun r t' h0 h1 h2 =>
    atD_at (d := xs[r.toNat]) h0 (List.getElem?_eq_getElem (by omega)) (k _ _ (List.getElem_mem _) h2)
  rcases hs with rfl | rfl
  · walk_at "dl"
    exact ⟨ns, t, _, b, rfl, by omega, hn, ht, hb, mem⟩
  · walk_at "dl"
    exact ⟨ns, t, _, b, rfl, by omega, hn, ht, hb, mem⟩
/-- data without lists, n tuples deep at most -/
def sameOk : Nat → D → Bool
  | _, .none => true
  | _, .bool _ => true
  | _, .int _ => true
  | _, .str x => PyData.strOk x
  | n + 1, .tuple ds => ds.all (sameOk n) && decide (ds.length ≤ 10000000)
  | _, _ => false
def spSame (n : Nat) : SpD := fun ss Q => ∃ d, ss = [.d d, .d d] ∧ sameOk n d = true ∧ Q (.bool true) []
theorem sh_law_same (n : Nat) : ∀ ss QD, spSame n ss QD → ss.length = 2 ∧ mpos 0 ss = [] := by
  rintro ss QD ⟨d, rfl, _⟩
  exact ⟨rfl, rfl⟩
def spNo : SpD := fun _ _ => False
theorem eqv_scal {d : D} (h : (match d with | .tuple _ => False | .list _ => False | .dict _ => False | _ => True)) : PyData.eqv d d = true := by
  cases d <;> first | exact h.elim | simp [PyData.eqv]
theorem zip_self {α : Type} : ∀ l : List α, l.zip l = l.map fun x => (x, x)
  | [] => rfl
  | a :: l => by rw [List.zip_cons_cons, zip_self l]; rfl
theorem rd_law_same (n : Nat) (sp : SpD) (hsp : ∀ m, n = m + 1 → sp = spSame m) : ∀ ss QD, spSame n ss QD → tb_law_same sp { nx := fun E' => finO [] E' (QD .none), rt := fun d E' => finO [] E' (QD d) } (ss ++ List.replicate 2 .un) := by
  rintro ss QD ⟨d, rfl, hd, q⟩
  unfold tb_law_same
  cases d with
  | none => exact q
  | bool b =>
    refine seq_step fun R hR => ?_
    walk_at "dl"
    refine hR _ ?_
    refine seq_step fun R hR => ?_
    walk_at "dl"
    exact q
  | int i =>
    refine seq_step fun R hR => ?_
    walk_at "dl"
    refine hR _ ?_
    refine seq_step fun R hR => ?_
    walk_at "dl"
    refine hR _ ?_
    refine seq_step fun R hR => ?_
    walk_at "dl"
    refine hR _ ?_
    refine seq_step fun R hR => ?_
    walk_at "dl"
    refine hR _ ?_
    walk_at "dl"
    exact q
  | str x =>
    refine seq_step fun R hR => ?_
    walk_at "dl"
    refine hR _ ?_
    refine seq_step fun R hR => ?_
    walk_at "dl"
    refine hR _ ?_
    refine seq_step fun R hR => ?_
    walk_at "dl"
    refine hR _ ?_
    refine seq_step fun R hR => ?_
    have hs : SeqAt.shaped (.str x) = true := by
      have : PyData.strOk x = true := by cases n <;> exact hd
      show (PyData.strOk x && decide ((0 : Nat) ≤ 64)) = true
      rw [this]; rfl
    walk_at "dl"
    refine ⟨hs, ?_⟩
    rw [eqv_scal trivial]; exact q
  | list _ => cases n <;> cases hd
  | dict _ => cases n <;> cases hd
  | tuple ds =>
    cases n with
    | zero => cases hd
    | succ m =>
      have hsp := hsp m rfl
      subst hsp
      have hd : (ds.all (sameOk m) && decide (ds.length ≤ 10000000)) = true := hd
      rw [Bool.and_eq_true] at hd
      have hl : ds.length ≤ 10000000 := of_decide_eq_true hd.2
      have ha := List.all_eq_true.mp hd.1
      refine seq_step fun R hR => ?_
      walk_at "dl"
      refine hR _ ?_
      refine seq_step fun R hR => ?_
      walk_at "dl"
      refine hR _ ?_
      refine seq_step fun R hR => ?_
      refine ⟨trivial, trivial, ifT (b := isTuple (.tuple ds)) rfl ?_⟩
      refine seq_step fun R2 hR2 => ?_
      walk_at "dl"
      refine hR2 _ ?_
      show tComp _ _ _ _ _ _ _
      refine comp_map (E1 := [.d (.tuple ds), .d (.tuple ds), .un, .un]) ds (fun x => PyData.tuple [x, x]) (fun _ => PyData.bool true) (fun R h => ?_) (un2 rfl rfl) (small_line (by omega)) (fun x hx R hq => ?_) ?_
      · show R (zipD ds ds) _
        unfold zipD
        rw [zip_self, List.map_map]
        exact h
      · exact ⟨rfl, rfl, x, rfl, ha x hx, hq _ rfl⟩
      · refine ⟨ds.map fun _ => true, by rw [List.map_map]; rfl, ?_⟩
        have : (ds.map fun _ => true).all id = true := by simp
        rw [this]; exact q
end DL
set_option Elab.async false
set_option linter.all false
set_option maxRecDepth 100000
set_option maxHeartbeats 4000000
namespace DL
open PySem PySem.Spec PyProof.Rows L2
local macro_rules | `(tactic| walk_at "dl") => `(tactic| simp only [tV, tVr, tFzV, turnD, DL.wipeE, tK, tOpD, tUnD, tBo, tAndD, tOrD, tNotD, tIfE, DL.tAndV, DL.tOrV, DL.tNotV, tTru, truD, okLen, sSet, sSetL, sExpr, sRet, sIf, sNx, tTupD, dNil, dCons, tLstD, tFzD, tApp, tExtd, tPopAt, sSetIx, tIxO, tChainD, tChain3D, tRevT, caStr, opRepT, opAdd, opSub, opMul, opDiv, opMod, opPow, DL.opI, DL.opI0, opB0, opLt, opLe, opGt, opGtD, opLtD, opGe, opEq, opNe, opIs, opIsN, isNone, opIn, opNotIn, opIx, atD_0, atD_1, atD_2, atD_3, putD_0, unNeg, tCa1, tCa2, tCaL1, caLen, caAbs, caMax2, caMin2, caSum, caMax, caMin, caSumT, caMaxT, caMinT, caAll, caTuple, caList, caInt, tIsi, isInt, isBool, isStr, isTuple, isList, notDict, sAsg, gSet, gTupD, gsNil, gsCons, sPar, pNil, pD, pL, setAll, tCallD, aNil, aV, aO, argS, oixs, ndp, putO, tOpL, opCat, opRep, tSlD, slD, tSlL, oNo, oE, tRevD, iLstD, iTupD, iRange1, iRange2, iZipD, iZipM, finO, tTrue, Option.map, eqv_int, eqv_bool, eqv_none, shaped_int, shaped_bool, shaped_none, tLenRange, tSortSet, tLenSet, tCountL, tCountT, tIndexL, tIndexT, DL.tOrT, DL.tAndT, DL.tNotT, tSortRev, caSorted, iEnumL, iEnumT, decide_eq_true_eq, and_self, List.cons_append, List.nil_append, List.replicate, List.getElem?_cons_zero, List.getElem?_cons_succ, List.set_cons_zero, List.set_cons_succ, List.length_cons, List.length_nil, true_and, and_true, if_true, if_false, Bool.false_eq_true, List.contains_nil, Bool.not_false, Bool.not_true, Bool.and_self, Bool.and_true, Bool.true_and, decide_true, decide_false, beq_self_eq_true])
/-! ### _law_bent -/
/-- n deep at most, each row of 1000 at most -/
def bnd : Nat → D → Bool
  | _, .none => true
  | _, .bool _ => true
  | _, .int _ => true
  | _, .str x => PyData.strOk x && decide (x.length ≤ 1000)
  | n + 1, .tuple ds => ds.all (bnd n) && decide (ds.length ≤ 1000)
  | n + 1, .list ds => ds.all (bnd n) && decide (ds.length ≤ 1000)
  | _, _ => false
theorem bnd_tup {n : Nat} {ds : List D} (h : ∀ x ∈ ds, bnd n x = true) (hl : ds.length ≤ 1000) : bnd (n + 1) (.tuple ds) = true := by
  show (ds.all (bnd n) && decide (ds.length ≤ 1000)) = true
  rw [decide_eq_true hl, Bool.and_true]; exact List.all_eq_true.mpr h
theorem bnd_lst {n : Nat} {ds : List D} (h : ∀ x ∈ ds, bnd n x = true) (hl : ds.length ≤ 1000) : bnd (n + 1) (.list ds) = true := by
  show (ds.all (bnd n) && decide (ds.length ≤ 1000)) = true
  rw [decide_eq_true hl, Bool.and_true]; exact List.all_eq_true.mpr h
theorem of_bnd_tup {n : Nat} {ds : List D} (h : bnd (n + 1) (.tuple ds) = true) : (∀ x ∈ ds, bnd n x = true) ∧ ds.length ≤ 1000 := by
  have h : (ds.all (bnd n) && decide (ds.length ≤ 1000)) = true := h
  rw [Bool.and_eq_true] at h
  exact ⟨List.all_eq_true.mp h.1, of_decide_eq_true h.2⟩
theorem bnd_mono : ∀ (n : Nat) (d : D) (m : Nat), n ≤ m → bnd n d = true → bnd m d = true
  | n, .none, m, _, _ => by cases m <;> rfl
  | n, .bool _, m, _, _ => by cases m <;> rfl
  | n, .int _, m, _, _ => by cases m <;> rfl
  | n, .str x, m, _, h => by
    have h : (PyData.strOk x && decide (x.length ≤ 1000)) = true := by cases n <;> exact h
    cases m <;> exact h
  | n + 1, .tuple ds, m + 1, hm, h => by
    have h := of_bnd_tup h
    exact bnd_tup (fun x hx => bnd_mono n x m (by omega) (h.1 x hx)) h.2
  | n + 1, .list ds, m + 1, hm, h => by
    have h : (ds.all (bnd n) && decide (ds.length ≤ 1000)) = true := h
    rw [Bool.and_eq_true] at h
    exact bnd_lst (fun x hx => bnd_mono n x m (by omega) (List.all_eq_true.mp h.1 x hx)) (of_decide_eq_true h.2)
  | n + 1, .tuple ds, 0, hm, _ => absurd hm (by omega)
  | n + 1, .list ds, 0, hm, _ => absurd hm (by omega)
  | 0, .tuple _, _, _, h => by cases h
  | 0, .list _, _, _, h => by cases h
  | 0, .dict _, _, _, h => by cases h
  | n + 1, .dict _, _, _, h => by cases h
end DL
set_option Elab.async false
set_option linter.all false
set_option maxRecDepth 100000
set_option maxHeartbeats 4000000
namespace DL
open PySem PySem.Spec PyProof.Rows L2
local macro_rules | `(tactic| walk_at "dl") => `(tactic| simp only [tV, tVr, tFzV, turnD, DL.wipeE, tK, tOpD, tUnD, tBo, tAndD, tOrD, tNotD, tIfE, DL.tAndV, DL.tOrV, DL.tNotV, tTru, truD, okLen, sSet, sSetL, sExpr, sRet, sIf, sNx, tTupD, dNil, dCons, tLstD, tFzD, tApp, tExtd, tPopAt, sSetIx, tIxO, tChainD, tChain3D, tRevT, caStr, opRepT, opAdd, opSub, opMul, opDiv, opMod, opPow, DL.opI, DL.opI0, opB0, opLt, opLe, opGt, opGtD, opLtD, opGe, opEq, opNe, opIs, opIsN, isNone, opIn, opNotIn, opIx, atD_0, atD_1, atD_2, atD_3, putD_0, unNeg, tCa1, tCa2, tCaL1, caLen, caAbs, caMax2, caMin2, caSum, caMax, caMin, caSumT, caMaxT, caMinT, caAll, caTuple, caList, caInt, tIsi, isInt, isBool, isStr, isTuple, isList, notDict, sAsg, gSet, gTupD, gsNil, gsCons, sPar, pNil, pD, pL, setAll, tCallD, aNil, aV, aO, argS, oixs, ndp, putO, tOpL, opCat, opRep, tSlD, slD, tSlL, oNo, oE, tRevD, iLstD, iTupD, iRange1, iRange2, iZipD, iZipM, finO, tTrue, Option.map, eqv_int, eqv_bool, eqv_none, shaped_int, shaped_bool, shaped_none, tLenRange, tSortSet, tLenSet, tLenSetP, tSortSetP, tCountL, tCountT, tIndexL, tIndexT, DL.tOrT, DL.tAndT, DL.tNotT, tSortRev, caSorted, iEnumL, iEnumT, decide_eq_true_eq, and_self, List.cons_append, List.nil_append, List.replicate, List.getElem?_cons_zero, List.getElem?_cons_succ, List.set_cons_zero, List.set_cons_succ, List.length_cons, List.length_nil, true_and, and_true, if_true, if_false, Bool.false_eq_true, List.contains_nil, Bool.not_false, Bool.not_true, Bool.and_self, Bool.and_true, Bool.true_and, decide_true, decide_false, beq_self_eq_true])
def tb_law_mixed (sp_law_draw : SpD) : TSd :=
  sSeq (sPar [3, 4] (pL (tCaL1 caList (tV 2)) (pL (tLstD (dNil)) (pNil))))
      (sSeq (sWhile (tTru (tVr 3)) (sExpr (tApp 4 (tPopAt 3 (tCallD sp_law_draw (aV (tV 0) (aO 1 (aV (tCa1 caLen (tVr 3)) (aNil)))))))))
      (sRet (tFzV 4)))
def tb_law_all_cards : TSd :=
  sSeq (sSetL 1 (tLstD (dNil)))
      (sSeq (sFor (iRange1 (tK (.int 4))) (gSet 2) (sExpr (tExtd 1 (tComp (iRange2 (tK (.int 1)) (tOpD opAdd (tV 0) (tK (.int 1)))) (gSet 3) (tTrue) (tTupD (dCons (tV 2) (dCons (tV 3) (dNil)))) [3]))))
      (sRet (tFzV 1)))
def tb_law_drawn_deal (sp_law_all_cards : SpD) (sp_law_mixed : SpD) : TSd :=
  sSeq (sSet 3 (tCallD sp_law_mixed (aV (tV 0) (aO 1 (aV (tCallD sp_law_all_cards (aV (tV 2) (aNil))) (aNil))))))
      (sRet (tCa1 caTuple (tFzD (tComp (iRange1 (tK (.int 4))) (gSet 4) (tTrue) (tCa1 caTuple (tFzD (tCaL1 caSorted (tFzD (tSlL (tV 3) (oE (tOpD opMul (tV 4) (tV 2))) (oE (tOpD opAdd (tOpD opMul (tV 4) (tV 2)) (tV 2)))))))) [4]))))
/-! cards: a card is a pair of ints -/
abbrev Card := Int × Int
def cE (b : Card) : D := .tuple [.int b.1, .int b.2]
def handD (h : List Card) : D := .tuple (h.map cE)
def allC (R : Nat) : List Card := (List.range 4).flatMap fun s : Nat => (List.range R).map fun r : Nat => ((s : Int), (r : Int) + 1)
theorem allC_len (R : Nat) : (allC R).length = 4 * R := by
  unfold allC
  simp [List.range_succ]
  omega
theorem range_1 (n : Nat) : rangeD 1 n = (List.range n).map fun i : Nat => PyData.int ((i : Int) + 1) := by
  unfold rangeD; exact List.map_congr_left fun i _ => by rw [Int.add_comm]
/-! ### _law_mixed -/
def spMixed : SpD := fun ss Q => ∃ (ns : List Int) (t xs : List D) (b : Nat), ss = [.d (.list (ns.map PyData.int)), .ol t, .d (.list xs)] ∧ ns.length ≤ 63 ∧ xs.length ≤ 1000 ∧ TownOk t b ∧ b ≤ 9000000 ∧
  ∀ ys t', ys.Perm xs → TownOk t' (b + 2 * xs.length) → Q (.list ys) [.ol t']
theorem sh_law_mixed : ∀ ss QD, spMixed ss QD → ss.length = 3 ∧ mpos 0 ss = [1] := by rintro ss QD ⟨ns, t, xs, b, rfl, _⟩; exact ⟨rfl, rfl⟩
theorem perm_pop {xs ys rest : List D} {i : Nat} {y : D} (h : (ys ++ rest).Perm xs) (hi : rest[i]? = some y) : ((ys ++ [y]) ++ rest.eraseIdx i).Perm xs := by
  refine List.Perm.trans ?_ h
  rw [List.append_assoc]
  refine List.Perm.append_left ys ?_
  exact L2.erase_perm rest i y hi
theorem rd_law_mixed : ∀ ss QD, spMixed ss QD → tb_law_mixed spDraw { nx := fun E' => finO [1] E' (QD .none), rt := fun d E' => finO [1] E' (QD d) } (ss ++ List.replicate 2 .un) := by
  rintro ss QD ⟨ns, t, xs, b, rfl, hn, hx, ht, hb, q⟩
  unfold tb_law_mixed
  refine seq_step fun R hR => ?_
  walk_at "dl"
  refine ⟨small_line (by decide), hR _ ?_⟩
  refine seq_step fun R hR => ?_
  refine ⟨fun m E => ∃ t ys rest, E = [.d (.list (ns.map PyData.int)), .ol t, .d (.list xs), .ol rest, .ol ys] ∧ (ys ++ rest).Perm xs ∧ m = rest.length ∧ TownOk t (b + 2 * ys.length), ⟨_, t, [], xs, rfl, List.Perm.refl _, rfl, ht⟩, fun m E hE => ?_⟩
  obtain ⟨t, ys, rest, rfl, hp, rfl, ht⟩ := hE
  have hlen := hp.length_eq
  rw [List.length_append] at hlen
  walk_at "dl"
  refine ifB (fun e => ?_) (fun e => ?_)
  · have hr : 0 < rest.length := by
      cases rest with
      | nil => simp at e
      | cons a l => simp
    refine ⟨ns, t, _, _, rfl, by omega, hn, ht, by omega, fun r t2 r0 r1 ht2 => ?_⟩
    walk_at "dl"
    refine ⟨⟨r0, by omega, by omega⟩, fun y hy => ⟨?_, rest.length - 1, by omega, t2, ys ++ [y], rest.eraseIdx r.toNat, rfl, perm_pop hp hy, ?_, ht2.mono (by rw [List.length_append]; simp; omega)⟩⟩
    · exact Nat.lt_of_lt_of_le (show ys.length < 10000 by omega) (small_line (by decide))
    · rw [List.length_eraseIdx_of_lt (by omega)]
  · have hr : rest = [] := by
      cases rest with
      | nil => rfl
      | cons a l => simp at e
    subst hr
    rw [List.append_nil] at hp
    refine hR _ ?_
    walk_at "dl"
    exact q ys t hp (ht.mono (by rw [hp.length_eq]; exact Nat.le_refl _))
/-! ### _law_all_cards -/
def spAllC : SpD := fun ss Q => ∃ R : Nat, ss = [.d (.int R)] ∧ R ≤ 100 ∧ Q (.list ((allC R).map cE)) []
theorem sh_law_all_cards : ∀ ss QD, spAllC ss QD → ss.length = 1 ∧ mpos 0 ss = [] := by rintro ss QD ⟨R, rfl, _⟩; exact ⟨rfl, rfl⟩
def cardsTo (R n : Nat) : List Card := (List.range n).flatMap fun s : Nat => (List.range R).map fun r : Nat => ((s : Int), (r : Int) + 1)
theorem cardsTo_succ (R n : Nat) : cardsTo R (n + 1) = cardsTo R n ++ (List.range R).map fun r : Nat => ((n : Int), (r : Int) + 1) := by
  unfold cardsTo
  rw [show List.range (n + 1) = List.range n ++ [n] from List.range_succ, List.flatMap_append]; simp
theorem cardsTo_len (R n : Nat) : (cardsTo R n).length = n * R := by
  induction n with
  | zero => simp [cardsTo]
  | succ n ih => rw [cardsTo_succ, List.length_append, ih]; simp [Nat.add_mul]
theorem rd_law_all_cards : ∀ ss QD, spAllC ss QD → tb_law_all_cards { nx := fun E' => finO [] E' (QD .none), rt := fun d E' => finO [] E' (QD d) } (ss ++ List.replicate 3 .un) := by
  rintro ss QD ⟨RR, rfl, hRR, q⟩
  unfold tb_law_all_cards
  refine seq_step fun R hR => ?_
  walk_at "dl"
  refine ⟨small_line (by decide), hR _ ?_⟩
  refine seq_step fun R hR => ?_
  refine for_inv (ds := rangeD 0 4) (E1 := [.d (.int RR), .ol [], .un, .un]) (fun Q h => ⟨⟨by decide, by decide⟩, h⟩)
    (fun i E => ∃ a2, E = [.d (.int RR), .ol ((cardsTo RR i).map cE), a2, .un]) ⟨_, rfl⟩ (fun i d E hd hE R2 hR2 => ?_) (fun E hE => ?_)
  · obtain ⟨a2, rfl⟩ := hE
    have hi : i < 4 := by have := (List.getElem?_eq_some_iff.mp hd).1; rwa [rangeD_length] at this
    rw [rangeD_get hi] at hd
    cases hd
    walk_at "dl"
    refine comp_map (E1 := [.d (.int RR), .ol ((cardsTo RR i).map cE), .d (.int (0 + (i : Int))), .un]) (List.range RR) (fun s : Nat => .int ((s : Int) + 1)) (fun s : Nat => cE (0 + (i : Int), (s : Int) + 1)) (fun Q h => ⟨⟨by decide, by decide, by omega, by omega⟩, by rw [show ((RR : Int) + 1 - 1).toNat = RR by omega, range_1]; exact h⟩) (un1 rfl) (by rw [List.length_range]; exact small_line (by omega)) (fun x hx R hq => ?_) ?_
    · exact ⟨small_line (by simp), hq _ rfl⟩
    · refine ⟨?_, hR2 _ ⟨.d (.int (0 + (i : Int))), ?_⟩⟩
      · rw [List.length_map, cardsTo_len, List.length_map, List.length_range]
        have : i * RR ≤ 3 * RR := Nat.mul_le_mul_right _ (by omega)
        exact small_line (by omega)
      · rw [cardsTo_succ, List.map_append, List.map_map, Int.zero_add]; rfl
  · obtain ⟨a2, rfl⟩ := hE
    rw [rangeD_length]
    exact hR _ q
/-! ### sorted hands -/
def le2 (p q : Card) : Bool := decide (p.1 < q.1 ∨ (p.1 = q.1 ∧ p.2 ≤ q.2))
def sortC (h : List Card) : List Card := h.mergeSort le2
theorem le2_total : PySem.W.TotalLe le2 := by
  constructor
  · intro a b c h1 h2
    have h1 := of_decide_eq_true h1
    have h2 := of_decide_eq_true h2
    exact decide_eq_true (by omega)
  · intro a b
    unfold le2
    by_cases h : a.1 < b.1 ∨ (a.1 = b.1 ∧ a.2 ≤ b.2)
    · exact .inl (decide_eq_true h)
    · exact .inr (decide_eq_true (by omega))
theorem sortC_perm (h : List Card) : (sortC h).Perm h := List.mergeSort_perm _ _
theorem sortC_up (h : List Card) : (sortC h).Pairwise fun a b => le2 a b = true := PySem.W.sort_pairwise le2_total h
theorem sort_cards (h : List Card) : sortD false (h.map cE) = (sortC h).map cE := by
  unfold sortD sortC
  refine (PySem.W.sort_maps (r := le2) (s := PySem.W.dataLe false fun d : D => d) cE fun a _ b _ => ?_).symm
  have := congrFun (congrFun (PySem.W.dataLe_ii (β := Card) (fun b => b.1) (fun b => b.2)) a) b
  exact this.symm
theorem sortOk_cards (h : List Card) : sortOk (h.map cE) := by
  refine ⟨fun d hd e he => ?_, .inl fun d hd => ?_, fun d hd => ?_⟩
  · obtain ⟨a, _, rfl⟩ := List.mem_map.mp hd
    obtain ⟨b, _, rfl⟩ := List.mem_map.mp he
    rfl
  · obtain ⟨a, _, rfl⟩ := List.mem_map.mp hd
    exact ⟨_, _, rfl⟩
  · obtain ⟨a, _, rfl⟩ := List.mem_map.mp hd
    simp [cE, PyData.depth, PyData.depthAll, PyData.canLay0, PyData.canLayAll0]
theorem perm_map_inv {α β : Type} {f : α → β} {l m : List β} (h : l.Perm m) : ∀ xs : List α, m = xs.map f → ∃ zs : List α, zs.Perm xs ∧ l = zs.map f := by
  induction h with
  | nil => intro xs e; exact ⟨xs, List.Perm.refl _, e⟩
  | cons x h ih =>
    intro xs e
    cases xs with
    | nil => cases e
    | cons y ys =>
      rw [List.map_cons] at e
      injection e with e1 e2
      obtain ⟨zs, h1, h2⟩ := ih ys e2
      exact ⟨y :: zs, h1.cons y, by rw [List.map_cons, e1, h2]⟩
  | swap x y l =>
    intro xs e
    match xs, e with
    | a :: b :: r, e =>
      rw [List.map_cons, List.map_cons] at e
      injection e with e1 e2
      injection e2 with e2 e3
      exact ⟨b :: a :: r, List.Perm.swap _ _ _, by rw [List.map_cons, List.map_cons, e1, e2, e3]⟩
  | trans h1 h2 ih1 ih2 =>
    intro xs e
    obtain ⟨zs, p1, e1⟩ := ih2 xs e
    obtain ⟨ws, p2, e2⟩ := ih1 zs e1
    exact ⟨ws, p2.trans p1, e2⟩
def cutH (zs : List Card) (R i : Nat) : List Card := (zs.take (i * R + R)).drop (i * R)
theorem cutH_len {zs : List Card} {R i : Nat} (hz : zs.length = 4 * R) (hi : i < 4) : (cutH zs R i).length = R := by
  unfold cutH
  have : i * R + R ≤ 4 * R := by rw [show i * R + R = (i + 1) * R by rw [Nat.add_mul]; omega]; exact Nat.mul_le_mul_right _ (by omega)
  rw [List.length_drop, List.length_take]; omega
theorem cutH_all {zs : List Card} {R : Nat} (hz : zs.length = 4 * R) : cutH zs R 0 ++ cutH zs R 1 ++ cutH zs R 2 ++ cutH zs R 3 = zs := by
  unfold cutH
  have e0 : (zs.take (0 * R + R)).drop (0 * R) = zs.take R := by simp
  have step : ∀ n : Nat, zs.take n ++ (zs.take (n + R)).drop n = zs.take (n + R) := fun n => by
    rw [List.drop_take, Nat.add_sub_cancel_left, List.take_add]
  rw [e0]
  have s1 := step R
  have s2 := step (R + R)
  have s3 := step (R + R + R)
  rw [show 1 * R = R by omega, show 2 * R = R + R by omega, show 3 * R = R + R + R by omega, s1, s2, s3, List.take_of_length_le (by omega)]
/-! ### _law_drawn_deal -/
def dealD (h0 h1 h2 h3 : List Card) : D := .tuple [handD h0, handD h1, handD h2, handD h3]
structure Deal (R : Nat) (h0 h1 h2 h3 : List Card) : Prop where
  l0 : h0.length = R
  l1 : h1.length = R
  l2 : h2.length = R
  l3 : h3.length = R
  u0 : h0.Pairwise fun a b => le2 a b = true
  u1 : h1.Pairwise fun a b => le2 a b = true
  u2 : h2.Pairwise fun a b => le2 a b = true
  u3 : h3.Pairwise fun a b => le2 a b = true
  all : (h0 ++ h1 ++ h2 ++ h3).Perm (allC R)
def spDeal : SpD := fun ss Q => ∃ (ns : List Int) (t : List D) (R b : Nat), ss = [.d (.list (ns.map PyData.int)), .ol t, .d (.int R)] ∧ R ≤ 100 ∧ ns.length ≤ 63 ∧ TownOk t b ∧ b ≤ 9000000 ∧
  ∀ h0 h1 h2 h3 t', Deal R h0 h1 h2 h3 → TownOk t' (b + 8 * R) → Q (dealD h0 h1 h2 h3) [.ol t']
theorem sh_law_drawn_deal : ∀ ss QD, spDeal ss QD → ss.length = 3 ∧ mpos 0 ss = [1] := by rintro ss QD ⟨ns, t, R, b, rfl, _⟩; exact ⟨rfl, rfl⟩
theorem rd_law_drawn_deal : ∀ ss QD, spDeal ss QD → tb_law_drawn_deal spAllC spMixed { nx := fun E' => finO [1] E' (QD .none), rt := fun d E' => finO [1] E' (QD d) } (ss ++ List.replicate 2 .un) := by
  rintro ss QD ⟨ns, t, RR, b, rfl, hRR, hn, ht, hb, q⟩
  unfold tb_law_drawn_deal
  refine seq_step fun R hR => ?_
  walk_at "dl"
  refine ⟨RR, rfl, hRR, ?_⟩
  walk_at "dl"
  refine ⟨ns, t, _, b, rfl, hn, by rw [List.length_map, allC_len]; omega, ht, hb, fun ys t2 hp ht2 => ?_⟩
  walk_at "dl"
  refine hR _ ?_
  obtain ⟨zs, hz, rfl⟩ := perm_map_inv hp _ rfl
  have hzl : zs.length = 4 * RR := by rw [hz.length_eq, allC_len]
  walk_at "dl"
  refine comp_map (E1 := [.d (.list (ns.map PyData.int)), .ol t2, .d (.int RR), .d (.list (zs.map cE)), .un]) (List.range 4) (fun i : Nat => .int (i : Int)) (fun i : Nat => handD (sortC (cutH zs RR i))) (fun Q h => ⟨⟨by decide, by decide⟩, by rw [show (4 : Int).toNat = 4 from rfl, show rangeD 0 4 = (List.range 4).map fun i : Nat => PyData.int (i : Int) from rfl]; exact h⟩) (un1 rfl) (small_line (by decide)) (fun i hi R hq => ?_) ?_
  · have hi := List.mem_range.mp hi
    have hm : (i : Int) * (RR : Int) = ((i * RR : Nat) : Int) := by simp
    have hb1 : i * RR ≤ 300 := Nat.le_trans (Nat.mul_le_mul_right _ (show i ≤ 3 by omega)) (by omega)
    walk_at "dl"
    refine ⟨cmul_small (by omega) (by omega), cmul_small (by omega) (by omega), ?_⟩
    rw [hm, cut_mid (by omega) (by omega), Int.toNat_natCast, show (((i * RR : Nat) : Int) + (RR : Int)).toNat = i * RR + RR by omega, ← List.map_take, ← List.map_drop]
    refine ⟨sortOk_cards _, ?_⟩
    rw [sort_cards]
    exact hq _ rfl
  · refine q (sortC (cutH zs RR 0)) (sortC (cutH zs RR 1)) (sortC (cutH zs RR 2)) (sortC (cutH zs RR 3)) t2 ⟨?_, ?_, ?_, ?_, sortC_up _, sortC_up _, sortC_up _, sortC_up _, ?_⟩ (ht2.mono (by rw [List.length_map, allC_len]; omega))
    · rw [(sortC_perm _).length_eq, cutH_len hzl (by decide)]
    · rw [(sortC_perm _).length_eq, cutH_len hzl (by decide)]
    · rw [(sortC_perm _).length_eq, cutH_len hzl (by decide)]
    · rw [(sortC_perm _).length_eq, cutH_len hzl (by decide)]
    · refine List.Perm.trans ?_ hz
      have := cutH_all hzl
      exact ((((sortC_perm _).append (sortC_perm _)).append (sortC_perm _)).append (sortC_perm _)).trans (by rw [this])
end DL
set_option Elab.async false
set_option linter.all false
set_option maxRecDepth 100000
set_option maxHeartbeats 4000000
namespace DL
open PySem PySem.Spec PyProof.Rows L2
local macro_rules | `(tactic| walk_at "dl") => `(tactic| simp only [tV, tVr, tFzV, turnD, DL.wipeE, tK, tOpD, tUnD, tBo, tAndD, tOrD, tNotD, tIfE, DL.tAndV, DL.tOrV, DL.tNotV, tTru, truD, okLen, sSet, sSetL, sExpr, sRet, sIf, sNx, tTupD, dNil, dCons, tLstD, tFzD, tApp, tExtd, tPopAt, sSetIx, tIxO, tChainD, tChain3D, tRevT, caStr, opRepT, opAdd, opSub, opMul, opDiv, opMod, opPow, DL.opI, DL.opI0, opB0, opLt, opLe, opGt, opGtD, opLtD, opGe, opEq, opNe, opIs, opIsN, isNone, opIn, opNotIn, opIx, atD_0, atD_1, atD_2, atD_3, putD_0, unNeg, tCa1, tCa2, tCaL1, caLen, caAbs, caMax2, caMin2, caSum, caMax, caMin, caSumT, caMaxT, caMinT, caAll, caTuple, caList, caInt, tIsi, isInt, isBool, isStr, isTuple, isList, notDict, sAsg, gSet, gTupD, gsNil, gsCons, sPar, pNil, pD, pL, setAll, tCallD, aNil, aV, aO, argS, oixs, ndp, putO, tOpL, opCat, opRep, tSlD, slD, tSlL, oNo, oE, tRevD, iLstD, iTupD, iRange1, iRange2, iZipD, iZipM, finO, tTrue, Option.map, eqv_int, eqv_bool, eqv_none, shaped_int, shaped_bool, shaped_none, tLenRange, tSortSet, tLenSet, tLenSetP, tSortSetP, tCountL, tCountT, tIndexL, tIndexT, DL.tOrT, DL.tAndT, DL.tNotT, tSortRev, caSorted, iEnumL, iEnumT, tDGetV, tDGetD, tDGet2V, dictAt, sDPutV, sSetM, mDt, mDk, pM, tInN, tNotInN, keyB_2, keyB_3, keyB_4, decide_eq_true_eq, and_self, List.cons_append, List.nil_append, List.replicate, List.getElem?_cons_zero, List.getElem?_cons_succ, List.set_cons_zero, List.set_cons_succ, List.length_cons, List.length_nil, true_and, and_true, if_true, if_false, Bool.false_eq_true, List.contains_nil, Bool.not_false, Bool.not_true, Bool.and_self, Bool.and_true, Bool.true_and, decide_true, decide_false, beq_self_eq_true])
def tb_is_whole : TSd :=
  sRet (tAndV (tIsi isInt (tV 0)) (tNotV (tIsi isBool (tV 0))))
def tb_is_card (sp_is_whole : SpD) : TSd :=
  sSeq (sIf (tOrD (tNotD (tTru (tIsi isTuple (tV 1)))) (tOrD (tBo (tOpD opNe (tCa1 caLen (tV 1)) (tK (.int 2)))) (tOrD (tNotD (tTru (tCallD sp_is_whole (aV (tOpD opIx (tV 1) (tK (.int 0))) (aNil))))) (tNotD (tTru (tCallD sp_is_whole (aV (tOpD opIx (tV 1) (tK (.int 1))) (aNil)))))))) (sRet (tK (.bool false))) (sNx))
      (sRet (tAndV (tChainD opLe opLe (tK (.int 0)) (tOpD opIx (tV 1) (tK (.int 0))) (tK (.int 3))) (tChainD opLe opLe (tK (.int 1)) (tOpD opIx (tV 1) (tK (.int 1))) (tV 0))))
/-! ### plain: hands and deals -/
instance (a b : Card) : Decidable (ltC a b) := by unfold ltC; infer_instance
theorem lt_cE (a b : Card) : PySem.W.dataLt (cE a) (cE b) = decide (ltC a b) := by
  unfold cE; rw [PySem.W.dataLt_ii]; rfl
theorem ltC_trans {a b c : Card} (h1 : ltC a b) (h2 : ltC b c) : ltC a c := by unfold ltC at *; omega
theorem ltC_irr (a : Card) : ¬ ltC a a := by unfold ltC; omega
theorem up_of : ∀ cs : List Card, (∀ k a b, cs[k]? = some a → cs[k + 1]? = some b → ltC a b) → cs.Pairwise ltC
  | [], _ => .nil
  | [a], _ => List.pairwise_singleton _ _
  | a :: b :: r, h => by
    have ih := up_of (b :: r) fun k x y hx hy => h (k + 1) x y (by simpa using hx) (by simpa using hy)
    refine List.pairwise_cons.mpr ⟨fun x hx => ?_, ih⟩
    have hab := h 0 a b rfl rfl
    rcases List.mem_cons.mp hx with rfl | hx
    · exact hab
    · exact ltC_trans hab ((List.pairwise_cons.mp ih).1 x hx)
theorem up_unique : ∀ {cs zs : List Card}, cs.Pairwise ltC → zs.Pairwise ltC → (∀ c, c ∈ zs ↔ c ∈ cs) → cs = zs
  | [], [], _, _, _ => rfl
  | [], z :: zs, _, _, h => absurd ((h z).mp (List.mem_cons_self ..)) (by simp)
  | c :: cs, [], _, _, h => absurd ((h c).mpr (List.mem_cons_self ..)) (by simp)
  | c :: cs, z :: zs, hc, hz, h => by
    have e : c = z := by
      have h1 := (h c).mpr (List.mem_cons_self ..)
      have h2 := (h z).mp (List.mem_cons_self ..)
      rcases List.mem_cons.mp h1 with e | h1
      · exact e
      · rcases List.mem_cons.mp h2 with e | h2
        · exact e.symm
        · exact absurd (ltC_trans ((List.pairwise_cons.mp hc).1 z h2) ((List.pairwise_cons.mp hz).1 c h1)) (ltC_irr c)
    subst e
    rw [up_unique (List.pairwise_cons.mp hc).2 (List.pairwise_cons.mp hz).2 fun x => ?_]
    have hx := h x
    rw [List.mem_cons, List.mem_cons] at hx
    constructor
    · intro m
      rcases hx.mp (.inr m) with e | m'
      · exact absurd ((List.pairwise_cons.mp hz).1 x m) (by rw [e]; exact ltC_irr c)
      · exact m'
    · intro m
      rcases hx.mpr (.inr m) with e | m'
      · exact absurd ((List.pairwise_cons.mp hc).1 x m) (by rw [e]; exact ltC_irr c)
      · exact m'
theorem perm_of : ∀ (a b : List Card), a.Nodup → (∀ x ∈ a, x ∈ b) → b.length ≤ a.length → a.Perm b
  | [], b, _, _, hl => by
    have : b = [] := List.eq_nil_of_length_eq_zero (by simpa using hl)
    rw [this]
  | x :: a, b, nd, hs, hl => by
    have hx : x ∈ b := hs x (List.mem_cons_self ..)
    have nd2 := List.nodup_cons.mp nd
    have ih := perm_of a (b.erase x) nd2.2 (fun y hy => (List.mem_erase_of_ne (fun e => nd2.1 (by rw [← e]; exact hy))).mpr (hs y (List.mem_cons_of_mem _ hy))) (by rw [List.length_erase_of_mem hx]; rw [List.length_cons] at hl; omega)
    exact (ih.cons x).trans (List.perm_cons_erase hx).symm
theorem nodup_len : ∀ (a b : List Card), a.Nodup → (∀ x ∈ a, x ∈ b) → a.length ≤ b.length
  | [], b, _, _ => Nat.zero_le _
  | x :: a, b, nd, hs => by
    have hx : x ∈ b := hs x (List.mem_cons_self ..)
    have nd2 := List.nodup_cons.mp nd
    have ih := nodup_len a (b.erase x) nd2.2 (fun y hy => (List.mem_erase_of_ne (fun e => nd2.1 (by rw [← e]; exact hy))).mpr (hs y (List.mem_cons_of_mem _ hy)))
    rw [List.length_erase_of_mem hx] at ih
    have := List.length_pos_of_mem hx
    rw [List.length_cons]; omega
theorem len_nodup {L zs : List Card} (nd : zs.Nodup) (h : ∀ c, c ∈ zs ↔ c ∈ L) : zs.length = L.length ↔ L.Nodup := by
  constructor
  · intro e
    exact (perm_of zs L nd (fun x hx => (h x).mp hx) (by omega)).nodup_iff.mp nd
  · intro nl
    have h1 := nodup_len zs L nd fun x hx => (h x).mp hx
    have h2 := nodup_len L zs nl fun x hx => (h x).mpr hx
    omega
def okC (R : Nat) (c : Card) : Prop := 0 ≤ c.1 ∧ c.1 ≤ 3 ∧ 1 ≤ c.2 ∧ c.2 ≤ R
def goodR (R : Nat) : Prop := R ∈ ([1, 2, 3, 4, 5, 6, 8, 9, 13] : List Nat)
theorem goodR.le {R : Nat} (h : goodR R) : 1 ≤ R ∧ R ≤ 13 := (by decide : ∀ z ∈ ([1, 2, 3, 4, 5, 6, 8, 9, 13] : List Nat), 1 ≤ z ∧ z ≤ 13) R h
theorem le2_antisymm {a b : Card} (h1 : le2 a b = true) (h2 : le2 b a = true) : a = b := by
  unfold le2 at h1 h2
  have h1 := of_decide_eq_true h1
  have h2 := of_decide_eq_true h2
  exact Prod.ext (by omega) (by omega)
theorem sortC_eq {a b : List Card} (h : a.Perm b) : sortC a = sortC b :=
  List.Perm.eq_of_pairwise (le := fun a b => le2 a b = true) (fun a b _ _ h1 h2 => le2_antisymm h1 h2) (sortC_up a) (sortC_up b) (((sortC_perm a).trans h).trans (sortC_perm b).symm)
theorem allC_up {R : Nat} (h : goodR R) : (allC R).Nodup ∧ (allC R).Pairwise (fun a b => le2 a b = true) := (by decide +kernel : ∀ z ∈ ([1, 2, 3, 4, 5, 6, 8, 9, 13] : List Nat), (allC z).Nodup ∧ (allC z).Pairwise (fun a b => le2 a b = true)) R h
theorem allC_ok {R : Nat} (h : goodR R) : (allC R).Nodup ∧ sortC (allC R) = allC R :=
  ⟨(allC_up h).1, List.Perm.eq_of_pairwise (le := fun a b => le2 a b = true) (fun a b _ _ h1 h2 => le2_antisymm h1 h2) (sortC_up _) (allC_up h).2 (sortC_perm _)⟩
def HandP (R : Nat) (d : D) : Prop := ∃ cs : List Card, d = .tuple (cs.map cE) ∧ cs.length = R ∧ (∀ c ∈ cs, okC R c) ∧ cs.Pairwise ltC
noncomputable def isHandB (R : Nat) (d : D) : Bool := @decide (HandP R d) (Classical.propDecidable _)
theorem hand_yes {R : Nat} {d : D} (h : HandP R d) : isHandB R d = true := by unfold isHandB; exact @decide_eq_true _ (Classical.propDecidable _) h
theorem hand_no {R : Nat} {d : D} (h : ¬ HandP R d) : isHandB R d = false := by unfold isHandB; exact @decide_eq_false _ (Classical.propDecidable _) h
theorem of_hand {R : Nat} {d : D} (h : isHandB R d = true) : HandP R d := by unfold isHandB at h; exact @of_decide_eq_true _ (Classical.propDecidable _) h
def DealP (R : Nat) (d : D) : Prop := ∃ h0 h1 h2 h3 : List Card, d = .tuple [handD h0, handD h1, handD h2, handD h3] ∧ (HandP R (handD h0) ∧ HandP R (handD h1) ∧ HandP R (handD h2) ∧ HandP R (handD h3)) ∧ (h0 ++ h1 ++ h2 ++ h3).Nodup
noncomputable def isDealB (R : Nat) (d : D) : Bool := @decide (DealP R d) (Classical.propDecidable _)
theorem deal_yes {R : Nat} {d : D} (h : DealP R d) : isDealB R d = true := by unfold isDealB; exact @decide_eq_true _ (Classical.propDecidable _) h
theorem deal_no {R : Nat} {d : D} (h : ¬ DealP R d) : isDealB R d = false := by unfold isDealB; exact @decide_eq_false _ (Classical.propDecidable _) h
theorem cE_inj {a b : Card} (h : cE a = cE b) : a = b := by
  unfold cE at h
  injection h with h
  injection h with h1 h2
  injection h2 with h2 _
  injection h1 with h1
  injection h2 with h2
  exact Prod.ext h1 h2
theorem map_cE_inj : ∀ {a b : List Card}, a.map cE = b.map cE → a = b
  | [], [], _ => rfl
  | [], _ :: _, h => by cases h
  | _ :: _, [], h => by cases h
  | x :: a, y :: b, h => by
    rw [List.map_cons, List.map_cons] at h
    injection h with h1 h2
    rw [cE_inj h1, map_cE_inj h2]
theorem handD_inj {a b : List Card} (h : handD a = handD b) : a = b := by
  unfold handD at h; injection h with h; exact map_cE_inj h
theorem hand_of {R : Nat} {h : List Card} (hp : HandP R (handD h)) : h.length = R ∧ (∀ c ∈ h, okC R c) ∧ h.Pairwise ltC := by
  obtain ⟨cs, e, h1, h2, h3⟩ := hp
  have : h = cs := handD_inj (by rw [e]; rfl)
  rw [this]; exact ⟨h1, h2, h3⟩
/-! ### is_whole, is_card -/
def wholeD : D → Bool
  | .int _ => true
  | _ => false
def isCardD (R : Nat) : D → Bool
  | .tuple [.int a, .int b] => decide (0 ≤ a) && (decide (a ≤ 3) && (decide (1 ≤ b) && decide (b ≤ (R : Int))))
  | _ => false
theorem card_is {R : Nat} {d : D} (h : isCardD R d = true) : ∃ c : Card, d = cE c ∧ okC R c := by
  unfold isCardD at h
  split at h
  · rename_i a b
    simp only [Bool.and_eq_true, decide_eq_true_eq] at h
    exact ⟨(a, b), rfl, h⟩
  · cases h
theorem card_ok {R : Nat} {c : Card} (h : okC R c) : isCardD R (cE c) = true := by
  show (decide (0 ≤ c.1) && (decide (c.1 ≤ 3) && (decide (1 ≤ c.2) && decide (c.2 ≤ (R : Int))))) = true
  simp only [Bool.and_eq_true, decide_eq_true_eq]
  exact h
theorem cards_of {R : Nat} : ∀ {ds : List D}, (∀ x ∈ ds, isCardD R x = true) → ∃ cs : List Card, ds = cs.map cE ∧ ∀ c ∈ cs, okC R c
  | [], _ => ⟨[], rfl, fun _ h => nomatch h⟩
  | d :: ds, h => by
    obtain ⟨c, rfl, hc⟩ := card_is (h d (List.mem_cons_self ..))
    obtain ⟨cs, rfl, hcs⟩ := cards_of fun x hx => h x (List.mem_cons_of_mem _ hx)
    exact ⟨c :: cs, rfl, fun x hx => by rcases List.mem_cons.mp hx with rfl | hx; exact hc; exact hcs x hx⟩
def spWhole : SpD := fun ss Q => ∃ d, ss = [.d d] ∧ notDict d ∧ Q (.bool (wholeD d)) []
theorem sh_is_whole : ∀ ss QD, spWhole ss QD → ss.length = 1 ∧ mpos 0 ss = [] := by rintro ss QD ⟨d, rfl, _⟩; exact ⟨rfl, rfl⟩
theorem rd_is_whole : ∀ ss QD, spWhole ss QD → tb_is_whole { nx := fun E' => finO [] E' (QD .none), rt := fun d E' => finO [] E' (QD d) } (ss ++ List.replicate 0 .un) := by
  rintro ss QD ⟨d, rfl, hd, q⟩
  unfold tb_is_whole
  cases d with
  | dict _ => exact hd.elim
  | int i => exact ⟨trivial, trivial, q⟩
  | bool i => exact ⟨trivial, trivial, q⟩
  | _ => exact ⟨trivial, q⟩
theorem nd_of {n : Nat} {d : D} (h : bnd n d = true) : notDict d := by
  cases d with
  | dict _ => cases n <;> cases h
  | _ => trivial
theorem card_no {R : Nat} {x y : D} (h : wholeD x = false ∨ wholeD y = false) : isCardD R (.tuple [x, y]) = false := by
  cases x with
  | int a =>
    cases y with
    | int b => rcases h with h | h <;> cases h
    | _ => rfl
  | _ => rfl
theorem card_len {R : Nat} {ds : List D} (h : ds.length ≠ 2) : isCardD R (.tuple ds) = false := by
  match ds, h with
  | [], _ => rfl
  | [x], _ => cases x <;> rfl
  | [x, y], h => exact absurd rfl h
  | x :: y :: z :: r, _ => cases x <;> cases y <;> rfl
def spIsCard : SpD := fun ss Q => ∃ (R : Nat) (d : D), ss = [.d (.int R), .d d] ∧ bnd 20 d = true ∧ Q (.bool (isCardD R d)) []
theorem sh_is_card : ∀ ss QD, spIsCard ss QD → ss.length = 2 ∧ mpos 0 ss = [] := by rintro ss QD ⟨R, d, rfl, _⟩; exact ⟨rfl, rfl⟩
theorem rd_is_card : ∀ ss QD, spIsCard ss QD → tb_is_card spWhole { nx := fun E' => finO [] E' (QD .none), rt := fun d E' => finO [] E' (QD d) } (ss ++ List.replicate 0 .un) := by
  rintro ss QD ⟨R0, d, rfl, hd, q⟩
  unfold tb_is_card
  refine seq_step fun R hR => ?_
  cases d with
  | dict _ => cases hd
  | tuple ds =>
    by_cases h2 : ds.length = 2
    · match ds, h2, hd, q with
      | [x, y], _, hd, q =>
        have hx := (of_bnd_tup hd).1
        have ndx : notDict x := nd_of (hx x (by simp))
        have ndy : notDict y := nd_of (hx y (by simp))
        walk_at "dl"
        refine ⟨x, rfl, ndx, ?_⟩
        walk_at "dl"
        by_cases hx1 : wholeD x = true
        · refine ifF (by rw [hx1]; rfl) ⟨y, rfl, ndy, ?_⟩
          walk_at "dl"
          by_cases hy1 : wholeD y = true
          · refine ifF (by rw [hy1]; rfl) (hR _ ?_)
            cases x with
            | int a =>
              cases y with
              | int b =>
                have q : QD (.bool (decide (0 ≤ a) && (decide (a ≤ 3) && (decide (1 ≤ b) && decide (b ≤ (R0 : Int)))))) [] := q
                walk_at "dl"
                by_cases h1 : 0 ≤ a
                · rw [decide_eq_true h1, Bool.true_and] at q
                  rw [decide_eq_true h1]
                  by_cases h3 : a ≤ 3
                  · rw [decide_eq_true h3, Bool.true_and] at q
                    rw [decide_eq_true h3]
                    by_cases h4 : 1 ≤ b
                    · rw [decide_eq_true h4, Bool.true_and] at q
                      rw [decide_eq_true h4]
                      exact q
                    · rw [decide_eq_false h4, Bool.false_and] at q
                      rw [decide_eq_false h4]
                      exact q
                  · rw [decide_eq_false h3, Bool.false_and] at q
                    rw [decide_eq_false h3]
                    exact q
                · rw [decide_eq_false h1, Bool.false_and] at q
                  rw [decide_eq_false h1]
                  exact q
              | _ => cases hy1
            | _ => cases hx1
          · have hy0 : wholeD y = false := by simpa using hy1
            rw [card_no (.inr hy0)] at q
            exact ifT (by rw [hy0]; rfl) q
        · have hx0 : wholeD x = false := by simpa using hx1
          rw [card_no (.inl hx0)] at q
          exact ifT (by rw [hx0]; rfl) q
    · walk_at "dl"
      rw [card_len h2] at q
      exact ifT (by rw [decide_eq_false (by omega)]; rfl) q
  | _ => exact ⟨trivial, trivial, q⟩
end DL
set_option Elab.async false
set_option linter.all false
set_option maxRecDepth 100000
set_option maxHeartbeats 4000000
namespace DL
open PySem PySem.Spec PyProof.Rows L2
local macro_rules | `(tactic| walk_at "dl") => `(tactic| simp only [tV, tVr, tFzV, turnD, DL.wipeE, tK, tOpD, tUnD, tBo, tAndD, tOrD, tNotD, tIfE, DL.tAndV, DL.tOrV, DL.tNotV, tTru, truD, okLen, sSet, sSetL, sExpr, sRet, sIf, sNx, tTupD, dNil, dCons, tLstD, tFzD, tApp, tExtd, tPopAt, sSetIx, tIxO, tChainD, tChain3D, tRevT, caStr, opRepT, opAdd, opSub, opMul, opDiv, opMod, opPow, DL.opI, DL.opI0, opB0, opLt, opLe, opGt, opGtD, opLtD, opGe, opEq, opNe, opIs, opIsN, isNone, opIn, opNotIn, opIx, atD_0, atD_1, atD_2, atD_3, putD_0, unNeg, tCa1, tCa2, tCaL1, caLen, caAbs, caMax2, caMin2, caSum, caMax, caMin, caSumT, caMaxT, caMinT, caAll, caTuple, caList, caInt, tIsi, isInt, isBool, isStr, isTuple, isList, notDict, sAsg, gSet, gTupD, gsNil, gsCons, sPar, pNil, pD, pL, setAll, tCallD, aNil, aV, aO, argS, oixs, ndp, putO, tOpL, opCat, opRep, tSlD, slD, tSlL, oNo, oE, tRevD, iLstD, iTupD, iRange1, iRange2, iZipD, iZipM, finO, tTrue, Option.map, eqv_int, eqv_bool, eqv_none, shaped_int, shaped_bool, shaped_none, tLenRange, tSortSet, tLenSet, tLenSetP, tSortSetP, tCountL, tCountT, tIndexL, tIndexT, DL.tOrT, DL.tAndT, DL.tNotT, tSortRev, caSorted, iEnumL, iEnumT, tDGetV, tDGetD, tDGet2V, dictAt, sDPutV, sSetM, mDt, mDk, pM, tInN, tNotInN, keyB_2, keyB_3, keyB_4, decide_eq_true_eq, and_self, List.cons_append, List.nil_append, List.replicate, List.getElem?_cons_zero, List.getElem?_cons_succ, List.set_cons_zero, List.set_cons_succ, List.length_cons, List.length_nil, true_and, and_true, if_true, if_false, Bool.false_eq_true, List.contains_nil, Bool.not_false, Bool.not_true, Bool.and_self, Bool.and_true, Bool.true_and, decide_true, decide_false, beq_self_eq_true])
def tb_is_hand (sp_is_card : SpD) : TSd :=
  sSeq (sIf (tOrD (tNotD (tTru (tIsi isTuple (tV 1)))) (tOrD (tBo (tOpD opNe (tCa1 caLen (tV 1)) (tV 0))) (tNotD (tTru (tCa1 caAll (tFzD (tComp (iTupD (tV 1)) (gSet 2) (tTrue) (tCallD sp_is_card (aV (tV 0) (aV (tV 2) (aNil)))) [2]))))))) (sRet (tK (.bool false))) (sNx))
      (sRet (tCa1 caAll (tFzD (tComp (iRange1 (tOpD opSub (tV 0) (tK (.int 1)))) (gSet 3) (tTrue) (tOpD opLtD (tOpD opIx (tV 1) (tV 3)) (tOpD opIx (tV 1) (tOpD opAdd (tV 3) (tK (.int 1))))) [3]))))
def spIsHand : SpD := fun ss Q => ∃ (R : Nat) (d : D), ss = [.d (.int R), .d d] ∧ goodR R ∧ bnd 20 d = true ∧ Q (.bool (isHandB R d)) []
theorem sh_is_hand : ∀ ss QD, spIsHand ss QD → ss.length = 2 ∧ mpos 0 ss = [] := by rintro ss QD ⟨R, d, rfl, _⟩; exact ⟨rfl, rfl⟩
theorem range_0 (n : Nat) : rangeD 0 n = (List.range n).map fun i : Nat => PyData.int (i : Int) := by
  unfold rangeD; exact List.map_congr_left fun i _ => by rw [Int.zero_add]
theorem hand_tup {R : Nat} {d : D} (h : HandP R d) : ∃ ds, d = .tuple ds ∧ ds.length = R ∧ ∀ x ∈ ds, isCardD R x = true := by
  obtain ⟨cs, rfl, h1, h2, _⟩ := h
  exact ⟨_, rfl, by rw [List.length_map]; exact h1, fun x hx => by obtain ⟨c, hc, rfl⟩ := List.mem_map.mp hx; exact card_ok (h2 c hc)⟩
theorem all_true {α : Type} (p : α → Bool) (l : List α) : (l.map p).all id = l.all p := by rw [List.all_map]; rfl
theorem rd_is_hand : ∀ ss QD, spIsHand ss QD → tb_is_hand spIsCard { nx := fun E' => finO [] E' (QD .none), rt := fun d E' => finO [] E' (QD d) } (ss ++ List.replicate 2 .un) := by
  rintro ss QD ⟨R0, d, rfl, hR0, hd, q⟩
  unfold tb_is_hand
  refine seq_step fun R hR => ?_
  have no : ¬ HandP R0 d → QD (.bool false) [] := fun h => by rw [hand_no h] at q; exact q
  cases d with
  | dict _ => cases hd
  | tuple ds =>
    have hb := of_bnd_tup hd
    walk_at "dl"
    by_cases hl : ds.length = R0
    · refine ifF (by rw [decide_eq_true (by omega)]; rfl) ?_
      refine comp_map (E1 := [.d (.int R0), .d (.tuple ds), .un, .un]) ds (fun z => z) (fun z => .bool (isCardD R0 z)) (fun Q h => by rw [List.map_id'] at h; exact h) (un1 rfl) (small_line (by omega)) (fun z hz R3 hq => ?_) ?_
      · walk_at "dl"
        exact ⟨R0, z, rfl, bnd_mono 19 z 20 (by decide) (hb.1 z hz), hq _ rfl⟩
      refine ⟨ds.map (isCardD R0), by rw [List.map_map]; rfl, ?_⟩
      rw [all_true]
      by_cases ha : ds.all (isCardD R0) = true
      · refine ifF (by rw [ha]; rfl) (hR _ ?_)
        obtain ⟨cs, rfl, hcs⟩ := cards_of (List.all_eq_true.mp ha)
        rw [List.length_map] at hl
        have hle := hR0.le
        show tCa1 _ _ _ _
        unfold tCa1 tFzD tComp
        walk_at "dl"
        refine ⟨⟨by omega, by omega⟩, ?_⟩
        rw [show ((R0 : Int) - 1).toNat = R0 - 1 by omega, range_0]
        refine compD_map (fun i : Nat => PyData.int (i : Int)) (fun _ => true) (fun k => .bool (decide (ltC (cs.getD k (0, 0)) (cs.getD (k + 1) (0, 0))))) (List.range (R0 - 1)) [] _ _ rfl (fun k hk R3 hq => ?_) (by rw [List.length_nil, List.length_range]; exact small_line (by omega)) (fun E' hE' => ?_)
        · have hk := List.mem_range.mp hk
          have e1 : cs[k]? = some cs[k] := List.getElem?_eq_getElem (by omega)
          have e2 : cs[k + 1]? = some cs[k + 1] := List.getElem?_eq_getElem (by omega)
          have g1 : cs.getD k (0, 0) = cs[k] := by rw [List.getD_eq_getElem?_getD, e1]; rfl
          have g2 : cs.getD (k + 1) (0, 0) = cs[k + 1] := by rw [List.getD_eq_getElem?_getD, e2]; rfl
          rw [g1, g2] at hq
          walk_at "dl"
          refine atD_at (d := cE cs[k]) (by omega) (by rw [Int.toNat_natCast, List.getElem?_map, e1]; rfl) ?_
          refine atD_at (d := cE cs[k + 1]) (by omega) (by rw [show ((k : Int) + 1).toNat = k + 1 by omega, List.getElem?_map, e2]; rfl) ?_
          refine ⟨⟨rfl, (fun h => nomatch h), by simp [cE, PyData.depth, PyData.depthAll, PyData.canLay0, PyData.canLayAll0]⟩, ?_⟩
          rw [lt_cE]
          exact hq _ rfl
        · rw [List.nil_append, List.filter_eq_self.mpr (fun _ _ => rfl)]
          refine ⟨(List.range (R0 - 1)).map fun k => decide (ltC (cs.getD k (0, 0)) (cs.getD (k + 1) (0, 0))), by rw [List.map_map]; rfl, ?_⟩
          rw [all_true]
          have key : (List.range (R0 - 1)).all (fun k => decide (ltC (cs.getD k (0, 0)) (cs.getD (k + 1) (0, 0)))) = isHandB R0 (.tuple (cs.map cE)) := by
            rw [Bool.eq_iff_iff]
            constructor
            · intro h
              have h := List.all_eq_true.mp h
              refine hand_yes ⟨cs, rfl, hl, hcs, up_of cs fun k a b ha hb => ?_⟩
              have hkb := (List.getElem?_eq_some_iff.mp hb).1
              have := of_decide_eq_true (h k (List.mem_range.mpr (by omega)))
              rw [List.getD_eq_getElem?_getD, ha, List.getD_eq_getElem?_getD, hb] at this
              exact this
            · intro h
              obtain ⟨cs', e, _, _, up⟩ := of_hand h
              have : cs = cs' := handD_inj e
              subst this
              refine List.all_eq_true.mpr fun k hk => decide_eq_true ?_
              have hk := List.mem_range.mp hk
              rw [List.getD_eq_getElem?_getD, List.getElem?_eq_getElem (show k < cs.length by omega), List.getD_eq_getElem?_getD, List.getElem?_eq_getElem (show k + 1 < cs.length by omega)]
              exact List.pairwise_iff_getElem.mp up k (k + 1) (by omega) (by omega) (by omega)
          rw [key]
          exact q
      · have ha0 : ds.all (isCardD R0) = false := by simpa using ha
        refine ifT (by rw [ha0]; rfl) (no fun h => ?_)
        obtain ⟨ds', e, _, h2⟩ := hand_tup h
        injection e with e
        subst e
        exact ha (List.all_eq_true.mpr h2)
    · refine ifT (by rw [decide_eq_false (by omega)]; rfl) (no fun h => ?_)
      obtain ⟨ds', e, h1, _⟩ := hand_tup h
      injection e with e
      subst e
      exact hl h1
  | _ => exact ⟨trivial, trivial, no fun h => by obtain ⟨_, e, _⟩ := hand_tup h; cases e⟩
end DL
set_option Elab.async false
set_option linter.all false
set_option maxRecDepth 100000
set_option maxHeartbeats 4000000
namespace DL
open PySem PySem.Spec PyProof.Rows L2
local macro_rules | `(tactic| walk_at "dl") => `(tactic| simp only [tV, tVr, tFzV, turnD, DL.wipeE, tK, tOpD, tUnD, tBo, tAndD, tOrD, tNotD, tIfE, DL.tAndV, DL.tOrV, DL.tNotV, tTru, truD, okLen, sSet, sSetL, sExpr, sRet, sIf, sNx, tTupD, dNil, dCons, tLstD, tFzD, tApp, tExtd, tPopAt, sSetIx, tIxO, tChainD, tChain3D, tRevT, caStr, opRepT, opAdd, opSub, opMul, opDiv, opMod, opPow, DL.opI, DL.opI0, opB0, opLt, opLe, opGt, opGtD, opLtD, opGe, opEq, opNe, opIs, opIsN, isNone, opIn, opNotIn, opIx, atD_0, atD_1, atD_2, atD_3, putD_0, unNeg, tCa1, tCa2, tCaL1, caLen, caAbs, caMax2, caMin2, caSum, caMax, caMin, caSumT, caMaxT, caMinT, caAll, caTuple, caList, caInt, tIsi, isInt, isBool, isStr, isTuple, isList, notDict, sAsg, gSet, gTupD, gsNil, gsCons, sPar, pNil, pD, pL, setAll, tCallD, aNil, aV, aO, argS, oixs, ndp, putO, tOpL, opCat, opRep, tSlD, slD, tSlL, oNo, oE, tRevD, iLstD, iTupD, iRange1, iRange2, iZipD, iZipM, finO, tTrue, Option.map, eqv_int, eqv_bool, eqv_none, shaped_int, shaped_bool, shaped_none, tLenRange, tSortSet, tLenSet, tLenSetP, tSortSetP, tCountL, tCountT, tIndexL, tIndexT, DL.tOrT, DL.tAndT, DL.tNotT, tSortRev, caSorted, iEnumL, iEnumT, tDGetV, tDGetD, tDGet2V, dictAt, sDPutV, sSetM, mDt, mDk, pM, tInN, tNotInN, keyB_2, keyB_3, keyB_4, decide_eq_true_eq, and_self, List.cons_append, List.nil_append, List.replicate, List.getElem?_cons_zero, List.getElem?_cons_succ, List.set_cons_zero, List.set_cons_succ, List.length_cons, List.length_nil, true_and, and_true, if_true, if_false, Bool.false_eq_true, List.contains_nil, Bool.not_false, Bool.not_true, Bool.and_self, Bool.and_true, Bool.true_and, decide_true, decide_false, beq_self_eq_true])
def tb_is_deal (sp_is_hand : SpD) : TSd :=
  sSeq (sIf (tOrD (tNotD (tTru (tIsi isTuple (tV 1)))) (tOrD (tBo (tOpD opNe (tCa1 caLen (tV 1)) (tK (.int 4)))) (tNotD (tTru (tCa1 caAll (tFzD (tComp (iTupD (tV 1)) (gSet 2) (tTrue) (tCallD sp_is_hand (aV (tV 0) (aV (tV 2) (aNil)))) [2]))))))) (sRet (tK (.bool false))) (sNx))
      (sRet (tOpD opEq (tLenSetP (tOpD opAdd (tOpD opAdd (tOpD opAdd (tOpD opIx (tV 1) (tK (.int 0))) (tOpD opIx (tV 1) (tK (.int 1)))) (tOpD opIx (tV 1) (tK (.int 2)))) (tOpD opIx (tV 1) (tK (.int 3))))) (tOpD opMul (tK (.int 4)) (tV 0))))
def spIsDeal : SpD := fun ss Q => ∃ (R : Nat) (d : D), ss = [.d (.int R), .d d] ∧ goodR R ∧ bnd 20 d = true ∧ Q (.bool (isDealB R d)) []
theorem sh_is_deal : ∀ ss QD, spIsDeal ss QD → ss.length = 2 ∧ mpos 0 ss = [] := by rintro ss QD ⟨R, d, rfl, _⟩; exact ⟨rfl, rfl⟩
theorem deal_tup {R : Nat} {d : D} (h : DealP R d) : ∃ ds, d = .tuple ds ∧ ds.length = 4 ∧ ∀ x ∈ ds, isHandB R x = true := by
  obtain ⟨h0, h1, h2, h3, rfl, ⟨p0, p1, p2, p3⟩, _⟩ := h
  refine ⟨_, rfl, rfl, fun x hx => ?_⟩
  simp only [List.mem_cons, List.not_mem_nil, or_false] at hx
  rcases hx with rfl | rfl | rfl | rfl
  · exact hand_yes p0
  · exact hand_yes p1
  · exact hand_yes p2
  · exact hand_yes p3
/-- four hands -/
theorem four_hands {R : Nat} {ds : List D} (hl : ds.length = 4) (ha : ∀ x ∈ ds, isHandB R x = true) : ∃ h0 h1 h2 h3 : List Card, ds = [handD h0, handD h1, handD h2, handD h3] ∧ (HandP R (handD h0) ∧ HandP R (handD h1) ∧ HandP R (handD h2) ∧ HandP R (handD h3)) := by
  match ds, hl with
  | [a, b, c, d], _ =>
    have g : ∀ x ∈ ([a, b, c, d] : List D), ∃ h, x = handD h ∧ HandP R (handD h) := fun x hx => by
      have hp := of_hand (ha x hx)
      obtain ⟨cs, rfl, _⟩ := id hp
      exact ⟨cs, rfl, hp⟩
    obtain ⟨h0, rfl, p0⟩ := g a (by simp)
    obtain ⟨h1, rfl, p1⟩ := g b (by simp)
    obtain ⟨h2, rfl, p2⟩ := g c (by simp)
    obtain ⟨h3, rfl, p3⟩ := g d (by simp)
    exact ⟨h0, h1, h2, h3, rfl, p0, p1, p2, p3⟩
theorem deal_iff {R : Nat} {h0 h1 h2 h3 : List Card} (p : HandP R (handD h0) ∧ HandP R (handD h1) ∧ HandP R (handD h2) ∧ HandP R (handD h3)) : DealP R (.tuple [handD h0, handD h1, handD h2, handD h3]) ↔ (h0 ++ h1 ++ h2 ++ h3).Nodup := by
  constructor
  · rintro ⟨g0, g1, g2, g3, e, _, nd⟩
    injection e with e
    injection e with e0 e
    injection e with e1 e
    injection e with e2 e
    injection e with e3 e
    rw [handD_inj e0, handD_inj e1, handD_inj e2, handD_inj e3]
    exact nd
  · intro nd
    exact ⟨h0, h1, h2, h3, rfl, p, nd⟩
theorem isDeal_dec {R : Nat} {h0 h1 h2 h3 : List Card} (p : HandP R (handD h0) ∧ HandP R (handD h1) ∧ HandP R (handD h2) ∧ HandP R (handD h3)) {b : Bool} (h : b = true ↔ (h0 ++ h1 ++ h2 ++ h3).Nodup) : b = isDealB R (.tuple [handD h0, handD h1, handD h2, handD h3]) := by
  rw [Bool.eq_iff_iff, h, ← deal_iff p]
  constructor
  · exact deal_yes
  · intro z
    by_cases hd : DealP R (.tuple [handD h0, handD h1, handD h2, handD h3])
    · exact hd
    · rw [deal_no hd] at z; cases z
theorem rd_is_deal : ∀ ss QD, spIsDeal ss QD → tb_is_deal spIsHand { nx := fun E' => finO [] E' (QD .none), rt := fun d E' => finO [] E' (QD d) } (ss ++ List.replicate 1 .un) := by
  rintro ss QD ⟨R0, d, rfl, hR0, hd, q⟩
  unfold tb_is_deal
  refine seq_step fun R hR => ?_
  have no : ¬ DealP R0 d → QD (.bool false) [] := fun h => by rw [deal_no h] at q; exact q
  have hle := hR0.le
  cases d with
  | dict _ => cases hd
  | tuple ds =>
    have hb := of_bnd_tup hd
    walk_at "dl"
    by_cases hl : ds.length = 4
    · refine ifF (by rw [decide_eq_true (by omega)]; rfl) ?_
      refine comp_map (E1 := [.d (.int R0), .d (.tuple ds), .un]) ds (fun z => z) (fun z => .bool (isHandB R0 z)) (fun Q h => by rw [List.map_id'] at h; exact h) (un1 rfl) (small_line (by omega)) (fun z hz R3 hq => ?_) ?_
      · walk_at "dl"
        exact ⟨R0, z, rfl, hR0, bnd_mono 19 z 20 (by decide) (hb.1 z hz), hq _ rfl⟩
      refine ⟨ds.map (isHandB R0), by rw [List.map_map]; rfl, ?_⟩
      rw [all_true]
      by_cases ha : ds.all (isHandB R0) = true
      · refine ifF (by rw [ha]; rfl) (hR _ ?_)
        obtain ⟨h0, h1, h2, h3, rfl, p⟩ := four_hands hl (List.all_eq_true.mp ha)
        have l0 := (hand_of p.1).1
        have l1 := (hand_of p.2.1).1
        have l2 := (hand_of p.2.2.1).1
        have l3 := (hand_of p.2.2.2).1
        unfold handD at q ⊢
        walk_at "dl"
        refine ⟨small_line (by rw [List.length_map, List.length_map]; omega), small_line (by rw [List.length_append, List.length_map, List.length_map, List.length_map]; omega), small_line (by rw [List.length_append, List.length_append, List.length_map, List.length_map, List.length_map, List.length_map]; omega), h0 ++ h1 ++ h2 ++ h3, by rw [List.map_append, List.map_append, List.map_append]; rfl, by rw [List.length_append, List.length_append, List.length_append]; omega, fun zs nd hm => ?_⟩
        refine ⟨cmul_small (by decide) (by omega), ?_⟩
        have key := isDeal_dec p (b := decide ((zs.length : Int) = 4 * (R0 : Int))) (by
          rw [decide_eq_true_eq, ← len_nodup nd hm, List.length_append, List.length_append, List.length_append]
          omega)
        unfold handD at key
        rw [key]
        exact q
      · have ha0 : ds.all (isHandB R0) = false := by simpa using ha
        refine ifT (by rw [ha0]; rfl) (no fun h => ?_)
        obtain ⟨ds', e, _, h2⟩ := deal_tup h
        injection e with e
        subst e
        exact ha (List.all_eq_true.mpr h2)
    · refine ifT (by rw [decide_eq_false (by omega)]; rfl) (no fun h => ?_)
      obtain ⟨ds', e, h1, _⟩ := deal_tup h
      injection e with e
      subst e
      exact hl h1
  | _ => exact ⟨trivial, trivial, no fun h => by obtain ⟨_, e, _⟩ := deal_tup h; cases e⟩
end DL
set_option Elab.async false
set_option linter.all false
set_option maxRecDepth 100000
set_option maxHeartbeats 4000000
/-! FnTxtT: texts of small lengths and of true signs (plain). -/
namespace DL
open PySem PySem.Spec PyProof.Rows L2
def chOk (x : Str) : Prop := ∀ c ∈ TL.tl x, c < 1114112
theorem strOk_iff (x : Str) : PyData.strOk x = true ↔ chOk x := by
  unfold PyData.strOk chOk
  rw [Array.all_eq_true']
  constructor
  · intro h c hc; exact of_decide_eq_true (h c (Array.mem_toList_iff.mp hc))
  · intro h c hc; exact decide_eq_true (h c (Array.mem_toList_iff.mpr hc))
theorem chOk_app {x y : Str} (h : chOk x) (h' : chOk y) : chOk (x ++ y) := fun c hc => by
  rw [TL.tl_append] at hc
  exact (List.mem_append.mp hc).elim (h c) (h' c)
theorem chOk_cut {x : Str} (h : chOk x) (lo hi : Option Int) : chOk (cutS x lo hi) := fun c hc => h c (List.mem_of_mem_drop (List.mem_of_mem_take hc))
theorem mem_joinL {S : List Nat} : ∀ {ps : List (List Nat)} {c : Nat}, c ∈ TL.joinL S ps → c ∈ S ∨ ∃ p ∈ ps, c ∈ p
  | [], c, h => by cases h
  | [p], c, h => .inr ⟨p, List.mem_singleton.mpr rfl, h⟩
  | p :: q :: r, c, h => by
    have h : c ∈ p ++ (S ++ TL.joinL S (q :: r)) := h
    rcases List.mem_append.mp h with h | h
    · exact .inr ⟨p, List.mem_cons_self .., h⟩
    · rcases List.mem_append.mp h with h | h
      · exact .inl h
      · rcases mem_joinL h with h | ⟨z, hz, h⟩
        · exact .inl h
        · exact .inr ⟨z, List.mem_cons_of_mem _ hz, h⟩
theorem joinL_mem {S : List Nat} : ∀ {ps : List (List Nat)} {p : List Nat} {c : Nat}, p ∈ ps → c ∈ p → c ∈ TL.joinL S ps
  | [], p, c, h, _ => by cases h
  | [q], p, c, h, hc => by rw [← List.mem_singleton.mp h]; exact hc
  | a :: q :: r, p, c, h, hc => by
    show c ∈ a ++ (S ++ TL.joinL S (q :: r))
    rcases List.mem_cons.mp h with rfl | h
    · exact List.mem_append_left _ hc
    · exact List.mem_append_right _ (List.mem_append_right _ (joinL_mem h hc))
theorem chOk_join {y : Str} (h : chOk y) {ps : List Str} (hp : ∀ p ∈ ps, chOk p) : chOk (Txt.join y ps) := fun c hc => by
  rw [TL.join_eq, TL.tl_join] at hc
  rcases mem_joinL hc with k | ⟨p, k, k'⟩
  · exact h c k
  · obtain ⟨q, hq, rfl⟩ := List.mem_map.mp k
    exact hp q hq c k'
theorem chOk_split {x y : Str} (h : chOk x) : ∀ p ∈ Txt.split x y, chOk p := fun p hp c hc => by
  refine h c ?_
  rw [← StrLaws.join_split x y, TL.tl_join]
  exact joinL_mem (List.mem_map.mpr ⟨p, hp, rfl⟩) hc
theorem len_app (x y : Str) : (x ++ y).length = x.length + y.length := by
  rw [TL.len_tl, TL.tl_append, List.length_append, ← TL.len_tl, ← TL.len_tl]
theorem joinL_len (S : List Nat) : ∀ ps : List (List Nat), (TL.joinL S ps).length ≤ (ps.map List.length).sum + ps.length * S.length
  | [] => by simp [TL.joinL]
  | [p] => by simp [TL.joinL]
  | p :: q :: r => by
    have ih := joinL_len S (q :: r)
    show (p ++ (S ++ TL.joinL S (q :: r))).length ≤ _
    rw [List.length_append, List.length_append, List.map_cons, List.sum_cons, List.length_cons, Nat.succ_mul]
    omega
theorem join_len (y : Str) (ps : List Str) : (Txt.join y ps).length ≤ (ps.map (·.length)).sum + ps.length * y.length := by
  rw [TL.join_eq, TL.len_tl, TL.tl_join]
  refine Nat.le_trans (joinL_len _ _) ?_
  rw [List.map_map, List.length_map]
  have : (List.map (List.length ∘ TL.tl) ps) = ps.map (·.length) := List.map_congr_left fun p _ => (TL.len_tl p).symm
  rw [this, TL.len_tl y]
  exact Nat.le_refl _
theorem sum_le_mul {α : Type} {f : α → Nat} {B : Nat} : ∀ {l : List α}, (∀ x ∈ l, f x ≤ B) → (l.map f).sum ≤ l.length * B
  | [], _ => by simp
  | a :: l, h => by
    have := sum_le_mul (l := l) fun x hx => h x (List.mem_cons_of_mem _ hx)
    have := h a (List.mem_cons_self ..)
    rw [List.map_cons, List.sum_cons, List.length_cons, Nat.succ_mul]; omega
/-- what `find` of one sign tells -/
theorem find_out {x : Str} {c : Nat} (h : c ∉ TL.tl x) : Txt.find x (sgn c) = -1 := by
  have := StrLaws.found_one x c
  rw [decide_eq_false h] at this
  unfold Txt.find
  cases q : Builtin.Str.occurrences x (sgn c) 0 x.length 1 with
  | nil => rfl
  | cons a l =>
    unfold sgn at q
    rw [q] at this; simp at this
theorem shaped_str {x : Str} (h : chOk x) : SeqAt.shaped (.str x) = true := by
  have := (strOk_iff x).mpr h
  show ((PyData.str x).canLay0 && decide ((PyData.str x).depth ≤ 64)) = true
  rw [show (PyData.str x).canLay0 = PyData.strOk x from rfl, this]; rfl
/-- a comprehension of which an element may raise: f says what it gives -/
theorem compD_try {α : Type} {g : TGd} {te : TD} {ms : List Nat} {W : Env} (enc : α → D) (f : α → Option D) : ∀ (xs : List α) (acc : List D) (E : Env) (Q : List D → Env → Prop), wipeE E ms = W →
    (∀ x ∈ xs, ∀ R : D → Env → Prop, (∀ y E', f x = some y → wipeE E' ms = W → R y E') → g (enc x) W fun E1 => te E1 R) → acc.length + xs.length ≤ sizeLine → (∀ ys E', wipeE E' ms = W → xs.map f = ys.map some → Q (acc ++ ys) E') → compD g tTrue te ms (xs.map enc) acc E Q
  | [], acc, E, Q, hE, _, _, q => by have := q [] E hE rfl; rw [List.append_nil] at this; exact this
  | x :: xs, acc, E, Q, hE, hf, hl, q => by
    show turnD g tTrue te (enc x) (wipeE E ms) _
    rw [hE]
    rw [List.length_cons] at hl
    refine hf x (List.mem_cons_self ..) _ fun y E' hy hE' => ?_
    refine ⟨by omega, compD_try enc f xs (acc ++ [y]) E' Q hE' (fun d hd => hf d (List.mem_cons_of_mem _ hd)) (by rw [List.length_append]; simp; omega) fun ys E2 h2 e => ?_⟩
    have := q (y :: ys) E2 h2 (by rw [List.map_cons, List.map_cons, hy, e])
    rw [List.append_assoc]; exact this
theorem comp_try {α : Type} {ti : TDs} {g : TGd} {te : TD} {ms : List Nat} {E E1 : Env} {Q : List D → Env → Prop} (xs : List α) (enc : α → D) (f : α → Option D) (hi : ∀ R : List D → Env → Prop, R (xs.map enc) E1 → ti E R)
    (hE : ∀ i ∈ ms, E1[i]? = some .un ∨ (∃ x, E1[i]? = some (.d x))) (hl : xs.length ≤ sizeLine)
    (hf : ∀ x ∈ xs, ∀ R : D → Env → Prop, (∀ y E', f x = some y → wipeE E' ms = wipeE E1 ms → R y E') → g (enc x) (wipeE E1 ms) fun E1 => te E1 R) (q : ∀ ys, xs.map f = ys.map some → Q ys E1) : tComp ti g tTrue te ms E Q :=
  hi _ (compD_try enc f xs [] E1 _ rfl hf (by simpa using hl) fun ys E' hE' e => by rw [rest_wipe hE' hE]; exact q ys e)
end DL
set_option Elab.async false
set_option linter.all false
set_option maxRecDepth 100000
set_option maxHeartbeats 4000000
/-! FnHTxT: hands as texts (plain). -/
namespace DL
open PySem PySem.Spec PyProof.Rows L2
abbrev c_SIGNS : D := .str "23456789TJQKA"
abbrev c_SUITS : D := .str "CDHS"
def SG : List Nat := [50, 51, 52, 53, 54, 55, 56, 57, 84, 74, 81, 75, 65]
def sgC (R : Nat) (r : Int) : Nat := SG.getD (12 - (R : Int) + r).toNat 0
def suC (s : Int) : Nat := ([67, 68, 72, 83] : List Nat).getD s.toNat 0
def cardT (R : Nat) (c : Card) : Str := sgn (suC c.1) ++ sgn (sgC R c.2)
def qOf (c : Nat) : Int := Txt.find "23456789TJQKA" (sgn c)
def rkOf (R c : Nat) : Option Int := if 0 ≤ qOf c ∧ 1 ≤ qOf c - 12 + R then some (qOf c - 12 + R) else none
def rk (R c : Nat) : Int := (rkOf R c).getD 0
theorem q_in : ∀ c ∈ SG, 0 ≤ qOf c ∧ qOf c ≤ 12 := by decide +kernel
theorem q_out {c : Nat} (h : c ∉ SG) : qOf c = -1 := find_out (x := "23456789TJQKA") h
theorem q_top (c : Nat) : qOf c ≤ 12 := by
  by_cases h : c ∈ SG
  · exact (q_in c h).2
  · rw [q_out h]; decide
theorem rk_sgn : ∀ R ∈ List.range 14, ∀ k ∈ List.range R, rkOf R (sgC R ((k : Int) + 1)) = some ((k : Int) + 1) ∧ sgC R ((k : Int) + 1) ∈ SG ∧ atI (("23456789TJQKA" : Str)).cps.toList (12 - (R : Int) + ((k : Int) + 1)) = some (sgC R ((k : Int) + 1)) ∧ atI (("AKQJT98765432" : Str)).cps.toList ((R : Int) - ((k : Int) + 1)) = some (sgC R ((k : Int) + 1)) := by decide +kernel
theorem rk_at {R : Nat} (hR : R ≤ 13) {r : Int} (h0 : 1 ≤ r) (h1 : r ≤ R) : rkOf R (sgC R r) = some r ∧ sgC R r ∈ SG ∧ atI (("23456789TJQKA" : Str)).cps.toList (12 - (R : Int) + r) = some (sgC R r) ∧ atI (("AKQJT98765432" : Str)).cps.toList ((R : Int) - r) = some (sgC R r) := by
  have := rk_sgn R (List.mem_range.mpr (by omega)) (r - 1).toNat (List.mem_range.mpr (by omega))
  rw [show (((r - 1).toNat : Nat) : Int) + 1 = r by omega] at this
  exact this
theorem rk_some {R c : Nat} {r : Int} (h : rkOf R c = some r) : 1 ≤ r ∧ r ≤ R ∧ r = qOf c - 12 + R ∧ 0 ≤ qOf c := by
  unfold rkOf at h
  split at h
  · rename_i g
    cases h
    have := q_top c
    exact ⟨g.2, by omega, rfl, g.1⟩
  · cases h
theorem rk_none {R c : Nat} (h : rkOf R c = none) : ¬ (0 ≤ qOf c ∧ 1 ≤ qOf c - 12 + R) := by
  unfold rkOf at h
  split at h
  · cases h
  · assumption
theorem law_find_all : ∀ R ∈ List.range 14, ∀ c ∈ SG, Txt.find (cutS "AKQJT98765432" none (some (R : Int))) (sgn c) = (match rkOf R c with | some r => (R : Int) - r | none => -1) := by decide +kernel
theorem law_find {R : Nat} (hR : R ≤ 13) (c : Nat) : Txt.find (cutS "AKQJT98765432" none (some (R : Int))) (sgn c) = (match rkOf R c with | some r => (R : Int) - r | none => -1) := by
  by_cases h : c ∈ SG
  · exact law_find_all R (List.mem_range.mpr (by omega)) c h
  · have e : rkOf R c = none := by unfold rkOf; rw [q_out h]; rfl
    rw [e]
    refine find_out fun k => h ?_
    have := List.mem_of_mem_drop (List.mem_of_mem_take k)
    have hh : ∀ z ∈ TL.tl ("AKQJT98765432" : Str), z ∈ SG := by decide +kernel
    exact hh c this
/-! ### parts and cards -/
abbrev P4 := List (List Nat)
def suitC (R : Nat) (s : Int) (p : List Nat) : List Card := p.reverse.map fun c => (s, rk R c)
def cardsP (R : Nat) : P4 → List Card
  | [p3, p2, p1, p0] => suitC R 0 p0 ++ (suitC R 1 p1 ++ (suitC R 2 p2 ++ suitC R 3 p3))
  | _ => []
def goodP (R : Nat) (ps : P4) : Prop := ∀ p ∈ ps, ∀ c ∈ p, (rkOf R c).isSome = true
instance (R : Nat) (ps : P4) : Decidable (goodP R ps) := by unfold goodP; infer_instance
def partsT (t : Str) : P4 := (Txt.split t ".").map TL.tl
def readOk (R : Nat) (ps : P4) : Prop := ps.length = 4 ∧ goodP R ps ∧ (cardsP R ps).length = R ∧ (cardsP R ps).Pairwise ltC
instance (R : Nat) (ps : P4) : Decidable (readOk R ps) := by unfold readOk; infer_instance
def readH (R : Nat) (t : Str) : Option (List Card) := if readOk R (partsT t) then some (cardsP R (partsT t)) else none
theorem four_of {α : Type} {l : List α} (h : l.length = 4) : ∃ a b c d, l = [a, b, c, d] := by
  match l, h with
  | [a, b, c, d], _ => exact ⟨a, b, c, d, rfl⟩
theorem suit_ok {R : Nat} {s : Int} (hs : 0 ≤ s ∧ s ≤ 3) {p : List Nat} (h : ∀ c ∈ p, (rkOf R c).isSome = true) : ∀ c ∈ suitC R s p, okC R c ∧ c.1 = s := fun c hc => by
  obtain ⟨z, hz, rfl⟩ := List.mem_map.mp hc
  have := h z (List.mem_reverse.mp hz)
  cases e : rkOf R z with
  | none => rw [e] at this; cases this
  | some r =>
    have h2 := rk_some e
    refine ⟨⟨hs.1, hs.2, ?_, ?_⟩, rfl⟩
    · show 1 ≤ rk R z; unfold rk; rw [e]; exact h2.1
    · show rk R z ≤ R; unfold rk; rw [e]; exact h2.2.1
theorem cards_ok {R : Nat} {ps : P4} (h : goodP R ps) : ∀ c ∈ cardsP R ps, okC R c := fun c hc => by
  unfold cardsP at hc
  split at hc
  · rename_i p3 p2 p1 p0
    rcases List.mem_append.mp hc with hc | hc
    · exact (suit_ok ⟨by decide, by decide⟩ (h p0 (by simp)) c hc).1
    rcases List.mem_append.mp hc with hc | hc
    · exact (suit_ok ⟨by decide, by decide⟩ (h p1 (by simp)) c hc).1
    rcases List.mem_append.mp hc with hc | hc
    · exact (suit_ok ⟨by decide, by decide⟩ (h p2 (by simp)) c hc).1
    · exact (suit_ok ⟨by decide, by decide⟩ (h p3 (by simp)) c hc).1
  · cases hc
theorem read_hand {R : Nat} {t : Str} {h : List Card} (e : readH R t = some h) : HandP R (handD h) := by
  unfold readH at e
  split at e
  · rename_i g
    cases e
    exact ⟨_, rfl, g.2.2.1, cards_ok g.2.1, g.2.2.2⟩
  · cases e
/-- the law's way: each suit's places rise -/
def ordL (R : Nat) (p : List Nat) : List Int := p.map fun c => (R : Int) - rk R c
def upP (R : Nat) (p : List Nat) : Prop := (ordL R p).Pairwise (· < ·)
instance (R : Nat) (p : List Nat) : Decidable (upP R p) := by unfold upP; infer_instance
theorem suit_up {R : Nat} {s : Int} (p : List Nat) : (suitC R s p).Pairwise ltC ↔ upP R p := by
  unfold suitC upP ordL
  rw [List.pairwise_map, List.pairwise_map, List.pairwise_reverse]
  constructor
  · intro h; exact h.imp fun {a b} k => by unfold ltC at k; dsimp only at k; omega
  · intro h; exact h.imp fun {a b} k => by unfold ltC; dsimp only; omega
theorem cards_up {R : Nat} {p3 p2 p1 p0 : List Nat} : (cardsP R [p3, p2, p1, p0]).Pairwise ltC ↔ upP R p3 ∧ upP R p2 ∧ upP R p1 ∧ upP R p0 := by
  have f : ∀ (s : Int) (p : List Nat), ∀ c ∈ suitC R s p, c.1 = s := fun s p c hc => by
    obtain ⟨z, _, rfl⟩ := List.mem_map.mp hc; rfl
  unfold cardsP
  rw [List.pairwise_append, List.pairwise_append, List.pairwise_append, suit_up, suit_up, suit_up, suit_up]
  constructor
  · rintro ⟨h0, ⟨h1, ⟨h2, h3, _⟩, _⟩, _⟩; exact ⟨h3, h2, h1, h0⟩
  · rintro ⟨h3, h2, h1, h0⟩
    refine ⟨h0, ⟨h1, ⟨h2, h3, fun a ha b hb => ?_⟩, fun a ha b hb => ?_⟩, fun a ha b hb => ?_⟩
    · left; rw [f _ _ a ha, f _ _ b hb]; decide
    · rcases List.mem_append.mp hb with hb | hb <;> (left; rw [f _ _ a ha, f _ _ b hb]; decide)
    · rcases List.mem_append.mp hb with hb | hb
      · left; rw [f _ _ a ha, f _ _ b hb]; decide
      · rcases List.mem_append.mp hb with hb | hb <;> (left; rw [f _ _ a ha, f _ _ b hb]; decide)
/-- the cards in the order in which the law gathers them -/
def gatherP (R : Nat) (s : Int) (p : List Nat) : List Card := p.map fun c => (s, rk R c)
theorem gather_rev (R : Nat) (s : Int) (p : List Nat) : (gatherP R s p).reverse = suitC R s p := by unfold gatherP suitC; rw [List.map_reverse]
theorem gather_all (R : Nat) (p3 p2 p1 p0 : List Nat) : (gatherP R 3 p3 ++ gatherP R 2 p2 ++ gatherP R 1 p1 ++ gatherP R 0 p0).Perm (cardsP R [p3, p2, p1, p0]) := by
  refine (List.reverse_perm _).symm.trans ?_
  rw [List.reverse_append, List.reverse_append, List.reverse_append, gather_rev, gather_rev, gather_rev, gather_rev]
  exact .refl _
theorem sort_up {l : List Card} (h : l.Pairwise ltC) : sortC l = l :=
  List.Perm.eq_of_pairwise (le := fun a b => le2 a b = true) (fun a b _ _ h1 h2 => le2_antisymm h1 h2) (sortC_up l) (h.imp fun {a b} k => by
    unfold le2; refine decide_eq_true ?_
    unfold ltC at k; omega) (sortC_perm l)
end DL
set_option Elab.async false
set_option linter.all false
set_option maxRecDepth 100000
set_option maxHeartbeats 4000000
/-! FnHTxU: texts of hands and deals, read back; runs of signs (plain). -/
namespace DL
open PySem PySem.Spec PyProof.Rows L2
def mkS (l : List Nat) : Str := ⟨l.toArray⟩
theorem tl_mkS (l : List Nat) : TL.tl (mkS l) = l := rfl
def suitL (R : Nat) (h : List Card) (s : Int) : List Nat := ((h.filter fun c => decide (c.1 = s)).map fun c => sgC R c.2).reverse
def handP4 (R : Nat) (h : List Card) : P4 := [suitL R h 3, suitL R h 2, suitL R h 1, suitL R h 0]
def handT (R : Nat) (h : List Card) : Str := Txt.join "." ((handP4 R h).map mkS)
def HandOk (R : Nat) (h : List Card) : Prop := h.length = R ∧ (∀ c ∈ h, okC R c) ∧ h.Pairwise ltC
theorem suit_SG {R : Nat} (hR : R ≤ 13) {h : List Card} (ho : ∀ c ∈ h, okC R c) (s : Int) : ∀ c ∈ suitL R h s, c ∈ SG := fun c hc => by
  obtain ⟨z, hz, rfl⟩ := List.mem_map.mp (List.mem_reverse.mp hc)
  have := ho z (List.mem_filter.mp hz).1
  exact (rk_at hR this.2.2.1 this.2.2.2).2.1
theorem suit_back {R : Nat} (hR : R ≤ 13) {h : List Card} (ho : ∀ c ∈ h, okC R c) (s : Int) : suitC R s (suitL R h s) = h.filter fun c => decide (c.1 = s) := by
  unfold suitC suitL
  rw [List.reverse_reverse, List.map_map]
  have : ∀ c ∈ h.filter fun c => decide (c.1 = s), ((fun c => (s, rk R c)) ∘ fun c : Card => sgC R c.2) c = c := fun c hc => by
    have h1 := ho c (List.mem_filter.mp hc).1
    have h2 : c.1 = s := of_decide_eq_true (List.mem_filter.mp hc).2
    show (s, rk R (sgC R c.2)) = c
    unfold rk
    rw [(rk_at hR h1.2.2.1 h1.2.2.2).1, ← h2]; rfl
  rw [List.map_congr_left this, List.map_id']
theorem cards_hand {R : Nat} (hR : R ≤ 13) {h : List Card} (ho : ∀ c ∈ h, okC R c) (hu : h.Pairwise ltC) : cardsP R (handP4 R h) = h := by
  have e : cardsP R (handP4 R h) = (h.filter fun c => decide (c.1 = 0)) ++ ((h.filter fun c => decide (c.1 = 1)) ++ ((h.filter fun c => decide (c.1 = 2)) ++ (h.filter fun c => decide (c.1 = 3)))) := by
    show suitC R 0 _ ++ (suitC R 1 _ ++ (suitC R 2 _ ++ suitC R 3 _)) = _
    rw [suit_back hR ho, suit_back hR ho, suit_back hR ho, suit_back hR ho]
  rw [e]
  have f : ∀ (s : Int), ∀ c ∈ h.filter fun c => decide (c.1 = s), c.1 = s := fun s c hc => of_decide_eq_true (List.mem_filter.mp hc).2
  refine up_unique ?_ hu fun c => ?_
  · rw [List.pairwise_append, List.pairwise_append, List.pairwise_append]
    refine ⟨hu.filter _, ⟨hu.filter _, ⟨hu.filter _, hu.filter _, fun a ha b hb => ?_⟩, fun a ha b hb => ?_⟩, fun a ha b hb => ?_⟩
    · left; rw [f _ a ha, f _ b hb]; decide
    · rcases List.mem_append.mp hb with hb | hb <;> (left; rw [f _ a ha, f _ b hb]; decide)
    · rcases List.mem_append.mp hb with hb | hb
      · left; rw [f _ a ha, f _ b hb]; decide
      · rcases List.mem_append.mp hb with hb | hb <;> (left; rw [f _ a ha, f _ b hb]; decide)
  · constructor
    · intro hc
      have := ho c hc
      have h1 := this.1
      have h2 := this.2.1
      simp only [List.mem_append, List.mem_filter, decide_eq_true_eq]
      have : c.1 = 0 ∨ c.1 = 1 ∨ c.1 = 2 ∨ c.1 = 3 := by omega
      rcases this with e | e | e | e <;> simp [hc, e]
    · intro hc
      simp only [List.mem_append, List.mem_filter] at hc
      rcases hc with h | h | h | h <;> exact h.1
theorem parts_hand {R : Nat} (hR : R ≤ 13) {h : List Card} (ho : ∀ c ∈ h, okC R c) : partsT (handT R h) = handP4 R h := by
  unfold partsT handT
  rw [TL.split_join (y := ".") (s := 46) (S := []) (by decide) (by decide +kernel) (by simp [handP4]) fun p hp => ?_]
  · rw [List.map_map]
    exact List.map_id' _
  · obtain ⟨l, hl, rfl⟩ := List.mem_map.mp hp
    rw [tl_mkS]
    intro k
    have hh : (46 : Nat) ∉ SG := by decide
    unfold handP4 at hl
    simp only [List.mem_cons, List.not_mem_nil, or_false] at hl
    rcases hl with rfl | rfl | rfl | rfl <;> exact hh (suit_SG hR ho _ _ k)
theorem good_hand {R : Nat} (hR : R ≤ 13) {h : List Card} (ho : ∀ c ∈ h, okC R c) : goodP R (handP4 R h) := fun p hp c hc => by
  have g : ∀ s, c ∈ suitL R h s → (rkOf R c).isSome = true := fun s hc => by
    obtain ⟨z, hz, rfl⟩ := List.mem_map.mp (List.mem_reverse.mp hc)
    have := ho z (List.mem_filter.mp hz).1
    rw [(rk_at hR this.2.2.1 this.2.2.2).1]; rfl
  unfold handP4 at hp
  simp only [List.mem_cons, List.not_mem_nil, or_false] at hp
  rcases hp with rfl | rfl | rfl | rfl <;> exact g _ hc
theorem read_hand_text {R : Nat} (hR : R ≤ 13) {h : List Card} (ho : HandOk R h) : readH R (handT R h) = some h := by
  unfold readH
  rw [parts_hand hR ho.2.1, if_pos, cards_hand hR ho.2.1 ho.2.2]
  refine ⟨rfl, good_hand hR ho.2.1, ?_, ?_⟩
  · rw [cards_hand hR ho.2.1 ho.2.2]; exact ho.1
  · rw [cards_hand hR ho.2.1 ho.2.2]; exact ho.2.2
theorem four_len {R : Nat} (hR : R ≤ 13) {h : List Card} (ho : HandOk R h) : ((handP4 R h).map List.length).sum = R := by
  have := congrArg List.length (cards_hand hR ho.2.1 ho.2.2)
  unfold handP4 cardsP at this
  rw [List.length_append, List.length_append, List.length_append] at this
  unfold suitC at this
  rw [List.length_map, List.length_map, List.length_map, List.length_map, List.length_reverse, List.length_reverse, List.length_reverse, List.length_reverse, ho.1] at this
  unfold handP4
  simp only [List.map_cons, List.map_nil, List.sum_cons, List.sum_nil]
  omega
theorem hand_codes {R : Nat} (hR : R ≤ 13) {h : List Card} (ho : HandOk R h) : ∀ c ∈ TL.tl (handT R h), c ∈ SG ∨ c = 46 := fun c hc => by
  unfold handT at hc
  rw [TL.join_eq, TL.tl_join, List.map_map] at hc
  rcases mem_joinL hc with k | ⟨p, hp, k⟩
  · right
    have : c ∈ ([46] : List Nat) := k
    simpa using this
  · left
    obtain ⟨l, hl, rfl⟩ := List.mem_map.mp hp
    have k : c ∈ l := k
    unfold handP4 at hl
    simp only [List.mem_cons, List.not_mem_nil, or_false] at hl
    rcases hl with rfl | rfl | rfl | rfl <;> exact suit_SG hR ho.2.1 _ _ k
theorem handT_ok {R : Nat} (hR : R ≤ 13) {h : List Card} (ho : HandOk R h) : chOk (handT R h) ∧ (handT R h).length ≤ R + 4 := by
  refine ⟨fun c hc => ?_, Nat.le_trans (join_len _ _) ?_⟩
  · rcases hand_codes hR ho c hc with k | rfl
    · have hh : ∀ z ∈ SG, z < 1114112 := by decide
      exact hh c k
    · decide
  · rw [List.map_map]
    have : (List.map ((fun x : Str => x.length) ∘ mkS) (handP4 R h)) = (handP4 R h).map List.length := List.map_congr_left fun p _ => by
      show (mkS p).length = p.length
      rw [TL.len_tl, tl_mkS]
    rw [this, four_len hR ho, List.length_map, show (".": Str).length = 1 from by decide]
    show R + 4 * 1 ≤ _; omega
theorem joinL_sgn : ∀ l : List Nat, TL.joinL [] (l.map fun c => [c]) = l
  | [] => rfl
  | [c] => rfl
  | c :: d :: r => by
    show [c] ++ ([] ++ TL.joinL [] ((d :: r).map fun c => [c])) = _
    rw [joinL_sgn (d :: r)]; rfl
theorem join_sgn (l : List Nat) : Txt.join "" (l.map sgn) = mkS l := by
  refine TL.ext_tl ?_
  rw [TL.join_eq, TL.tl_join, List.map_map, tl_mkS]
  exact joinL_sgn l
theorem take_hand {R : Nat} {h : List Card} {i : Nat} (hi : i < 4) : (handP4 R h).take (i + 1) = (handP4 R h).take i ++ [suitL R h (3 - (i : Int))] := by
  match i, hi with
  | 0, _ => rfl
  | 1, _ => rfl
  | 2, _ => rfl
  | 3, _ => rfl
/-! ### read, suit by suit -/
def accN (R : Nat) : Nat → List Str → List Card
  | _, [] => []
  | s, w :: ws => suitC R (s : Int) (TL.tl w) ++ accN R (s + 1) ws
theorem accN_snoc (R : Nat) (w : Str) : ∀ (l : List Str) (s : Nat), accN R s (l ++ [w]) = accN R s l ++ suitC R ((s + l.length : Nat) : Int) (TL.tl w)
  | [], s => by
    show suitC R (s : Int) (TL.tl w) ++ [] = [] ++ suitC R ((s + 0 : Nat) : Int) (TL.tl w)
    rw [List.append_nil, List.nil_append]; rfl
  | v :: l, s => by
    show suitC R (s : Int) (TL.tl v) ++ accN R (s + 1) (l ++ [w]) = (suitC R (s : Int) (TL.tl v) ++ accN R (s + 1) l) ++ _
    rw [accN_snoc R w l (s + 1), List.append_assoc, List.length_cons, show s + 1 + l.length = s + (l.length + 1) by omega]
theorem accN_four (R : Nat) (t0 t1 t2 t3 : Str) : accN R 0 [t0, t1, t2, t3] = cardsP R [TL.tl t3, TL.tl t2, TL.tl t1, TL.tl t0] := by
  show suitC R 0 _ ++ (suitC R 1 _ ++ (suitC R 2 _ ++ (suitC R 3 _ ++ []))) = suitC R 0 _ ++ (suitC R 1 _ ++ (suitC R 2 _ ++ suitC R 3 _))
  rw [List.append_nil]
theorem accN_len (R : Nat) : ∀ (l : List Str) (s : Nat), (accN R s l).length = (l.map (·.length)).sum
  | [], _ => rfl
  | w :: l, s => by
    show (suitC R (s : Int) (TL.tl w) ++ accN R (s + 1) l).length = _
    rw [List.length_append, accN_len R l (s + 1), List.map_cons, List.sum_cons]
    unfold suitC
    rw [List.length_map, List.length_reverse, ← TL.len_tl]
theorem suit_try {R : Nat} {s : Int} : ∀ {l : List Nat} {ys : List D}, (l.map fun c => (rkOf R c).map fun r => PyData.tuple [.int s, .int r]) = ys.map some → (∀ c ∈ l, (rkOf R c).isSome = true) ∧ ys = (l.map fun c => ((s, rk R c) : Card)).map cE
  | [], ys, h => by
    cases ys with
    | nil => exact ⟨(fun _ h => nomatch h), rfl⟩
    | cons _ _ => cases h
  | c :: l, ys, h => by
    cases ys with
    | nil => cases h
    | cons y ys =>
      rw [List.map_cons, List.map_cons] at h
      injection h with h1 h2
      obtain ⟨g1, g2⟩ := suit_try h2
      cases e : rkOf R c with
      | none => rw [e] at h1; cases h1
      | some r =>
        rw [e] at h1
        refine ⟨fun x hx => ?_, ?_⟩
        · rcases List.mem_cons.mp hx with rfl | hx
          · rw [e]; rfl
          · exact g1 x hx
        · rw [List.map_cons, List.map_cons, ← g2]
          have : rk R c = r := by unfold rk; rw [e]; rfl
          rw [this, ← Option.some.inj h1]; rfl
theorem readH_bad {R : Nat} {t w : Str} {c : Nat} (hw : w ∈ Txt.split t ".") (hc : c ∈ TL.tl w) (h : rkOf R c = none) : readH R t = none := by
  unfold readH
  refine if_neg fun g => ?_
  have := g.2.1 (TL.tl w) (List.mem_map.mpr ⟨w, hw, rfl⟩) c hc
  rw [h] at this; cases this
theorem readH_len {R : Nat} {t : Str} (h : (Txt.split t ".").length ≠ 4) : readH R t = none := by
  unfold readH
  refine if_neg fun g => h ?_
  have := g.1
  unfold partsT at this
  rwa [List.length_map] at this
/-! ### deals -/
def dealT (R : Nat) (hs : List (List Card)) : Str := Txt.join " " (hs.map (handT R))
theorem split_deal {R : Nat} (hR : R ≤ 13) {hs : List (List Card)} (ho : ∀ h ∈ hs, HandOk R h) (hne : hs ≠ []) : Txt.split (dealT R hs) " " = hs.map (handT R) :=
  TL.split_join (y := " ") (s := 32) (S := []) (by decide) (by decide +kernel) (fun e => hne (List.map_eq_nil_iff.mp e)) fun p hp => by
    obtain ⟨h, hh, rfl⟩ := List.mem_map.mp hp
    intro k
    rcases hand_codes hR (ho h hh) 32 k with k | k
    · exact absurd k (by decide)
    · exact absurd k (by decide)
def readsD (R : Nat) (t : Str) : List (Option (List Card)) := (Txt.split t " ").map (readH R)
def dealOk (os : List (Option (List Card))) : Prop := os.length = 4 ∧ (∀ o ∈ os, o.isSome = true) ∧ ((os.map (·.getD [])).flatten).Nodup
instance (os : List (Option (List Card))) : Decidable (dealOk os) := by unfold dealOk; infer_instance
def readD (R : Nat) (t : Str) : Option (List (List Card)) := if dealOk (readsD R t) then some ((readsD R t).map (·.getD [])) else none
def handsD (hs : List (List Card)) : D := .tuple (hs.map handD)
theorem read_deal_text {R : Nat} (hR : R ≤ 13) {hs : List (List Card)} (ho : ∀ h ∈ hs, HandOk R h) (h4 : hs.length = 4) (hn : hs.flatten.Nodup) : readD R (dealT R hs) = some hs := by
  have e : readsD R (dealT R hs) = hs.map some := by
    unfold readsD
    rw [split_deal hR ho (by intro e; rw [e] at h4; cases h4), List.map_map]
    exact List.map_congr_left fun h hh => read_hand_text hR (ho h hh)
  have e2 : (hs.map some).map (fun o : Option (List Card) => o.getD []) = hs := by rw [List.map_map]; exact List.map_id' _
  unfold readD
  rw [e, if_pos, e2]
  refine ⟨by rw [List.length_map]; exact h4, fun o ho => ?_, by rw [e2]; exact hn⟩
  obtain ⟨h, _, rfl⟩ := List.mem_map.mp ho
  rfl
theorem dealT_ok {R : Nat} (hR : R ≤ 13) {hs : List (List Card)} (ho : ∀ h ∈ hs, HandOk R h) (h4 : hs.length = 4) : chOk (dealT R hs) ∧ (dealT R hs).length ≤ 72 := by
  refine ⟨chOk_join ((strOk_iff _).mp (by decide +kernel)) fun p hp => ?_, Nat.le_trans (join_len _ _) ?_⟩
  · obtain ⟨h, hh, rfl⟩ := List.mem_map.mp hp
    exact (handT_ok hR (ho h hh)).1
  · have := sum_le_mul (f := fun x : Str => x.length) (l := hs.map (handT R)) (B := 17) fun p hp => by
      obtain ⟨h, hh, rfl⟩ := List.mem_map.mp hp
      have := (handT_ok hR (ho h hh)).2
      omega
    rw [List.length_map, h4] at this ⊢
    rw [show (" " : Str).length = 1 from by decide]; omega
/-! ### runs of signs -/
def plain (c : Nat) : Bool := !decide (c = 46) && !decide (c = 32)
def RunLe (B : Nat) (l : List Nat) : Prop := ∀ s, s <:+: l → (∀ c ∈ s, plain c = true) → s.length ≤ B
def cntG (l : List Nat) : Nat := (l.filter plain).length
theorem run_cnt {B : Nat} {l : List Nat} (h : cntG l ≤ B) : RunLe B l := fun s hs hp => by
  have e : s.filter plain = s := List.filter_eq_self.mpr hp
  have := (hs.sublist.filter plain).length_le
  rw [e] at this
  exact Nat.le_trans this h
theorem run_len {B : Nat} {l : List Nat} (h : l.length ≤ B) : RunLe B l := fun s hs _ => Nat.le_trans hs.length_le h
theorem run_sub {B : Nat} {a l : List Nat} (h : RunLe B l) (ha : a <:+: l) : RunLe B a := fun s hs hp => h s (hs.trans ha) hp
theorem run_mono {B B' : Nat} {l : List Nat} (h : RunLe B l) (hb : B ≤ B') : RunLe B' l := fun s hs hp => Nat.le_trans (h s hs hp) hb
theorem infix_sep {c : Nat} {s : List Nat} (hc : c ∉ s) : ∀ {a b : List Nat}, s <:+: a ++ c :: b → s <:+: a ∨ s <:+: b
  | [], b, h => by
    have h : s <:+: c :: b := h
    rcases List.infix_cons_iff.mp h with h | h
    · left
      cases s with
      | nil => exact List.infix_rfl
      | cons x s =>
        obtain ⟨t, ht⟩ := h
        injection ht with h1 _
        exact absurd (by rw [h1]; exact List.mem_cons_self ..) hc
    · exact .inr h
  | x :: a, b, h => by
    have h : s <:+: x :: (a ++ c :: b) := h
    rcases List.infix_cons_iff.mp h with h | h
    · left
      have h : s <+: (x :: a) ++ (c :: b) := h
      rcases List.prefix_or_prefix_of_prefix h (List.prefix_append (x :: a) (c :: b)) with k | k
      · exact k.isInfix
      · obtain ⟨t, rfl⟩ := k
        cases t with
        | nil => rw [List.append_nil]; exact List.infix_rfl
        | cons y t =>
          have h : (x :: a) ++ (y :: t) <+: (x :: a) ++ (c :: b) := h
          obtain ⟨z, hz⟩ := h
          rw [List.append_assoc] at hz
          have := List.append_cancel_left hz
          injection this with h1 _
          exact absurd (by rw [h1]; exact List.mem_append_right _ (List.mem_cons_self ..)) hc
    · rcases infix_sep hc h with k | k
      · exact .inl (k.trans (List.suffix_cons x a).isInfix)
      · exact .inr k
theorem run_join {B : Nat} : ∀ {ps : List (List Nat)}, (∀ p ∈ ps, RunLe B p) → RunLe B (TL.joinL [32] ps)
  | [], _ => fun s hs _ => by
    have hs : s <:+: [] := hs
    rw [List.eq_nil_of_infix_nil hs]; exact Nat.zero_le _
  | [p], h => h p (List.mem_singleton.mpr rfl)
  | p :: q :: r, h => fun s hs hp => by
    have hs : s <:+: p ++ 32 :: TL.joinL [32] (q :: r) := hs
    have hc : (32 : Nat) ∉ s := fun k => by have := hp 32 k; simp [plain] at this
    rcases infix_sep hc hs with k | k
    · exact h p (List.mem_cons_self ..) s k hp
    · exact run_join (fun p hp => h p (List.mem_cons_of_mem _ hp)) s k hp
theorem infix_joinL {S : List Nat} : ∀ {ps : List (List Nat)} {p : List Nat}, p ∈ ps → p <:+: TL.joinL S ps
  | [], _, h => by cases h
  | [q], p, h => by rw [List.mem_singleton.mp h]; exact List.infix_rfl
  | a :: q :: r, p, h => by
    show p <:+: a ++ (S ++ TL.joinL S (q :: r))
    rcases List.mem_cons.mp h with rfl | h
    · exact (List.prefix_append _ _).isInfix
    · exact (infix_joinL h).trans ((List.suffix_append _ _).trans (List.suffix_append _ _)).isInfix
theorem split_infix {x y p : Str} (h : p ∈ Txt.split x y) : TL.tl p <:+: TL.tl x := by
  have : TL.tl p <:+: TL.tl (Str.join y (Txt.split x y)) := by
    rw [TL.tl_join]; exact infix_joinL (List.mem_map.mpr ⟨p, h, rfl⟩)
  rw [StrLaws.join_split] at this; exact this
theorem SG_plain : ∀ c ∈ SG, plain c = true := by decide
theorem some_SG {R c : Nat} (h : (rkOf R c).isSome = true) : c ∈ SG := Classical.byContradiction fun k => by
  have : rkOf R c = none := by unfold rkOf; rw [q_out k]; rfl
  rw [this] at h; cases h
theorem part_small {R B : Nat} {t : Str} (h : RunLe B (TL.tl t)) {p : Str} (hp : p ∈ Txt.split t ".") (hg : ∀ c ∈ TL.tl p, (rkOf R c).isSome = true) : (TL.tl p).length ≤ B :=
  h _ (split_infix hp) fun c hc => SG_plain c (some_SG (hg c hc))
end DL
set_option Elab.async false
set_option linter.all false
set_option maxRecDepth 100000
set_option maxHeartbeats 4000000
namespace DL
open PySem PySem.Spec PyProof.Rows L2
local macro_rules | `(tactic| walk_at "dl") => `(tactic| simp only [tV, tVr, tFzV, turnD, DL.wipeE, tK, tOpD, tUnD, tBo, tAndD, tOrD, tNotD, tIfE, DL.tAndV, DL.tOrV, DL.tNotV, tTru, truD, okLen, sSet, sSetL, sExpr, sRet, sIf, sNx, tTupD, dNil, dCons, tLstD, tFzD, tApp, tExtd, tPopAt, sSetIx, tIxO, tChainD, tChain3D, tRevT, caStr, opRepT, opAdd, opSub, opMul, opDiv, opMod, opPow, DL.opI, DL.opI0, opB0, opLt, opLe, opGt, opGtD, opLtD, opGe, opEq, opNe, opIs, opIsN, isNone, opIn, opNotIn, opIx, atD_0, atD_1, atD_2, atD_3, putD_0, unNeg, tCa1, tCa2, tCaL1, caLen, caAbs, caMax2, caMin2, caSum, caMax, caMin, caSumT, caMaxT, caMinT, caAll, caTuple, caList, caInt, tIsi, isInt, isBool, isStr, isTuple, isList, notDict, sAsg, gSet, gTupD, gLstD, gsNil, gsCons, sPar, pNil, pD, pL, setAll, tCallD, aNil, aV, aO, argS, oixs, ndp, putO, tOpL, opCat, opRep, tSlD, slD, tSlL, oNo, oE, tRevD, iLstD, iTupD, iRange1, iRange2, iZipD, iZipM, finO, tTrue, Option.map, eqv_int, eqv_bool, eqv_none, shaped_int, shaped_bool, shaped_none, tLenRange, tSortSet, tSortSetS, tSortDk, tDkGet2, tDkGetD, tDkGet2M, sDkPut, tInDk, tDkGet, iDvK, keyOf, optQ, mDkD, tFzKM, opLeS, tFind, tSplit, tJoinS, caIntS, iStrD, opMulS, tRevS, tSlO, iZipN, tLenSet, tLenSetP, tSortSetP, tCountL, tCountT, tIndexL, tIndexT, DL.tOrT, DL.tAndT, DL.tNotT, tSortRev, caSorted, iEnumL, iEnumT, tDGetV, tDGetD, tDGet2V, dictAt, sDPutV, sSetM, mDt, mDk, pM, tInN, tNotInN, tCallM, amM, amV, tListRg, iDk, iDv, iDi, tLDk, tLDv, tTruDk, mDt1, tFzM, tCall0D, tFldD, tFldR, fldD, fldL, obD, unH_hdl, obGet, setOb, putOD, sFldD, sFldL, tMethO, tAppF, tPopF, sRaise, keyB_2, keyB_3, keyB_4, decide_eq_true_eq, and_self, List.cons_append, List.nil_append, List.replicate, List.getElem?_cons_zero, List.getElem?_cons_succ, List.set_cons_zero, List.set_cons_succ, List.length_cons, List.length_nil, true_and, and_true, if_true, if_false, Bool.false_eq_true, List.contains_nil, Bool.not_false, Bool.not_true, Bool.and_self, Bool.and_true, Bool.true_and, decide_true, decide_false, beq_self_eq_true])
def tb_sign_of : TSd :=
  sRet (tOpD opIx (tK c_SIGNS) (tOpD opAdd (tOpD opSub (tK (.int 12)) (tV 0)) (tV 1)))
def tb_rank_of (c_NoText : Value) (WD : WDt) : TSd :=
  sSeq (sSet 2 (tOpD opAdd (tOpD opSub (tFind (tK c_SIGNS) (tV 1)) (tK (.int 12))) (tV 0)))
      (sSeq (sIf (tOrD (tBo (tOpD opEq (tV 1) (tK (.str "")))) (tOrD (tNotD (tBo (tChainD opLe opLe (tK (.int 1)) (tV 2) (tV 0)))) (tBo (tOpD opLt (tFind (tK c_SIGNS) (tV 1)) (tK (.int 0)))))) (sRaise WD c_NoText) (sNx))
      (sRet (tV 2)))
def tb_card_text (sp_sign_of : SpD) : TSd :=
  sRet (tOpD opAdd (tOpD opIx (tK c_SUITS) (tOpD opIx (tV 1) (tK (.int 0)))) (tCallD sp_sign_of (aV (tV 0) (aV (tOpD opIx (tV 1) (tK (.int 1))) (aNil)))))
def tb_hand_text (sp_sign_of : SpD) : TSd :=
  sSeq (sSetL 2 (tLstD (dNil)))
      (sSeq (sFor (iTupD (tTupD (dCons (tK (.int 3)) (dCons (tK (.int 2)) (dCons (tK (.int 1)) (dCons (tK (.int 0)) (dNil))))))) (gSet 3) (sExpr (tApp 2 (tJoinS (tK (.str "")) (tFzD (tComp (iTupD (tRevT (tV 1))) (gSet 4) (tBo (tOpD opEq (tOpD opIx (tV 4) (tK (.int 0))) (tV 3))) (tCallD sp_sign_of (aV (tV 0) (aV (tOpD opIx (tV 4) (tK (.int 1))) (aNil)))) [4]))))))
      (sRet (tJoinS (tK (.str ".")) (tVr 2))))
def tb_read_hand (sp_is_hand : SpD) (sp_rank_of : SpX) (c_NoText : Value) (WD : WDt) : TSd :=
  sSeq (sSet 2 (tFzD (tSplit (tV 1) (tK (.str ".")))))
      (sSeq (sIf (tBo (tOpD opNe (tCa1 caLen (tV 2)) (tK (.int 4)))) (sRaise WD c_NoText) (sNx))
      (sSeq (sSetL 3 (tLstD (dNil)))
      (sSeq (sFor (iEnumL (tFzD (tRevD (tV 2)))) (gTupD 2 (gsCons (gSet 4) (gsCons (gSet 5) (gsNil)))) (sExpr (tExtd 3 (tComp (iStrD (tRevS (tV 5))) (gSet 6) (tTrue) (tTupD (dCons (tV 4) (dCons (tCallX sp_rank_of (aV (tV 0) (aV (tV 6) (aNil))) (fun cls _ => WD cls [])) (dNil)))) [6]))))
      (sSeq (sIf (tNotD (tTru (tCallD sp_is_hand (aV (tV 0) (aV (tCa1 caTuple (tVr 3)) (aNil)))))) (sRaise WD c_NoText) (sNx))
      (sRet (tCa1 caTuple (tVr 3)))))))
def tb_deal_text (sp_hand_text : SpD) : TSd :=
  sRet (tJoinS (tK (.str " ")) (tFzD (tComp (iTupD (tV 1)) (gSet 2) (tTrue) (tCallD sp_hand_text (aV (tV 0) (aV (tV 2) (aNil)))) [2])))
def tb_read_deal (sp_is_deal : SpD) (sp_read_hand : SpX) (c_NoText : Value) (WD : WDt) : TSd :=
  sSeq (sSet 2 (tCa1 caTuple (tFzD (tComp (iLstD (tFzD (tSplit (tV 1) (tK (.str " "))))) (gSet 3) (tTrue) (tCallX sp_read_hand (aV (tV 0) (aV (tV 3) (aNil))) (fun cls _ => WD cls [])) [3]))))
      (sSeq (sIf (tNotD (tTru (tCallD sp_is_deal (aV (tV 0) (aV (tV 2) (aNil)))))) (sRaise WD c_NoText) (sNx))
      (sRet (tV 2)))
def tb_law_sign : TSd :=
  sRet (tOpD opIx (tK (.str "AKQJT98765432")) (tOpD opSub (tV 0) (tV 1)))
def tb_law_card_text (sp_law_sign : SpD) : TSd :=
  sRet (tOpD opAdd (tOpD opIx (tK (.str "CDHS")) (tOpD opIx (tV 1) (tK (.int 0)))) (tCallD sp_law_sign (aV (tV 0) (aV (tOpD opIx (tV 1) (tK (.int 1))) (aNil)))))
def tb_law_hand_text (sp_law_sign : SpD) : TSd :=
  sSeq (sSetL 2 (tLstD (dNil)))
      (sSeq (sFor (iTupD (tTupD (dCons (tK (.int 3)) (dCons (tK (.int 2)) (dCons (tK (.int 1)) (dCons (tK (.int 0)) (dNil))))))) (gSet 3) (sSeq (sSet 4 (tFzD (tRevD (tFzD (tCaL1 caSorted (tFzD (tComp (iTupD (tV 1)) (gTupD 2 (gsCons (gSet 5) (gsCons (gSet 6) (gsNil)))) (tBo (tOpD opEq (tV 5) (tV 3))) (tV 6) [5, 6])))))))
      (sExpr (tApp 2 (tJoinS (tK (.str "")) (tFzD (tComp (iLstD (tV 4)) (gSet 6) (tTrue) (tCallD sp_law_sign (aV (tV 0) (aV (tV 6) (aNil)))) [6])))))))
      (sRet (tJoinS (tK (.str ".")) (tVr 2))))
def tb_law_read_hand : TSd :=
  sSeq (sPar [2, 3] (pD (tFzD (tSplit (tV 1) (tK (.str ".")))) (pD (tFzD (tLstD (dNil))) (pNil))))
      (sSeq (sIf (tBo (tOpD opNe (tCa1 caLen (tV 2)) (tK (.int 4)))) (sRet (tK .none)) (sNx))
      (sSeq (sFor (iZipN (tTupD (dCons (tK (.int 3)) (dCons (tK (.int 2)) (dCons (tK (.int 1)) (dCons (tK (.int 0)) (dNil)))))) (tV 2)) (gTupD 2 (gsCons (gSet 4) (gsCons (gSet 5) (gsNil)))) (sSeq (sSet 6 (tFzD (tComp (iStrD (tV 5)) (gSet 7) (tTrue) (tFind (tSlD (tK (.str "AKQJT98765432")) (oNo) (oE (tV 0))) (tV 7)) [7])))
      (sSeq (sIf (tOrD (tBo (tOpD opIn (tUnD unNeg (tK (.int 1))) (tV 6))) (tBo (tOpD opNe (tV 6) (tFzD (tSortSet (tV 6)))))) (sRet (tK .none)) (sNx))
      (sSet 3 (tFzD (tOpL opCat (tV 3) (tFzD (tComp (iLstD (tV 6)) (gSet 8) (tTrue) (tTupD (dCons (tV 4) (dCons (tOpD opSub (tV 0) (tV 8)) (dNil)))) [8]))))))))
      (sRet (tIfE (tBo (tOpD opEq (tCa1 caLen (tV 3)) (tV 0))) (tCa1 caTuple (tFzD (tCaL1 caSorted (tV 3)))) (tK .none)))))
def tb_law_told_hand (sp_read_hand : SpX) (m_NoText : Value → Option Bool) : TSd :=
  sSeq (sSet 2 (tK .none))
      (sSeq (sTry m_NoText (fun _ _ => False) (fun WD => sSet 2 (tCallX sp_read_hand (aV (tV 0) (aV (tV 1) (aNil))) WD)) (sSet 2 (tK (.str "NoText"))))
      (sRet (tV 2)))
def tb_law_told_deal (sp_read_deal : SpX) (m_NoText : Value → Option Bool) : TSd :=
  sSeq (sSet 2 (tK .none))
      (sSeq (sTry m_NoText (fun _ _ => False) (fun WD => sSet 2 (tCallX sp_read_deal (aV (tV 0) (aV (tV 1) (aNil))) WD)) (sSet 2 (tK (.str "NoText"))))
      (sRet (tV 2)))
def tb_law_read_deal (sp_law_read_hand : SpD) : TSd :=
  sSeq (sSet 2 (tCa1 caTuple (tFzD (tComp (iLstD (tFzD (tSplit (tV 1) (tK (.str " "))))) (gSet 3) (tTrue) (tCallD sp_law_read_hand (aV (tV 0) (aV (tV 3) (aNil)))) [3]))))
      (sSeq (sIf (tOrD (tBo (tOpD opNe (tCa1 caLen (tV 2)) (tK (.int 4)))) (tOrD (tBo (tOpD opIn (tK .none) (tV 2))) (tBo (tOpD opNe (tLenSetP (tOpD opAdd (tOpD opAdd (tOpD opAdd (tOpD opIx (tV 2) (tK (.int 0))) (tOpD opIx (tV 2) (tK (.int 1)))) (tOpD opIx (tV 2) (tK (.int 2)))) (tOpD opIx (tV 2) (tK (.int 3))))) (tOpD opMul (tK (.int 4)) (tV 0)))))) (sRet (tK .none)) (sNx))
      (sRet (tV 2)))
def tb_law_or_refused : TSd :=
  sRet (tIfE (tBo (tOpD opIs (tV 0) (tK .none))) (tK (.str "NoText")) (tV 0))
local macro_rules | `(tactic| walk_at "cx") => `(tactic| simp only [tCallX, tFind, tSplit, tJoinS, tRevS, tV, tVr, tFzV, turnD, DL.wipeE, tK, tOpD, tUnD, tBo, tAndD, tOrD, tNotD, tIfE, DL.tAndV, DL.tOrV, DL.tNotV, tTru, truD, okLen, sSet, sSetL, sExpr, sRet, sIf, sNx, tTupD, dNil, dCons, tLstD, tFzD, tApp, tExtd, tPopAt, sSetIx, tIxO, tChainD, tChain3D, tRevT, caStr, opRepT, opAdd, opSub, opMul, opDiv, opMod, opPow, DL.opI, DL.opI0, opB0, opLt, opLe, opGt, opGtD, opLtD, opGe, opEq, opNe, opIs, opIsN, isNone, opIn, opNotIn, opIx, atD_0, atD_1, atD_2, atD_3, putD_0, unNeg, tCa1, tCa2, tCaL1, caLen, caAbs, caMax2, caMin2, caSum, caMax, caMin, caSumT, caMaxT, caMinT, caAll, caTuple, caList, caInt, tIsi, isInt, isBool, isStr, isTuple, isList, notDict, sAsg, gSet, gTupD, gLstD, gsNil, gsCons, sPar, pNil, pD, pL, setAll, tCallD, aNil, aV, aO, argS, oixs, ndp, putO, tOpL, opCat, opRep, tSlD, slD, tSlL, oNo, oE, tRevD, iLstD, iTupD, iRange1, iRange2, iZipD, iZipM, finO, tTrue, Option.map, eqv_int, eqv_bool, eqv_none, shaped_int, shaped_bool, shaped_none, tLenRange, tSortSet, tSortSetS, tSortDk, tDkGet2, tDkGetD, tDkGet2M, sDkPut, tInDk, tDkGet, iDvK, keyOf, optQ, mDkD, tFzKM, opLeS, tFind, tSplit, tJoinS, caIntS, iStrD, opMulS, tRevS, tSlO, iZipN, tLenSet, tLenSetP, tSortSetP, tCountL, tCountT, tIndexL, tIndexT, DL.tOrT, DL.tAndT, DL.tNotT, tSortRev, caSorted, iEnumL, iEnumT, tDGetV, tDGetD, tDGet2V, dictAt, sDPutV, sSetM, mDt, mDk, pM, tInN, tNotInN, tCallM, amM, amV, tListRg, iDk, iDv, iDi, tLDk, tLDv, tTruDk, mDt1, tFzM, tCall0D, tFldD, tFldR, fldD, fldL, obD, unH_hdl, obGet, setOb, putOD, sFldD, sFldL, tMethO, tAppF, tPopF, sRaise, keyB_2, keyB_3, keyB_4, decide_eq_true_eq, and_self, List.cons_append, List.nil_append, List.replicate, List.getElem?_cons_zero, List.getElem?_cons_succ, List.set_cons_zero, List.set_cons_succ, List.length_cons, List.length_nil, true_and, and_true, if_true, if_false, Bool.false_eq_true, List.contains_nil, Bool.not_false, Bool.not_true, Bool.and_self, Bool.and_true, Bool.true_and, decide_true, decide_false, beq_self_eq_true])
theorem sgn_len (c : Nat) : (sgn c).length = 1 := rfl
theorem chOk_sgn {c : Nat} (h : c < 1114112) : chOk (sgn c) := fun x hx => by
  have : x = c := by simpa [sgn, TL.tl] using hx
  rw [this]; exact h
theorem SG_small : ∀ c ∈ SG, c < 1114112 := by decide
def okS (s : S) : Prop := s = .un ∨ ∃ x, s = .d x
theorem okS1 {E : Env} {i : Nat} {s : S} (h : okS s) (e : E[i]? = some s) : ∀ j ∈ [i], E[j]? = some .un ∨ (∃ x, E[j]? = some (.d x)) := fun j hj => by
  cases List.mem_singleton.mp hj
  rcases h with h | ⟨x, h⟩
  · exact .inl (by rw [e, h])
  · exact .inr ⟨x, by rw [e, h]⟩
theorem okS2 {E : Env} {i k : Nat} {s s' : S} (h : okS s) (e : E[i]? = some s) (h' : okS s') (e' : E[k]? = some s') : ∀ j ∈ [i, k], E[j]? = some .un ∨ (∃ x, E[j]? = some (.d x)) := fun j hj => by
  rcases List.mem_cons.mp hj with rfl | hj
  · exact okS1 h e _ (List.mem_singleton.mpr rfl)
  · exact okS1 h' e' j hj
theorem datOk {s : S} (h : okS s) : datOf (some s) = s := by
  rcases h with rfl | ⟨x, rfl⟩ <;> rfl
def upI (ns : List Int) : List Int := ns.mergeSort fun a b => decide (a ≤ b)
theorem sort_upI (ns : List Int) : sortD false (ns.map PyData.int) = (upI ns).map PyData.int := by
  unfold sortD upI
  refine (PySem.W.sort_maps (r := fun a b => decide (a ≤ b)) (s := PySem.W.dataLe false fun d : D => d) PyData.int fun a _ b _ => ?_).symm
  exact (congrFun (congrFun (PySem.W.dataLe_int (β := Int) (fun b => b)) a) b).symm
theorem upI_of {ns : List Int} (h : ns.Pairwise (· < ·)) : upI ns = ns := by
  unfold upI
  exact List.mergeSort_of_pairwise (h.imp fun {a b} k => decide_eq_true (by omega))
theorem sortOk_ints (ns : List Int) : sortOk (ns.map PyData.int) := by
  refine ⟨fun d hd e he => ?_, .inr fun d hd => ?_, fun d hd => ?_⟩
  · obtain ⟨a, _, rfl⟩ := List.mem_map.mp hd
    obtain ⟨b, _, rfl⟩ := List.mem_map.mp he
    rfl
  · obtain ⟨a, _, rfl⟩ := List.mem_map.mp hd
    exact ⟨(fun h => nomatch h), fun xs h => nomatch h⟩
  · obtain ⟨a, _, rfl⟩ := List.mem_map.mp hd
    exact ⟨Nat.zero_le _, rfl⟩
/-! ### signs -/
def spSign : SpD := fun ss Q => ∃ (R : Nat) (r : Int), ss = [.d (.int (R : Int)), .d (.int r)] ∧ R ≤ 13 ∧ 1 ≤ r ∧ r ≤ R ∧ Q (.str (sgn (sgC R r))) []
theorem sh_sign_of : ∀ ss QD, spSign ss QD → ss.length = 2 ∧ mpos 0 ss = [] := by rintro ss QD ⟨R, r, rfl, _⟩; exact ⟨rfl, rfl⟩
theorem sh_law_sign : ∀ ss QD, spSign ss QD → ss.length = 2 ∧ mpos 0 ss = [] := sh_sign_of
theorem rd_sign_of : ∀ ss QD, spSign ss QD → tb_sign_of { nx := fun E' => finO [] E' (QD .none), rt := fun d E' => finO [] E' (QD d) } (ss ++ List.replicate 0 .un) := by
  rintro ss QD ⟨R, r, rfl, hR, h0, h1, q⟩
  unfold tb_sign_of
  walk_at "cx"
  show match atI (("23456789TJQKA" : Str)).cps.toList (12 - (R : Int) + r) with | some c => _ | none => False
  rw [(rk_at hR h0 h1).2.2.1]
  exact ⟨small_line (by decide), q⟩
theorem rd_law_sign : ∀ ss QD, spSign ss QD → tb_law_sign { nx := fun E' => finO [] E' (QD .none), rt := fun d E' => finO [] E' (QD d) } (ss ++ List.replicate 0 .un) := by
  rintro ss QD ⟨R, r, rfl, hR, h0, h1, q⟩
  unfold tb_law_sign
  walk_at "cx"
  show match atI (("AKQJT98765432" : Str)).cps.toList ((R : Int) - r) with | some c => _ | none => False
  rw [(rk_at hR h0 h1).2.2.2]
  exact ⟨small_line (by decide), q⟩
def spRank (N : Value) : SpX := fun ss Q QX => ∃ (R c : Nat), ss = [.d (.int (R : Int)), .d (.str (sgn c))] ∧ R ≤ 13 ∧ c < 1114112 ∧ (∀ r, rkOf R c = some r → Q (.int r) []) ∧ (rkOf R c = none → QX N [])
theorem sh_rank_of (N : Value) : ∀ ss QD QX, spRank N ss QD QX → ss.length = 2 ∧ mpos 0 ss = [] := by rintro ss QD QX ⟨R, c, rfl, _⟩; exact ⟨rfl, rfl⟩
theorem rd_rank_of (N : Value) : ∀ ss QD QX, spRank N ss QD QX → tb_rank_of N (fun cls E' => finO [] E' (QX cls)) { nx := fun E' => finO [] E' (QD .none), rt := fun d E' => finO [] E' (QD d) } (ss ++ List.replicate 1 .un) := by
  rintro ss QD QX ⟨R, c, rfl, hR, hc, q1, q2⟩
  unfold tb_rank_of
  refine seq_step fun R2 hR2 => ?_
  walk_at "cx"
  refine hR2 _ ?_
  clear hR2
  refine seq_step fun R2 hR2 => ?_
  walk_at "cx"
  have eq : Txt.find (Str.ofString "23456789TJQKA") (sgn c) = qOf c := rfl
  rw [eq]
  have htop := q_top c
  refine ⟨⟨shaped_str (chOk_sgn hc), by decide +kernel⟩, ?_⟩
  rw [eqv_str]
  refine ifF (beq_eq_false_iff_ne.mpr fun e => by have := congrArg Str.length e; rw [sgn_len] at this; exact absurd this (by decide)) ?_
  cases er : rkOf R c with
  | none =>
    have hn := rk_none er
    by_cases g : 1 ≤ qOf c - 12 + (R : Int)
    · rw [decide_eq_true g]
      refine ifF (by rw [decide_eq_true (by omega)]; rfl) ?_
      rw [if_pos (by omega)]
      exact q2 er
    · rw [decide_eq_false g]
      exact q2 er
  | some r =>
    obtain ⟨a1, a2, a3, a4⟩ := rk_some er
    rw [decide_eq_true (show 1 ≤ qOf c - 12 + (R : Int) by omega)]
    refine ifF (by rw [decide_eq_true (by omega)]; rfl) ?_
    rw [if_neg (by omega)]
    refine hR2 _ ?_
    walk_at "cx"
    rw [← a3]
    exact q1 r er
/-! ### cards -/
def spCardT : SpD := fun ss Q => ∃ (R : Nat) (c : Card), ss = [.d (.int (R : Int)), .d (cE c)] ∧ R ≤ 13 ∧ okC R c ∧ Q (.str (cardT R c)) []
theorem sh_card_text : ∀ ss QD, spCardT ss QD → ss.length = 2 ∧ mpos 0 ss = [] := by rintro ss QD ⟨R, c, rfl, _⟩; exact ⟨rfl, rfl⟩
theorem sh_law_card_text : ∀ ss QD, spCardT ss QD → ss.length = 2 ∧ mpos 0 ss = [] := sh_card_text
theorem at_suit {s : Int} (h0 : 0 ≤ s) (h3 : s ≤ 3) : atI (("CDHS" : Str)).cps.toList s = some (suC s) := by
  have : s = 0 ∨ s = 1 ∨ s = 2 ∨ s = 3 := by omega
  rcases this with rfl | rfl | rfl | rfl <;> rfl
theorem rd_card_text : ∀ ss QD, spCardT ss QD → tb_card_text spSign { nx := fun E' => finO [] E' (QD .none), rt := fun d E' => finO [] E' (QD d) } (ss ++ List.replicate 0 .un) := by
  rintro ss QD ⟨R, ⟨s, r⟩, rfl, hR, ⟨h0, h1, h2, h3⟩, q⟩
  unfold tb_card_text cE
  walk_at "cx"
  show match atI (("CDHS" : Str)).cps.toList s with | some c => _ | none => False
  rw [at_suit h0 h1]
  refine ⟨small_line (by decide), R, r, rfl, hR, h2, h3, ?_⟩
  exact ⟨small_line (by rw [sgn_len]; show 1 + 1 ≤ _; omega), q⟩
theorem rd_law_card_text : ∀ ss QD, spCardT ss QD → tb_law_card_text spSign { nx := fun E' => finO [] E' (QD .none), rt := fun d E' => finO [] E' (QD d) } (ss ++ List.replicate 0 .un) := rd_card_text
/-! ### hand_text -/
def spHandT : SpD := fun ss Q => ∃ (R : Nat) (h : List Card), ss = [.d (.int (R : Int)), .d (handD h)] ∧ R ≤ 13 ∧ HandOk R h ∧ Q (.str (handT R h)) []
theorem sh_hand_text : ∀ ss QD, spHandT ss QD → ss.length = 2 ∧ mpos 0 ss = [] := by rintro ss QD ⟨R, c, rfl, _⟩; exact ⟨rfl, rfl⟩
theorem sh_law_hand_text : ∀ ss QD, spHandT ss QD → ss.length = 2 ∧ mpos 0 ss = [] := sh_hand_text
theorem rd_hand_text : ∀ ss QD, spHandT ss QD → tb_hand_text spSign { nx := fun E' => finO [] E' (QD .none), rt := fun d E' => finO [] E' (QD d) } (ss ++ List.replicate 3 .un) := by
  rintro ss QD ⟨R, h, rfl, hR, ho, q⟩
  unfold tb_hand_text
  refine seq_step fun R2 hR2 => ?_
  walk_at "cx"
  refine ⟨small_line (by decide), hR2 _ ?_⟩
  clear hR2
  refine seq_step fun R2 hR2 => ?_
  refine for_inv (ds := [PyData.int 3, .int 2, .int 1, .int 0]) (E1 := [.d (.int (R : Int)), .d (handD h), .ol [], .un, .un]) (fun Q k => by
    walk_at "cx"
    exact ⟨small_line (by decide), k⟩)
    (fun i E => ∃ s3 s4, E = [.d (.int (R : Int)), .d (handD h), .ol ((((handP4 R h).take i).map mkS).map PyData.str), s3, s4] ∧ (s4 = .un ∨ ∃ x, s4 = .d x)) ⟨_, _, rfl, .inl rfl⟩ (fun i d E hd hE R3 hR3 => ?_) (fun E hE => ?_)
  · obtain ⟨s3, s4, rfl, k4⟩ := hE
    have hi : i < 4 := (List.getElem?_eq_some_iff.mp hd).1
    have hd2 : d = .int (3 - (i : Int)) := by
      match i, hi with
      | 0, _ => exact (Option.some.inj hd).symm
      | 1, _ => exact (Option.some.inj hd).symm
      | 2, _ => exact (Option.some.inj hd).symm
      | 3, _ => exact (Option.some.inj hd).symm
    subst hd2
    walk_at "cx"
    have hcl := ho.1
    refine comp_filter (h.reverse) cE (fun c => decide (c.1 = 3 - (i : Int))) (fun c => .str (sgn (sgC R c.2))) (fun Q k => by
      unfold handD
      walk_at "cx"
      rw [← List.map_reverse]; exact k) (okS1 k4 rfl) (small_line (by rw [List.length_reverse]; omega)) (fun c hc R4 h4 => ?_) ?_
    · have hco := ho.2.1 c (List.mem_reverse.mp hc)
      unfold cE
      walk_at "cx"
      by_cases g : c.1 = 3 - (i : Int)
      · rw [decide_eq_true g] at h4
        rw [if_pos g]
        exact ⟨R, c.2, rfl, hR, hco.2.2.1, hco.2.2.2, h4 _ rfl⟩
      · rw [decide_eq_false g] at h4
        rw [if_neg g]
        exact h4 _ rfl
    · have e : (h.reverse.filter fun c => decide (c.1 = 3 - (i : Int))).map (fun c => PyData.str (sgn (sgC R c.2))) = ((suitL R h (3 - (i : Int))).map sgn).map PyData.str := by
        unfold suitL
        rw [List.filter_reverse, List.map_reverse, List.map_reverse, List.map_reverse, List.map_map, List.map_map]; rfl
      have hsl : (suitL R h (3 - (i : Int))).length ≤ 13 := by
        unfold suitL
        rw [List.length_reverse, List.length_map]
        exact Nat.le_trans (List.length_filter_le _ _) (by omega)
      refine ⟨_, e, ?_, ?_⟩
      · have := sum_le_mul (f := fun x : Str => x.length) (l := (suitL R h (3 - (i : Int))).map sgn) (B := 1) fun p hp => by
          obtain ⟨z, _, rfl⟩ := List.mem_map.mp hp; exact Nat.le_refl _
        rw [List.length_map] at this ⊢
        rw [show (Str.ofString "").length = 0 from by decide]; omega
      · rw [show Txt.join (Str.ofString "") ((suitL R h (3 - (i : Int))).map sgn) = mkS (suitL R h (3 - (i : Int))) from join_sgn _]
        refine ⟨by rw [List.length_map, List.length_map, List.length_take, sizeLine_eq]; show min i 4 < _; omega, hR3 _ ⟨.d (.int (3 - (i : Int))), s4, ?_, k4⟩⟩
        rw [take_hand hi, List.map_append, List.map_append]; rfl
  · obtain ⟨s3, s4, rfl, _⟩ := hE
    refine hR2 _ ?_
    clear hR2
    walk_at "cx"
    refine ⟨(handP4 R h).map mkS, rfl, ?_, q⟩
    have := four_len hR ho
    rw [List.map_map, show (List.map ((fun x : Str => x.length) ∘ mkS) (handP4 R h)) = (handP4 R h).map List.length from List.map_congr_left fun p _ => by show (mkS p).length = p.length; rw [TL.len_tl, tl_mkS], this, List.length_map, show (Str.ofString ".").length = 1 from by decide]
    show R + 4 * 1 ≤ _; omega
theorem rd_law_hand_text : ∀ ss QD, spHandT ss QD → tb_law_hand_text spSign { nx := fun E' => finO [] E' (QD .none), rt := fun d E' => finO [] E' (QD d) } (ss ++ List.replicate 5 .un) := by
  rintro ss QD ⟨R, h, rfl, hR, ho, q⟩
  unfold tb_law_hand_text
  refine seq_step fun R2 hR2 => ?_
  walk_at "cx"
  refine ⟨small_line (by decide), hR2 _ ?_⟩
  clear hR2
  refine seq_step fun R2 hR2 => ?_
  refine for_inv (ds := [PyData.int 3, .int 2, .int 1, .int 0]) (E1 := [.d (.int (R : Int)), .d (handD h), .ol [], .un, .un, .un, .un]) (fun Q k => by
    walk_at "cx"
    exact ⟨small_line (by decide), k⟩)
    (fun i E => ∃ s3 s4 s5 s6, E = [.d (.int (R : Int)), .d (handD h), .ol ((((handP4 R h).take i).map mkS).map PyData.str), s3, s4, s5, s6] ∧ okS s5 ∧ okS s6) ⟨_, _, _, _, rfl, .inl rfl, .inl rfl⟩ (fun i d E hd hE R3 hR3 => ?_) (fun E hE => ?_)
  · obtain ⟨s3, s4, s5, s6, rfl, k5, k6⟩ := hE
    have hi : i < 4 := (List.getElem?_eq_some_iff.mp hd).1
    have hd2 : d = .int (3 - (i : Int)) := by
      match i, hi with
      | 0, _ => exact (Option.some.inj hd).symm
      | 1, _ => exact (Option.some.inj hd).symm
      | 2, _ => exact (Option.some.inj hd).symm
      | 3, _ => exact (Option.some.inj hd).symm
    subst hd2
    have hcl := ho.1
    refine seq_step fun R4 hR4 => ?_
    walk_at "cx"
    refine comp_filter h cE (fun c => decide (c.1 = 3 - (i : Int))) (fun c => .int c.2) (fun Q k => by
      unfold handD
      walk_at "cx"
      exact k) (okS2 k5 rfl k6 rfl) (small_line (by omega)) (fun c hc R5 h5 => ?_) ?_
    · unfold cE
      walk_at "cx"
      by_cases g : c.1 = 3 - (i : Int)
      · rw [decide_eq_true g] at h5
        rw [if_pos g]
        exact h5 _ rfl
      · rw [decide_eq_false g] at h5
        rw [if_neg g]
        exact h5 _ rfl
    · have hup : ((h.filter fun c => decide (c.1 = 3 - (i : Int))).map (·.2)).Pairwise (· < ·) := by
        rw [List.pairwise_map]
        refine (ho.2.2.filter _).imp_of_mem fun {a b} ha hb k => ?_
        have e1 := of_decide_eq_true (List.mem_filter.mp ha).2
        have e2 := of_decide_eq_true (List.mem_filter.mp hb).2
        unfold ltC at k; omega
      have e0 : (h.filter fun c => decide (c.1 = 3 - (i : Int))).map (fun c => PyData.int c.2) = ((h.filter fun c => decide (c.1 = 3 - (i : Int))).map (·.2)).map PyData.int := by rw [List.map_map]; rfl
      rw [e0, sort_upI, upI_of hup]
      have hfl : (h.filter fun c => decide (c.1 = 3 - (i : Int))).length ≤ 13 := Nat.le_trans (List.length_filter_le _ _) (by omega)
      refine ⟨sortOk_ints _, hR4 _ ?_⟩
      clear hR4
      walk_at "cx"
      rw [← List.map_reverse]
      obtain ⟨rs, hrs⟩ : ∃ rs : List Int, rs = (((h.filter fun c : Card => decide (c.1 = 3 - (i : Int))).map fun c : Card => c.2).reverse) := ⟨_, rfl⟩
      rw [← hrs]
      refine comp_map rs PyData.int (fun r => .str (sgn (sgC R r))) (fun Q k => k) (okS1 k6 rfl) (small_line (by rw [hrs, List.length_reverse, List.length_map]; omega)) (fun r hr R5 h5 => ?_) ?_
      · rw [hrs] at hr
        obtain ⟨c, hc, rfl⟩ := List.mem_map.mp (List.mem_reverse.mp hr)
        have hco := ho.2.1 c (List.mem_filter.mp hc).1
        walk_at "cx"
        exact ⟨R, c.2, rfl, hR, hco.2.2.1, hco.2.2.2, h5 _ rfl⟩
      · have e : (rs.map fun r => PyData.str (sgn (sgC R r))) = ((suitL R h (3 - (i : Int))).map sgn).map PyData.str := by
          rw [hrs]
          unfold suitL
          rw [List.map_reverse, List.map_reverse, List.map_reverse, List.map_map, List.map_map, List.map_map]; rfl
        have hsl : (suitL R h (3 - (i : Int))).length ≤ 13 := by
          unfold suitL
          rw [List.length_reverse, List.length_map]; exact hfl
        refine ⟨_, e, ?_, ?_⟩
        · have := sum_le_mul (f := fun x : Str => x.length) (l := (suitL R h (3 - (i : Int))).map sgn) (B := 1) fun p hp => by
            obtain ⟨z, _, rfl⟩ := List.mem_map.mp hp; exact Nat.le_refl _
          rw [List.length_map] at this ⊢
          rw [show (Str.ofString "").length = 0 from by decide]; omega
        · rw [show Txt.join (Str.ofString "") ((suitL R h (3 - (i : Int))).map sgn) = mkS (suitL R h (3 - (i : Int))) from join_sgn _]
          walk_at "cx"
          refine ⟨by rw [List.length_map, List.length_map, List.length_take, sizeLine_eq]; show min i 4 < _; omega, hR3 _ ⟨.d (.int (3 - (i : Int))), .d (.list (rs.map PyData.int)), s5, s6, ?_, k5, k6⟩⟩
          rw [take_hand hi, List.map_append, List.map_append]; rfl
  · obtain ⟨s3, s4, s5, s6, rfl, _⟩ := hE
    refine hR2 _ ?_
    clear hR2
    walk_at "cx"
    refine ⟨(handP4 R h).map mkS, rfl, ?_, q⟩
    have := four_len hR ho
    rw [List.map_map, show (List.map ((fun x : Str => x.length) ∘ mkS) (handP4 R h)) = (handP4 R h).map List.length from List.map_congr_left fun p _ => by show (mkS p).length = p.length; rw [TL.len_tl, tl_mkS], this, List.length_map, show (Str.ofString ".").length = 1 from by decide]
    show R + 4 * 1 ≤ _; omega
/-! ### read_hand -/
theorem enum_inv {xs : List D} {i : Nat} {d : D} (h : (enumD xs)[i]? = some d) : ∃ x, xs[i]? = some x ∧ d = .tuple [.int (i : Int), x] := by
  have hi := (List.getElem?_eq_some_iff.mp h).1
  rw [enumD_len] at hi
  have := enumD_get (xs := xs) (i := i) (List.getElem?_eq_getElem hi)
  rw [h] at this
  exact ⟨_, List.getElem?_eq_getElem hi, Option.some.inj this⟩
theorem take_snoc {α : Type} {l : List α} {i : Nat} {x : α} (h : l[i]? = some x) : l.take (i + 1) = l.take i ++ [x] := by rw [List.take_add_one, h]; rfl
theorem bnd_hand {h : List Card} (hl : h.length ≤ 1000) : bnd 20 (handD h) = true := by
  show ((h.map cE).all (bnd 19) && decide ((h.map cE).length ≤ 1000)) = true
  rw [List.length_map, decide_eq_true hl, Bool.and_true]
  refine List.all_eq_true.mpr fun d hd => ?_
  obtain ⟨c, _, rfl⟩ := List.mem_map.mp hd
  rfl
def spRHand (N : Value) : SpX := fun ss Q QX => ∃ (R : Nat) (t : Str), ss = [.d (.int (R : Int)), .d (.str t)] ∧ goodR R ∧ chOk t ∧ t.length ≤ 900 ∧ (∀ h, readH R t = some h → Q (handD h) []) ∧ (readH R t = none → QX N [])
theorem sh_read_hand (N : Value) : ∀ ss QD QX, spRHand N ss QD QX → ss.length = 2 ∧ mpos 0 ss = [] := by rintro ss QD QX ⟨R, t, rfl, _⟩; exact ⟨rfl, rfl⟩
theorem rd_read_hand (N : Value) : ∀ ss QD QX, spRHand N ss QD QX → tb_read_hand spIsHand (spRank N) N (fun cls E' => finO [] E' (QX cls)) { nx := fun E' => finO [] E' (QD .none), rt := fun d E' => finO [] E' (QD d) } (ss ++ List.replicate 5 .un) := by
  rintro ss QD QX ⟨R, t, rfl, hG, ht, hl, q1, q2⟩
  have hR := hG.le.2
  unfold tb_read_hand
  refine seq_step fun R2 hR2 => ?_
  walk_at "cx"
  refine ⟨by decide, small_line (by omega), hR2 _ ?_⟩
  clear hR2
  have hws : (Txt.split t ".").length ≤ 902 := Nat.le_trans (split_le t ".") (by omega)
  have hsm : ((Txt.split t ".").map (·.length)).sum + (Txt.split t ".").length ≤ t.length + 1 := split_weight t "." (by decide)
  have hco := chOk_split (y := ".") ht
  refine seq_step fun R2 hR2 => ?_
  walk_at "cx"
  rw [List.length_map]
  by_cases g4 : (Txt.split t ".").length = 4
  · refine ifF ?_ (hR2 _ ?_)
    · show (!decide (((Txt.split t ".").length : Int) = 4)) = false
      rw [decide_eq_true (by omega)]; rfl
    clear hR2
    obtain ⟨t3, t2, t1, t0, e4⟩ := four_of g4
    have eR : readH R t = if readOk R [TL.tl t3, TL.tl t2, TL.tl t1, TL.tl t0] then some (cardsP R [TL.tl t3, TL.tl t2, TL.tl t1, TL.tl t0]) else none := by
      unfold readH partsT; rw [e4]; rfl
    have hin : ∀ w ∈ [t0, t1, t2, t3], w ∈ Txt.split t "." := fun w hw => by
      rw [e4]; simp only [List.mem_cons, List.not_mem_nil, or_false] at hw ⊢
      rcases hw with h | h | h | h <;> simp [h]
    rw [show Txt.split t (Str.ofString ".") = [t3, t2, t1, t0] from e4]
    rw [e4] at hsm
    refine seq_step fun R2 hR2 => ?_
    walk_at "cx"
    refine ⟨small_line (by decide), hR2 _ ?_⟩
    clear hR2
    refine seq_step fun R2 hR2 => ?_
    refine for_inv (ds := enumD ([t0, t1, t2, t3].map PyData.str)) (E1 := [.d (.int (R : Int)), .d (.str t), .d (.list ([t3, t2, t1, t0].map PyData.str)), .ol [], .un, .un, .un]) (fun Q k => by
      walk_at "cx"
      exact k)
      (fun i E => ∃ s4 s5 s6, E = [.d (.int (R : Int)), .d (.str t), .d (.list ([t3, t2, t1, t0].map PyData.str)), .ol ((accN R 0 ([t0, t1, t2, t3].take i)).map cE), s4, s5, s6] ∧ okS s6 ∧ ∀ w ∈ [t0, t1, t2, t3].take i, ∀ c ∈ TL.tl w, (rkOf R c).isSome = true) ⟨_, _, _, rfl, .inl rfl, fun _ h => nomatch h⟩ (fun i d E hd hE R3 hR3 => ?_) (fun E hE => ?_)
    · obtain ⟨s4, s5, s6, rfl, k6, hgd⟩ := hE
      obtain ⟨x, hx, rfl⟩ := enum_inv hd
      rw [List.getElem?_map] at hx
      obtain ⟨w, hw, rfl⟩ := Option.map_eq_some_iff.mp hx
      have hwm := List.mem_of_getElem? hw
      have hi : i < 4 := (List.getElem?_eq_some_iff.mp hw).1
      have hwl := part_short (hin w hwm)
      walk_at "cx"
      have hwc := hco w (hin w hwm)
      refine comp_try (E1 := [.d (.int (R : Int)), .d (.str t), .d (.list ([t3, t2, t1, t0].map PyData.str)), .ol ((accN R 0 ([t0, t1, t2, t3].take i)).map cE), .d (.int (i : Int)), .d (.str w), s6]) ((TL.tl w).reverse) (fun c => PyData.str (sgn c)) (fun c => (rkOf R c).map fun r => PyData.tuple [.int (i : Int), .int r]) (fun Q k => ?_) (okS1 k6 rfl) (small_line (by rw [List.length_reverse, ← TL.len_tl]; omega)) (fun c hc R4 h4 => ?_) fun ys hys => ?_
      · refine ⟨small_line (by omega), ?_⟩
        exact k
      · have hc' := List.mem_reverse.mp hc
        walk_at "cx"
        refine ⟨R, c, rfl, hR, hwc c hc', fun r hr => ⟨small_line (by decide), h4 _ _ (by rw [hr]; rfl) rfl⟩, fun hn => q2 (readH_bad (hin w hwm) hc' hn)⟩
      · obtain ⟨g1, rfl⟩ := suit_try hys
        have htk := take_snoc hw
        have ht4 : ([t0, t1, t2, t3].take i).length = i := by rw [List.length_take]; show min i 4 = i; omega
        refine ⟨small_line ?_, hR3 _ ⟨.d (.int (i : Int)), .d (.str w), s6, ?_, k6, fun v hv => ?_⟩⟩
        · rw [List.length_map, List.length_map, List.length_map, List.length_reverse, accN_len, ← TL.len_tl]
          have h1 : (([t0, t1, t2, t3].take i).map (·.length)).sum ≤ i * 900 := by
            have := sum_le_mul (f := fun x : Str => x.length) (l := [t0, t1, t2, t3].take i) (B := 900) fun v hv => by
              have := part_short (hin v (List.mem_of_mem_take hv)); omega
            rwa [ht4] at this
          omega
        · rw [htk, accN_snoc, ht4, Nat.zero_add, List.map_append]; rfl
        · rw [htk] at hv
          rcases List.mem_append.mp hv with hv | hv
          · exact hgd v hv
          · rw [List.mem_singleton.mp hv]
            exact fun c hc => g1 c (List.mem_reverse.mpr hc)
    · obtain ⟨s4, s5, s6, rfl, k6, hgd⟩ := hE
      refine hR2 _ ?_
      clear hR2
      rw [enumD_len, List.length_map] at hgd ⊢
      have et : [t0, t1, t2, t3].take [t0, t1, t2, t3].length = [t0, t1, t2, t3] := List.take_length
      rw [et] at hgd ⊢
      have hgP : goodP R [TL.tl t3, TL.tl t2, TL.tl t1, TL.tl t0] := fun p hp => by
        simp only [List.mem_cons, List.not_mem_nil, or_false] at hp
        rcases hp with rfl | rfl | rfl | rfl
        · exact hgd t3 (by simp)
        · exact hgd t2 (by simp)
        · exact hgd t1 (by simp)
        · exact hgd t0 (by simp)
      have hclen : (accN R 0 [t0, t1, t2, t3]).length ≤ 901 := by
        rw [accN_len]
        simp only [List.map_cons, List.map_nil, List.sum_cons, List.sum_nil, List.length_cons, List.length_nil] at hsm ⊢
        omega
      refine seq_step fun R2 hR2 => ?_
      walk_at "cx"
      rw [accN_four] at hclen ⊢
      refine ⟨R, _, rfl, hG, bnd_hand (h := cardsP R [TL.tl t3, TL.tl t2, TL.tl t1, TL.tl t0]) (by omega), ?_⟩
      by_cases gr : readOk R [TL.tl t3, TL.tl t2, TL.tl t1, TL.tl t0]
      · have hy : isHandB R (handD (cardsP R [TL.tl t3, TL.tl t2, TL.tl t1, TL.tl t0])) = true := hand_yes ⟨_, rfl, gr.2.2.1, cards_ok hgP, gr.2.2.2⟩
        refine ⟨trivial, ifF (by show (!isHandB R (handD (cardsP R [TL.tl t3, TL.tl t2, TL.tl t1, TL.tl t0]))) = false; rw [hy]; rfl) (hR2 _ ?_)⟩
        clear hR2
        walk_at "cx"
        exact q1 _ (by rw [eR, if_pos gr])
      · have hy : isHandB R (handD (cardsP R [TL.tl t3, TL.tl t2, TL.tl t1, TL.tl t0])) = false := hand_no fun hp => gr ⟨rfl, hgP, (hand_of hp).1, (hand_of hp).2.2⟩
        exact ⟨trivial, ifT (by show (!isHandB R (handD (cardsP R [TL.tl t3, TL.tl t2, TL.tl t1, TL.tl t0]))) = true; rw [hy]; rfl) (q2 (by rw [eR, if_neg gr]))⟩
  · refine ifT ?_ (q2 (readH_len g4))
    show (!decide (((Txt.split t ".").length : Int) = 4)) = true
    rw [decide_eq_false (by omega)]; rfl
/-! ### deal_text -/
def spDealT : SpD := fun ss Q => ∃ (R : Nat) (hs : List (List Card)), ss = [.d (.int (R : Int)), .d (handsD hs)] ∧ R ≤ 13 ∧ (∀ h ∈ hs, HandOk R h) ∧ hs.length = 4 ∧ Q (.str (dealT R hs)) []
theorem sh_deal_text : ∀ ss QD, spDealT ss QD → ss.length = 2 ∧ mpos 0 ss = [] := by rintro ss QD ⟨R, c, rfl, _⟩; exact ⟨rfl, rfl⟩
theorem dealT_sum {R : Nat} (hR : R ≤ 13) {hs : List (List Card)} (ho : ∀ h ∈ hs, HandOk R h) (h4 : hs.length = 4) : ((hs.map (handT R)).map (·.length)).sum + (hs.map (handT R)).length * (Str.ofString " ").length ≤ 16777216 := by
  have := sum_le_mul (f := fun x : Str => x.length) (l := hs.map (handT R)) (B := 17) fun p hp => by
    obtain ⟨h, hh, rfl⟩ := List.mem_map.mp hp
    have := (handT_ok hR (ho h hh)).2
    omega
  rw [List.length_map, h4] at this ⊢
  rw [show (Str.ofString " ").length = 1 from by decide]; omega
theorem rd_deal_text : ∀ ss QD, spDealT ss QD → tb_deal_text spHandT { nx := fun E' => finO [] E' (QD .none), rt := fun d E' => finO [] E' (QD d) } (ss ++ List.replicate 1 .un) := by
  rintro ss QD ⟨R, hs, rfl, hR, ho, h4, q⟩
  unfold tb_deal_text
  walk_at "cx"
  refine comp_map hs handD (fun h => .str (handT R h)) (fun Q k => k) (un1 rfl) (small_line (by omega)) (fun h hh R4 k4 => ?_) ?_
  · walk_at "cx"
    exact ⟨R, h, rfl, hR, ho h hh, k4 _ rfl⟩
  · exact ⟨hs.map (handT R), by rw [List.map_map]; rfl, dealT_sum hR ho h4, q⟩
end DL
set_option Elab.async false
set_option linter.all false
set_option maxRecDepth 100000
set_option maxHeartbeats 4000000
/-! FnHTxV: what the law reads (plain). -/
namespace DL
open PySem PySem.Spec PyProof.Rows L2
theorem map_opt {α β : Type} {f : α → Option β} {g : β → D} : ∀ {ws : List α} {ys : List D}, (ws.map fun w => (f w).map g) = ys.map some → ∃ hs : List β, ys = hs.map g ∧ ws.map f = hs.map some
  | [], ys, h => by
    cases ys with
    | nil => exact ⟨[], rfl, rfl⟩
    | cons _ _ => cases h
  | w :: ws, ys, h => by
    cases ys with
    | nil => cases h
    | cons y ys =>
      rw [List.map_cons, List.map_cons] at h
      injection h with h1 h2
      obtain ⟨hs, rfl, e⟩ := map_opt h2
      cases q : f w with
      | none => rw [q] at h1; cases h1
      | some b =>
        rw [q] at h1
        have : y = g b := (Option.some.inj h1).symm
        exact ⟨b :: hs, by rw [this]; rfl, by rw [List.map_cons, List.map_cons, q, e]⟩
theorem readD_bad {R : Nat} {t w : Str} (hw : w ∈ Txt.split t " ") (h : readH R w = none) : readD R t = none := by
  unfold readD
  refine if_neg fun g => ?_
  have := g.2.1 (readH R w) (List.mem_map.mpr ⟨w, hw, rfl⟩)
  rw [h] at this; cases this
theorem readD_all {R : Nat} {t : Str} {hs : List (List Card)} (h : (Txt.split t " ").map (readH R) = hs.map some) : readD R t = if hs.length = 4 ∧ hs.flatten.Nodup then some hs else none := by
  have e2 : (hs.map some).map (fun o : Option (List Card) => o.getD []) = hs := by rw [List.map_map]; exact List.map_id' _
  unfold readD readsD
  rw [h, e2]
  by_cases g : hs.length = 4 ∧ hs.flatten.Nodup
  · rw [if_pos g, if_pos]
    refine ⟨by rw [List.length_map]; exact g.1, fun o ho => ?_, by rw [e2]; exact g.2⟩
    obtain ⟨x, _, rfl⟩ := List.mem_map.mp ho; rfl
  · rw [if_neg g, if_neg]
    rintro ⟨g1, _, g3⟩
    rw [List.length_map] at g1
    rw [e2] at g3
    exact g ⟨g1, g3⟩
theorem hands_read {R : Nat} {ws : List Str} {hs : List (List Card)} (h : ws.map (readH R) = hs.map some) : ∀ x ∈ hs, HandP R (handD x) := fun x hx => by
  have : some x ∈ ws.map (readH R) := by rw [h]; exact List.mem_map_of_mem hx
  obtain ⟨w, _, e⟩ := List.mem_map.mp this
  exact read_hand e
theorem map_handD_inj : ∀ {a b : List (List Card)}, a.map handD = b.map handD → a = b
  | [], [], _ => rfl
  | [], _ :: _, h => by cases h
  | _ :: _, [], h => by cases h
  | x :: a, y :: b, h => by
    rw [List.map_cons, List.map_cons] at h
    injection h with h1 h2
    rw [handD_inj h1, map_handD_inj h2]
theorem flat4 (a b c d : List Card) : [a, b, c, d].flatten = a ++ b ++ c ++ d := by simp
theorem deal_b {R : Nat} {hs : List (List Card)} (h : ∀ x ∈ hs, HandP R (handD x)) : isDealB R (handsD hs) = decide (hs.length = 4 ∧ hs.flatten.Nodup) := by
  by_cases g : hs.length = 4 ∧ hs.flatten.Nodup
  · rw [decide_eq_true g]
    obtain ⟨a, b, c, d, rfl⟩ := four_of g.1
    refine deal_yes ⟨a, b, c, d, rfl, ⟨h a (by simp), h b (by simp), h c (by simp), h d (by simp)⟩, ?_⟩
    rw [← flat4]; exact g.2
  · rw [decide_eq_false g]
    refine deal_no fun hp => g ?_
    obtain ⟨a, b, c, d, e, _, nd⟩ := hp
    have : hs = [a, b, c, d] := by
      unfold handsD at e
      injection e with e
      exact map_handD_inj (by rw [e]; rfl)
    subst this
    exact ⟨rfl, by rw [flat4]; exact nd⟩
/-! ### the law's reading of a hand -/
def ordF (R c : Nat) : Int := match rkOf R c with | some r => (R : Int) - r | none => -1
def gatL (R : Nat) : Int → List Str → List Card
  | _, [] => []
  | s, w :: ws => gatherP R s (TL.tl w) ++ gatL R (s - 1) ws
theorem gatL_snoc (R : Nat) (w : Str) : ∀ (l : List Str) (s : Int), gatL R s (l ++ [w]) = gatL R s l ++ gatherP R (s - (l.length : Int)) (TL.tl w)
  | [], s => by
    show gatherP R s (TL.tl w) ++ [] = [] ++ gatherP R (s - ((0 : Nat) : Int)) (TL.tl w)
    rw [List.append_nil, List.nil_append, show s - ((0 : Nat) : Int) = s by omega]
  | v :: l, s => by
    show gatherP R s (TL.tl v) ++ gatL R (s - 1) (l ++ [w]) = (gatherP R s (TL.tl v) ++ gatL R (s - 1) l) ++ _
    rw [gatL_snoc R w l (s - 1), List.append_assoc, List.length_cons, show s - 1 - (l.length : Int) = s - ((l.length + 1 : Nat) : Int) by omega]
theorem gatL_len (R : Nat) : ∀ (l : List Str) (s : Int), (gatL R s l).length = (l.map (·.length)).sum
  | [], _ => rfl
  | w :: l, s => by
    show (gatherP R s (TL.tl w) ++ gatL R (s - 1) l).length = _
    rw [List.length_append, gatL_len R l (s - 1), List.map_cons, List.sum_cons]
    unfold gatherP
    rw [List.length_map, ← TL.len_tl]
theorem gatL_perm (R : Nat) (t3 t2 t1 t0 : Str) : (gatL R 3 [t3, t2, t1, t0]).Perm (cardsP R [TL.tl t3, TL.tl t2, TL.tl t1, TL.tl t0]) := by
  have e : gatL R 3 [t3, t2, t1, t0] = gatherP R 3 (TL.tl t3) ++ gatherP R 2 (TL.tl t2) ++ gatherP R 1 (TL.tl t1) ++ gatherP R 0 (TL.tl t0) := by
    show gatherP R 3 _ ++ (gatherP R 2 _ ++ (gatherP R 1 _ ++ (gatherP R 0 _ ++ []))) = _
    rw [List.append_nil, List.append_assoc, List.append_assoc]
  rw [e]; exact gather_all R _ _ _ _
theorem ord_good {R : Nat} {l : List Nat} (h : ∀ c ∈ l, (rkOf R c).isSome = true) : l.map (ordF R) = ordL R l ∧ ∀ k ∈ ordL R l, 0 ≤ k := by
  refine ⟨List.map_congr_left fun c hc => ?_, fun k hk => ?_⟩
  · unfold ordF rk
    cases e : rkOf R c with
    | none => have := h c hc; rw [e] at this; cases this
    | some r => rfl
  · obtain ⟨c, hc, rfl⟩ := List.mem_map.mp hk
    cases e : rkOf R c with
    | none => have := h c hc; rw [e] at this; cases this
    | some r =>
      have := rk_some e
      show 0 ≤ (R : Int) - rk R c
      unfold rk; rw [e]; show 0 ≤ (R : Int) - r; omega
theorem up_same {os zs : List Int} (hz : zs.Pairwise (· < ·)) (hm : ∀ k, k ∈ zs ↔ k ∈ os) : os = zs ↔ os.Pairwise (· < ·) := by
  constructor
  · intro e; rw [e]; exact hz
  · intro ho
    have n1 : os.Nodup := ho.imp fun {a b} k => by omega
    have n2 : zs.Nodup := hz.imp fun {a b} k => by omega
    refine List.Perm.eq_of_pairwise (le := fun a b : Int => a ≤ b) (fun a b _ _ h1 h2 => by omega) (ho.imp fun {a b} k => by omega) (hz.imp fun {a b} k => by omega) ?_
    exact (List.perm_ext_iff_of_nodup n1 n2).mpr fun k => (hm k).symm
theorem readH_fall {R : Nat} {t w : Str} (hw : w ∈ Txt.split t ".") (h : ¬ upP R (TL.tl w)) : readH R t = none := by
  unfold readH
  refine if_neg fun g => h ?_
  have h4 := g.1
  unfold partsT at g h4
  rw [List.length_map] at h4
  obtain ⟨a, b, c, d, e⟩ := four_of h4
  rw [e] at g hw
  have := cards_up.mp g.2.2.2
  simp only [List.mem_cons, List.not_mem_nil, or_false] at hw
  rcases hw with rfl | rfl | rfl | rfl
  · exact this.1
  · exact this.2.1
  · exact this.2.2.1
  · exact this.2.2.2
theorem eqv_ints (a b : List Int) : PyData.eqv (.list (a.map PyData.int)) (.list (b.map PyData.int)) = decide (a = b) := by
  rw [eqv_lst, eqvAll_enc eqv_int]
end DL
set_option Elab.async false
set_option linter.all false
set_option maxRecDepth 100000
set_option maxHeartbeats 4000000
namespace DL
open PySem PySem.Spec PyProof.Rows L2
local macro_rules | `(tactic| walk_at "dl") => `(tactic| simp only [tV, tVr, tFzV, turnD, DL.wipeE, tK, tOpD, tUnD, tBo, tAndD, tOrD, tNotD, tIfE, DL.tAndV, DL.tOrV, DL.tNotV, tTru, truD, okLen, sSet, sSetL, sExpr, sRet, sIf, sNx, tTupD, dNil, dCons, tLstD, tFzD, tApp, tExtd, tPopAt, sSetIx, tIxO, tChainD, tChain3D, tRevT, caStr, opRepT, opAdd, opSub, opMul, opDiv, opMod, opPow, DL.opI, DL.opI0, opB0, opLt, opLe, opGt, opGtD, opLtD, opGe, opEq, opNe, opIs, opIsN, isNone, opIn, opNotIn, opIx, atD_0, atD_1, atD_2, atD_3, putD_0, unNeg, tCa1, tCa2, tCaL1, caLen, caAbs, caMax2, caMin2, caSum, caMax, caMin, caSumT, caMaxT, caMinT, caAll, caTuple, caList, caInt, tIsi, isInt, isBool, isStr, isTuple, isList, notDict, sAsg, gSet, gTupD, gLstD, gsNil, gsCons, sPar, pNil, pD, pL, setAll, tCallD, aNil, aV, aO, argS, oixs, ndp, putO, tOpL, opCat, opRep, tSlD, slD, tSlL, oNo, oE, tRevD, iLstD, iTupD, iRange1, iRange2, iZipD, iZipM, finO, tTrue, Option.map, eqv_int, eqv_bool, eqv_none, shaped_int, shaped_bool, shaped_none, tLenRange, tSortSet, tSortSetS, tSortDk, tDkGet2, tDkGetD, tDkGet2M, sDkPut, tInDk, tDkGet, iDvK, keyOf, optQ, mDkD, tFzKM, opLeS, tFind, tSplit, tJoinS, caIntS, iStrD, opMulS, tRevS, tSlO, iZipN, tLenSet, tLenSetP, tSortSetP, tCountL, tCountT, tIndexL, tIndexT, DL.tOrT, DL.tAndT, DL.tNotT, tSortRev, caSorted, iEnumL, iEnumT, tDGetV, tDGetD, tDGet2V, dictAt, sDPutV, sSetM, mDt, mDk, pM, tInN, tNotInN, tCallM, amM, amV, tListRg, iDk, iDv, iDi, tLDk, tLDv, tTruDk, mDt1, tFzM, tCall0D, tFldD, tFldR, fldD, fldL, obD, unH_hdl, obGet, setOb, putOD, sFldD, sFldL, tMethO, tAppF, tPopF, sRaise, keyB_2, keyB_3, keyB_4, decide_eq_true_eq, and_self, List.cons_append, List.nil_append, List.replicate, List.getElem?_cons_zero, List.getElem?_cons_succ, List.set_cons_zero, List.set_cons_succ, List.length_cons, List.length_nil, true_and, and_true, if_true, if_false, Bool.false_eq_true, List.contains_nil, Bool.not_false, Bool.not_true, Bool.and_self, Bool.and_true, Bool.true_and, decide_true, decide_false, beq_self_eq_true])
local macro_rules | `(tactic| walk_at "cx") => `(tactic| simp only [tCallX, tFind, tSplit, tJoinS, tRevS, tV, tVr, tFzV, turnD, DL.wipeE, tK, tOpD, tUnD, tBo, tAndD, tOrD, tNotD, tIfE, DL.tAndV, DL.tOrV, DL.tNotV, tTru, truD, okLen, sSet, sSetL, sExpr, sRet, sIf, sNx, tTupD, dNil, dCons, tLstD, tFzD, tApp, tExtd, tPopAt, sSetIx, tIxO, tChainD, tChain3D, tRevT, caStr, opRepT, opAdd, opSub, opMul, opDiv, opMod, opPow, DL.opI, DL.opI0, opB0, opLt, opLe, opGt, opGtD, opLtD, opGe, opEq, opNe, opIs, opIsN, isNone, opIn, opNotIn, opIx, atD_0, atD_1, atD_2, atD_3, putD_0, unNeg, tCa1, tCa2, tCaL1, caLen, caAbs, caMax2, caMin2, caSum, caMax, caMin, caSumT, caMaxT, caMinT, caAll, caTuple, caList, caInt, tIsi, isInt, isBool, isStr, isTuple, isList, notDict, sAsg, gSet, gTupD, gLstD, gsNil, gsCons, sPar, pNil, pD, pL, setAll, tCallD, aNil, aV, aO, argS, oixs, ndp, putO, tOpL, opCat, opRep, tSlD, slD, tSlL, oNo, oE, tRevD, iLstD, iTupD, iRange1, iRange2, iZipD, iZipM, finO, tTrue, Option.map, eqv_int, eqv_bool, eqv_none, shaped_int, shaped_bool, shaped_none, tLenRange, tSortSet, tSortSetS, tSortDk, tDkGet2, tDkGetD, tDkGet2M, sDkPut, tInDk, tDkGet, iDvK, keyOf, optQ, mDkD, tFzKM, opLeS, tFind, tSplit, tJoinS, caIntS, iStrD, opMulS, tRevS, tSlO, iZipN, tLenSet, tLenSetP, tSortSetP, tCountL, tCountT, tIndexL, tIndexT, DL.tOrT, DL.tAndT, DL.tNotT, tSortRev, caSorted, iEnumL, iEnumT, tDGetV, tDGetD, tDGet2V, dictAt, sDPutV, sSetM, mDt, mDk, pM, tInN, tNotInN, tCallM, amM, amV, tListRg, iDk, iDv, iDi, tLDk, tLDv, tTruDk, mDt1, tFzM, tCall0D, tFldD, tFldR, fldD, fldL, obD, unH_hdl, obGet, setOb, putOD, sFldD, sFldL, tMethO, tAppF, tPopF, sRaise, keyB_2, keyB_3, keyB_4, decide_eq_true_eq, and_self, List.cons_append, List.nil_append, List.replicate, List.getElem?_cons_zero, List.getElem?_cons_succ, List.set_cons_zero, List.set_cons_succ, List.length_cons, List.length_nil, true_and, and_true, if_true, if_false, Bool.false_eq_true, List.contains_nil, Bool.not_false, Bool.not_true, Bool.and_self, Bool.and_true, Bool.true_and, decide_true, decide_false, beq_self_eq_true])
theorem map_bnd19 {h : List Card} (hl : h.length ≤ 1000) : bnd 19 (handD h) = true := by
  show ((h.map cE).all (bnd 18) && decide ((h.map cE).length ≤ 1000)) = true
  rw [List.length_map, decide_eq_true hl, Bool.and_true]
  refine List.all_eq_true.mpr fun d hd => ?_
  obtain ⟨c, _, rfl⟩ := List.mem_map.mp hd
  rfl
theorem bnd_hands {R : Nat} (hR : R ≤ 13) {hs : List (List Card)} (h : ∀ x ∈ hs, HandP R (handD x)) (hl : hs.length ≤ 1000) : bnd 20 (handsD hs) = true := by
  show ((hs.map handD).all (bnd 19) && decide ((hs.map handD).length ≤ 1000)) = true
  rw [List.length_map, decide_eq_true hl, Bool.and_true]
  refine List.all_eq_true.mpr fun d hd => ?_
  obtain ⟨x, hx, rfl⟩ := List.mem_map.mp hd
  exact map_bnd19 (by rw [(hand_of (h x hx)).1]; omega)
def spRDeal (N : Value) : SpX := fun ss Q QX => ∃ (R : Nat) (t : Str), ss = [.d (.int (R : Int)), .d (.str t)] ∧ goodR R ∧ chOk t ∧ t.length ≤ 900 ∧ (∀ h, readD R t = some h → Q (handsD h) []) ∧ (readD R t = none → QX N [])
theorem sh_read_deal (N : Value) : ∀ ss QD QX, spRDeal N ss QD QX → ss.length = 2 ∧ mpos 0 ss = [] := by rintro ss QD QX ⟨R, t, rfl, _⟩; exact ⟨rfl, rfl⟩
theorem rd_read_deal (N : Value) : ∀ ss QD QX, spRDeal N ss QD QX → tb_read_deal spIsDeal (spRHand N) N (fun cls E' => finO [] E' (QX cls)) { nx := fun E' => finO [] E' (QD .none), rt := fun d E' => finO [] E' (QD d) } (ss ++ List.replicate 2 .un) := by
  rintro ss QD QX ⟨R, t, rfl, hG, ht, hl, q1, q2⟩
  have hR := hG.le.2
  unfold tb_read_deal
  refine seq_step fun R2 hR2 => ?_
  walk_at "cx"
  have hlen : (Txt.split t " ").length ≤ 902 := Nat.le_trans (split_le t " ") (by omega)
  refine comp_try (E1 := [.d (.int (R : Int)), .d (.str t), .un, .un]) (Txt.split t " ") PyData.str (fun w => (readH R w).map handD) (fun Q h => ⟨by decide, small_line (by omega), h⟩) (un1 rfl) (small_line (by omega)) (fun w hw R4 h4 => ?_) fun ys hys => hR2 _ ?_
  · walk_at "cx"
    have := part_short hw
    exact ⟨R, w, rfl, hG, chOk_split ht w hw, by omega, fun h hh => h4 _ _ (by rw [hh]; rfl) rfl, fun hn => q2 (readD_bad hw hn)⟩
  · clear hR2
    obtain ⟨hs, rfl, hhs⟩ := map_opt hys
    have hp := hands_read hhs
    have hcl : hs.length = (Txt.split t " ").length := by
      have := congrArg List.length hhs
      rw [List.length_map, List.length_map] at this; exact this.symm
    refine seq_step fun R2 hR2 => ?_
    walk_at "cx"
    refine ⟨R, handsD hs, rfl, hG, bnd_hands hR hp (by omega), ?_⟩
    rw [deal_b hp]
    have er := readD_all hhs
    by_cases g : hs.length = 4 ∧ hs.flatten.Nodup
    · rw [decide_eq_true g]
      rw [if_pos g] at er
      exact ⟨trivial, hR2 _ (q1 _ er)⟩
    · rw [decide_eq_false g]
      rw [if_neg g] at er
      exact ⟨trivial, q2 er⟩
/-! ### told -/
def toldH (R : Nat) (t : Str) : D := match readH R t with
  | some h => handD h
  | none => .str "NoText"
def toldD (R : Nat) (t : Str) : D := match readD R t with
  | some h => handsD h
  | none => .str "NoText"
def spToldH : SpD := fun ss Q => ∃ (R : Nat) (t : Str), ss = [.d (.int (R : Int)), .d (.str t)] ∧ goodR R ∧ chOk t ∧ t.length ≤ 900 ∧ Q (toldH R t) []
def spToldD : SpD := fun ss Q => ∃ (R : Nat) (t : Str), ss = [.d (.int (R : Int)), .d (.str t)] ∧ goodR R ∧ chOk t ∧ t.length ≤ 900 ∧ Q (toldD R t) []
theorem sh_law_told_hand : ∀ ss QD, spToldH ss QD → ss.length = 2 ∧ mpos 0 ss = [] := by rintro ss QD ⟨R, t, rfl, _⟩; exact ⟨rfl, rfl⟩
theorem sh_law_told_deal : ∀ ss QD, spToldD ss QD → ss.length = 2 ∧ mpos 0 ss = [] := by rintro ss QD ⟨R, t, rfl, _⟩; exact ⟨rfl, rfl⟩
theorem rd_law_told_hand {c : Value} {m : Value → Option Bool} (hm : m c = some true) : ∀ ss QD, spToldH ss QD → tb_law_told_hand (spRHand c) m { nx := fun E' => finO [] E' (QD .none), rt := fun d E' => finO [] E' (QD d) } (ss ++ List.replicate 1 .un) := by
  rintro ss QD ⟨L, t, rfl, hL, ht, hl, q⟩
  unfold toldH at q
  unfold tb_law_told_hand
  refine seq_step fun R hR => ?_
  walk_at "dl"
  refine hR _ ?_
  clear hR
  refine seq_step fun R hR => ?_
  have fin : ∀ d, d = (match readH L t with | some h => handD h | none => .str "NoText") → R [.d (.int (L : Int)), .d (.str t), .d d] := fun d e => by
    refine hR _ ?_
    walk_at "dl"
    rw [e]; exact q
  refine ⟨rfl, L, t, rfl, hL, ht, hl, fun cs h => fin _ (by rw [h]), fun h => ?_⟩
  show match m c with | some true => _ | some false => _ | none => _
  rw [hm]
  exact fin _ (by rw [h])
theorem rd_law_told_deal {c : Value} {m : Value → Option Bool} (hm : m c = some true) : ∀ ss QD, spToldD ss QD → tb_law_told_deal (spRDeal c) m { nx := fun E' => finO [] E' (QD .none), rt := fun d E' => finO [] E' (QD d) } (ss ++ List.replicate 1 .un) := by
  rintro ss QD ⟨L, t, rfl, hL, ht, hl, q⟩
  unfold toldD at q
  unfold tb_law_told_deal
  refine seq_step fun R hR => ?_
  walk_at "dl"
  refine hR _ ?_
  clear hR
  refine seq_step fun R hR => ?_
  have fin : ∀ d, d = (match readD L t with | some h => handsD h | none => .str "NoText") → R [.d (.int (L : Int)), .d (.str t), .d d] := fun d e => by
    refine hR _ ?_
    walk_at "dl"
    rw [e]; exact q
  refine ⟨rfl, L, t, rfl, hL, ht, hl, fun cs h => fin _ (by rw [h]), fun h => ?_⟩
  show match m c with | some true => _ | some false => _ | none => _
  rw [hm]
  exact fin _ (by rw [h])
def spOrR : SpD := fun ss Q => ∃ d : D, ss = [.d d] ∧ Q (if isNone d = true then .str "NoText" else d) []
theorem sh_law_or_refused : ∀ ss QD, spOrR ss QD → ss.length = 1 ∧ mpos 0 ss = [] := by rintro ss QD ⟨c, rfl, _⟩; exact ⟨rfl, rfl⟩
theorem rd_law_or_refused : ∀ ss QD, spOrR ss QD → tb_law_or_refused { nx := fun E' => finO [] E' (QD .none), rt := fun d E' => finO [] E' (QD d) } (ss ++ List.replicate 0 .un) := by
  rintro ss QD ⟨d, rfl, q⟩
  unfold tb_law_or_refused
  cases d <;> exact q
theorem shaped_ints (ns : List Int) : SeqAt.shaped (.list (ns.map PyData.int)) = true := shaped_all (List.all_eq_true.mpr fun d hd => by
  obtain ⟨k, _, rfl⟩ := List.mem_map.mp hd; rfl)
theorem any_int (ns : List Int) (k : Int) : ((ns.map PyData.int).any fun z => PyData.eqv z (.int k)) = decide (k ∈ ns) := by
  rw [Bool.eq_iff_iff, List.any_eq_true, decide_eq_true_eq]
  constructor
  · rintro ⟨z, hz, e⟩
    obtain ⟨j, hj, rfl⟩ := List.mem_map.mp hz
    rw [eqv_int] at e
    rw [← of_decide_eq_true e]; exact hj
  · intro h
    exact ⟨.int k, List.mem_map_of_mem h, by rw [eqv_int]; exact decide_eq_true rfl⟩
/-! ### the law's readings -/
def handO : Option (List Card) → D
  | some h => handD h
  | none => .none
def handsO : Option (List (List Card)) → D
  | some h => handsD h
  | none => .none
def spLRHand : SpD := fun ss Q => ∃ (R : Nat) (t : Str), ss = [.d (.int (R : Int)), .d (.str t)] ∧ goodR R ∧ chOk t ∧ t.length ≤ 900 ∧ RunLe 63 (TL.tl t) ∧ Q (handO (readH R t)) []
theorem sh_law_read_hand : ∀ ss QD, spLRHand ss QD → ss.length = 2 ∧ mpos 0 ss = [] := by rintro ss QD ⟨R, t, rfl, _⟩; exact ⟨rfl, rfl⟩
theorem rd_law_read_hand : ∀ ss QD, spLRHand ss QD → tb_law_read_hand { nx := fun E' => finO [] E' (QD .none), rt := fun d E' => finO [] E' (QD d) } (ss ++ List.replicate 7 .un) := by
  rintro ss QD ⟨R, t, rfl, hG, ht, hl, hrun, q⟩
  have hR := hG.le.2
  have qn : readH R t = none → QD .none [] := fun h => by rw [h] at q; exact q
  unfold tb_law_read_hand
  refine seq_step fun R2 hR2 => ?_
  walk_at "cx"
  refine ⟨by decide, small_line (by omega), small_line (by decide), hR2 _ ?_⟩
  clear hR2
  have hws : (Txt.split t ".").length ≤ 902 := Nat.le_trans (split_le t ".") (by omega)
  have hsm : ((Txt.split t ".").map (·.length)).sum + (Txt.split t ".").length ≤ t.length + 1 := split_weight t "." (by decide)
  have hco := chOk_split (y := ".") ht
  refine seq_step fun R2 hR2 => ?_
  walk_at "cx"
  rw [List.length_map]
  by_cases g4 : (Txt.split t ".").length = 4
  · refine ifF ?_ (hR2 _ ?_)
    · show (!decide (((Txt.split t ".").length : Int) = 4)) = false
      rw [decide_eq_true (by omega)]; rfl
    clear hR2
    obtain ⟨t3, t2, t1, t0, e4⟩ := four_of g4
    have eR : readH R t = if readOk R [TL.tl t3, TL.tl t2, TL.tl t1, TL.tl t0] then some (cardsP R [TL.tl t3, TL.tl t2, TL.tl t1, TL.tl t0]) else none := by
      unfold readH partsT; rw [e4]; rfl
    have hin : ∀ w ∈ [t3, t2, t1, t0], w ∈ Txt.split t "." := fun w hw => by rw [e4]; exact hw
    rw [show Txt.split t (Str.ofString ".") = [t3, t2, t1, t0] from e4]
    rw [e4] at hsm
    refine seq_step fun R2 hR2 => ?_
    refine for_inv (ds := zipD [.int 3, .int 2, .int 1, .int 0] ([t3, t2, t1, t0].map PyData.str)) (E1 := [.d (.int (R : Int)), .d (.str t), .d (.list ([t3, t2, t1, t0].map PyData.str)), .d (.list []), .un, .un, .un, .un, .un]) (fun Q k => by
      unfold iZipN
      walk_at "cx"
      exact ⟨small_line (by decide), k⟩)
      (fun i E => ∃ s4 s5 s6 s7 s8, E = [.d (.int (R : Int)), .d (.str t), .d (.list ([t3, t2, t1, t0].map PyData.str)), .d (.list ((gatL R 3 ([t3, t2, t1, t0].take i)).map cE)), s4, s5, s6, s7, s8] ∧ okS s7 ∧ okS s8 ∧ ∀ w ∈ [t3, t2, t1, t0].take i, (∀ c ∈ TL.tl w, (rkOf R c).isSome = true) ∧ upP R (TL.tl w)) ⟨_, _, _, _, _, rfl, .inl rfl, .inl rfl, fun _ h => nomatch h⟩ (fun i d E hd hE R3 hR3 => ?_) (fun E hE => ?_)
    · obtain ⟨s4, s5, s6, s7, s8, rfl, k7, k8, hgd⟩ := hE
      have hi : i < 4 := by
        have := (List.getElem?_eq_some_iff.mp hd).1
        rw [zipD_len] at this; exact Nat.lt_of_lt_of_le this (Nat.min_le_left _ _)
      obtain ⟨w, hw, rfl⟩ : ∃ w, [t3, t2, t1, t0][i]? = some w ∧ d = .tuple [.int (3 - (i : Int)), .str w] := by
        match i, hi with
        | 0, _ => exact ⟨t3, rfl, (Option.some.inj hd).symm⟩
        | 1, _ => exact ⟨t2, rfl, (Option.some.inj hd).symm⟩
        | 2, _ => exact ⟨t1, rfl, (Option.some.inj hd).symm⟩
        | 3, _ => exact ⟨t0, rfl, (Option.some.inj hd).symm⟩
      have hwm := List.mem_of_getElem? hw
      have hwl := part_short (hin w hwm)
      have hwc := hco w (hin w hwm)
      walk_at "cx"
      refine seq_step fun R4 hR4 => ?_
      walk_at "cx"
      refine comp_map (E1 := [.d (.int (R : Int)), .d (.str t), .d (.list ([t3, t2, t1, t0].map PyData.str)), .d (.list ((gatL R 3 ([t3, t2, t1, t0].take i)).map cE)), .d (.int (3 - (i : Int))), .d (.str w), s6, s7, s8]) (TL.tl w) (fun c => PyData.str (sgn c)) (fun c => PyData.int (ordF R c)) (fun Q k => k) (okS1 k7 rfl) (small_line (by rw [← TL.len_tl]; omega)) (fun c hc R5 h5 => ?_) (hR4 _ ?_)
      · walk_at "cx"
        refine ⟨small_line (by decide), ?_⟩
        rw [show Txt.find (cutS (Str.ofString "AKQJT98765432") none (some (R : Int))) (sgn c) = ordF R c from law_find hR c]
        exact h5 _ rfl
      clear hR4
      refine seq_step fun R4 hR4 => ?_
      rw [show (TL.tl w).map (fun c => PyData.int (ordF R c)) = ((TL.tl w).map (ordF R)).map PyData.int by rw [List.map_map]; rfl]
      walk_at "cx"
      refine ⟨shaped_ints _, ?_⟩
      rw [any_int]
      by_cases hg : ∀ c ∈ TL.tl w, (rkOf R c).isSome = true
      · obtain ⟨eo, h0⟩ := ord_good hg
        rw [eo]
        refine ifF (decide_eq_false fun h => by have := h0 _ h; omega) ?_
        have hpl := part_small hrun (hin w hwm) hg
        refine ⟨_, rfl, ?_, fun zs hz hm => ⟨⟨shaped_ints _, shaped_ints _⟩, ?_⟩⟩
        · unfold ordL; rw [List.length_map]; omega
        rw [eqv_ints]
        by_cases hu : upP R (TL.tl w)
        · refine ifF (by rw [decide_eq_true ((up_same hz hm).mpr hu)]; rfl) (hR4 _ ?_)
          clear hR4
          walk_at "cx"
          have htk := take_snoc hw
          have ht4 : ([t3, t2, t1, t0].take i).length = i := by rw [List.length_take]; show min i 4 = i; omega
          refine comp_map (E1 := [.d (.int (R : Int)), .d (.str t), .d (.list ([t3, t2, t1, t0].map PyData.str)), .d (.list ((gatL R 3 ([t3, t2, t1, t0].take i)).map cE)), .d (.int (3 - (i : Int))), .d (.str w), .d (.list ((ordL R (TL.tl w)).map PyData.int)), s7, s8]) (ordL R (TL.tl w)) PyData.int (fun k => cE (3 - (i : Int), (R : Int) - k)) (fun Q k => k) (okS1 k8 rfl) (small_line (by unfold ordL; rw [List.length_map]; omega)) (fun k hk R5 h5 => ?_) ?_
          · walk_at "cx"
            exact ⟨small_line (by decide), h5 _ rfl⟩
          · have e5 : (ordL R (TL.tl w)).map (fun k => cE (3 - (i : Int), (R : Int) - k)) = (gatherP R (3 - (i : Int)) (TL.tl w)).map cE := by
              unfold ordL gatherP
              rw [List.map_map, List.map_map]
              refine List.map_congr_left fun c _ => ?_
              show cE (3 - (i : Int), (R : Int) - ((R : Int) - rk R c)) = cE (3 - (i : Int), rk R c)
              rw [show (R : Int) - ((R : Int) - rk R c) = rk R c by omega]
            rw [e5]
            refine ⟨small_line ?_, hR3 _ ⟨.d (.int (3 - (i : Int))), .d (.str w), .d (.list ((ordL R (TL.tl w)).map PyData.int)), s7, s8, ?_, k7, k8, fun v hv => ?_⟩⟩
            · rw [List.length_map, List.length_map, gatL_len]
              have h1 : (([t3, t2, t1, t0].take i).map (·.length)).sum ≤ i * 900 := by
                have := sum_le_mul (f := fun x : Str => x.length) (l := [t3, t2, t1, t0].take i) (B := 900) fun v hv => by
                  have := part_short (hin v (List.mem_of_mem_take hv)); omega
                rwa [ht4] at this
              unfold gatherP
              rw [List.length_map]; omega
            · rw [htk, gatL_snoc, ht4, List.map_append]; rfl
            · rw [htk] at hv
              rcases List.mem_append.mp hv with hv | hv
              · exact hgd v hv
              · rw [List.mem_singleton.mp hv]; exact ⟨hg, hu⟩
        · exact ifT (by rw [decide_eq_false fun e => hu ((up_same hz hm).mp e)]; rfl) (qn (readH_fall (hin w hwm) hu))
      · obtain ⟨c, hc⟩ := Classical.not_forall.mp hg
        obtain ⟨hc, hn⟩ := Classical.not_imp.mp hc
        have hn : rkOf R c = none := by
          cases e : rkOf R c with
          | none => rfl
          | some r => rw [e] at hn; exact absurd rfl hn
        refine ifT (decide_eq_true (List.mem_map.mpr ⟨c, hc, by unfold ordF; rw [hn]⟩)) (qn (readH_bad (hin w hwm) hc hn))
    · obtain ⟨s4, s5, s6, s7, s8, rfl, k7, k8, hgd⟩ := hE
      refine hR2 _ ?_
      clear hR2
      walk_at "cx"
      rw [zipD_len] at hgd ⊢
      have et : [t3, t2, t1, t0].take (min [PyData.int 3, .int 2, .int 1, .int 0].length (([t3, t2, t1, t0].map PyData.str)).length) = [t3, t2, t1, t0] := rfl
      rw [et] at hgd ⊢
      have hgP : goodP R [TL.tl t3, TL.tl t2, TL.tl t1, TL.tl t0] := fun p hp => by
        simp only [List.mem_cons, List.not_mem_nil, or_false] at hp
        rcases hp with rfl | rfl | rfl | rfl
        · exact (hgd t3 (by simp)).1
        · exact (hgd t2 (by simp)).1
        · exact (hgd t1 (by simp)).1
        · exact (hgd t0 (by simp)).1
      have hup : (cardsP R [TL.tl t3, TL.tl t2, TL.tl t1, TL.tl t0]).Pairwise ltC := cards_up.mpr ⟨(hgd t3 (by simp)).2, (hgd t2 (by simp)).2, (hgd t1 (by simp)).2, (hgd t0 (by simp)).2⟩
      have hperm := gatL_perm R t3 t2 t1 t0
      have hlen := hperm.length_eq
      rw [List.length_map]
      by_cases g : (gatL R 3 [t3, t2, t1, t0]).length = R
      · rw [if_pos (by omega)]
        refine ⟨sortOk_cards _, ?_⟩
        rw [sort_cards, sortC_eq hperm, sort_up hup]
        rw [eR, if_pos ⟨rfl, hgP, by omega, hup⟩] at q
        exact q
      · rw [if_neg (by omega)]
        exact qn (by rw [eR]; exact if_neg fun h => g (by have := h.2.2.1; omega))
  · refine ifT ?_ (qn (readH_len g4))
    show (!decide (((Txt.split t ".").length : Int) = 4)) = true
    rw [decide_eq_false (by omega)]; rfl
theorem sh_handO (o : Option (List Card)) : shOk 2 (handO o) = true := by
  cases o with
  | none => rfl
  | some h =>
    show (h.map cE).all (shOk 1) = true
    refine List.all_eq_true.mpr fun d hd => ?_
    obtain ⟨c, _, rfl⟩ := List.mem_map.mp hd; rfl
theorem eqv_handO (o : Option (List Card)) : PyData.eqv (handO o) .none = !o.isSome := by
  cases o with
  | none => rfl
  | some h => simp [handO, handD, PyData.eqv]
def spLRDeal : SpD := fun ss Q => ∃ (R : Nat) (t : Str), ss = [.d (.int (R : Int)), .d (.str t)] ∧ goodR R ∧ chOk t ∧ t.length ≤ 900 ∧ RunLe 63 (TL.tl t) ∧ Q (handsO (readD R t)) []
theorem sh_law_read_deal : ∀ ss QD, spLRDeal ss QD → ss.length = 2 ∧ mpos 0 ss = [] := by rintro ss QD ⟨R, t, rfl, _⟩; exact ⟨rfl, rfl⟩
theorem rd_law_read_deal : ∀ ss QD, spLRDeal ss QD → tb_law_read_deal spLRHand { nx := fun E' => finO [] E' (QD .none), rt := fun d E' => finO [] E' (QD d) } (ss ++ List.replicate 2 .un) := by
  rintro ss QD ⟨R, t, rfl, hG, ht, hl, hrun, q⟩
  have hR := hG.le.2
  unfold tb_law_read_deal
  refine seq_step fun R2 hR2 => ?_
  walk_at "cx"
  have hlen : (Txt.split t " ").length ≤ 902 := Nat.le_trans (split_le t " ") (by omega)
  refine comp_map (E1 := [.d (.int (R : Int)), .d (.str t), .un, .un]) (Txt.split t " ") PyData.str (fun w => handO (readH R w)) (fun Q h => ⟨by decide, small_line (by omega), h⟩) (un1 rfl) (small_line (by omega)) (fun w hw R4 h4 => ?_) (hR2 _ ?_)
  · walk_at "cx"
    have := part_short hw
    exact ⟨R, w, rfl, hG, chOk_split ht w hw, by omega, run_sub hrun (split_infix hw), h4 _ rfl⟩
  · clear hR2
    rw [show (Txt.split t " ").map (fun w => handO (readH R w)) = (readsD R t).map handO by unfold readsD; rw [List.map_map]; rfl]
    have hrl : (readsD R t).length = (Txt.split t " ").length := by unfold readsD; rw [List.length_map]
    have hrh : ∀ h, some h ∈ readsD R t → HandP R (handD h) := fun h hh => by
      obtain ⟨w, _, e⟩ := List.mem_map.mp hh
      exact read_hand e
    have eD : readD R t = if dealOk (readsD R t) then some ((readsD R t).map (·.getD [])) else none := rfl
    revert hrl hrh eD
    generalize readsD R t = os
    intro hrl hrh eD
    have qn : ¬ dealOk os → QD .none [] := fun h => by rw [eD, if_neg h] at q; exact q
    refine seq_step fun R2 hR2 => ?_
    walk_at "cx"
    rw [List.length_map]
    by_cases g4 : os.length = 4
    · refine ifF (by rw [decide_eq_true (by omega)]; rfl) ?_
      refine ⟨shaped_of (n := 3) (d := .tuple (os.map handO)) (by
        show (os.map handO).all (shOk 2) = true
        refine List.all_eq_true.mpr fun d hd => ?_
        obtain ⟨o, _, rfl⟩ := List.mem_map.mp hd; exact sh_handO o), ?_⟩
      by_cases ga : ∀ o ∈ os, o.isSome = true
      · refine ifF ?_ ?_
        · rw [Bool.eq_false_iff]
          intro h
          obtain ⟨d, hd, e⟩ := List.any_eq_true.mp h
          obtain ⟨o, ho, rfl⟩ := List.mem_map.mp hd
          rw [eqv_handO, ga o ho] at e; cases e
        obtain ⟨o0, o1, o2, o3, rfl⟩ := four_of g4
        obtain ⟨h0, rfl⟩ := Option.isSome_iff_exists.mp (ga o0 (by simp))
        obtain ⟨h1, rfl⟩ := Option.isSome_iff_exists.mp (ga o1 (by simp))
        obtain ⟨h2, rfl⟩ := Option.isSome_iff_exists.mp (ga o2 (by simp))
        obtain ⟨h3, rfl⟩ := Option.isSome_iff_exists.mp (ga o3 (by simp))
        have p0 := hand_of (hrh h0 (by simp))
        have p1 := hand_of (hrh h1 (by simp))
        have p2 := hand_of (hrh h2 (by simp))
        have p3 := hand_of (hrh h3 (by simp))
        have l0 := p0.1
        have l1 := p1.1
        have l2 := p2.1
        have l3 := p3.1
        show atD [.tuple (h0.map cE), .tuple (h1.map cE), .tuple (h2.map cE), .tuple (h3.map cE)] 0 _
        walk_at "cx"
        refine ⟨small_line (by rw [List.length_map, List.length_map]; omega), small_line (by rw [List.length_append, List.length_map, List.length_map, List.length_map]; omega), small_line (by rw [List.length_append, List.length_append, List.length_map, List.length_map, List.length_map, List.length_map]; omega), h0 ++ h1 ++ h2 ++ h3, by rw [List.map_append, List.map_append, List.map_append]; rfl, by rw [List.length_append, List.length_append, List.length_append]; omega, fun zs nd hm => ?_⟩
        refine ⟨cmul_small (by decide) (by omega), ?_⟩
        have key : (zs.length : Int) = 4 * (R : Int) ↔ (h0 ++ h1 ++ h2 ++ h3).Nodup := by
          rw [← len_nodup nd hm, List.length_append, List.length_append, List.length_append]
          omega
        by_cases gn : (h0 ++ h1 ++ h2 ++ h3).Nodup
        · refine ifF (by rw [decide_eq_true (key.mpr gn)]; rfl) (hR2 _ ?_)
          walk_at "cx"
          rw [eD, if_pos ⟨rfl, ga, by show [h0, h1, h2, h3].flatten.Nodup; rw [flat4]; exact gn⟩] at q
          exact q
        · exact ifT (by rw [decide_eq_false fun e => gn (key.mp e)]; rfl) (qn fun h => gn (by have := h.2.2; rw [← flat4]; exact this))
      · refine ifT ?_ (qn fun h => ga h.2.1)
        obtain ⟨o, ho⟩ := Classical.not_forall.mp ga
        obtain ⟨ho, hn⟩ := Classical.not_imp.mp ho
        exact List.any_eq_true.mpr ⟨handO o, List.mem_map_of_mem ho, by rw [eqv_handO]; cases o with
          | none => rfl
          | some _ => exact absurd rfl hn⟩
    · exact ifT (by rw [decide_eq_false (by omega)]; rfl) (qn fun h => g4 h.1)
end DL
set_option Elab.async false
set_option linter.all false
set_option maxRecDepth 100000
set_option maxHeartbeats 4000000
namespace DL
open PySem PySem.Spec PyProof.Rows L2
local macro_rules | `(tactic| walk_at "dl") => `(tactic| simp only [tV, tVr, tFzV, turnD, DL.wipeE, tK, tOpD, tUnD, tBo, tAndD, tOrD, tNotD, tIfE, DL.tAndV, DL.tOrV, DL.tNotV, tTru, truD, okLen, sSet, sSetL, sExpr, sRet, sIf, sNx, tTupD, dNil, dCons, tLstD, tFzD, tApp, tExtd, tPopAt, sSetIx, tIxO, tChainD, tChain3D, tRevT, caStr, opRepT, opAdd, opSub, opMul, opDiv, opMod, opPow, DL.opI, DL.opI0, opB0, opLt, opLe, opGt, opGtD, opLtD, opGe, opEq, opNe, opIs, opIsN, isNone, opIn, opNotIn, opIx, atD_0, atD_1, atD_2, atD_3, putD_0, unNeg, tCa1, tCa2, tCaL1, caLen, caAbs, caMax2, caMin2, caSum, caMax, caMin, caSumT, caMaxT, caMinT, caAll, caTuple, caList, caInt, tIsi, isInt, isBool, isStr, isTuple, isList, notDict, sAsg, gSet, gTupD, gLstD, gsNil, gsCons, sPar, pNil, pD, pL, setAll, tCallD, aNil, aV, aO, argS, oixs, ndp, putO, tOpL, opCat, opRep, tSlD, slD, tSlL, oNo, oE, tRevD, iLstD, iTupD, iRange1, iRange2, iZipD, iZipM, finO, tTrue, Option.map, eqv_int, eqv_bool, eqv_none, shaped_int, shaped_bool, shaped_none, tLenRange, tSortSet, tSortSetS, tSortDk, tDkGet2, tDkGetD, tDkGet2M, sDkPut, tInDk, tDkGet, iDvK, keyOf, optQ, mDkD, tFzKM, opLeS, tFind, tSplit, tJoinS, caIntS, iStrD, opMulS, tRevS, tSlO, iZipN, tLenSet, tLenSetP, tSortSetP, tCountL, tCountT, tIndexL, tIndexT, DL.tOrT, DL.tAndT, DL.tNotT, tSortRev, caSorted, iEnumL, iEnumT, tDGetV, tDGetD, tDGet2V, dictAt, sDPutV, sSetM, mDt, mDk, pM, tInN, tNotInN, tCallM, amM, amV, tListRg, iDk, iDv, iDi, tLDk, tLDv, tTruDk, mDt1, tFzM, tCall0D, tFldD, tFldR, fldD, fldL, obD, unH_hdl, obGet, setOb, putOD, sFldD, sFldL, tMethO, tAppF, tPopF, sRaise, keyB_2, keyB_3, keyB_4, decide_eq_true_eq, and_self, List.cons_append, List.nil_append, List.replicate, List.getElem?_cons_zero, List.getElem?_cons_succ, List.set_cons_zero, List.set_cons_succ, List.length_cons, List.length_nil, true_and, and_true, if_true, if_false, Bool.false_eq_true, List.contains_nil, Bool.not_false, Bool.not_true, Bool.and_self, Bool.and_true, Bool.true_and, decide_true, decide_false, beq_self_eq_true])
def tb_law_spoilt (sp_law_draw : SpD) (sp_law_pick : SpD) : TSd :=
  sSeq (sPar [4, 5] (pD (tCallD sp_law_draw (aV (tV 0) (aO 1 (aV (tOpD opAdd (tCa1 caLen (tV 2)) (tK (.int 1))) (aNil))))) (pD (tCallD sp_law_draw (aV (tV 0) (aO 1 (aV (tK (.int 6)) (aNil))))) (pNil))))
      (sSeq (sSet 6 (tCallD sp_law_pick (aV (tV 0) (aO 1 (aV (tV 3) (aNil))))))
      (sSeq (sIf (tBo (tOpD opEq (tV 5) (tK (.int 0)))) (sRet (tOpD opAdd (tSlD (tV 2) (oNo) (oE (tV 4))) (tSlD (tV 2) (oE (tOpD opAdd (tV 4) (tK (.int 1)))) (oNo)))) (sNx))
      (sSeq (sIf (tBo (tOpD opEq (tV 5) (tK (.int 1)))) (sRet (tOpD opAdd (tOpD opAdd (tSlD (tV 2) (oNo) (oE (tV 4))) (tV 6)) (tSlD (tV 2) (oE (tV 4)) (oNo)))) (sNx))
      (sSeq (sIf (tBo (tOpD opEq (tV 5) (tK (.int 2)))) (sSeq (sSetL 7 (tSplit (tV 2) (tK (.str " "))))
      (sSeq (sSet 8 (tCallD sp_law_draw (aV (tV 0) (aO 1 (aV (tCa1 caLen (tVr 7)) (aNil))))))
      (sSeq (sSetSlO 7 (tV 8) (tOpD opAdd (tV 8) (tK (.int 1))) (tCallD sp_law_pick (aV (tV 0) (aO 1 (aV (tFzD (tLstD (dCons (tFzD (tLstD (dNil))) (dCons (tFzD (tOpL opRep (tFzD (tSlO 7 (oE (tV 8)) (oE (tOpD opAdd (tV 8) (tK (.int 1)))))) (tK (.int 2)))) (dCons (tFzD (tLstD (dCons (tV 6) (dNil)))) (dCons (tFzD (tLstD (dCons (tV 6) (dCons (tIxO 7 (tV 8)) (dNil))))) (dNil))))))) (aNil))))))
      (sRet (tJoinS (tK (.str " ")) (tVr 7)))))) (sNx))
      (sSeq (sIf (tBo (tOpD opEq (tV 5) (tK (.int 3)))) (sSeq (sSetL 7 (tSplit (tV 2) (tK (.str " "))))
      (sSeq (sSet 8 (tCallD sp_law_draw (aV (tV 0) (aO 1 (aV (tCa1 caLen (tVr 7)) (aNil))))))
      (sRet (tJoinS (tK (.str " ")) (tFzD (tOpL opCat (tFzD (tSlO 7 (oNo) (oE (tV 8)))) (tFzD (tRevD (tFzD (tSlO 7 (oE (tV 8)) (oNo))))))))))) (sNx))
      (sRet (tOpD opAdd (tOpD opAdd (tSlD (tV 2) (oNo) (oE (tV 4))) (tV 6)) (tSlD (tV 2) (oE (tOpD opAdd (tV 4) (tK (.int 1)))) (oNo)))))))))
local macro_rules | `(tactic| walk_at "sp") => `(tactic| simp only [tSlO, tSplit, tJoinS, sSetSlO, slPut, tV, tVr, tFzV, turnD, DL.wipeE, tK, tOpD, tUnD, tBo, tAndD, tOrD, tNotD, tIfE, DL.tAndV, DL.tOrV, DL.tNotV, tTru, truD, okLen, sSet, sSetL, sExpr, sRet, sIf, sNx, tTupD, dNil, dCons, tLstD, tFzD, tApp, tExtd, tPopAt, sSetIx, tIxO, tChainD, tChain3D, tRevT, caStr, opRepT, opAdd, opSub, opMul, opDiv, opMod, opPow, DL.opI, DL.opI0, opB0, opLt, opLe, opGt, opGtD, opLtD, opGe, opEq, opNe, opIs, opIsN, isNone, opIn, opNotIn, opIx, atD_0, atD_1, atD_2, atD_3, putD_0, unNeg, tCa1, tCa2, tCaL1, caLen, caAbs, caMax2, caMin2, caSum, caMax, caMin, caSumT, caMaxT, caMinT, caAll, caTuple, caList, caInt, tIsi, isInt, isBool, isStr, isTuple, isList, notDict, sAsg, gSet, gTupD, gLstD, gsNil, gsCons, sPar, pNil, pD, pL, setAll, tCallD, aNil, aV, aO, argS, oixs, ndp, putO, tOpL, opCat, opRep, tSlD, slD, tSlL, oNo, oE, tRevD, iLstD, iTupD, iRange1, iRange2, iZipD, iZipM, finO, tTrue, Option.map, eqv_int, eqv_bool, eqv_none, shaped_int, shaped_bool, shaped_none, tLenRange, tSortSet, tSortSetS, tSortDk, tDkGet2, tDkGetD, tDkGet2M, sDkPut, tInDk, tDkGet, iDvK, keyOf, optQ, mDkD, tFzKM, opLeS, tFind, tSplit, tJoinS, caIntS, iStrD, opMulS, tRevS, tSlO, iZipN, tLenSet, tLenSetP, tSortSetP, tCountL, tCountT, tIndexL, tIndexT, DL.tOrT, DL.tAndT, DL.tNotT, tSortRev, caSorted, iEnumL, iEnumT, tDGetV, tDGetD, tDGet2V, dictAt, sDPutV, sSetM, mDt, mDk, pM, tInN, tNotInN, tCallM, amM, amV, tListRg, iDk, iDv, iDi, tLDk, tLDv, tTruDk, mDt1, tFzM, tCall0D, tFldD, tFldR, fldD, fldL, obD, unH_hdl, obGet, setOb, putOD, sFldD, sFldL, tMethO, tAppF, tPopF, sRaise, keyB_2, keyB_3, keyB_4, decide_eq_true_eq, and_self, List.cons_append, List.nil_append, List.replicate, List.getElem?_cons_zero, List.getElem?_cons_succ, List.set_cons_zero, List.set_cons_succ, List.length_cons, List.length_nil, true_and, and_true, if_true, if_false, Bool.false_eq_true, List.contains_nil, Bool.not_false, Bool.not_true, Bool.and_self, Bool.and_true, Bool.true_and, decide_true, decide_false, beq_self_eq_true])
/-- texts after one change: small, of true signs -/
def okT (B : Nat) (x : Str) : Prop := chOk x ∧ x.length ≤ B
def spSpoilt : SpD := fun ss Q => ∃ (ns : List Int) (t : List D) (x : Str) (gs : List Str) (b : Nat), ss = [.d (.list (ns.map PyData.int)), .ol t, .d (.str x), .d (.list (gs.map PyData.str))] ∧ ns.length ≤ 63 ∧ TownOk t b ∧ b ≤ 9000000 ∧ okT 400 x ∧ gs ≠ [] ∧ (∀ g ∈ gs, okT 9 g) ∧
  ∀ y t', okT 900 y → RunLe (cntG (TL.tl x) + 9) (TL.tl y) → TownOk t' (b + 10) → Q (.str y) [.ol t']
theorem sh_law_spoilt : ∀ ss QD, spSpoilt ss QD → ss.length = 4 ∧ mpos 0 ss = [1] := by rintro ss QD ⟨ns, t, x, gs, b, rfl, _⟩; exact ⟨rfl, rfl⟩
theorem cut_pre {x : Str} {i : Int} (h : 0 ≤ i) : TL.tl (cutS x none (some i)) = (TL.tl x).take i.toNat := by
  show ((TL.tl x).drop 0).take (HT.sIx x.length x.length (some i) - 0) = _
  rw [sIx_int h, List.drop_zero, Nat.sub_zero, TL.len_tl]
  rcases Nat.le_total i.toNat (TL.tl x).length with k | k
  · rw [Nat.min_eq_left k]
  · rw [Nat.min_eq_right k, List.take_of_length_le k, List.take_of_length_le (Nat.le_refl _)]
theorem cut_suf {x : Str} {i : Int} (h : 0 ≤ i) : TL.tl (cutS x (some i) none) = (TL.tl x).drop i.toNat := by
  show ((TL.tl x).drop (HT.sIx x.length 0 (some i))).take (x.length - HT.sIx x.length 0 (some i)) = _
  rw [sIx_int h, TL.len_tl, List.take_of_length_le (by rw [List.length_drop]; exact Nat.le_refl _)]
  rcases Nat.le_total i.toNat (TL.tl x).length with k | k
  · rw [Nat.min_eq_left k]
  · rw [Nat.min_eq_right k, List.drop_eq_nil_of_le k, List.drop_eq_nil_of_le (Nat.le_refl _)]
theorem cntG_app (a b : List Nat) : cntG (a ++ b) = cntG a + cntG b := by unfold cntG; rw [List.filter_append, List.length_append]
theorem cntG_len (a : List Nat) : cntG a ≤ a.length := List.length_filter_le _ _
theorem cntG_cut (l : List Nat) {i j : Nat} (h : i ≤ j) : cntG (l.take i) + cntG (l.drop j) ≤ cntG l := by
  have e : cntG l = cntG (l.take i) + cntG (l.drop i) := by
    conv => lhs; rw [← List.take_append_drop i l]
    exact cntG_app _ _
  have h2 : cntG (l.drop j) ≤ cntG (l.drop i) := by
    have : l.drop j = (l.drop i).drop (j - i) := by rw [List.drop_drop]; congr 1; omega
    rw [this]
    exact ((List.drop_sublist _ _).filter _).length_le
  omega
theorem run_pieces {x g : Str} {i : Int} (h : 0 ≤ i) {j : Int} (hj : i ≤ j) (hg : g.length ≤ 9) : RunLe (cntG (TL.tl x) + 9) (TL.tl (cutS x none (some i) ++ g ++ cutS x (some j) none)) := by
  refine run_cnt ?_
  rw [TL.tl_append, TL.tl_append, cut_pre h, cut_suf (by omega), cntG_app, cntG_app]
  have h1 := cntG_cut (TL.tl x) (i := i.toNat) (j := j.toNat) (by omega)
  have h2 := cntG_len (TL.tl g)
  rw [← TL.len_tl] at h2
  omega
theorem run_pieces0 {x : Str} {i : Int} (h : 0 ≤ i) {j : Int} (hj : i ≤ j) : RunLe (cntG (TL.tl x) + 9) (TL.tl (cutS x none (some i) ++ cutS x (some j) none)) := by
  refine run_cnt ?_
  rw [TL.tl_append, cut_pre h, cut_suf (by omega), cntG_app]
  have h1 := cntG_cut (TL.tl x) (i := i.toNat) (j := j.toNat) (by omega)
  omega
theorem run_words {B : Nat} {ps : List Str} (h : ∀ p ∈ ps, RunLe B (TL.tl p)) : RunLe B (TL.tl (Txt.join " " ps)) := by
  rw [TL.join_eq, TL.tl_join]
  exact run_join fun p hp => by
    obtain ⟨w, hw, rfl⟩ := List.mem_map.mp hp
    exact h w hw
theorem run_split {x y p : Str} (h : p ∈ Txt.split x y) : RunLe (cntG (TL.tl x) + 9) (TL.tl p) := run_mono (run_sub (run_cnt (Nat.le_refl _)) (split_infix h)) (by omega)
theorem join_ok {ps : List Str} (h : ∀ p ∈ ps, chOk p) (hs : (ps.map (·.length)).sum + ps.length ≤ 900) : okT 900 (Txt.join " " ps) := by
  refine ⟨chOk_join ((strOk_iff _).mp (by decide +kernel)) h, Nat.le_trans (join_len _ _) ?_⟩
  rw [show (" " : Str).length = 1 from by decide]; omega
theorem sum_app (a b : List Nat) : (a ++ b).sum = a.sum + b.sum := by
  induction a with
  | nil => simp
  | cons x l ih => rw [List.cons_append, List.sum_cons, List.sum_cons, ih]; omega
theorem sum_rev (a : List Nat) : a.reverse.sum = a.sum := by
  induction a with
  | nil => rfl
  | cons x l ih => rw [List.reverse_cons, sum_app, ih, List.sum_cons, List.sum_cons, List.sum_nil]; omega
theorem rd_law_spoilt : ∀ ss QD, spSpoilt ss QD → tb_law_spoilt spDraw spPick { nx := fun E' => finO [1] E' (QD .none), rt := fun d E' => finO [1] E' (QD d) } (ss ++ List.replicate 5 .un) := by
  rintro ss QD ⟨ns, t, x, gs, b, rfl, hn, ht, hb, hx, hg0, hg, q⟩
  unfold tb_law_spoilt
  refine seq_step fun R hR => ?_
  walk_at "dl"
  refine ⟨small_line (by have := hx.2; omega), ns, t, _, b, rfl, by omega, hn, ht, by omega, fun at_ t1 a0 a1 ht1 => ?_⟩
  walk_at "dl"
  refine ⟨ns, t1, _, b + 2, rfl, by omega, hn, ht1, by omega, fun way t2 w0 w1 ht2 => ?_⟩
  walk_at "dl"
  refine hR _ ?_
  clear hR
  refine seq_step fun R hR => ?_
  walk_at "dl"
  refine ⟨ns, t2, _, gs.map PyData.str, b + 4, rfl, .inl rfl, fun e => hg0 (List.map_eq_nil_iff.mp e), hn, ht2, by omega, fun sg t3 hsg ht3 => ?_⟩
  obtain ⟨g, hgm, rfl⟩ := List.mem_map.mp hsg
  have hgo := hg g hgm
  walk_at "dl"
  refine hR _ ?_
  clear hR
  refine seq_step fun R hR => ?_
  walk_at "dl"
  have hxl := hx.2
  have cl : ∀ lo hi, (cutS x lo hi).length ≤ 400 := fun lo hi => Nat.le_trans (cutS_length x lo hi) hxl
  have c1 := cl none (some at_)
  have c2 := cl (some (at_ + 1)) none
  have c3 := cl (some at_) none
  have k1 := chOk_cut hx.1 none (some at_)
  have k2 := chOk_cut hx.1 (some (at_ + 1)) none
  have k3 := chOk_cut hx.1 (some at_) none
  by_cases g0 : way = 0
  · rw [if_pos g0]
    refine ⟨small_line (by omega), small_line (by omega), small_line (by omega), q _ _ ⟨chOk_app k1 k2, ?_⟩ (run_pieces0 a0 (by omega)) (ht3.mono (by omega))⟩
    rw [len_app]; omega
  rw [if_neg g0]
  refine hR _ ?_
  clear hR
  refine seq_step fun R hR => ?_
  walk_at "dl"
  by_cases g1 : way = 1
  · rw [if_pos g1]
    refine ⟨small_line (by omega), small_line (by have := hgo.2; omega), small_line (by omega), small_line (by have := hgo.2; rw [len_app]; omega), q _ _ ⟨chOk_app (chOk_app k1 hgo.1) k3, ?_⟩ (run_pieces a0 (Int.le_refl _) hgo.2) (ht3.mono (by omega))⟩
    have := hgo.2; rw [len_app, len_app]; omega
  rw [if_neg g1]
  refine hR _ ?_
  clear hR
  have hws : (Txt.split x " ").length ≤ 402 := Nat.le_trans (split_le x " ") (by omega)
  have hw1 : 1 ≤ (Txt.split x " ").length := split_pos x " "
  have hww : ((Txt.split x " ").map (·.length)).sum + (Txt.split x " ").length ≤ x.length + 1 := split_weight x " " (by decide)
  refine seq_step fun R hR => ?_
  walk_at "sp"
  by_cases g2 : way = 2
  · rw [if_pos g2]
    refine seq_step fun R2 hR2 => ?_
    walk_at "sp"
    refine ⟨by decide, small_line (by omega), hR2 _ ?_⟩
    clear hR2
    refine seq_step fun R2 hR2 => ?_
    walk_at "sp"
    refine ⟨ns, t3, _, b + 6, rfl, by rw [List.length_map]; omega, hn, ht3, by omega, fun sp t4 s0 s1 ht4 => ?_⟩
    rw [List.length_map] at s1
    walk_at "sp"
    refine hR2 _ ?_
    clear hR2
    obtain ⟨i, rfl⟩ : ∃ i : Nat, sp = (i : Int) := ⟨sp.toNat, by omega⟩
    refine seq_step fun R2 hR2 => ?_
    walk_at "sp"
    have hco : ∀ p ∈ Txt.split x " ", chOk p := chOk_split hx.1
    have hru : ∀ p ∈ Txt.split x " ", RunLe (cntG (TL.tl x) + 9) (TL.tl p) := fun p hp => run_split hp
    have hi : i < (Txt.split x " ").length := by omega
    revert hww hws hw1 hco hru hi
    rw [show Str.ofString " " = " " from rfl]
    generalize Txt.split x " " = ws
    intro hww hws hw1 hco hru hi
    obtain ⟨w, hw⟩ : ∃ w, ws[i]? = some w := ⟨ws[i], List.getElem?_eq_getElem hi⟩
    have hsp : ws = ws.take i ++ w :: ws.drop (i + 1) := by
      have e := List.drop_eq_getElem_cons hi
      rw [List.getElem?_eq_getElem hi] at hw
      rw [Option.some.inj hw] at e
      rw [← e, List.take_append_drop]
    have htl : (ws.take i).length = i := by rw [List.length_take]; omega
    have hdl : (ws.drop (i + 1)).length = ws.length - (i + 1) := List.length_drop
    have hsum : (ws.map (·.length)).sum = ((ws.take i).map (·.length)).sum + (w.length + ((ws.drop (i + 1)).map (·.length)).sum) := by
      conv => lhs; rw [hsp]
      rw [List.map_append, sum_app, List.map_cons, List.sum_cons]
    have ec : cutD (ws.map PyData.str) (some (i : Int)) (some ((i : Int) + 1)) = [.str w] := by
      rw [cut_mid (by omega) (by omega), show ((i : Int) + 1).toNat = i + 1 by omega, Int.toNat_natCast, ← List.map_take, ← List.map_drop]
      have : (ws.take (i + 1)).drop i = [w] := by
        rw [List.take_succ, hw]
        show (ws.take i ++ [w]).drop i = [w]
        rw [List.drop_append_of_le_length (by omega), List.drop_eq_nil_of_le (by omega)]; rfl
      rw [this]; rfl
    have hwo : chOk w := hco w (List.mem_of_getElem? hw)
    have hfin : ∀ ys : List Str, (∀ y ∈ ys, chOk y) → (ys.map (·.length)).sum + ys.length ≤ 2 * w.length + 12 → okT 900 (Txt.join " " (ws.take i ++ ys ++ ws.drop (i + 1))) := fun ys h1 h2 => by
      refine join_ok (fun p hp => ?_) ?_
      · rcases List.mem_append.mp hp with hp | hp
        · rcases List.mem_append.mp hp with hp | hp
          · exact hco p (List.mem_of_mem_take hp)
          · exact h1 p hp
        · exact hco p (List.mem_of_mem_drop hp)
      · rw [List.map_append, List.map_append, sum_app, sum_app, List.length_append, List.length_append, htl, hdl]
        omega
    have hat : atI (ws.map PyData.str) (i : Int) = some (.str w) := atI_at (by omega) (by rw [Int.toNat_natCast, List.getElem?_map, hw]; rfl)
    rw [ec]
    refine ⟨small_line (by omega), ⟨by decide, by decide, small_line (by show 1 * 2 ≤ _; omega)⟩, small_line (by decide), ?_⟩
    unfold atD
    rw [hat]
    refine ⟨small_line (by decide), small_line (by decide), ns, t4, _, _, b + 8, rfl, .inl rfl, by simp, hn, ht4, by omega, fun r t5 hr ht5 => ?_⟩
    obtain ⟨ys, rfl, hy1, hy2⟩ : ∃ ys : List Str, r = .list (ys.map PyData.str) ∧ (∀ y ∈ ys, chOk y ∧ RunLe (cntG (TL.tl x) + 9) (TL.tl y)) ∧ (ys.map (·.length)).sum + ys.length ≤ 2 * w.length + 12 := by
      have hwr := hru w (List.mem_of_getElem? hw)
      have hgr : RunLe (cntG (TL.tl x) + 9) (TL.tl g) := run_len (by rw [← TL.len_tl]; have := hgo.2; omega)
      have hgl := hgo.2
      simp only [List.mem_cons, List.not_mem_nil, or_false] at hr
      rcases hr with rfl | rfl | rfl | rfl
      · exact ⟨[], rfl, (fun y (h : y ∈ ([] : List Str)) => nomatch h), by simp⟩
      · exact ⟨[w, w], rfl, fun y hy => by
          simp only [List.mem_cons, List.not_mem_nil, or_false, or_self] at hy; rw [hy]; exact ⟨hwo, hwr⟩, by simp; omega⟩
      · exact ⟨[g], rfl, fun y hy => by rw [List.mem_singleton.mp hy]; exact ⟨hgo.1, hgr⟩, by simp; omega⟩
      · exact ⟨[g, w], rfl, fun y hy => by
          simp only [List.mem_cons, List.not_mem_nil, or_false] at hy
          rcases hy with rfl | rfl
          · exact ⟨hgo.1, hgr⟩
          · exact ⟨hwo, hwr⟩, by simp; omega⟩
    walk_at "sp"
    have hyl : ys.length ≤ 2 * 400 + 12 := by
      have hwl : w.length ≤ 400 := by
        have : w.length ≤ (ws.map (·.length)).sum := by rw [hsum]; omega
        omega
      omega
    refine ⟨⟨by omega, by omega, by rw [List.length_map]; omega, small_line (by rw [List.length_map, List.length_map]; omega)⟩, hR2 _ ?_⟩
    clear hR2
    walk_at "sp"
    have e3 : (ws.map PyData.str).take ((i : Int)).toNat ++ ys.map PyData.str ++ (ws.map PyData.str).drop ((i : Int) + 1).toNat = (ws.take i ++ ys ++ ws.drop (i + 1)).map PyData.str := by
      rw [Int.toNat_natCast, show ((i : Int) + 1).toNat = i + 1 by omega, List.map_append, List.map_append, List.map_take, List.map_drop]
    refine ⟨_, e3, ?_, q _ _ (hfin ys (fun y hy => (hy1 y hy).1) hy2) (run_words fun p hp => ?_) (ht5.mono (by omega))⟩
    rotate_left
    · rcases List.mem_append.mp hp with hp | hp
      · rcases List.mem_append.mp hp with hp | hp
        · exact hru p (List.mem_of_mem_take hp)
        · exact (hy1 p hp).2
      · exact hru p (List.mem_of_mem_drop hp)
    rw [show (Str.ofString " ").length = 1 from by decide, List.map_append, List.map_append, sum_app, sum_app, List.length_append, List.length_append, htl, hdl]
    have hwl : w.length ≤ 400 := by
      have : w.length ≤ (ws.map (·.length)).sum := by rw [hsum]; omega
      omega
    omega
  rw [if_neg g2]
  refine hR _ ?_
  clear hR
  refine seq_step fun R hR => ?_
  walk_at "sp"
  by_cases g3 : way = 3
  · rw [if_pos g3]
    refine seq_step fun R2 hR2 => ?_
    walk_at "sp"
    refine ⟨by decide, small_line (by omega), hR2 _ ?_⟩
    clear hR2
    refine seq_step fun R2 hR2 => ?_
    walk_at "sp"
    refine ⟨ns, t3, _, b + 6, rfl, by rw [List.length_map]; omega, hn, ht3, by omega, fun sp t4 s0 s1 ht4 => ?_⟩
    rw [List.length_map] at s1
    walk_at "sp"
    refine hR2 _ ?_
    clear hR2
    obtain ⟨i, rfl⟩ : ∃ i : Nat, sp = (i : Int) := ⟨sp.toNat, by omega⟩
    walk_at "sp"
    have hco : ∀ p ∈ Txt.split x " ", chOk p := chOk_split hx.1
    have hru : ∀ p ∈ Txt.split x " ", RunLe (cntG (TL.tl x) + 9) (TL.tl p) := fun p hp => run_split hp
    have hi : i < (Txt.split x " ").length := by omega
    revert hww hws hw1 hco hru hi
    rw [show Str.ofString " " = " " from rfl]
    generalize Txt.split x " " = ws
    intro hww hws hw1 hco hru hi
    rw [cut_to (by omega), cut_from (by omega), Int.toNat_natCast]
    have e : (ws.map PyData.str).take i ++ ((ws.map PyData.str).drop i).reverse = (ws.take i ++ (ws.drop i).reverse).map PyData.str := by
      rw [List.map_append, List.map_reverse, List.map_take, List.map_drop]
    have hs : ((ws.take i ++ (ws.drop i).reverse).map (·.length)).sum = (ws.map (·.length)).sum := by
      conv => rhs; rw [← List.take_append_drop i ws]
      rw [List.map_append, List.map_append, sum_app, sum_app, List.map_reverse, sum_rev]
    have hl : (ws.take i ++ (ws.drop i).reverse).length = ws.length := by
      rw [List.length_append, List.length_reverse, List.length_take, List.length_drop]; omega
    refine ⟨small_line (by rw [List.length_reverse, ← List.map_take, ← List.map_drop, List.length_map, List.length_map, List.length_take, List.length_drop]; omega), _, e, ?_, q _ _ (join_ok (fun p hp => ?_) (by rw [hs, hl]; omega)) (run_words fun p hp => ?_) (ht4.mono (by omega))⟩
    rotate_right
    · rcases List.mem_append.mp hp with hp | hp
      · exact hru p (List.mem_of_mem_take hp)
      · exact hru p (List.mem_of_mem_drop (List.mem_reverse.mp hp))
    · rw [hs, hl, show (" " : Str).length = 1 from by decide]; omega
    · rcases List.mem_append.mp hp with hp | hp
      · exact hco p (List.mem_of_mem_take hp)
      · exact hco p (List.mem_of_mem_drop (List.mem_reverse.mp hp))
  rw [if_neg g3]
  refine hR _ ?_
  clear hR
  walk_at "sp"
  refine ⟨small_line (by omega), small_line (by have := hgo.2; omega), small_line (by omega), small_line (by have := hgo.2; rw [len_app]; omega), q _ _ ⟨chOk_app (chOk_app k1 hgo.1) k2, ?_⟩ (run_pieces a0 (by omega) hgo.2) (ht3.mono (by omega))⟩
  have := hgo.2; rw [len_app, len_app]; omega
end DL
set_option Elab.async false
set_option linter.all false
set_option maxRecDepth 100000
set_option maxHeartbeats 4000000
/-! FnHTxW: dealt hands; what their texts come to (plain). -/
namespace DL
open PySem PySem.Spec PyProof.Rows L2
theorem allC_okC {R : Nat} {c : Card} (h : c ∈ allC R) : okC R c := by
  unfold allC at h
  obtain ⟨s, hs, h⟩ := List.mem_flatMap.mp h
  obtain ⟨r, hr, rfl⟩ := List.mem_map.mp h
  have h1 := List.mem_range.mp hs
  have h2 := List.mem_range.mp hr
  refine ⟨?_, ?_, ?_, ?_⟩ <;> dsimp only <;> omega
theorem deal_hands {R : Nat} (hG : goodR R) {h0 h1 h2 h3 : List Card} (d : Deal R h0 h1 h2 h3) : (∀ h ∈ [h0, h1, h2, h3], HandOk R h) ∧ [h0, h1, h2, h3].flatten.Nodup := by
  have nd : (h0 ++ h1 ++ h2 ++ h3).Nodup := d.all.nodup_iff.mpr (allC_ok hG).1
  have hm : ∀ c ∈ h0 ++ h1 ++ h2 ++ h3, okC R c := fun c hc => allC_okC (d.all.mem_iff.mp hc)
  have go : ∀ h : List Card, h.length = R → h.Pairwise (fun a b => le2 a b = true) → h.Nodup → (∀ c ∈ h, c ∈ h0 ++ h1 ++ h2 ++ h3) → HandOk R h := fun h hl hu hn hs =>
    ⟨hl, fun c hc => hm c (hs c hc), (hu.and hn).imp fun {a b} k => by
      obtain ⟨k1, k2⟩ := k
      have k1 := of_decide_eq_true k1
      unfold ltC
      rcases k1 with k | ⟨k, k'⟩
      · exact .inl k
      · refine .inr ⟨k, ?_⟩
        rcases Int.lt_or_eq_of_le k' with z | z
        · exact z
        · exact absurd (Prod.ext k z) k2⟩
  have n3 := List.nodup_append.mp nd
  have n2 := List.nodup_append.mp n3.1
  have n1 := List.nodup_append.mp n2.1
  refine ⟨fun h hh => ?_, by rw [flat4]; exact nd⟩
  simp only [List.mem_cons, List.not_mem_nil, or_false] at hh
  rcases hh with rfl | rfl | rfl | rfl
  · exact go _ d.l0 d.u0 n1.1 fun c hc => by simp [hc]
  · exact go _ d.l1 d.u1 n1.2.1 fun c hc => by simp [hc]
  · exact go _ d.l2 d.u2 n2.2.1 fun c hc => by simp [hc]
  · exact go _ d.l3 d.u3 n3.2.1 fun c hc => by simp [hc]
theorem cntG_joinL {S : List Nat} (hS : cntG S = 0) : ∀ ps : List (List Nat), cntG (TL.joinL S ps) = (ps.map cntG).sum
  | [] => rfl
  | [p] => by simp [TL.joinL]
  | p :: q :: r => by
    show cntG (p ++ (S ++ TL.joinL S (q :: r))) = _
    have e : ((p :: q :: r).map cntG).sum = cntG p + ((q :: r).map cntG).sum := by rw [List.map_cons, List.sum_cons]
    rw [cntG_app, cntG_app, hS, cntG_joinL hS (q :: r), e]; omega
theorem cnt_hand {R : Nat} (hR : R ≤ 13) {h : List Card} (ho : HandOk R h) : cntG (TL.tl (handT R h)) ≤ R := by
  unfold handT
  rw [TL.join_eq, TL.tl_join, cntG_joinL (by decide), List.map_map, List.map_map]
  refine Nat.le_trans ?_ (Nat.le_of_eq (four_len hR ho))
  have : ∀ l : List (List Nat), (l.map (cntG ∘ TL.tl ∘ mkS)).sum ≤ (l.map List.length).sum := by
    intro l
    induction l with
    | nil => exact Nat.le_refl _
    | cons a l ih =>
      rw [List.map_cons, List.map_cons, List.sum_cons, List.sum_cons]
      have := cntG_len a
      show cntG a + _ ≤ _
      omega
  exact this _
theorem cnt_deal {R : Nat} (hR : R ≤ 13) {hs : List (List Card)} (ho : ∀ h ∈ hs, HandOk R h) (h4 : hs.length = 4) : cntG (TL.tl (dealT R hs)) ≤ 52 := by
  unfold dealT
  rw [TL.join_eq, TL.tl_join, cntG_joinL (by decide), List.map_map, List.map_map]
  have := sum_le_mul (f := cntG ∘ TL.tl ∘ handT R) (l := hs) (B := 13) fun h hh => Nat.le_trans (cnt_hand hR (ho h hh)) hR
  rw [h4] at this
  exact this
/-- texts that may be read -/
def okU (x : Str) : Prop := chOk x ∧ x.length ≤ 900 ∧ RunLe 63 (TL.tl x)
theorem okU_small {x : Str} (h : chOk x) (hl : x.length ≤ 63) : okU x := ⟨h, by omega, run_len (by rw [← TL.len_tl]; exact hl)⟩
theorem okU_words {ps : List Str} (h : ∀ p ∈ ps, chOk p ∧ p.length ≤ 17) (hl : ps.length ≤ 10) : okU (Txt.join " " ps) ∧ (ps.map (·.length)).sum + ps.length * (" " : Str).length ≤ 16777216 := by
  have hs := sum_le_mul (f := fun x : Str => x.length) (l := ps) (B := 17) fun p hp => (h p hp).2
  have l1 : (" " : Str).length = 1 := by decide
  refine ⟨⟨chOk_join ((strOk_iff _).mp (by decide +kernel)) fun p hp => (h p hp).1, Nat.le_trans (join_len _ _) (by rw [l1]; omega), run_words fun p hp => run_len (by rw [← TL.len_tl]; have := (h p hp).2; omega)⟩, by rw [l1]; omega⟩
theorem chOk_rev {x : Str} (h : chOk x) : chOk (revS x) := fun c hc => h c (by
  have hc : c ∈ x.cps.toList.reverse := hc
  exact List.mem_reverse.mp hc)
theorem len_rev (x : Str) : (revS x).length = x.length := by
  rw [TL.len_tl, TL.len_tl]; show x.cps.toList.reverse.length = _; rw [List.length_reverse]
theorem repA : ∀ R ∈ ([1, 2, 3, 4, 5, 9, 13] : List Nat), PyData.strOk (repS "A..." (R : Int)) = true ∧ (repS "A..." (R : Int)).length ≤ 52 := by decide +kernel
/-! ### alike -/
theorem same_hand (n : Nat) {h : List Card} (hl : h.length ≤ 1000) : sameOk (n + 2) (handD h) = true := by
  show ((h.map cE).all (sameOk (n + 1)) && decide ((h.map cE).length ≤ 10000000)) = true
  rw [List.length_map, decide_eq_true (by omega), Bool.and_true]
  refine List.all_eq_true.mpr fun d hd => ?_
  obtain ⟨c, _, rfl⟩ := List.mem_map.mp hd
  show ([PyData.int c.1, .int c.2].all (sameOk n) && decide (2 ≤ 10000000)) = true
  cases n <;> simp [sameOk]
theorem same_hands {hs : List (List Card)} (h : ∀ x ∈ hs, x.length ≤ 1000) (hl : hs.length ≤ 1000) : sameOk 3 (handsD hs) = true := by
  show ((hs.map handD).all (sameOk 2) && decide ((hs.map handD).length ≤ 10000000)) = true
  rw [List.length_map, decide_eq_true (by omega), Bool.and_true]
  refine List.all_eq_true.mpr fun d hd => ?_
  obtain ⟨x, hx, rfl⟩ := List.mem_map.mp hd
  exact same_hand 0 (h x hx)
end DL
set_option Elab.async false
set_option linter.all false
set_option maxRecDepth 100000
set_option maxHeartbeats 4000000
namespace DL
open PySem PySem.Spec PyProof.Rows L2
local macro_rules | `(tactic| walk_at "dl") => `(tactic| simp only [tV, tVr, tFzV, turnD, DL.wipeE, tK, tOpD, tUnD, tBo, tAndD, tOrD, tNotD, tIfE, DL.tAndV, DL.tOrV, DL.tNotV, tTru, truD, okLen, sSet, sSetL, sExpr, sRet, sIf, sNx, tTupD, dNil, dCons, tLstD, tFzD, tApp, tExtd, tPopAt, sSetIx, tIxO, tChainD, tChain3D, tRevT, caStr, opRepT, opAdd, opSub, opMul, opDiv, opMod, opPow, DL.opI, DL.opI0, opB0, opLt, opLe, opGt, opGtD, opLtD, opGe, opEq, opNe, opIs, opIsN, isNone, opIn, opNotIn, opIx, atD_0, atD_1, atD_2, atD_3, putD_0, unNeg, tCa1, tCa2, tCaL1, caLen, caAbs, caMax2, caMin2, caSum, caMax, caMin, caSumT, caMaxT, caMinT, caAll, caTuple, caList, caInt, tIsi, isInt, isBool, isStr, isTuple, isList, notDict, sAsg, gSet, gTupD, gLstD, gsNil, gsCons, sPar, pNil, pD, pL, setAll, tCallD, aNil, aV, aO, argS, oixs, ndp, putO, tOpL, opCat, opRep, tSlD, slD, tSlL, oNo, oE, tRevD, iLstD, iTupD, iRange1, iRange2, iZipD, iZipM, finO, tTrue, Option.map, eqv_int, eqv_bool, eqv_none, shaped_int, shaped_bool, shaped_none, tLenRange, tSortSet, tSortSetS, tSortDk, tDkGet2, tDkGetD, tDkGet2M, sDkPut, tInDk, tDkGet, iDvK, keyOf, optQ, mDkD, tFzKM, opLeS, tFind, tSplit, tJoinS, caIntS, iStrD, opMulS, tRevS, tSlO, iZipN, tLenSet, tLenSetP, tSortSetP, tCountL, tCountT, tIndexL, tIndexT, DL.tOrT, DL.tAndT, DL.tNotT, tSortRev, caSorted, iEnumL, iEnumT, tDGetV, tDGetD, tDGet2V, dictAt, sDPutV, sSetM, mDt, mDk, pM, tInN, tNotInN, tCallM, amM, amV, tListRg, iDk, iDv, iDi, tLDk, tLDv, tTruDk, mDt1, tFzM, tCall0D, tFldD, tFldR, fldD, fldL, obD, unH_hdl, obGet, setOb, putOD, sFldD, sFldL, tMethO, tAppF, tPopF, sRaise, keyB_2, keyB_3, keyB_4, decide_eq_true_eq, and_self, List.cons_append, List.nil_append, List.replicate, List.getElem?_cons_zero, List.getElem?_cons_succ, List.set_cons_zero, List.set_cons_succ, List.length_cons, List.length_nil, true_and, and_true, if_true, if_false, Bool.false_eq_true, List.contains_nil, Bool.not_false, Bool.not_true, Bool.and_self, Bool.and_true, Bool.true_and, decide_true, decide_false, beq_self_eq_true])
def tb_law_k32 (sp_law_read_deal : SpD) (sp_law_or_refused : SpD) (sp_law_told_deal : SpD) (sp_law_same : SpD) (sp_law_spoilt : SpD) (sp_deal_text : SpD) (sp_law_hand_text : SpD) (sp_law_read_hand : SpD) (sp_law_told_hand : SpD) (sp_hand_text : SpD) (sp_law_card_text : SpD) (sp_card_text : SpD) (sp_law_draw : SpD) (sp_law_drawn_deal : SpD) (sp_law_pick : SpD) : TSd :=
  sSeq (sSetL 1 (tLstD (dNil)))
      (sSeq (sSet 2 (tFzD (tLstD (dCons (tK (.str "A")) (dCons (tK (.str "K")) (dCons (tK (.str "2")) (dCons (tK (.str "T")) (dCons (tK (.str "1")) (dCons (tK (.str "C")) (dCons (tK (.str ".")) (dCons (tK (.str " ")) (dCons (tK (.str "")) (dCons (tK (.str "a")) (dCons (tK (.str "AK")) (dCons (tK (.str "\n")) (dCons (tK (.str "9")) (dNil)))))))))))))))))
      (sSeq (sFor (iRange1 (tK (.int 6))) (gSet 3) (sSeq (sSet 4 (tCallD sp_law_pick (aV (tV 0) (aO 1 (aV (tFzD (tLstD (dCons (tK (.int 1)) (dCons (tK (.int 2)) (dCons (tK (.int 3)) (dCons (tK (.int 4)) (dCons (tK (.int 5)) (dCons (tK (.int 9)) (dCons (tK (.int 13)) (dNil)))))))))) (aNil))))))
      (sSeq (sSet 5 (tCallD sp_law_drawn_deal (aV (tV 0) (aO 1 (aV (tV 4) (aNil))))))
      (sSeq (sSet 6 (tOpD opIx (tV 5) (tCallD sp_law_draw (aV (tV 0) (aO 1 (aV (tK (.int 4)) (aNil)))))))
      (sSeq (sIf (tTru (tFzD (tComp (iTupD (tV 6)) (gSet 11) (tNotD (tTru (tCallD sp_law_same (aV (tCallD sp_card_text (aV (tV 4) (aV (tV 11) (aNil)))) (aV (tCallD sp_law_card_text (aV (tV 4) (aV (tV 11) (aNil)))) (aNil)))))) (tK (.int 1)) [11]))) (sRet (tK (.bool false))) (sNx))
      (sSeq (sSet 7 (tCallD sp_law_hand_text (aV (tV 4) (aV (tV 6) (aNil)))))
      (sSeq (sIf (tOrD (tNotD (tTru (tCallD sp_law_same (aV (tCallD sp_hand_text (aV (tV 4) (aV (tV 6) (aNil)))) (aV (tV 7) (aNil)))))) (tNotD (tTru (tCallD sp_law_same (aV (tCallD sp_law_told_hand (aV (tV 4) (aV (tV 7) (aNil)))) (aV (tV 6) (aNil))))))) (sRet (tK (.bool false))) (sNx))
      (sSeq (sSet 8 (tFzD (tOpL opCat (tFzD (tComp (iRange1 (tK (.int 8))) (gSet 12) (tTrue) (tCallD sp_law_spoilt (aV (tV 0) (aO 1 (aV (tV 7) (aV (tV 2) (aNil)))))) [12])) (tFzD (tLstD (dCons (tK (.str "")) (dCons (tK (.str "...")) (dCons (tK (.str "....")) (dNil)))))))))
      (sSeq (sSet 8 (tFzD (tOpL opCat (tV 8) (tFzD (tLstD (dCons (tRevS (tV 7)) (dCons (tOpD opAdd (tK (.str "A")) (tV 7)) (dNil))))))))
      (sSeq (sFor (iLstD (tFzD (tOpL opCat (tV 8) (tFzD (tLstD (dCons (tOpD opAdd (tK (.str "AKQ...")) (tV 7)) (dCons (tOpD opAdd (tV 7) (tK (.str "."))) (dCons (tSlD (tV 7) (oNo) (oE (tUnD unNeg (tK (.int 1))))) (dCons (tK (.str "..AA.")) (dCons (tOpD opMulS (tK (.str "A...")) (tV 4)) (dNil))))))))))) (gSet 9) (sIf (tNotD (tTru (tCallD sp_law_same (aV (tCallD sp_law_told_hand (aV (tV 4) (aV (tV 9) (aNil)))) (aV (tCallD sp_law_or_refused (aV (tCallD sp_law_read_hand (aV (tV 4) (aV (tV 9) (aNil)))) (aNil))) (aNil)))))) (sRet (tK (.bool false))) (sNx)))
      (sSeq (sSet 7 (tJoinS (tK (.str " ")) (tFzD (tComp (iTupD (tV 5)) (gSet 13) (tTrue) (tCallD sp_law_hand_text (aV (tV 4) (aV (tV 13) (aNil)))) [13]))))
      (sSeq (sIf (tOrD (tNotD (tTru (tCallD sp_law_same (aV (tCallD sp_deal_text (aV (tV 4) (aV (tV 5) (aNil)))) (aV (tV 7) (aNil)))))) (tNotD (tTru (tCallD sp_law_same (aV (tCallD sp_law_told_deal (aV (tV 4) (aV (tV 7) (aNil)))) (aV (tV 5) (aNil))))))) (sRet (tK (.bool false))) (sNx))
      (sSeq (sSet 10 (tFzD (tSplit (tV 7) (tK (.str " ")))))
      (sSeq (sSet 8 (tFzD (tOpL opCat (tFzD (tComp (iRange1 (tK (.int 6))) (gSet 12) (tTrue) (tCallD sp_law_spoilt (aV (tV 0) (aO 1 (aV (tV 7) (aV (tV 2) (aNil)))))) [12])) (tFzD (tLstD (dCons (tOpD opAdd (tV 7) (tK (.str " "))) (dNil)))))))
      (sSeq (sSet 8 (tFzD (tOpL opCat (tV 8) (tFzD (tLstD (dCons (tJoinS (tK (.str " ")) (tFzD (tSlL (tV 10) (oNo) (oE (tK (.int 3)))))) (dCons (tK (.str "")) (dNil))))))))
      (sSeq (sSet 8 (tFzD (tOpL opCat (tV 8) (tFzD (tLstD (dCons (tJoinS (tK (.str " ")) (tFzD (tOpL opCat (tV 10) (tFzD (tSlL (tV 10) (oNo) (oE (tK (.int 1)))))))) (dCons (tJoinS (tK (.str " ")) (tFzD (tOpL opCat (tFzD (tSlL (tV 10) (oNo) (oE (tK (.int 3))))) (tFzD (tSlL (tV 10) (oNo) (oE (tK (.int 1)))))))) (dCons (tJoinS (tK (.str " ")) (tFzD (tRevD (tV 10)))) (dNil)))))))))
      (sFor (iLstD (tV 8)) (gSet 9) (sIf (tNotD (tTru (tCallD sp_law_same (aV (tCallD sp_law_told_deal (aV (tV 4) (aV (tV 9) (aNil)))) (aV (tCallD sp_law_or_refused (aV (tCallD sp_law_read_deal (aV (tV 4) (aV (tV 9) (aNil)))) (aNil))) (aNil)))))) (sRet (tK (.bool false))) (sNx)))))))))))))))))))
      (sRet (tK (.bool true)))))
local macro_rules | `(tactic| walk_at "cx") => `(tactic| simp only [tFind, tSplit, tJoinS, tRevS, opMulS, tV, tVr, tFzV, turnD, DL.wipeE, tK, tOpD, tUnD, tBo, tAndD, tOrD, tNotD, tIfE, DL.tAndV, DL.tOrV, DL.tNotV, tTru, truD, okLen, sSet, sSetL, sExpr, sRet, sIf, sNx, tTupD, dNil, dCons, tLstD, tFzD, tApp, tExtd, tPopAt, sSetIx, tIxO, tChainD, tChain3D, tRevT, caStr, opRepT, opAdd, opSub, opMul, opDiv, opMod, opPow, DL.opI, DL.opI0, opB0, opLt, opLe, opGt, opGtD, opLtD, opGe, opEq, opNe, opIs, opIsN, isNone, opIn, opNotIn, opIx, atD_0, atD_1, atD_2, atD_3, putD_0, unNeg, tCa1, tCa2, tCaL1, caLen, caAbs, caMax2, caMin2, caSum, caMax, caMin, caSumT, caMaxT, caMinT, caAll, caTuple, caList, caInt, tIsi, isInt, isBool, isStr, isTuple, isList, notDict, sAsg, gSet, gTupD, gLstD, gsNil, gsCons, sPar, pNil, pD, pL, setAll, tCallD, aNil, aV, aO, argS, oixs, ndp, putO, tOpL, opCat, opRep, tSlD, slD, tSlL, oNo, oE, tRevD, iLstD, iTupD, iRange1, iRange2, iZipD, iZipM, finO, tTrue, Option.map, eqv_int, eqv_bool, eqv_none, shaped_int, shaped_bool, shaped_none, tLenRange, tSortSet, tSortSetS, tSortDk, tDkGet2, tDkGetD, tDkGet2M, sDkPut, tInDk, tDkGet, iDvK, keyOf, optQ, mDkD, tFzKM, opLeS, tFind, tSplit, tJoinS, caIntS, iStrD, opMulS, tRevS, tSlO, iZipN, tLenSet, tLenSetP, tSortSetP, tCountL, tCountT, tIndexL, tIndexT, DL.tOrT, DL.tAndT, DL.tNotT, tSortRev, caSorted, iEnumL, iEnumT, tDGetV, tDGetD, tDGet2V, dictAt, sDPutV, sSetM, mDt, mDk, pM, tInN, tNotInN, tCallM, amM, amV, tListRg, iDk, iDv, iDi, tLDk, tLDv, tTruDk, mDt1, tFzM, tCall0D, tFldD, tFldR, fldD, fldL, obD, unH_hdl, obGet, setOb, putOD, sFldD, sFldL, tMethO, tAppF, tPopF, sRaise, keyB_2, keyB_3, keyB_4, decide_eq_true_eq, and_self, List.cons_append, List.nil_append, List.replicate, List.getElem?_cons_zero, List.getElem?_cons_succ, List.set_cons_zero, List.set_cons_succ, List.length_cons, List.length_nil, true_and, and_true, if_true, if_false, Bool.false_eq_true, List.contains_nil, Bool.not_false, Bool.not_true, Bool.and_self, Bool.and_true, Bool.true_and, decide_true, decide_false, beq_self_eq_true])
def spLaw : SpD := fun ss Q => ∃ ns : List Int, ss = [.d (.list (ns.map PyData.int))] ∧ ns.length ≤ 63 ∧ Q (.bool true) []
theorem sh_law : ∀ ss QD, spLaw ss QD → ss.length = 1 ∧ mpos 0 ss = [] := by rintro ss QD ⟨ns, rfl, _⟩; exact ⟨rfl, rfl⟩
def sgL : List Str := ["A", "K", "2", "T", "1", "C", ".", " ", "", "a", "AK", "\n", "9"]
theorem sgL_ok : ∀ g ∈ sgL, okT 9 g := by
  have : ∀ g ∈ sgL, PyData.strOk g = true ∧ g.length ≤ 9 := by decide +kernel
  exact fun g hg => ⟨(strOk_iff g).mp (this g hg).1, (this g hg).2⟩
theorem toldH_or (R : Nat) (t : Str) : (if isNone (handO (readH R t)) = true then PyData.str "NoText" else handO (readH R t)) = toldH R t := by
  unfold toldH handO
  cases readH R t <;> rfl
theorem toldD_or (R : Nat) (t : Str) : (if isNone (handsO (readD R t)) = true then PyData.str "NoText" else handsO (readD R t)) = toldD R t := by
  unfold toldD handsO
  cases readD R t <;> rfl
theorem toldH_same {R : Nat} (hR : R ≤ 13) (t : Str) : sameOk 3 (toldH R t) = true := by
  unfold toldH
  cases e : readH R t with
  | none => show PyData.strOk "NoText" = true; decide +kernel
  | some h => exact same_hand 1 (by rw [(hand_of (read_hand e)).1]; omega)
theorem toldD_same {R : Nat} (hR : R ≤ 13) (t : Str) : sameOk 3 (toldD R t) = true := by
  unfold toldD
  cases e : readD R t with
  | none => show PyData.strOk "NoText" = true; decide +kernel
  | some hs =>
    unfold readD at e
    split at e
    · rename_i g
      cases e
      refine same_hands (fun x hx => ?_) (by rw [List.length_map, g.1]; omega)
      obtain ⟨o, ho, rfl⟩ := List.mem_map.mp hx
      obtain ⟨h, rfl⟩ := Option.isSome_iff_exists.mp (g.2.1 o ho)
      obtain ⟨w, _, ew⟩ := List.mem_map.mp ho
      show h.length ≤ 1000
      rw [(hand_of (read_hand ew)).1]; omega
    · cases e
theorem rd_law_k32 : ∀ ss QD, spLaw ss QD → tb_law_k32 spLRDeal spOrR spToldD (spSame 3) spSpoilt spDealT spHandT spLRHand spToldH spHandT spCardT spCardT spDraw spDeal spPick { nx := fun E' => finO [] E' (QD .none), rt := fun d E' => finO [] E' (QD d) } (ss ++ List.replicate 13 .un) := by
  rintro ss QD ⟨ns, rfl, hn, q⟩
  unfold tb_law_k32
  refine seq_step fun R hR => ?_
  walk_at "cx"
  refine ⟨small_line (by decide), hR _ ?_⟩
  clear hR
  refine seq_step fun R hR => ?_
  walk_at "cx"
  refine ⟨small_line (by decide), hR _ ?_⟩
  clear hR
  refine seq_step fun R hR => ?_
  refine for_inv (ds := rangeD 0 6) (E1 := [.d (.list (ns.map PyData.int)), .ol [], .d (.list (sgL.map PyData.str)), .un, .un, .un, .un, .un, .un, .un, .un, .un, .un, .un]) (fun Q h => ⟨⟨by decide, by decide⟩, h⟩)
    (fun i E => ∃ t s3 s4 s5 s6 s7 s8 s9 s10 s11 s12 s13, E = [.d (.list (ns.map PyData.int)), .ol t, .d (.list (sgL.map PyData.str)), s3, s4, s5, s6, s7, s8, s9, s10, s11, s12, s13] ∧ TownOk t (1000 * i) ∧ okS s11 ∧ okS s12 ∧ okS s13)
    ⟨[], _, _, _, _, _, _, _, _, _, _, _, rfl, ⟨by simp, .inl rfl⟩, .inl rfl, .inl rfl, .inl rfl⟩ (fun i d E hd hE R2 hR2 => ?_) (fun E hE => ?_)
  · obtain ⟨t, s3, s4, s5, s6, s7, s8, s9, s10, s11, s12, s13, rfl, ht, k11, k12, k13⟩ := hE
    have hi : i < 6 := by have := (List.getElem?_eq_some_iff.mp hd).1; rwa [rangeD_length] at this
    rw [rangeD_get hi] at hd
    cases hd
    refine seq_step fun R hR => ?_
    walk_at "cx"
    refine ⟨small_line (by decide), ns, t, _, _, 1000 * i, rfl, .inl rfl, by simp, hn, ht, by omega, fun l t1 hl ht1 => ?_⟩
    obtain ⟨L, rfl, hL⟩ : ∃ L : Nat, l = .int (L : Int) ∧ L ∈ ([1, 2, 3, 4, 5, 9, 13] : List Nat) := by
      simp only [List.mem_cons, List.not_mem_nil, or_false] at hl
      rcases hl with rfl | rfl | rfl | rfl | rfl | rfl | rfl
      · exact ⟨1, rfl, by decide⟩
      · exact ⟨2, rfl, by decide⟩
      · exact ⟨3, rfl, by decide⟩
      · exact ⟨4, rfl, by decide⟩
      · exact ⟨5, rfl, by decide⟩
      · exact ⟨9, rfl, by decide⟩
      · exact ⟨13, rfl, by decide⟩
    have hG : goodR L := (by decide : ∀ z ∈ ([1, 2, 3, 4, 5, 9, 13] : List Nat), z ∈ ([1, 2, 3, 4, 5, 6, 8, 9, 13] : List Nat)) L hL
    have hL13 := hG.le.2
    walk_at "cx"
    refine hR _ ?_
    clear hR
    refine seq_step fun R hR => ?_
    walk_at "cx"
    refine ⟨ns, t1, L, 1000 * i + 2, rfl, by omega, hn, ht1, by omega, fun h0 h1 h2 h3 t2 hdl ht2 => ?_⟩
    obtain ⟨ho, hnd⟩ := deal_hands hG hdl
    walk_at "cx"
    refine hR _ ?_
    clear hR
    rw [show dealD h0 h1 h2 h3 = handsD [h0, h1, h2, h3] from rfl]
    obtain ⟨hs, hhs⟩ : ∃ hs : List (List Card), hs = [h0, h1, h2, h3] := ⟨_, rfl⟩
    rw [← hhs] at ho hnd ⊢
    have hs4 : hs.length = 4 := by rw [hhs]; rfl
    clear hhs hdl
    refine seq_step fun R hR => ?_
    walk_at "cx"
    refine ⟨ns, t2, _, 1000 * i + 2 + 8 * L, rfl, by decide, hn, ht2, by omega, fun w t3 w0 w1 ht3 => ?_⟩
    walk_at "cx"
    obtain ⟨j, rfl⟩ : ∃ j : Nat, w = (j : Int) := ⟨w.toNat, by omega⟩
    obtain ⟨h, hh⟩ : ∃ h, hs[j]? = some h := ⟨_, List.getElem?_eq_getElem (by omega)⟩
    have hat : atI (hs.map handD) (j : Int) = some (handD h) := atI_at (by omega) (by rw [Int.toNat_natCast, List.getElem?_map, hh]; rfl)
    show atD (hs.map handD) (j : Int) _
    unfold atD
    rw [hat]
    have hho := ho h (List.mem_of_getElem? hh)
    refine hR _ ?_
    clear hR
    refine seq_step fun R hR => ?_
    walk_at "cx"
    refine comp_filter (E1 := [.d (.list (ns.map PyData.int)), .ol t3, .d (.list (sgL.map PyData.str)), .d (.int (0 + (i : Int))), .d (.int (L : Int)), .d (handsD hs), .d (handD h), s7, s8, s9, s10, s11, s12, s13]) h cE (fun _ => false) (fun _ => PyData.int 1) (fun Q k => k) (okS1 k11 rfl) (small_line (by rw [hho.1]; omega)) (fun c hc R4 h4 => ?_) ?_
    · walk_at "cx"
      have hco := hho.2.1 c hc
      refine ⟨L, c, rfl, hL13, hco, L, c, rfl, hL13, hco, _, rfl, ?_, ?_⟩
      · show PyData.strOk (cardT L c) = true
        refine (strOk_iff _).mpr (chOk_app (chOk_sgn ?_) (chOk_sgn (SG_small _ (rk_at hL13 hco.2.2.1 hco.2.2.2).2.1)))
        have : c.1 = 0 ∨ c.1 = 1 ∨ c.1 = 2 ∨ c.1 = 3 := by have := hco.1; have := hco.2.1; omega
        rcases this with e | e | e | e <;> rw [e] <;> decide
      · exact ⟨trivial, h4 _ rfl⟩
    rw [show h.filter (fun _ => false) = [] from List.filter_eq_nil_iff.mpr (by simp)]
    refine hR _ ?_
    clear hR
    refine seq_step fun R hR => ?_
    walk_at "cx"
    refine ⟨L, h, rfl, hL13, hho, ?_⟩
    refine hR _ ?_
    clear hR
    have hto := handT_ok hL13 hho
    have hcnt := cnt_hand hL13 hho
    refine seq_step fun R hR => ?_
    walk_at "cx"
    have htold : toldH L (handT L h) = handD h := by unfold toldH; rw [read_hand_text hL13 hho]
    refine ⟨L, h, rfl, hL13, hho, _, rfl, (strOk_iff _).mpr hto.1, ?_⟩
    refine ⟨trivial, L, handT L h, rfl, hG, hto.1, by have := hto.2; omega, ?_⟩
    rw [htold]
    refine ⟨_, rfl, same_hand 1 (by rw [hho.1]; omega), trivial, hR _ ?_⟩
    clear hR
    generalize handT L h = T at hto hcnt
    have hTl := hto.2
    refine seq_step fun R hR => ?_
    walk_at "cx"
    refine comp_inv (E1 := [.d (.list (ns.map PyData.int)), .ol t3, .d (.list (sgL.map PyData.str)), .d (.int (0 + (i : Int))), .d (.int (L : Int)), .d (handsD hs), .d (handD h), .d (.str T), s8, s9, s10, s11, s12, s13]) (rangeD 0 8)
      (fun j acc E => ∃ (t : List D) (s12 : S) (ys : List Str), E = [.d (.list (ns.map PyData.int)), .ol t, .d (.list (sgL.map PyData.str)), .d (.int (0 + (i : Int))), .d (.int (L : Int)), .d (handsD hs), .d (handD h), .d (.str T), s8, s9, s10, s11, s12, s13] ∧ okS s12 ∧ TownOk t (1000 * i + 4 + 8 * L + 10 * j) ∧ acc = ys.map PyData.str ∧ ys.length ≤ j ∧ ∀ y ∈ ys, okU y)
      (fun Q h => ⟨⟨by decide, by decide⟩, h⟩) (by rw [rangeD_length]; exact small_line (by decide)) ⟨t3, s12, [], rfl, k12, ht3.mono (by omega), rfl, Nat.le_refl _, fun _ h => nomatch h⟩ (fun j d acc E hd hE R2 hn2 hs2 => ?_) (fun acc E hE => ?_)
    · obtain ⟨t, s12, ys, rfl, k12, ht, rfl, hyl, hyo⟩ := hE
      have hj : j < 8 := by have := (List.getElem?_eq_some_iff.mp hd).1; rwa [rangeD_length] at this
      rw [rangeD_get hj] at hd
      cases hd
      walk_at "cx"
      refine ⟨ns, t, T, sgL, _, rfl, hn, ht, by omega, ⟨hto.1, by omega⟩, by decide, sgL_ok, fun y t' hy hyr ht' => ?_⟩
      refine hs2 _ _ ⟨t', _, ys ++ [y], rfl, .inr ⟨_, rfl⟩, ht'.mono (by omega), by rw [List.map_append]; rfl, by rw [List.length_append]; simp; omega, fun z hz => ?_⟩
      rcases List.mem_append.mp hz with hz | hz
      · exact hyo z hz
      · rw [List.mem_singleton.mp hz]; exact ⟨hy.1, hy.2, run_mono hyr (by omega)⟩
    · obtain ⟨t4, s12', ys, rfl, k12', ht4, rfl, hyl, hyo⟩ := hE
      rw [rangeD_length] at hyl ht4
      have e : restE [.d (.list (ns.map PyData.int)), .ol t3, .d (.list (sgL.map PyData.str)), .d (.int (0 + (i : Int))), .d (.int (L : Int)), .d (handsD hs), .d (handD h), .d (.str T), s8, s9, s10, s11, s12, s13] [.d (.list (ns.map PyData.int)), .ol t4, .d (.list (sgL.map PyData.str)), .d (.int (0 + (i : Int))), .d (.int (L : Int)), .d (handsD hs), .d (handD h), .d (.str T), s8, s9, s10, s11, s12', s13] [12] = [.d (.list (ns.map PyData.int)), .ol t4, .d (.list (sgL.map PyData.str)), .d (.int (0 + (i : Int))), .d (.int (L : Int)), .d (handsD hs), .d (handD h), .d (.str T), s8, s9, s10, s11, s12, s13] := by
        show List.set _ 12 (datOf (some s12)) = _
        rw [datOk k12]; rfl
      rw [e]
      refine ⟨small_line (by decide), small_line (by rw [List.length_map]; omega), hR _ ?_⟩
      clear hR
      refine seq_step fun R hR => ?_
      walk_at "cx"
      have lA : (Str.ofString "A").length = 1 := by decide
      refine ⟨small_line (by omega), small_line (by omega), small_line (by decide), small_line (by simp; omega), hR _ ?_⟩
      clear hR
      refine seq_step fun R hR => ?_
      obtain ⟨os, hoe, hoo⟩ : ∃ os : List Str, List.map PyData.str ys ++ [PyData.str "", .str "...", .str "...."] ++ [PyData.str (revS T), .str ("A" ++ T)] ++ [PyData.str ("AKQ..." ++ T), .str (T ++ "."), .str (cutS T none (some (-1))), .str "..AA.", .str (repS "A..." (L : Int))] = os.map PyData.str ∧ ∀ o ∈ os, okU o := by
        have hc : ∀ x ∈ ([".", "", "...", "....", "A", "AKQ...", "..AA."] : List Str), PyData.strOk x = true ∧ x.length ≤ 6 := by decide +kernel
        have hc2 : ∀ x ∈ ([".", "", "...", "....", "A", "AKQ...", "..AA."] : List Str), chOk x ∧ x.length ≤ 6 := fun x hx => ⟨(strOk_iff x).mp (hc x hx).1, (hc x hx).2⟩
        have hc3 : ∀ x ∈ ([".", "", "...", "....", "A", "AKQ...", "..AA."] : List Str), okU x := fun x hx => okU_small (hc2 x hx).1 (by have := (hc2 x hx).2; omega)
        refine ⟨ys ++ (["", "...", "...."] : List Str) ++ ([revS T, "A" ++ T] : List Str) ++ (["AKQ..." ++ T, T ++ ".", cutS T none (some (-1)), "..AA.", repS "A..." (L : Int)] : List Str), by simp, fun o ho => ?_⟩
        simp only [List.mem_append, List.mem_cons, List.not_mem_nil, or_false] at ho
        rcases ho with ((ho | ho) | ho) | ho
        · exact hyo o ho
        · exact hc3 o (by simp only [List.mem_cons]; rcases ho with h | h | h <;> simp [h])
        · rcases ho with rfl | rfl
          · exact okU_small (chOk_rev hto.1) (by rw [len_rev]; omega)
          · exact okU_small (chOk_app (hc2 "A" (by simp)).1 hto.1) (by rw [len_app]; have := (hc2 "A" (by simp)).2; omega)
        · rcases ho with rfl | rfl | rfl | rfl | rfl
          · exact okU_small (chOk_app (hc2 "AKQ..." (by simp)).1 hto.1) (by rw [len_app]; have := (hc2 "AKQ..." (by simp)).2; omega)
          · exact okU_small (chOk_app hto.1 (hc2 "." (by simp)).1) (by rw [len_app]; have := (hc2 "." (by simp)).2; omega)
          · exact okU_small (chOk_cut hto.1 _ _) (by have := cutS_length T none (some (-1)); omega)
          · exact hc3 _ (by simp)
          · exact okU_small ((strOk_iff _).mp (repA L hL).1) (by have := (repA L hL).2; omega)
      refine for_inv (ds := os.map PyData.str) (E1 := [.d (.list (ns.map PyData.int)), .ol t4, .d (.list (sgL.map PyData.str)), .d (.int (0 + (i : Int))), .d (.int (L : Int)), .d (handsD hs), .d (handD h), .d (.str T), .d (.list (List.map PyData.str ys ++ [PyData.str "", .str "...", .str "...."] ++ [PyData.str (revS T), .str ("A" ++ T)])), s9, s10, s11, s12, s13])
          (fun Q k => by
            rw [← hoe] at k
            walk_at "cx"
            have l1 : (Str.ofString "AKQ...").length = 6 := by decide
            have l2 : (Str.ofString ".").length = 1 := by decide
            exact ⟨small_line (by omega), small_line (by omega), small_line (by omega), ⟨by omega, by omega, by decide⟩, small_line (by decide), small_line (by simp; omega), k⟩)
          (fun j E => ∃ s8 s9, E = [.d (.list (ns.map PyData.int)), .ol t4, .d (.list (sgL.map PyData.str)), .d (.int (0 + (i : Int))), .d (.int (L : Int)), .d (handsD hs), .d (handD h), .d (.str T), s8, s9, s10, s11, s12, s13]) ⟨_, _, rfl⟩ (fun j d E hd hE R3 hR3 => ?_) (fun E hE => ?_)
      · obtain ⟨s8, s9, rfl⟩ := hE
        rw [List.getElem?_map] at hd
        obtain ⟨o, ho, rfl⟩ := Option.map_eq_some_iff.mp hd
        have hoo := hoo o (List.mem_of_getElem? ho)
        walk_at "cx"
        refine ⟨L, o, rfl, hG, hoo.1, hoo.2.1, L, o, rfl, hG, hoo.1, hoo.2.1, hoo.2.2, _, rfl, ?_⟩
        rw [toldH_or]
        exact ⟨_, rfl, toldH_same hL13 o, trivial, hR3 _ ⟨_, _, rfl⟩⟩
      · obtain ⟨s8, s9, rfl⟩ := hE
        refine hR _ ?_
        clear hR
        clear hoe hoo hyo
        refine seq_step fun R hR => ?_
        walk_at "cx"
        refine comp_map hs handD (fun h => .str (handT L h)) (fun Q k => k) (okS1 k13 rfl) (small_line (by omega)) (fun x hx R4 h4 => ?_) ?_
        · walk_at "cx"
          exact ⟨L, x, rfl, hL13, ho x hx, h4 _ rfl⟩
        refine ⟨hs.map (handT L), by rw [List.map_map]; rfl, dealT_sum hL13 ho hs4, hR _ ?_⟩
        clear hR
        have hdo := dealT_ok hL13 ho hs4
        have hdc := cnt_deal hL13 ho hs4
        have htold : toldD L (dealT L hs) = handsD hs := by unfold toldD; rw [read_deal_text hL13 ho hs4 hnd]
        have hsplit := split_deal hL13 ho (by intro e; rw [e] at hs4; cases hs4)
        refine seq_step fun R hR => ?_
        walk_at "cx"
        refine ⟨L, hs, rfl, hL13, ho, hs4, _, rfl, (strOk_iff _).mpr hdo.1, ?_⟩
        refine ⟨trivial, L, dealT L hs, rfl, hG, hdo.1, by have := hdo.2; omega, ?_⟩
        rw [htold]
        refine ⟨_, rfl, same_hands (fun x hx => by rw [(ho x hx).1]; omega) (by omega), trivial, hR _ ?_⟩
        clear hR
        show (sSeq _ _) _ [_, _, _, _, _, _, _, S.d (PyData.str (dealT L hs)), _, _, _, _, _, _]
        generalize dealT L hs = U at hdo hdc hsplit
        have hUl := hdo.2
        refine seq_step fun R hR => ?_
        walk_at "cx"
        refine ⟨by decide, small_line (by omega), hR _ ?_⟩
        clear hR
        rw [show Txt.split U (Str.ofString " ") = hs.map (handT L) from hsplit]
        refine seq_step fun R hR => ?_
        walk_at "cx"
        refine comp_inv (E1 := [.d (.list (ns.map PyData.int)), .ol t4, .d (.list (sgL.map PyData.str)), .d (.int (0 + (i : Int))), .d (.int (L : Int)), .d (handsD hs), .d (handD h), .d (.str U), s8, s9, .d (.list ((hs.map (handT L)).map PyData.str)), s11, s12, s13]) (rangeD 0 6)
          (fun j acc E => ∃ (t : List D) (s12 : S) (ys : List Str), E = [.d (.list (ns.map PyData.int)), .ol t, .d (.list (sgL.map PyData.str)), .d (.int (0 + (i : Int))), .d (.int (L : Int)), .d (handsD hs), .d (handD h), .d (.str U), s8, s9, .d (.list ((hs.map (handT L)).map PyData.str)), s11, s12, s13] ∧ okS s12 ∧ TownOk t (1000 * i + 4 + 8 * L + 10 * 8 + 10 * j) ∧ acc = ys.map PyData.str ∧ ys.length ≤ j ∧ ∀ y ∈ ys, okU y)
          (fun Q h => ⟨⟨by decide, by decide⟩, h⟩) (by rw [rangeD_length]; exact small_line (by decide)) ⟨t4, s12, [], rfl, k12, ht4.mono (by omega), rfl, Nat.le_refl _, fun _ h => nomatch h⟩ (fun j d acc E hd hE R2 hn2 hs2 => ?_) (fun acc E hE => ?_)
        · obtain ⟨t, s12, ys, rfl, k12, ht, rfl, hyl, hyo⟩ := hE
          have hj : j < 6 := by have := (List.getElem?_eq_some_iff.mp hd).1; rwa [rangeD_length] at this
          rw [rangeD_get hj] at hd
          cases hd
          walk_at "cx"
          refine ⟨ns, t, U, sgL, _, rfl, hn, ht, by omega, ⟨hdo.1, by omega⟩, by decide, sgL_ok, fun y t' hy hyr ht' => ?_⟩
          refine hs2 _ _ ⟨t', _, ys ++ [y], rfl, .inr ⟨_, rfl⟩, ht'.mono (by omega), by rw [List.map_append]; rfl, by rw [List.length_append]; simp; omega, fun z hz => ?_⟩
          rcases List.mem_append.mp hz with hz | hz
          · exact hyo z hz
          · rw [List.mem_singleton.mp hz]; exact ⟨hy.1, hy.2, run_mono hyr (by omega)⟩
        · clear hyl
          obtain ⟨t5, s12', ys, rfl, k12'', ht5, rfl, hyl, hyo⟩ := hE
          rw [rangeD_length] at hyl ht5
          have e : restE [.d (.list (ns.map PyData.int)), .ol t4, .d (.list (sgL.map PyData.str)), .d (.int (0 + (i : Int))), .d (.int (L : Int)), .d (handsD hs), .d (handD h), .d (.str U), s8, s9, .d (.list ((hs.map (handT L)).map PyData.str)), s11, s12, s13] [.d (.list (ns.map PyData.int)), .ol t5, .d (.list (sgL.map PyData.str)), .d (.int (0 + (i : Int))), .d (.int (L : Int)), .d (handsD hs), .d (handD h), .d (.str U), s8, s9, .d (.list ((hs.map (handT L)).map PyData.str)), s11, s12', s13] [12] = [.d (.list (ns.map PyData.int)), .ol t5, .d (.list (sgL.map PyData.str)), .d (.int (0 + (i : Int))), .d (.int (L : Int)), .d (handsD hs), .d (handD h), .d (.str U), s8, s9, .d (.list ((hs.map (handT L)).map PyData.str)), s11, s12, s13] := by
            show List.set _ 12 (datOf (some s12)) = _
            rw [datOk k12]; rfl
          rw [e]
          have lS : (Str.ofString " ").length = 1 := by decide
          refine ⟨small_line (by omega), small_line (by decide), small_line (by rw [List.length_map]; omega), hR _ ?_⟩
          clear hR
          refine seq_step fun R hR => ?_
          walk_at "cx"
          obtain ⟨ws, hws⟩ : ∃ ws : List Str, ws = hs.map (handT L) := ⟨_, rfl⟩
          rw [← hws]
          have hw4 : ws.length = 4 := by rw [hws, List.length_map]; exact hs4
          have hwo : ∀ p ∈ ws, chOk p ∧ p.length ≤ 17 := fun p hp => by
            rw [hws] at hp
            obtain ⟨x, hx, rfl⟩ := List.mem_map.mp hp
            have := handT_ok hL13 (ho x hx)
            exact ⟨this.1, by omega⟩
          have ct : ∀ k : Nat, cutD (ws.map PyData.str) none (some (k : Int)) = (ws.take k).map PyData.str := fun k => by rw [cut_to (by omega), Int.toNat_natCast, List.map_take]
          have z1 := okU_words (ps := ws.take 3) (fun p hp => hwo p (List.mem_of_mem_take hp)) (by rw [List.length_take]; omega)
          have z2 := okU_words (ps := ws ++ ws.take 1) (fun p hp => by
            rcases List.mem_append.mp hp with hp | hp
            · exact hwo p hp
            · exact hwo p (List.mem_of_mem_take hp)) (by rw [List.length_append, List.length_take]; omega)
          have z3 := okU_words (ps := ws.take 3 ++ ws.take 1) (fun p hp => by
            rcases List.mem_append.mp hp with hp | hp
            · exact hwo p (List.mem_of_mem_take hp)
            · exact hwo p (List.mem_of_mem_take hp)) (by rw [List.length_append, List.length_take, List.length_take]; omega)
          have z4 := okU_words (ps := ws.reverse) (fun p hp => hwo p (List.mem_reverse.mp hp)) (by rw [List.length_reverse]; omega)
          refine ⟨ws.take 3, ct 3, z1.2, small_line (by decide), small_line (by simp; omega), hR _ ?_⟩
          clear hR
          refine seq_step fun R hR => ?_
          walk_at "cx"
          have c1 := ct 1
          have c3 := ct 3
          refine ⟨small_line (by rw [show (1 : Int) = ((1 : Nat) : Int) from rfl, c1]; simp; omega), ws ++ ws.take 1, by rw [List.map_append, ← c1]; rfl, z2.2, small_line (by rw [show (1 : Int) = ((1 : Nat) : Int) from rfl, c1, show (3 : Int) = ((3 : Nat) : Int) from rfl, c3]; simp; omega), ws.take 3 ++ ws.take 1, by rw [List.map_append, ← c1, ← c3]; rfl, z3.2, ws.reverse, by rw [List.map_reverse], z4.2, small_line (by decide), small_line (by simp; omega), hR _ ?_⟩
          clear hR
          obtain ⟨os, hoe, hoo⟩ : ∃ os : List Str, (List.map PyData.str ys ++ [PyData.str (U ++ " ")] ++ [PyData.str (Txt.join " " (ws.take 3)), .str ""] ++ [PyData.str (Txt.join " " (ws ++ ws.take 1)), .str (Txt.join " " (ws.take 3 ++ ws.take 1)), .str (Txt.join " " ws.reverse)]) = os.map PyData.str ∧ ∀ o ∈ os, okU o := by
            refine ⟨ys ++ ([U ++ " "] : List Str) ++ ([Txt.join " " (ws.take 3), ""] : List Str) ++ ([Txt.join " " (ws ++ ws.take 1), Txt.join " " (ws.take 3 ++ ws.take 1), Txt.join " " ws.reverse] : List Str), by simp, fun o ho => ?_⟩
            simp only [List.mem_append, List.mem_cons, List.not_mem_nil, or_false] at ho
            rcases ho with ((ho | rfl) | ho) | ho
            · exact hyo o ho
            · refine ⟨chOk_app hdo.1 ((strOk_iff _).mp (by decide +kernel)), by rw [len_app]; show _ + (Str.ofString " ").length ≤ _; omega, run_cnt ?_⟩
              rw [TL.tl_append, cntG_app]
              have : cntG (TL.tl (Str.ofString " ")) = 0 := by decide +kernel
              show _ + cntG (TL.tl (Str.ofString " ")) ≤ _
              omega
            · rcases ho with rfl | rfl
              · exact z1.1
              · exact okU_small ((strOk_iff _).mp (by decide +kernel)) (by decide +kernel)
            · rcases ho with rfl | rfl | rfl
              · exact z2.1
              · exact z3.1
              · exact z4.1
          refine for_inv (ds := os.map PyData.str) (E1 := [.d (.list (ns.map PyData.int)), .ol t5, .d (.list (sgL.map PyData.str)), .d (.int (0 + (i : Int))), .d (.int (L : Int)), .d (handsD hs), .d (handD h), .d (.str U), .d (.list (List.map PyData.str ys ++ [PyData.str (U ++ " ")] ++ [PyData.str (Txt.join " " (ws.take 3)), .str ""] ++ [PyData.str (Txt.join " " (ws ++ ws.take 1)), .str (Txt.join " " (ws.take 3 ++ ws.take 1)), .str (Txt.join " " ws.reverse)])), s9, .d (.list (ws.map PyData.str)), s11, s12, s13])
              (fun Q k => by
                rw [← hoe] at k
                exact k)
              (fun j E => ∃ s8 s9, E = [.d (.list (ns.map PyData.int)), .ol t5, .d (.list (sgL.map PyData.str)), .d (.int (0 + (i : Int))), .d (.int (L : Int)), .d (handsD hs), .d (handD h), .d (.str U), s8, s9, .d (.list (ws.map PyData.str)), s11, s12, s13]) ⟨_, _, rfl⟩ (fun j d E hd hE R3 hR3 => ?_) (fun E hE => ?_)
          · obtain ⟨s8, s9, rfl⟩ := hE
            rw [List.getElem?_map] at hd
            obtain ⟨o, ho, rfl⟩ := Option.map_eq_some_iff.mp hd
            have hoo := hoo o (List.mem_of_getElem? ho)
            walk_at "cx"
            refine ⟨L, o, rfl, hG, hoo.1, hoo.2.1, L, o, rfl, hG, hoo.1, hoo.2.1, hoo.2.2, _, rfl, ?_⟩
            rw [toldD_or]
            exact ⟨_, rfl, toldD_same hL13 o, trivial, hR3 _ ⟨_, _, rfl⟩⟩
          · obtain ⟨s8, s9, rfl⟩ := hE
            exact hR2 _ ⟨t5, _, _, _, _, _, _, _, _, _, _, _, rfl, ht5.mono (by omega), k11, k12, k13⟩
  · obtain ⟨t, s3, s4, s5, s6, s7, s8, s9, s10, s11, s12, s13, rfl, ht, k11, k12, k13⟩ := hE
    refine hR _ ?_
    walk_at "cx"
    exact q
end DL
set_option Elab.async false
set_option linter.all false
set_option maxRecDepth 100000
set_option maxHeartbeats 4000000
namespace LW
open PySem PySem.Spec PyProof.Rows L2 DL
def topS (i : Nat) : Stmt := PySem.Challenge.pw_boardcalls_k32_whole_texts_of_hands.main.body.getD i (.Pass ⟨0, 0, 0, 0⟩)
section
variable {P : Program} {w : World} {K : PySem.W.Frag} {mg : Str → Option Value} {base : Heap}
abbrev s_law_read_hand : Stmt := topS 28
abbrev N_law_read_hand : List Str := ["ranks", "text", "parts", "cards", "suit", "part", "order", "sign", "place"]
theorem sc_law_read_hand : FnScope N_law_read_hand ["ranks", "text"] (defScope s_law_read_hand) := ⟨rfl, rfl, rfl, by decide +kernel, rfl, by decide +kernel, by decide +kernel⟩
theorem dv_law_read_hand {f : Addr} {k : Nat} (b_len : mg "len" = none) (b_sorted : mg "sorted" = none) (b_tuple : mg "tuple" = none) (b_zip : mg "zip" = none) (b_set : mg "set" = none) (cdv : Value) (A : Around) (outer : List PySem.Env) (s : Shared) (H : Hp) (E : XK) (hr : Room k (A.deeper (envOfC "_law_read_hand" (defScope s_law_read_hand) s.heap.objs.size f cdv))) (G : Gh) (hG : G.slots = []) :
    SDs (cxOf CX0 P w K mg base N_law_read_hand "_law_read_hand" (defScope s_law_read_hand) f cdv A outer s H E).nox G (defBody s_law_read_hand) (tb_law_read_hand) := by
  unfold tb_law_read_hand
  exact sds_cons (sd_par2 (nsA hG (by decide)) rfl sc_law_read_hand.nd rfl rfl (by decide) rfl rfl (eps_d (EL.ed (el_split (ed_var 1) (ed_str))) (eps_d (EL.ed (el_lst (eds_nil))) (eps_nil))))
      (sds_cons (sd_if (eb_cmp (od_ne hr.units) (ed_ca1 cd_len (ED.er (ed_var 2)) rfl b_len bb_len) (ED.er (ed_int)) (nomark _)) (sds_one (sd_ret (ed_non))) (sds_nil))
      (sds_cons (sd_for (ms := [4, 5]) PassesOwn.never rfl (id_zipN (ed_tup (eds_cons (ed_int) (eds_cons (ed_int) (eds_cons (ed_int) (eds_cons (ed_int) (eds_nil)))))) (ed_var 2) rfl b_zip) (gd_tup rfl (gds_cons (gd_name (ns hG (by decide)) (by decide) sc_law_read_hand.nd rfl (by first | exact Or.inl rfl | exact Or.inr rfl)) (gds_cons (gd_name (ns hG (by decide)) (by decide) sc_law_read_hand.nd rfl (by first | exact Or.inl rfl | exact Or.inr rfl)) (gds_nil)))) (sds_cons (sd_setC [("sign", 7)] (ns hG (by decide)) rfl sc_law_read_hand.nd rfl rfl (sw_true rfl rfl rfl (by decide +kernel)) rfl (nsA hG (by decide)) (id_str (ed_var 5)) (blkOk_by (N := N_law_read_hand) (sc := defScope s_law_read_hand) (by decide +kernel)) (fun _ q2 _ _ _ _ _ => gd_name (ns (q2.trans hG) (by decide)) (by decide) sc_law_read_hand.nd rfl (by first | exact Or.inl rfl | exact Or.inr rfl)) (fun _ q2 _ _ _ _ _ => ebs_nil) (fun _ q2 _ _ _ _ _ => ed_find (ed_sl (ed_str) (eo_no) (eo_e (ed_var 0))) (ed_var 7)))
      (sds_cons (sd_if (EW.eb (ew_or (eb_cmp (od_in (u65 hr)) (ed_un ud_neg (ED.er (ed_int))) (ED.er (ed_var 6)) rfl) (ew_or1 (eb_cmp (od_ne hr.units) (ed_var 6) (ED.er (EL.ed (el_sortSet (ED.er (ed_var 6)) rfl b_sorted rfl b_set))) (nomark _))))) (sds_one (sd_ret (ed_non))) (sds_nil))
      (sds_one (sd_set (ns hG (by decide)) sc_law_read_hand.nd rfl (by first | exact Or.inl rfl | exact Or.inr rfl) (EL.ed (el_op od_cat (ed_var 3) (ED.er (EL.ed (el_comp [("place", 8)] rfl sc_law_read_hand.nd rfl (nsA hG (by decide)) (id_lst (ed_var 6)) (blkOk_by (N := N_law_read_hand) (sc := defScope s_law_read_hand) (by decide +kernel)) (fun _ q1 _ _ _ _ _ => gd_name (ns (q1.trans hG) (by decide)) (by decide) sc_law_read_hand.nd rfl (by first | exact Or.inl rfl | exact Or.inr rfl)) (fun _ q1 _ _ _ _ _ => ebs_nil) (fun _ q1 _ _ _ _ _ => ed_tup (eds_cons (ed_var 4) (eds_cons (ed_op od_sub (ed_var 0) (ED.er (ed_var 8))) (eds_nil))))))))))))))
      (sds_one (sd_ret (ed_if (eb_cmp (od_eq hr.units) (ed_ca1 cd_len (ED.er (ed_var 3)) rfl b_len bb_len) (ED.er (ed_var 0)) (nomark _)) (ed_caT1 cd_tuple (ED.er (EL.ed (el_ca1 (cd_sorted (u65 hr)) (ED.er (ed_var 3)) rfl b_sorted bb_sorted))) rfl b_tuple bb_tuple) (ed_non))))))
abbrev s_law_read_deal : Stmt := topS 33
abbrev N_law_read_deal : List Str := ["ranks", "text", "deal", "word"]
theorem sc_law_read_deal : FnScope N_law_read_deal ["ranks", "text"] (defScope s_law_read_deal) := ⟨rfl, rfl, rfl, by decide +kernel, rfl, by decide +kernel, by decide +kernel⟩
theorem dv_law_read_deal {f : Addr} {k : Nat} (b_len : mg "len" = none) (b_set : mg "set" = none) (b_tuple : mg "tuple" = none) {sp_law_read_hand : SpD} {f_law_read_hand : Addr} {fd_law_read_hand : FuncData} {k_law_read_hand : Nat} (C_law_read_hand : FnOk P w K mg base CX0 k_law_read_hand f_law_read_hand fd_law_read_hand ["ranks", "text"] (spL K sp_law_read_hand)) (h_law_read_hand : k_law_read_hand ≤ k) (C_law_read_hand_g : mg "_law_read_hand" = some (.ref f_law_read_hand)) (C_law_read_hand_k : PySem.W.keepIn K (.ref f_law_read_hand) = true) (C_law_read_hand_b : Binds K fd_law_read_hand ["ranks", "text"] []) (cdv : Value) (A : Around) (outer : List PySem.Env) (s : Shared) (H : Hp) (E : XK) (hr : Room k (A.deeper (envOfC "_law_read_deal" (defScope s_law_read_deal) s.heap.objs.size f cdv))) (G : Gh) (hG : G.slots = []) :
    SDs (cxOf CX0 P w K mg base N_law_read_deal "_law_read_deal" (defScope s_law_read_deal) f cdv A outer s H E).nox G (defBody s_law_read_deal) (tb_law_read_deal sp_law_read_hand) := by
  unfold tb_law_read_deal
  exact sds_cons (sd_set (ns hG (by decide)) sc_law_read_deal.nd rfl (by first | exact Or.inl rfl | exact Or.inr rfl) (ed_caT1 cd_tuple (ED.er (EL.ed (el_comp [("word", 3)] rfl sc_law_read_deal.nd rfl (nsA hG (by decide)) (id_lst (EL.ed (el_split (ed_var 1) (ed_str)))) (blkOk_by (N := N_law_read_deal) (sc := defScope s_law_read_deal) (by decide +kernel)) (fun _ q1 _ _ _ _ _ => gd_name (ns (q1.trans hG) (by decide)) (by decide) sc_law_read_deal.nd rfl (by first | exact Or.inl rfl | exact Or.inr rfl)) (fun _ q1 _ _ _ _ _ => ebs_nil) (fun _ q1 _ _ _ _ _ => ed_call C_law_read_hand (hr.mono h_law_read_hand) rfl C_law_read_hand_g C_law_read_hand_k C_law_read_hand_b (ea_v (ed_var 0) (ea_v (ed_var 3) (ea_nil))))))) rfl b_tuple bb_tuple))
      (sds_cons (sd_if (EW.eb (ew_or (eb_cmp (od_ne hr.units) (ed_ca1 cd_len (ED.er (ed_var 2)) rfl b_len bb_len) (ED.er (ed_int)) (nomark _)) (ew_or (eb_cmp (od_in (u65 hr)) (ed_non) (ED.er (ed_var 2)) rfl) (ew_or1 (eb_cmp (od_ne hr.units) (ed_lenSetP (ed_op od_add (ed_op od_add (ed_op od_add (ed_ix (ed_var 2) (ed_int)) (ED.er (ed_ix (ed_var 2) (ed_int)))) (ED.er (ed_ix (ed_var 2) (ed_int)))) (ED.er (ed_ix (ed_var 2) (ed_int)))) (u65 hr) rfl b_len rfl b_set) (ED.er (ed_op od_mul (ed_int) (ED.er (ed_var 0)))) (nomark _)))))) (sds_one (sd_ret (ed_non))) (sds_nil))
      (sds_one (sd_ret (ed_var 2))))
abbrev s_law_or_refused : Stmt := topS 30
abbrev N_law_or_refused : List Str := ["found"]
theorem sc_law_or_refused : FnScope N_law_or_refused ["found"] (defScope s_law_or_refused) := ⟨rfl, rfl, rfl, by decide +kernel, rfl, by decide +kernel, by decide +kernel⟩
theorem dv_law_or_refused {f : Addr} {k : Nat} (cdv : Value) (A : Around) (outer : List PySem.Env) (s : Shared) (H : Hp) (E : XK) (hr : Room k (A.deeper (envOfC "_law_or_refused" (defScope s_law_or_refused) s.heap.objs.size f cdv))) (G : Gh) (hG : G.slots = []) :
    SDs (cxOf CX0 P w K mg base N_law_or_refused "_law_or_refused" (defScope s_law_or_refused) f cdv A outer s H E).nox G (defBody s_law_or_refused) (tb_law_or_refused) := by
  unfold tb_law_or_refused
  exact sds_one (sd_ret (ed_if (eb_cmp od_is (ed_var 0) (ED.er (ed_non)) (nomark _)) (ed_str) (ed_var 0)))
abbrev s_is_whole : Stmt := topS 1
abbrev N_is_whole : List Str := ["thing"]
theorem sc_is_whole : FnScope N_is_whole ["thing"] (defScope s_is_whole) := ⟨rfl, rfl, rfl, by decide +kernel, rfl, by decide +kernel, by decide +kernel⟩
theorem dv_is_whole {f : Addr} {k : Nat} (b_isinstance : mg "isinstance" = none) (b_int : mg "int" = none) (b_bool : mg "bool" = none) (cdv : Value) (A : Around) (outer : List PySem.Env) (s : Shared) (H : Hp) (E : XK) (hr : Room k (A.deeper (envOfC "is_whole" (defScope s_is_whole) s.heap.objs.size f cdv))) (G : Gh) (hG : G.slots = []) :
    SDs (cxOf CX0 P w K mg base N_is_whole "is_whole" (defScope s_is_whole) f cdv A outer s H E).nox G (defBody s_is_whole) (tb_is_whole) := by
  unfold tb_is_whole
  exact sds_one (sd_ret (ed_and (ed_isi isi_int (ed_var 0) rfl b_isinstance rfl b_int bb_int) (ed_one (ed_not (ed_isi isi_bool (ed_var 0) rfl b_isinstance rfl b_bool bb_bool)))))
abbrev s_is_card : Stmt := topS 2
abbrev N_is_card : List Str := ["ranks", "thing"]
theorem sc_is_card : FnScope N_is_card ["ranks", "thing"] (defScope s_is_card) := ⟨rfl, rfl, rfl, by decide +kernel, rfl, by decide +kernel, by decide +kernel⟩
theorem dv_is_card {f : Addr} {k : Nat} (b_isinstance : mg "isinstance" = none) (b_tuple : mg "tuple" = none) (b_len : mg "len" = none) {sp_is_whole : SpD} {f_is_whole : Addr} {fd_is_whole : FuncData} {k_is_whole : Nat} (C_is_whole : FnOk P w K mg base CX0 k_is_whole f_is_whole fd_is_whole ["thing"] (spL K sp_is_whole)) (h_is_whole : k_is_whole ≤ k) (C_is_whole_g : mg "is_whole" = some (.ref f_is_whole)) (C_is_whole_k : PySem.W.keepIn K (.ref f_is_whole) = true) (C_is_whole_b : Binds K fd_is_whole ["thing"] []) (cdv : Value) (A : Around) (outer : List PySem.Env) (s : Shared) (H : Hp) (E : XK) (hr : Room k (A.deeper (envOfC "is_card" (defScope s_is_card) s.heap.objs.size f cdv))) (G : Gh) (hG : G.slots = []) :
    SDs (cxOf CX0 P w K mg base N_is_card "is_card" (defScope s_is_card) f cdv A outer s H E).nox G (defBody s_is_card) (tb_is_card sp_is_whole) := by
  unfold tb_is_card
  exact sds_cons (sd_if (EW.eb (ew_or (eb_not (eb_tru (ED.er (ed_isi isi_tuple (ed_var 1) rfl b_isinstance rfl b_tuple bb_tuple)))) (ew_or (eb_cmp (od_ne hr.units) (ed_ca1 cd_len (ED.er (ed_var 1)) rfl b_len bb_len) (ED.er (ed_int)) (nomark _)) (ew_or (eb_not (eb_tru (ED.er (ed_call C_is_whole (hr.mono h_is_whole) rfl C_is_whole_g C_is_whole_k C_is_whole_b (ea_v (ed_ix (ed_var 1) (ed_int)) (ea_nil)))))) (ew_or1 (eb_not (eb_tru (ED.er (ed_call C_is_whole (hr.mono h_is_whole) rfl C_is_whole_g C_is_whole_k C_is_whole_b (ea_v (ed_ix (ed_var 1) (ed_int)) (ea_nil))))))))))) (sds_one (sd_ret (ed_bl))) (sds_nil))
      (sds_one (sd_ret (ed_and (ed_chain od_le od_le (ed_int) (ed_ix (ed_var 1) (ed_int)) (ed_int)) (ed_one (ed_chain od_le od_le (ed_int) (ed_ix (ed_var 1) (ed_int)) (ed_var 0))))))
abbrev s_is_hand : Stmt := topS 3
abbrev N_is_hand : List Str := ["ranks", "thing", "card", "k"]
theorem sc_is_hand : FnScope N_is_hand ["ranks", "thing"] (defScope s_is_hand) := ⟨rfl, rfl, rfl, by decide +kernel, rfl, by decide +kernel, by decide +kernel⟩
theorem dv_is_hand {f : Addr} {k : Nat} (b_range : mg "range" = none) (b_all : mg "all" = none) (b_isinstance : mg "isinstance" = none) (b_tuple : mg "tuple" = none) (b_len : mg "len" = none) {sp_is_card : SpD} {f_is_card : Addr} {fd_is_card : FuncData} {k_is_card : Nat} (C_is_card : FnOk P w K mg base CX0 k_is_card f_is_card fd_is_card ["ranks", "thing"] (spL K sp_is_card)) (h_is_card : k_is_card ≤ k) (C_is_card_g : mg "is_card" = some (.ref f_is_card)) (C_is_card_k : PySem.W.keepIn K (.ref f_is_card) = true) (C_is_card_b : Binds K fd_is_card ["ranks", "thing"] []) (cdv : Value) (A : Around) (outer : List PySem.Env) (s : Shared) (H : Hp) (E : XK) (hr : Room k (A.deeper (envOfC "is_hand" (defScope s_is_hand) s.heap.objs.size f cdv))) (G : Gh) (hG : G.slots = []) :
    SDs (cxOf CX0 P w K mg base N_is_hand "is_hand" (defScope s_is_hand) f cdv A outer s H E).nox G (defBody s_is_hand) (tb_is_hand sp_is_card) := by
  unfold tb_is_hand
  exact sds_cons (sd_if (EW.eb (ew_or (eb_not (eb_tru (ED.er (ed_isi isi_tuple (ed_var 1) rfl b_isinstance rfl b_tuple bb_tuple)))) (ew_or (eb_cmp (od_ne hr.units) (ed_ca1 cd_len (ED.er (ed_var 1)) rfl b_len bb_len) (ED.er (ed_var 0)) (nomark _)) (ew_or1 (eb_not (eb_tru (ED.er (ed_ca1 (cd_all rfl) (ED.er (EL.ed (el_comp [("card", 2)] rfl sc_is_hand.nd rfl (nsA hG (by decide)) (id_tup (ed_var 1)) (blkOk_by (N := N_is_hand) (sc := defScope s_is_hand) (by decide +kernel)) (fun _ q2 _ _ _ _ _ => gd_name (ns (q2.trans hG) (by decide)) (by decide) sc_is_hand.nd rfl (by first | exact Or.inl rfl | exact Or.inr rfl)) (fun _ q2 _ _ _ _ _ => ebs_nil) (fun _ q2 _ _ _ _ _ => ed_call C_is_card (hr.mono h_is_card) rfl C_is_card_g C_is_card_k C_is_card_b (ea_v (ed_var 0) (ea_v (ed_var 2) (ea_nil))))))) rfl b_all bb_all)))))))) (sds_one (sd_ret (ed_bl))) (sds_nil))
      (sds_one (sd_ret (ed_ca1 (cd_all rfl) (ED.er (EL.ed (el_comp [("k", 3)] rfl sc_is_hand.nd rfl (nsA hG (by decide)) (id_range1 rfl b_range (ed_op od_sub (ed_var 0) (ED.er (ed_int)))) (blkOk_by (N := N_is_hand) (sc := defScope s_is_hand) (by decide +kernel)) (fun _ q1 _ _ _ _ _ => gd_name (ns (q1.trans hG) (by decide)) (by decide) sc_is_hand.nd rfl (by first | exact Or.inl rfl | exact Or.inr rfl)) (fun _ q1 _ _ _ _ _ => ebs_nil) (fun _ q1 _ _ _ _ _ => ed_cmp (od_ltD (u65 hr)) (ed_ix (ed_var 1) (ed_var 3)) (ED.er (ed_ix (ed_var 1) (ed_op od_add (ed_var 3) (ED.er (ed_int))))) (nomark _))))) rfl b_all bb_all)))
abbrev s_is_deal : Stmt := topS 4
abbrev N_is_deal : List Str := ["ranks", "thing", "hand"]
theorem sc_is_deal : FnScope N_is_deal ["ranks", "thing"] (defScope s_is_deal) := ⟨rfl, rfl, rfl, by decide +kernel, rfl, by decide +kernel, by decide +kernel⟩
theorem dv_is_deal {f : Addr} {k : Nat} (b_len : mg "len" = none) (b_set : mg "set" = none) (b_isinstance : mg "isinstance" = none) (b_tuple : mg "tuple" = none) (b_all : mg "all" = none) {sp_is_hand : SpD} {f_is_hand : Addr} {fd_is_hand : FuncData} {k_is_hand : Nat} (C_is_hand : FnOk P w K mg base CX0 k_is_hand f_is_hand fd_is_hand ["ranks", "thing"] (spL K sp_is_hand)) (h_is_hand : k_is_hand ≤ k) (C_is_hand_g : mg "is_hand" = some (.ref f_is_hand)) (C_is_hand_k : PySem.W.keepIn K (.ref f_is_hand) = true) (C_is_hand_b : Binds K fd_is_hand ["ranks", "thing"] []) (cdv : Value) (A : Around) (outer : List PySem.Env) (s : Shared) (H : Hp) (E : XK) (hr : Room k (A.deeper (envOfC "is_deal" (defScope s_is_deal) s.heap.objs.size f cdv))) (G : Gh) (hG : G.slots = []) :
    SDs (cxOf CX0 P w K mg base N_is_deal "is_deal" (defScope s_is_deal) f cdv A outer s H E).nox G (defBody s_is_deal) (tb_is_deal sp_is_hand) := by
  unfold tb_is_deal
  exact sds_cons (sd_if (EW.eb (ew_or (eb_not (eb_tru (ED.er (ed_isi isi_tuple (ed_var 1) rfl b_isinstance rfl b_tuple bb_tuple)))) (ew_or (eb_cmp (od_ne hr.units) (ed_ca1 cd_len (ED.er (ed_var 1)) rfl b_len bb_len) (ED.er (ed_int)) (nomark _)) (ew_or1 (eb_not (eb_tru (ED.er (ed_ca1 (cd_all rfl) (ED.er (EL.ed (el_comp [("hand", 2)] rfl sc_is_deal.nd rfl (nsA hG (by decide)) (id_tup (ed_var 1)) (blkOk_by (N := N_is_deal) (sc := defScope s_is_deal) (by decide +kernel)) (fun _ q1 _ _ _ _ _ => gd_name (ns (q1.trans hG) (by decide)) (by decide) sc_is_deal.nd rfl (by first | exact Or.inl rfl | exact Or.inr rfl)) (fun _ q1 _ _ _ _ _ => ebs_nil) (fun _ q1 _ _ _ _ _ => ed_call C_is_hand (hr.mono h_is_hand) rfl C_is_hand_g C_is_hand_k C_is_hand_b (ea_v (ed_var 0) (ea_v (ed_var 2) (ea_nil))))))) rfl b_all bb_all)))))))) (sds_one (sd_ret (ed_bl))) (sds_nil))
      (sds_one (sd_ret (ed_cmp (od_eq hr.units) (ed_lenSetP (ed_op od_add (ed_op od_add (ed_op od_add (ed_ix (ed_var 1) (ed_int)) (ED.er (ed_ix (ed_var 1) (ed_int)))) (ED.er (ed_ix (ed_var 1) (ed_int)))) (ED.er (ed_ix (ed_var 1) (ed_int)))) (u65 hr) rfl b_len rfl b_set) (ED.er (ed_op od_mul (ed_int) (ED.er (ed_var 0)))) (nomark _))))
abbrev s_rank_of : Stmt := topS 12
abbrev N_rank_of : List Str := ["ranks", "sign", "rank"]
theorem sc_rank_of : FnScope N_rank_of ["ranks", "sign"] (defScope s_rank_of) := ⟨rfl, rfl, rfl, by decide +kernel, rfl, by decide +kernel, by decide +kernel⟩
theorem dv_rank_of {f : Addr} {k : Nat} {u_SIGNS : Value} {v_SIGNS : V} (g_SIGNS : mg "SIGNS" = some u_SIGNS) (r_SIGNS : RelV v_SIGNS u_SIGNS) (d_SIGNS : ∀ H, Rp K H c_SIGNS v_SIGNS) {A_NoText : Addr} (x_NoText : PySem.W.excIn K A_NoText [.type "ValueError", .type "Exception", .type "BaseException", .type "object"] "ValueError.__new__" = true) (g_NoText : mg "NoText" = some (.ref A_NoText)) (k_NoText : PySem.W.keepIn K (.ref A_NoText) = true) (b_NoText : PySem.W.subIn K (.ref A_NoText) (.type "BaseException") = some true) (t_NoText : PySem.W.typeIn K (.ref A_NoText) = some (.type "type")) (cdv : Value) (A : Around) (outer : List PySem.Env) (s : Shared) (H : Hp) (E : XK) (hr : Room k (A.deeper (envOfC "rank_of" (defScope s_rank_of) s.heap.objs.size f cdv))) (G : Gh) (hG : G.slots = []) (WD : WDt) (hW : Wish K G WD (fun cls d _ H' => E cls d H')) :
    SDs (cxOf (L2.CX P w) P w K mg base N_rank_of "rank_of" (defScope s_rank_of) f cdv A outer s H E) G (defBody s_rank_of) (tb_rank_of (.ref A_NoText) WD) := by
  unfold tb_rank_of
  exact sds_cons (sd_set (ns hG (by decide)) sc_rank_of.nd rfl (by first | exact Or.inl rfl | exact Or.inr rfl) (ed_op od_add (ed_op od_sub (ed_find (ed_glob rfl g_SIGNS r_SIGNS d_SIGNS) (ed_var 1)) (ED.er (ed_int))) (ED.er (ed_var 0))))
      (sds_cons (sd_if (EW.eb (ew_or (eb_cmp (od_eq hr.units) (ed_var 1) (ED.er (ed_str)) (nomark _)) (ew_or (eb_not (eb_chain od_le od_le (ed_int) (ed_var 2) (ed_var 0))) (ew_or1 (eb_cmp od_lt (ed_find (ed_glob rfl g_SIGNS r_SIGNS d_SIGNS) (ed_var 1)) (ED.er (ed_int)) (nomark _)))))) (sds_one (sd_raise rfl (takes_of rfl rfl rfl rfl) hW (pmk_own0 PySem.F.excBase_ValueError x_NoText g_NoText k_NoText (raises_own b_NoText t_NoText) rfl))) (sds_nil))
      (SDs.nox (sds_one (sd_ret (ed_var 2)))))
abbrev s_read_hand : Stmt := topS 15
abbrev N_read_hand : List Str := ["ranks", "text", "parts", "cards", "suit", "part", "sign"]
theorem sc_read_hand : FnScope N_read_hand ["ranks", "text"] (defScope s_read_hand) := ⟨rfl, rfl, rfl, by decide +kernel, rfl, by decide +kernel, by decide +kernel⟩
theorem dv_read_hand {f : Addr} {k : Nat} (b_tuple : mg "tuple" = none) (b_enumerate : mg "enumerate" = none) (b_len : mg "len" = none) {sp_is_hand : SpD} {f_is_hand : Addr} {fd_is_hand : FuncData} {k_is_hand : Nat} (C_is_hand : FnOk P w K mg base CX0 k_is_hand f_is_hand fd_is_hand ["ranks", "thing"] (spL K sp_is_hand)) (h_is_hand : k_is_hand ≤ k) (C_is_hand_g : mg "is_hand" = some (.ref f_is_hand)) (C_is_hand_k : PySem.W.keepIn K (.ref f_is_hand) = true) (C_is_hand_b : Binds K fd_is_hand ["ranks", "thing"] []) {sp_rank_of : SpX} {f_rank_of : Addr} {fd_rank_of : FuncData} {k_rank_of : Nat} (C_rank_of : FnOk P w K mg base (L2.CX P w) k_rank_of f_rank_of fd_rank_of ["ranks", "sign"] (spLX K sp_rank_of)) (h_rank_of : k_rank_of ≤ k) (C_rank_of_g : mg "rank_of" = some (.ref f_rank_of)) (C_rank_of_k : PySem.W.keepIn K (.ref f_rank_of) = true) (C_rank_of_b : Binds K fd_rank_of ["ranks", "sign"] []) {A_NoText : Addr} (x_NoText : PySem.W.excIn K A_NoText [.type "ValueError", .type "Exception", .type "BaseException", .type "object"] "ValueError.__new__" = true) (g_NoText : mg "NoText" = some (.ref A_NoText)) (k_NoText : PySem.W.keepIn K (.ref A_NoText) = true) (b_NoText : PySem.W.subIn K (.ref A_NoText) (.type "BaseException") = some true) (t_NoText : PySem.W.typeIn K (.ref A_NoText) = some (.type "type")) (cdv : Value) (A : Around) (outer : List PySem.Env) (s : Shared) (H : Hp) (E : XK) (hr : Room k (A.deeper (envOfC "read_hand" (defScope s_read_hand) s.heap.objs.size f cdv))) (G : Gh) (hG : G.slots = []) (WD : WDt) (hW : Wish K G WD (fun cls d _ H' => E cls d H')) (hE : ∀ cls E E', WD cls E → WD cls E') :
    SDs (cxOf (L2.CX P w) P w K mg base N_read_hand "read_hand" (defScope s_read_hand) f cdv A outer s H E) G (defBody s_read_hand) (tb_read_hand sp_is_hand sp_rank_of (.ref A_NoText) WD) := by
  unfold tb_read_hand
  exact sds_cons (sd_set (ns hG (by decide)) sc_read_hand.nd rfl (by first | exact Or.inl rfl | exact Or.inr rfl) (EL.ed (el_split (ed_var 1) (ed_str))))
      (sds_cons (sd_if (eb_cmp (od_ne hr.units) (ed_ca1 cd_len (ED.er (ed_var 2)) rfl b_len bb_len) (ED.er (ed_int)) (nomark _)) (sds_one (sd_raise rfl (takes_of rfl rfl rfl rfl) hW (pmk_own0 PySem.F.excBase_ValueError x_NoText g_NoText k_NoText (raises_own b_NoText t_NoText) rfl))) (sds_nil))
      (sds_cons (sd_setL (ns hG (by decide)) sc_read_hand.nd rfl (by first | exact Or.inl rfl | exact Or.inr rfl) (el_lst (eds_nil)))
      (sds_cons (sd_for (ms := [4, 5]) (passes_of rfl) rfl (id_enumL (EL.ed (el_rev (ED.er (ed_var 2)))) rfl b_enumerate) (gd_tup rfl (gds_cons (gd_name (ns hG (by decide)) (by decide) sc_read_hand.nd rfl (by first | exact Or.inl rfl | exact Or.inr rfl)) (gds_cons (gd_name (ns hG (by decide)) (by decide) sc_read_hand.nd rfl (by first | exact Or.inl rfl | exact Or.inr rfl)) (gds_nil)))) (sds_one (sd_expr (ed_extd 3 (el_compX (Wb := E) (te := fun WD => tTupD (dCons (tV 4) (dCons (tCallX sp_rank_of (aV (tV 0) (aV (tV 6) (aNil))) WD) (dNil)))) [("sign", 6)] (takesA_of rfl rfl rfl rfl) hW hE rfl rfl rfl sc_read_hand.nd rfl (nsA hG (by decide)) (id_str (ed_revS (ed_var 5))) (blkOk_by (N := N_read_hand) (sc := defScope s_read_hand) (by decide +kernel)) (fun _ q1 _ _ _ _ _ => gd_name (ns (q1.trans hG) (by decide)) (by decide) sc_read_hand.nd rfl (by first | exact Or.inl rfl | exact Or.inr rfl)) (fun _ q1 _ _ _ _ _ => ebs_nil) (fun _ q1 WD1 hw1 _ _ _ _ _ tk1 => ed_tup (eds_cons (ed_var 4) (eds_cons (ed_callX C_rank_of tk1 hw1 (hr.mono h_rank_of) rfl C_rank_of_g C_rank_of_k C_rank_of_b (ea_v (ed_var 0) (ea_v (ed_var 6) (ea_nil)))) (eds_nil)))))))))
      (sds_cons (sd_if (eb_not (eb_tru (ED.er (ed_call C_is_hand (hr.mono h_is_hand) rfl C_is_hand_g C_is_hand_k C_is_hand_b (ea_v (ed_var 0) (ea_v (ed_caT1 cd_tuple (er_var 3) rfl b_tuple bb_tuple) (ea_nil))))))) (sds_one (sd_raise rfl (takes_of rfl rfl rfl rfl) hW (pmk_own0 PySem.F.excBase_ValueError x_NoText g_NoText k_NoText (raises_own b_NoText t_NoText) rfl))) (sds_nil))
      (SDs.nox (sds_one (sd_ret (ed_caT1 cd_tuple (er_var 3) rfl b_tuple bb_tuple))))))))
abbrev s_read_deal : Stmt := topS 17
abbrev N_read_deal : List Str := ["ranks", "text", "deal", "word"]
theorem sc_read_deal : FnScope N_read_deal ["ranks", "text"] (defScope s_read_deal) := ⟨rfl, rfl, rfl, by decide +kernel, rfl, by decide +kernel, by decide +kernel⟩
theorem dv_read_deal {f : Addr} {k : Nat} (b_tuple : mg "tuple" = none) {sp_is_deal : SpD} {f_is_deal : Addr} {fd_is_deal : FuncData} {k_is_deal : Nat} (C_is_deal : FnOk P w K mg base CX0 k_is_deal f_is_deal fd_is_deal ["ranks", "thing"] (spL K sp_is_deal)) (h_is_deal : k_is_deal ≤ k) (C_is_deal_g : mg "is_deal" = some (.ref f_is_deal)) (C_is_deal_k : PySem.W.keepIn K (.ref f_is_deal) = true) (C_is_deal_b : Binds K fd_is_deal ["ranks", "thing"] []) {sp_read_hand : SpX} {f_read_hand : Addr} {fd_read_hand : FuncData} {k_read_hand : Nat} (C_read_hand : FnOk P w K mg base (L2.CX P w) k_read_hand f_read_hand fd_read_hand ["ranks", "text"] (spLX K sp_read_hand)) (h_read_hand : k_read_hand ≤ k) (C_read_hand_g : mg "read_hand" = some (.ref f_read_hand)) (C_read_hand_k : PySem.W.keepIn K (.ref f_read_hand) = true) (C_read_hand_b : Binds K fd_read_hand ["ranks", "text"] []) {A_NoText : Addr} (x_NoText : PySem.W.excIn K A_NoText [.type "ValueError", .type "Exception", .type "BaseException", .type "object"] "ValueError.__new__" = true) (g_NoText : mg "NoText" = some (.ref A_NoText)) (k_NoText : PySem.W.keepIn K (.ref A_NoText) = true) (b_NoText : PySem.W.subIn K (.ref A_NoText) (.type "BaseException") = some true) (t_NoText : PySem.W.typeIn K (.ref A_NoText) = some (.type "type")) (cdv : Value) (A : Around) (outer : List PySem.Env) (s : Shared) (H : Hp) (E : XK) (hr : Room k (A.deeper (envOfC "read_deal" (defScope s_read_deal) s.heap.objs.size f cdv))) (G : Gh) (hG : G.slots = []) (WD : WDt) (hW : Wish K G WD (fun cls d _ H' => E cls d H')) (hE : ∀ cls E E', WD cls E → WD cls E') :
    SDs (cxOf (L2.CX P w) P w K mg base N_read_deal "read_deal" (defScope s_read_deal) f cdv A outer s H E) G (defBody s_read_deal) (tb_read_deal sp_is_deal sp_read_hand (.ref A_NoText) WD) := by
  unfold tb_read_deal
  exact sds_cons (sd_set (ns hG (by decide)) sc_read_deal.nd rfl (by first | exact Or.inl rfl | exact Or.inr rfl) (ed_caT1 cd_tuple (ED.er (EL.ed (el_compX (Wb := E) (te := fun WD => tCallX sp_read_hand (aV (tV 0) (aV (tV 3) (aNil))) WD) [("word", 3)] (takesA_of rfl rfl rfl rfl) hW hE rfl rfl rfl sc_read_deal.nd rfl (nsA hG (by decide)) (id_lst (EL.ed (el_split (ed_var 1) (ed_str)))) (blkOk_by (N := N_read_deal) (sc := defScope s_read_deal) (by decide +kernel)) (fun _ q1 _ _ _ _ _ => gd_name (ns (q1.trans hG) (by decide)) (by decide) sc_read_deal.nd rfl (by first | exact Or.inl rfl | exact Or.inr rfl)) (fun _ q1 _ _ _ _ _ => ebs_nil) (fun _ q1 WD1 hw1 _ _ _ _ _ tk1 => ed_callX C_read_hand tk1 hw1 (hr.mono h_read_hand) rfl C_read_hand_g C_read_hand_k C_read_hand_b (ea_v (ed_var 0) (ea_v (ed_var 3) (ea_nil))))))) rfl b_tuple bb_tuple))
      (sds_cons (sd_if (eb_not (eb_tru (ED.er (ed_call C_is_deal (hr.mono h_is_deal) rfl C_is_deal_g C_is_deal_k C_is_deal_b (ea_v (ed_var 0) (ea_v (ed_var 2) (ea_nil))))))) (sds_one (sd_raise rfl (takes_of rfl rfl rfl rfl) hW (pmk_own0 PySem.F.excBase_ValueError x_NoText g_NoText k_NoText (raises_own b_NoText t_NoText) rfl))) (sds_nil))
      (SDs.nox (sds_one (sd_ret (ed_var 2)))))
abbrev s_law_told_deal : Stmt := topS 32
abbrev N_law_told_deal : List Str := ["ranks", "text", "got"]
theorem sc_law_told_deal : FnScope N_law_told_deal ["ranks", "text"] (defScope s_law_told_deal) := ⟨rfl, rfl, rfl, by decide +kernel, rfl, by decide +kernel, by decide +kernel⟩
theorem dv_law_told_deal {f : Addr} {k : Nat} {sp_read_deal : SpX} {f_read_deal : Addr} {fd_read_deal : FuncData} {k_read_deal : Nat} (C_read_deal : FnOk P w K mg base (L2.CX P w) k_read_deal f_read_deal fd_read_deal ["ranks", "text"] (spLX K sp_read_deal)) (h_read_deal : k_read_deal ≤ k) (C_read_deal_g : mg "read_deal" = some (.ref f_read_deal)) (C_read_deal_k : PySem.W.keepIn K (.ref f_read_deal) = true) (C_read_deal_b : Binds K fd_read_deal ["ranks", "text"] []) {A_NoText : Addr} (g_NoText : mg "NoText" = some (.ref A_NoText)) {m_NoText : Value → Option Bool} (hm_NoText : ∀ cls b, m_NoText cls = some b → PySem.W.exmOne K cls (.ref A_NoText) = some b) (cdv : Value) (A : Around) (outer : List PySem.Env) (s : Shared) (H : Hp) (E : XK) (hr : Room k (A.deeper (envOfC "_law_told_deal" (defScope s_law_told_deal) s.heap.objs.size f cdv))) (G : Gh) (hG : G.slots = []) :
    SDs (cxOf CX0 P w K mg base N_law_told_deal "_law_told_deal" (defScope s_law_told_deal) f cdv A outer s H E).nox G (defBody s_law_told_deal) (tb_law_told_deal sp_read_deal m_NoText) := by
  unfold tb_law_told_deal
  exact sds_cons (sd_set (ns hG (by decide)) sc_law_told_deal.nd rfl (by first | exact Or.inl rfl | exact Or.inr rfl) (ed_non))
      (sds_cons (sd_try (m := m_NoText) (Wo := fun _ _ => False) hm_NoText (fun _ _ _ _ h _ => h.elim) rfl rfl ⟨rfl, by decide, .inl g_NoText⟩ takes0 (fun W1 pn1 xe1 tk1 _ G1 q1 WD1 hw1 => sds_one (sd_set (ns (q1.trans hG) (by decide)) sc_law_told_deal.nd rfl (by first | exact Or.inl rfl | exact Or.inr rfl) (ed_callX C_read_deal tk1 hw1 (hr.mono h_read_deal) rfl C_read_deal_g C_read_deal_k C_read_deal_b (ea_v (ed_var 0) (ea_v (ed_var 1) (ea_nil)))))) (fun _ _ _ => sds_one (sd_set (ns hG (by decide)) sc_law_told_deal.nd rfl (by first | exact Or.inl rfl | exact Or.inr rfl) (ed_str))))
      (sds_one (sd_ret (ed_var 2))))
abbrev s_law_same : Stmt := topS 19
abbrev N_law_same : List Str := ["got", "due", "one", "other"]
theorem sc_law_same : FnScope N_law_same ["got", "due"] (defScope s_law_same) := ⟨rfl, rfl, rfl, by decide +kernel, rfl, by decide +kernel, by decide +kernel⟩
theorem dv_law_same {f : Addr} {k : Nat} (b_isinstance : mg "isinstance" = none) (b_int : mg "int" = none) (b_bool : mg "bool" = none) (b_str : mg "str" = none) (b_tuple : mg "tuple" = none) (b_zip : mg "zip" = none) (b_all : mg "all" = none) (b_len : mg "len" = none) {sp_law_same : SpD} {f_law_same : Addr} {fd_law_same : FuncData} {k_law_same : Nat} (C_law_same : FnOk P w K mg base CX0 k_law_same f_law_same fd_law_same ["got", "due"] (spL K sp_law_same)) (h_law_same : k_law_same ≤ k) (C_law_same_g : mg "_law_same" = some (.ref f_law_same)) (C_law_same_k : PySem.W.keepIn K (.ref f_law_same) = true) (C_law_same_b : Binds K fd_law_same ["got", "due"] []) (cdv : Value) (A : Around) (outer : List PySem.Env) (s : Shared) (H : Hp) (E : XK) (hr : Room k (A.deeper (envOfC "_law_same" (defScope s_law_same) s.heap.objs.size f cdv))) (G : Gh) (hG : G.slots = []) :
    SDs (cxOf CX0 P w K mg base N_law_same "_law_same" (defScope s_law_same) f cdv A outer s H E).nox G (defBody s_law_same) (tb_law_same sp_law_same) := by
  unfold tb_law_same
  exact sds_cons (sd_if (eb_cmp od_is (ed_var 1) (ED.er (ed_non)) (nomark _)) (sds_one (sd_ret (ed_cmp od_is (ed_var 0) (ED.er (ed_non)) (nomark _)))) (sds_nil))
      (sds_cons (sd_if (eb_tru (ED.er (ed_isi isi_bool (ed_var 1) rfl b_isinstance rfl b_bool bb_bool))) (sds_one (sd_ret (ed_and (ed_isi isi_bool (ed_var 0) rfl b_isinstance rfl b_bool bb_bool) (ed_one (ed_cmp (od_eq hr.units) (ed_var 0) (ED.er (ed_var 1)) (nomark _)))))) (sds_nil))
      (sds_cons (sd_if (eb_tru (ED.er (ed_isi isi_tuple (ed_var 1) rfl b_isinstance rfl b_tuple bb_tuple))) (sds_cons (sd_if (EW.eb (ew_or (eb_not (eb_tru (ED.er (ed_isi isi_tuple (ed_var 0) rfl b_isinstance rfl b_tuple bb_tuple)))) (ew_or1 (eb_cmp (od_ne hr.units) (ed_ca1 cd_len (ED.er (ed_var 0)) rfl b_len bb_len) (ED.er (ed_ca1 cd_len (ED.er (ed_var 1)) rfl b_len bb_len)) (nomark _))))) (sds_one (sd_ret (ed_bl))) (sds_nil))
      (sds_one (sd_ret (ed_ca1 (cd_all rfl) (ED.er (EL.ed (el_comp [("one", 2), ("other", 3)] rfl sc_law_same.nd rfl (nsA hG (by decide)) (id_zip (ed_var 0) (ed_var 1) rfl b_zip) (blkOk_by (N := N_law_same) (sc := defScope s_law_same) (by decide +kernel)) (fun _ q1 _ _ _ _ _ => gd_tup rfl (gds_cons (gd_name (ns (q1.trans hG) (by decide)) (by decide) sc_law_same.nd rfl (by first | exact Or.inl rfl | exact Or.inr rfl)) (gds_cons (gd_name (ns (q1.trans hG) (by decide)) (by decide) sc_law_same.nd rfl (by first | exact Or.inl rfl | exact Or.inr rfl)) (gds_nil)))) (fun _ q1 _ _ _ _ _ => ebs_nil) (fun _ q1 _ _ _ _ _ => ed_call C_law_same (hr.mono h_law_same) rfl C_law_same_g C_law_same_k C_law_same_b (ea_v (ed_var 2) (ea_v (ed_var 3) (ea_nil))))))) rfl b_all bb_all)))) (sds_nil))
      (sds_cons (sd_if (eb_tru (ED.er (ed_isi isi_str (ed_var 1) rfl b_isinstance rfl b_str bb_str))) (sds_one (sd_ret (ed_and (ed_isi isi_str (ed_var 0) rfl b_isinstance rfl b_str bb_str) (ed_one (ed_cmp (od_eq hr.units) (ed_var 0) (ED.er (ed_var 1)) (nomark _)))))) (sds_nil))
      (sds_one (sd_ret (ed_and (ed_isi isi_int (ed_var 0) rfl b_isinstance rfl b_int bb_int) (ed_and (ed_not (ed_isi isi_bool (ed_var 0) rfl b_isinstance rfl b_bool bb_bool)) (ed_one (ed_cmp (od_eq hr.units) (ed_var 0) (ED.er (ed_var 1)) (nomark _))))))))))
abbrev s_law_draw : Stmt := topS 20
abbrev N_law_draw : List Str := ["script", "town", "many", "k", "cell", "digits", "number", "more"]
theorem sc_law_draw : FnScope N_law_draw ["script", "town", "many"] (defScope s_law_draw) := ⟨rfl, rfl, rfl, by decide +kernel, rfl, by decide +kernel, by decide +kernel⟩
theorem dv_law_draw {f : Addr} {k : Nat} (b_len : mg "len" = none) (b_abs : mg "abs" = none) (b_max : mg "max" = none) (cdv : Value) (A : Around) (outer : List PySem.Env) (s : Shared) (H : Hp) (E : XK) (hr : Room k (A.deeper (envOfC "_law_draw" (defScope s_law_draw) s.heap.objs.size f cdv))) (G : Gh) (hG : G.slots = [1]) :
    SDs (cxOf CX0 P w K mg base N_law_draw "_law_draw" (defScope s_law_draw) f cdv A outer s H E).nox G (defBody s_law_draw) (tb_law_draw) := by
  unfold tb_law_draw
  exact sds_cons (sd_if (eb_not (eb_tru (er_var 1))) (sds_one (sd_expr (ed_app 1 (ed_ca1 (cd_max rfl) (ED.er (EL.ed (el_op od_cat (EL.ed (el_comp [("cell", 4)] rfl sc_law_draw.nd rfl (nsA hG (by decide)) (id_lst (ed_var 0)) (blkOk_by (N := N_law_draw) (sc := defScope s_law_draw) (by decide +kernel)) (fun _ q1 _ _ _ _ _ => gd_name (ns (q1.trans hG) (by decide)) (by decide) sc_law_draw.nd rfl (by first | exact Or.inl rfl | exact Or.inr rfl)) (fun _ q1 _ _ _ _ _ => ebs_nil) (fun _ q1 _ _ _ _ _ => ed_ca1 cd_abs (ED.er (ed_var 4)) rfl b_abs bb_abs))) (ED.er (EL.ed (el_lst (eds_cons (ed_int) (eds_nil)))))))) rfl b_max bb_max)))) (sds_nil))
      (sds_cons (sd_expr (ed_app 1 (ed_int)))
      (sds_cons (sd_set (ns hG (by decide)) sc_law_draw.nd rfl (by first | exact Or.inl rfl | exact Or.inr rfl) (ed_ca1 cd_len (er_var 1) rfl b_len bb_len))
      (sds_cons (sd_set (ns hG (by decide)) sc_law_draw.nd rfl (by first | exact Or.inl rfl | exact Or.inr rfl) (ed_if (eb_tru (ED.er (ed_var 0))) (ed_ix (ed_var 0) (ed_op od_mod (ed_var 3) (ED.er (ed_ca1 cd_len (ED.er (ed_var 0)) rfl b_len bb_len)))) (ed_int)))
      (sds_cons (sd_set (ns hG (by decide)) sc_law_draw.nd rfl (by first | exact Or.inl rfl | exact Or.inr rfl) (ed_op od_mod (ed_ixO 1 (ed_int)) (ED.er (ed_int))))
      (sds_cons (sd_setIx 1 (ed_int) (ed_op od_div (ed_ixO 1 (ed_int)) (ED.er (ed_int))))
      (sds_cons (sd_set (ns hG (by decide)) sc_law_draw.nd rfl (by first | exact Or.inl rfl | exact Or.inr rfl) (ed_op od_mod (ed_op od_add (ed_op od_add (ed_var 4) (ED.er (ed_op od_mul (ed_int) (ED.er (ed_var 5))))) (ED.er (ed_op od_mul (ed_int) (ED.er (ed_var 3))))) (ED.er (ed_int))))
      (sds_cons (sd_set (ns hG (by decide)) sc_law_draw.nd rfl (by first | exact Or.inl rfl | exact Or.inr rfl) (ed_op od_mod (ed_op od_mul (ed_op od_mod (ed_op od_mul (ed_var 6) (ED.er (ed_var 6))) (ED.er (ed_int))) (ED.er (ed_int))) (ED.er (ed_int))))
      (sds_cons (sd_set (ns hG (by decide)) sc_law_draw.nd rfl (by first | exact Or.inl rfl | exact Or.inr rfl) (ed_op od_mod (ed_op od_mul (ed_op od_mod (ed_op od_mul (ed_var 6) (ED.er (ed_var 6))) (ED.er (ed_int))) (ED.er (ed_int))) (ED.er (ed_int))))
      (sds_one (sd_ret (ed_op od_mod (ed_op od_add (ed_op od_mul (ed_op od_div (ed_var 6) (ED.er (ed_int))) (ED.er (ed_int))) (ED.er (ed_op od_div (ed_var 7) (ED.er (ed_int))))) (ED.er (ed_var 2)))))))))))))
abbrev s_law_pick : Stmt := topS 21
abbrev N_law_pick : List Str := ["script", "town", "some"]
theorem sc_law_pick : FnScope N_law_pick ["script", "town", "some"] (defScope s_law_pick) := ⟨rfl, rfl, rfl, by decide +kernel, rfl, by decide +kernel, by decide +kernel⟩
theorem dv_law_pick {f : Addr} {k : Nat} (b_len : mg "len" = none) {sp_law_draw : SpD} {f_law_draw : Addr} {fd_law_draw : FuncData} {k_law_draw : Nat} (C_law_draw : FnOk P w K mg base CX0 k_law_draw f_law_draw fd_law_draw ["script", "town", "many"] (spL K sp_law_draw)) (h_law_draw : k_law_draw ≤ k) (C_law_draw_g : mg "_law_draw" = some (.ref f_law_draw)) (C_law_draw_k : PySem.W.keepIn K (.ref f_law_draw) = true) (C_law_draw_b : Binds K fd_law_draw ["script", "town", "many"] []) (cdv : Value) (A : Around) (outer : List PySem.Env) (s : Shared) (H : Hp) (E : XK) (hr : Room k (A.deeper (envOfC "_law_pick" (defScope s_law_pick) s.heap.objs.size f cdv))) (G : Gh) (hG : G.slots = [1]) :
    SDs (cxOf CX0 P w K mg base N_law_pick "_law_pick" (defScope s_law_pick) f cdv A outer s H E).nox G (defBody s_law_pick) (tb_law_pick sp_law_draw) := by
  unfold tb_law_pick
  exact sds_one (sd_ret (ed_ix (ed_var 2) (ed_call C_law_draw (hr.mono h_law_draw) rfl C_law_draw_g C_law_draw_k C_law_draw_b (ea_v (ed_var 0) (ea_o 1 (ea_v (ed_ca1 cd_len (ED.er (ed_var 2)) rfl b_len bb_len) (ea_nil)))))))
abbrev s_law_spoilt : Stmt := topS 29
abbrev N_law_spoilt : List Str := ["script", "town", "text", "signs", "at", "way", "sign", "words", "spot"]
theorem sc_law_spoilt : FnScope N_law_spoilt ["script", "town", "text", "signs"] (defScope s_law_spoilt) := ⟨rfl, rfl, rfl, by decide +kernel, rfl, by decide +kernel, by decide +kernel⟩
theorem dv_law_spoilt {f : Addr} {k : Nat} (b_len : mg "len" = none) {sp_law_draw : SpD} {f_law_draw : Addr} {fd_law_draw : FuncData} {k_law_draw : Nat} (C_law_draw : FnOk P w K mg base CX0 k_law_draw f_law_draw fd_law_draw ["script", "town", "many"] (spL K sp_law_draw)) (h_law_draw : k_law_draw ≤ k) (C_law_draw_g : mg "_law_draw" = some (.ref f_law_draw)) (C_law_draw_k : PySem.W.keepIn K (.ref f_law_draw) = true) (C_law_draw_b : Binds K fd_law_draw ["script", "town", "many"] []) {sp_law_pick : SpD} {f_law_pick : Addr} {fd_law_pick : FuncData} {k_law_pick : Nat} (C_law_pick : FnOk P w K mg base CX0 k_law_pick f_law_pick fd_law_pick ["script", "town", "some"] (spL K sp_law_pick)) (h_law_pick : k_law_pick ≤ k) (C_law_pick_g : mg "_law_pick" = some (.ref f_law_pick)) (C_law_pick_k : PySem.W.keepIn K (.ref f_law_pick) = true) (C_law_pick_b : Binds K fd_law_pick ["script", "town", "some"] []) (cdv : Value) (A : Around) (outer : List PySem.Env) (s : Shared) (H : Hp) (E : XK) (hr : Room k (A.deeper (envOfC "_law_spoilt" (defScope s_law_spoilt) s.heap.objs.size f cdv))) (G : Gh) (hG : G.slots = [1]) :
    SDs (cxOf CX0 P w K mg base N_law_spoilt "_law_spoilt" (defScope s_law_spoilt) f cdv A outer s H E).nox G (defBody s_law_spoilt) (tb_law_spoilt sp_law_draw sp_law_pick) := by
  unfold tb_law_spoilt
  exact sds_cons (sd_par2 (nsA hG (by decide)) rfl sc_law_spoilt.nd rfl rfl (by decide) rfl rfl (eps_d (ed_call C_law_draw (hr.mono h_law_draw) rfl C_law_draw_g C_law_draw_k C_law_draw_b (ea_v (ed_var 0) (ea_o 1 (ea_v (ed_op od_add (ed_ca1 cd_len (ED.er (ed_var 2)) rfl b_len bb_len) (ED.er (ed_int))) (ea_nil))))) (eps_d (ed_call C_law_draw (hr.mono h_law_draw) rfl C_law_draw_g C_law_draw_k C_law_draw_b (ea_v (ed_var 0) (ea_o 1 (ea_v (ed_int) (ea_nil))))) (eps_nil))))
      (sds_cons (sd_set (ns hG (by decide)) sc_law_spoilt.nd rfl (by first | exact Or.inl rfl | exact Or.inr rfl) (ed_call C_law_pick (hr.mono h_law_pick) rfl C_law_pick_g C_law_pick_k C_law_pick_b (ea_v (ed_var 0) (ea_o 1 (ea_v (ed_var 3) (ea_nil))))))
      (sds_cons (sd_if (eb_cmp (od_eq hr.units) (ed_var 5) (ED.er (ed_int)) (nomark _)) (sds_one (sd_ret (ed_op od_add (ed_sl (ed_var 2) (eo_no) (eo_e (ed_var 4))) (ED.er (ed_sl (ed_var 2) (eo_e (ed_op od_add (ed_var 4) (ED.er (ed_int)))) (eo_no)))))) (sds_nil))
      (sds_cons (sd_if (eb_cmp (od_eq hr.units) (ed_var 5) (ED.er (ed_int)) (nomark _)) (sds_one (sd_ret (ed_op od_add (ed_op od_add (ed_sl (ed_var 2) (eo_no) (eo_e (ed_var 4))) (ED.er (ed_var 6))) (ED.er (ed_sl (ed_var 2) (eo_e (ed_var 4)) (eo_no)))))) (sds_nil))
      (sds_cons (sd_if (eb_cmp (od_eq hr.units) (ed_var 5) (ED.er (ed_int)) (nomark _)) (sds_cons (sd_setL (ns hG (by decide)) sc_law_spoilt.nd rfl (by first | exact Or.inl rfl | exact Or.inr rfl) (el_split (ed_var 2) (ed_str)))
      (sds_cons (sd_set (ns hG (by decide)) sc_law_spoilt.nd rfl (by first | exact Or.inl rfl | exact Or.inr rfl) (ed_call C_law_draw (hr.mono h_law_draw) rfl C_law_draw_g C_law_draw_k C_law_draw_b (ea_v (ed_var 0) (ea_o 1 (ea_v (ed_ca1 cd_len (er_var 7) rfl b_len bb_len) (ea_nil))))))
      (sds_cons (sd_setSlO 7 (ed_var 8) (ed_op od_add (ed_var 8) (ED.er (ed_int))) (ed_call C_law_pick (hr.mono h_law_pick) rfl C_law_pick_g C_law_pick_k C_law_pick_b (ea_v (ed_var 0) (ea_o 1 (ea_v (EL.ed (el_lst (eds_cons (EL.ed (el_lst (eds_nil))) (eds_cons (EL.ed (el_op od_rep (EL.ed (el_slO 7 (eo_e (ed_var 8)) (eo_e (ed_op od_add (ed_var 8) (ED.er (ed_int)))))) (ED.er (ed_int)))) (eds_cons (EL.ed (el_lst (eds_cons (ed_var 6) (eds_nil)))) (eds_cons (EL.ed (el_lst (eds_cons (ed_var 6) (eds_cons (ed_ixO 7 (ed_var 8)) (eds_nil))))) (eds_nil))))))) (ea_nil))))))
      (sds_one (sd_ret (ed_joinS (ed_str) (er_var 7))))))) (sds_nil))
      (sds_cons (sd_if (eb_cmp (od_eq hr.units) (ed_var 5) (ED.er (ed_int)) (nomark _)) (sds_cons (sd_setL (ns hG (by decide)) sc_law_spoilt.nd rfl (by first | exact Or.inl rfl | exact Or.inr rfl) (el_split (ed_var 2) (ed_str)))
      (sds_cons (sd_set (ns hG (by decide)) sc_law_spoilt.nd rfl (by first | exact Or.inl rfl | exact Or.inr rfl) (ed_call C_law_draw (hr.mono h_law_draw) rfl C_law_draw_g C_law_draw_k C_law_draw_b (ea_v (ed_var 0) (ea_o 1 (ea_v (ed_ca1 cd_len (er_var 7) rfl b_len bb_len) (ea_nil))))))
      (sds_one (sd_ret (ed_joinS (ed_str) (ED.er (EL.ed (el_op od_cat (EL.ed (el_slO 7 (eo_no) (eo_e (ed_var 8)))) (ED.er (EL.ed (el_rev (ED.er (EL.ed (el_slO 7 (eo_e (ed_var 8)) (eo_no))))))))))))))) (sds_nil))
      (sds_one (sd_ret (ed_op od_add (ed_op od_add (ed_sl (ed_var 2) (eo_no) (eo_e (ed_var 4))) (ED.er (ed_var 6))) (ED.er (ed_sl (ed_var 2) (eo_e (ed_op od_add (ed_var 4) (ED.er (ed_int)))) (eo_no)))))))))))
abbrev s_sign_of : Stmt := topS 11
abbrev N_sign_of : List Str := ["ranks", "rank"]
theorem sc_sign_of : FnScope N_sign_of ["ranks", "rank"] (defScope s_sign_of) := ⟨rfl, rfl, rfl, by decide +kernel, rfl, by decide +kernel, by decide +kernel⟩
theorem dv_sign_of {f : Addr} {k : Nat} {u_SIGNS : Value} {v_SIGNS : V} (g_SIGNS : mg "SIGNS" = some u_SIGNS) (r_SIGNS : RelV v_SIGNS u_SIGNS) (d_SIGNS : ∀ H, Rp K H c_SIGNS v_SIGNS) (cdv : Value) (A : Around) (outer : List PySem.Env) (s : Shared) (H : Hp) (E : XK) (hr : Room k (A.deeper (envOfC "sign_of" (defScope s_sign_of) s.heap.objs.size f cdv))) (G : Gh) (hG : G.slots = []) :
    SDs (cxOf CX0 P w K mg base N_sign_of "sign_of" (defScope s_sign_of) f cdv A outer s H E).nox G (defBody s_sign_of) (tb_sign_of) := by
  unfold tb_sign_of
  exact sds_one (sd_ret (ed_ix (ed_glob rfl g_SIGNS r_SIGNS d_SIGNS) (ed_op od_add (ed_op od_sub (ed_int) (ED.er (ed_var 0))) (ED.er (ed_var 1)))))
abbrev s_hand_text : Stmt := topS 14
abbrev N_hand_text : List Str := ["ranks", "hand", "parts", "suit", "card"]
theorem sc_hand_text : FnScope N_hand_text ["ranks", "hand"] (defScope s_hand_text) := ⟨rfl, rfl, rfl, by decide +kernel, rfl, by decide +kernel, by decide +kernel⟩
theorem dv_hand_text {f : Addr} {k : Nat} {sp_sign_of : SpD} {f_sign_of : Addr} {fd_sign_of : FuncData} {k_sign_of : Nat} (C_sign_of : FnOk P w K mg base CX0 k_sign_of f_sign_of fd_sign_of ["ranks", "rank"] (spL K sp_sign_of)) (h_sign_of : k_sign_of ≤ k) (C_sign_of_g : mg "sign_of" = some (.ref f_sign_of)) (C_sign_of_k : PySem.W.keepIn K (.ref f_sign_of) = true) (C_sign_of_b : Binds K fd_sign_of ["ranks", "rank"] []) (cdv : Value) (A : Around) (outer : List PySem.Env) (s : Shared) (H : Hp) (E : XK) (hr : Room k (A.deeper (envOfC "hand_text" (defScope s_hand_text) s.heap.objs.size f cdv))) (G : Gh) (hG : G.slots = []) :
    SDs (cxOf CX0 P w K mg base N_hand_text "hand_text" (defScope s_hand_text) f cdv A outer s H E).nox G (defBody s_hand_text) (tb_hand_text sp_sign_of) := by
  unfold tb_hand_text
  exact sds_cons (sd_setL (ns hG (by decide)) sc_hand_text.nd rfl (by first | exact Or.inl rfl | exact Or.inr rfl) (el_lst (eds_nil)))
      (sds_cons (sd_for (ms := [3]) PassesOwn.never rfl (id_tup (ed_tup (eds_cons (ed_int) (eds_cons (ed_int) (eds_cons (ed_int) (eds_cons (ed_int) (eds_nil))))))) (gd_name (ns hG (by decide)) (by decide) sc_hand_text.nd rfl (by first | exact Or.inl rfl | exact Or.inr rfl)) (sds_one (sd_expr (ed_app 2 (ed_joinS (ed_str) (ED.er (EL.ed (el_comp [("card", 4)] rfl sc_hand_text.nd rfl (nsA hG (by decide)) (id_tup (ed_revT (ed_var 1))) (blkOk_by (N := N_hand_text) (sc := defScope s_hand_text) (by decide +kernel)) (fun _ q1 _ _ _ _ _ => gd_name (ns (q1.trans hG) (by decide)) (by decide) sc_hand_text.nd rfl (by first | exact Or.inl rfl | exact Or.inr rfl)) (fun _ q1 _ _ _ _ _ => ebs_one (eb_cmp (od_eq hr.units) (ed_ix (ed_var 4) (ed_int)) (ED.er (ed_var 3)) (nomark _))) (fun _ q1 _ _ _ _ _ => ed_call C_sign_of (hr.mono h_sign_of) rfl C_sign_of_g C_sign_of_k C_sign_of_b (ea_v (ed_var 0) (ea_v (ed_ix (ed_var 4) (ed_int)) (ea_nil))))))))))))
      (sds_one (sd_ret (ed_joinS (ed_str) (er_var 2)))))
abbrev s_deal_text : Stmt := topS 16
abbrev N_deal_text : List Str := ["ranks", "deal", "hand"]
theorem sc_deal_text : FnScope N_deal_text ["ranks", "deal"] (defScope s_deal_text) := ⟨rfl, rfl, rfl, by decide +kernel, rfl, by decide +kernel, by decide +kernel⟩
theorem dv_deal_text {f : Addr} {k : Nat} {sp_hand_text : SpD} {f_hand_text : Addr} {fd_hand_text : FuncData} {k_hand_text : Nat} (C_hand_text : FnOk P w K mg base CX0 k_hand_text f_hand_text fd_hand_text ["ranks", "hand"] (spL K sp_hand_text)) (h_hand_text : k_hand_text ≤ k) (C_hand_text_g : mg "hand_text" = some (.ref f_hand_text)) (C_hand_text_k : PySem.W.keepIn K (.ref f_hand_text) = true) (C_hand_text_b : Binds K fd_hand_text ["ranks", "hand"] []) (cdv : Value) (A : Around) (outer : List PySem.Env) (s : Shared) (H : Hp) (E : XK) (hr : Room k (A.deeper (envOfC "deal_text" (defScope s_deal_text) s.heap.objs.size f cdv))) (G : Gh) (hG : G.slots = []) :
    SDs (cxOf CX0 P w K mg base N_deal_text "deal_text" (defScope s_deal_text) f cdv A outer s H E).nox G (defBody s_deal_text) (tb_deal_text sp_hand_text) := by
  unfold tb_deal_text
  exact sds_one (sd_ret (ed_joinS (ed_str) (ED.er (EL.ed (el_comp [("hand", 2)] rfl sc_deal_text.nd rfl (nsA hG (by decide)) (id_tup (ed_var 1)) (blkOk_by (N := N_deal_text) (sc := defScope s_deal_text) (by decide +kernel)) (fun _ q1 _ _ _ _ _ => gd_name (ns (q1.trans hG) (by decide)) (by decide) sc_deal_text.nd rfl (by first | exact Or.inl rfl | exact Or.inr rfl)) (fun _ q1 _ _ _ _ _ => ebs_nil) (fun _ q1 _ _ _ _ _ => ed_call C_hand_text (hr.mono h_hand_text) rfl C_hand_text_g C_hand_text_k C_hand_text_b (ea_v (ed_var 0) (ea_v (ed_var 2) (ea_nil)))))))))
abbrev s_law_sign : Stmt := topS 25
abbrev N_law_sign : List Str := ["ranks", "rank"]
theorem sc_law_sign : FnScope N_law_sign ["ranks", "rank"] (defScope s_law_sign) := ⟨rfl, rfl, rfl, by decide +kernel, rfl, by decide +kernel, by decide +kernel⟩
theorem dv_law_sign {f : Addr} {k : Nat} (cdv : Value) (A : Around) (outer : List PySem.Env) (s : Shared) (H : Hp) (E : XK) (hr : Room k (A.deeper (envOfC "_law_sign" (defScope s_law_sign) s.heap.objs.size f cdv))) (G : Gh) (hG : G.slots = []) :
    SDs (cxOf CX0 P w K mg base N_law_sign "_law_sign" (defScope s_law_sign) f cdv A outer s H E).nox G (defBody s_law_sign) (tb_law_sign) := by
  unfold tb_law_sign
  exact sds_one (sd_ret (ed_ix (ed_str) (ed_op od_sub (ed_var 0) (ED.er (ed_var 1)))))
abbrev s_law_hand_text : Stmt := topS 27
abbrev N_law_hand_text : List Str := ["ranks", "hand", "parts", "suit", "found", "other", "rank"]
theorem sc_law_hand_text : FnScope N_law_hand_text ["ranks", "hand"] (defScope s_law_hand_text) := ⟨rfl, rfl, rfl, by decide +kernel, rfl, by decide +kernel, by decide +kernel⟩
theorem dv_law_hand_text {f : Addr} {k : Nat} (b_sorted : mg "sorted" = none) {sp_law_sign : SpD} {f_law_sign : Addr} {fd_law_sign : FuncData} {k_law_sign : Nat} (C_law_sign : FnOk P w K mg base CX0 k_law_sign f_law_sign fd_law_sign ["ranks", "rank"] (spL K sp_law_sign)) (h_law_sign : k_law_sign ≤ k) (C_law_sign_g : mg "_law_sign" = some (.ref f_law_sign)) (C_law_sign_k : PySem.W.keepIn K (.ref f_law_sign) = true) (C_law_sign_b : Binds K fd_law_sign ["ranks", "rank"] []) (cdv : Value) (A : Around) (outer : List PySem.Env) (s : Shared) (H : Hp) (E : XK) (hr : Room k (A.deeper (envOfC "_law_hand_text" (defScope s_law_hand_text) s.heap.objs.size f cdv))) (G : Gh) (hG : G.slots = []) :
    SDs (cxOf CX0 P w K mg base N_law_hand_text "_law_hand_text" (defScope s_law_hand_text) f cdv A outer s H E).nox G (defBody s_law_hand_text) (tb_law_hand_text sp_law_sign) := by
  unfold tb_law_hand_text
  exact sds_cons (sd_setL (ns hG (by decide)) sc_law_hand_text.nd rfl (by first | exact Or.inl rfl | exact Or.inr rfl) (el_lst (eds_nil)))
      (sds_cons (sd_for (ms := [3]) PassesOwn.never rfl (id_tup (ed_tup (eds_cons (ed_int) (eds_cons (ed_int) (eds_cons (ed_int) (eds_cons (ed_int) (eds_nil))))))) (gd_name (ns hG (by decide)) (by decide) sc_law_hand_text.nd rfl (by first | exact Or.inl rfl | exact Or.inr rfl)) (sds_cons (sd_set (ns hG (by decide)) sc_law_hand_text.nd rfl (by first | exact Or.inl rfl | exact Or.inr rfl) (EL.ed (el_rev (ED.er (EL.ed (el_ca1 (cd_sorted (u65 hr)) (ED.er (EL.ed (el_comp [("other", 5), ("rank", 6)] rfl sc_law_hand_text.nd rfl (nsA hG (by decide)) (id_tup (ed_var 1)) (blkOk_by (N := N_law_hand_text) (sc := defScope s_law_hand_text) (by decide +kernel)) (fun _ q2 _ _ _ _ _ => gd_tup rfl (gds_cons (gd_name (ns (q2.trans hG) (by decide)) (by decide) sc_law_hand_text.nd rfl (by first | exact Or.inl rfl | exact Or.inr rfl)) (gds_cons (gd_name (ns (q2.trans hG) (by decide)) (by decide) sc_law_hand_text.nd rfl (by first | exact Or.inl rfl | exact Or.inr rfl)) (gds_nil)))) (fun _ q2 _ _ _ _ _ => ebs_one (eb_cmp (od_eq hr.units) (ed_var 5) (ED.er (ed_var 3)) (nomark _))) (fun _ q2 _ _ _ _ _ => ed_var 6)))) rfl b_sorted bb_sorted))))))
      (sds_one (sd_expr (ed_app 2 (ed_joinS (ed_str) (ED.er (EL.ed (el_comp [("rank", 6)] rfl sc_law_hand_text.nd rfl (nsA hG (by decide)) (id_lst (ed_var 4)) (blkOk_by (N := N_law_hand_text) (sc := defScope s_law_hand_text) (by decide +kernel)) (fun _ q1 _ _ _ _ _ => gd_name (ns (q1.trans hG) (by decide)) (by decide) sc_law_hand_text.nd rfl (by first | exact Or.inl rfl | exact Or.inr rfl)) (fun _ q1 _ _ _ _ _ => ebs_nil) (fun _ q1 _ _ _ _ _ => ed_call C_law_sign (hr.mono h_law_sign) rfl C_law_sign_g C_law_sign_k C_law_sign_b (ea_v (ed_var 0) (ea_v (ed_var 6) (ea_nil)))))))))))))
      (sds_one (sd_ret (ed_joinS (ed_str) (er_var 2)))))
abbrev s_law_told_hand : Stmt := topS 31
abbrev N_law_told_hand : List Str := ["ranks", "text", "got"]
theorem sc_law_told_hand : FnScope N_law_told_hand ["ranks", "text"] (defScope s_law_told_hand) := ⟨rfl, rfl, rfl, by decide +kernel, rfl, by decide +kernel, by decide +kernel⟩
theorem dv_law_told_hand {f : Addr} {k : Nat} {sp_read_hand : SpX} {f_read_hand : Addr} {fd_read_hand : FuncData} {k_read_hand : Nat} (C_read_hand : FnOk P w K mg base (L2.CX P w) k_read_hand f_read_hand fd_read_hand ["ranks", "text"] (spLX K sp_read_hand)) (h_read_hand : k_read_hand ≤ k) (C_read_hand_g : mg "read_hand" = some (.ref f_read_hand)) (C_read_hand_k : PySem.W.keepIn K (.ref f_read_hand) = true) (C_read_hand_b : Binds K fd_read_hand ["ranks", "text"] []) {A_NoText : Addr} (g_NoText : mg "NoText" = some (.ref A_NoText)) {m_NoText : Value → Option Bool} (hm_NoText : ∀ cls b, m_NoText cls = some b → PySem.W.exmOne K cls (.ref A_NoText) = some b) (cdv : Value) (A : Around) (outer : List PySem.Env) (s : Shared) (H : Hp) (E : XK) (hr : Room k (A.deeper (envOfC "_law_told_hand" (defScope s_law_told_hand) s.heap.objs.size f cdv))) (G : Gh) (hG : G.slots = []) :
    SDs (cxOf CX0 P w K mg base N_law_told_hand "_law_told_hand" (defScope s_law_told_hand) f cdv A outer s H E).nox G (defBody s_law_told_hand) (tb_law_told_hand sp_read_hand m_NoText) := by
  unfold tb_law_told_hand
  exact sds_cons (sd_set (ns hG (by decide)) sc_law_told_hand.nd rfl (by first | exact Or.inl rfl | exact Or.inr rfl) (ed_non))
      (sds_cons (sd_try (m := m_NoText) (Wo := fun _ _ => False) hm_NoText (fun _ _ _ _ h _ => h.elim) rfl rfl ⟨rfl, by decide, .inl g_NoText⟩ takes0 (fun W1 pn1 xe1 tk1 _ G1 q1 WD1 hw1 => sds_one (sd_set (ns (q1.trans hG) (by decide)) sc_law_told_hand.nd rfl (by first | exact Or.inl rfl | exact Or.inr rfl) (ed_callX C_read_hand tk1 hw1 (hr.mono h_read_hand) rfl C_read_hand_g C_read_hand_k C_read_hand_b (ea_v (ed_var 0) (ea_v (ed_var 1) (ea_nil)))))) (fun _ _ _ => sds_one (sd_set (ns hG (by decide)) sc_law_told_hand.nd rfl (by first | exact Or.inl rfl | exact Or.inr rfl) (ed_str))))
      (sds_one (sd_ret (ed_var 2))))
abbrev s_law_card_text : Stmt := topS 26
abbrev N_law_card_text : List Str := ["ranks", "card"]
theorem sc_law_card_text : FnScope N_law_card_text ["ranks", "card"] (defScope s_law_card_text) := ⟨rfl, rfl, rfl, by decide +kernel, rfl, by decide +kernel, by decide +kernel⟩
theorem dv_law_card_text {f : Addr} {k : Nat} {sp_law_sign : SpD} {f_law_sign : Addr} {fd_law_sign : FuncData} {k_law_sign : Nat} (C_law_sign : FnOk P w K mg base CX0 k_law_sign f_law_sign fd_law_sign ["ranks", "rank"] (spL K sp_law_sign)) (h_law_sign : k_law_sign ≤ k) (C_law_sign_g : mg "_law_sign" = some (.ref f_law_sign)) (C_law_sign_k : PySem.W.keepIn K (.ref f_law_sign) = true) (C_law_sign_b : Binds K fd_law_sign ["ranks", "rank"] []) (cdv : Value) (A : Around) (outer : List PySem.Env) (s : Shared) (H : Hp) (E : XK) (hr : Room k (A.deeper (envOfC "_law_card_text" (defScope s_law_card_text) s.heap.objs.size f cdv))) (G : Gh) (hG : G.slots = []) :
    SDs (cxOf CX0 P w K mg base N_law_card_text "_law_card_text" (defScope s_law_card_text) f cdv A outer s H E).nox G (defBody s_law_card_text) (tb_law_card_text sp_law_sign) := by
  unfold tb_law_card_text
  exact sds_one (sd_ret (ed_op od_add (ed_ix (ed_str) (ed_ix (ed_var 1) (ed_int))) (ED.er (ed_call C_law_sign (hr.mono h_law_sign) rfl C_law_sign_g C_law_sign_k C_law_sign_b (ea_v (ed_var 0) (ea_v (ed_ix (ed_var 1) (ed_int)) (ea_nil)))))))
abbrev s_card_text : Stmt := topS 13
abbrev N_card_text : List Str := ["ranks", "card"]
theorem sc_card_text : FnScope N_card_text ["ranks", "card"] (defScope s_card_text) := ⟨rfl, rfl, rfl, by decide +kernel, rfl, by decide +kernel, by decide +kernel⟩
theorem dv_card_text {f : Addr} {k : Nat} {u_SUITS : Value} {v_SUITS : V} (g_SUITS : mg "SUITS" = some u_SUITS) (r_SUITS : RelV v_SUITS u_SUITS) (d_SUITS : ∀ H, Rp K H c_SUITS v_SUITS) {sp_sign_of : SpD} {f_sign_of : Addr} {fd_sign_of : FuncData} {k_sign_of : Nat} (C_sign_of : FnOk P w K mg base CX0 k_sign_of f_sign_of fd_sign_of ["ranks", "rank"] (spL K sp_sign_of)) (h_sign_of : k_sign_of ≤ k) (C_sign_of_g : mg "sign_of" = some (.ref f_sign_of)) (C_sign_of_k : PySem.W.keepIn K (.ref f_sign_of) = true) (C_sign_of_b : Binds K fd_sign_of ["ranks", "rank"] []) (cdv : Value) (A : Around) (outer : List PySem.Env) (s : Shared) (H : Hp) (E : XK) (hr : Room k (A.deeper (envOfC "card_text" (defScope s_card_text) s.heap.objs.size f cdv))) (G : Gh) (hG : G.slots = []) :
    SDs (cxOf CX0 P w K mg base N_card_text "card_text" (defScope s_card_text) f cdv A outer s H E).nox G (defBody s_card_text) (tb_card_text sp_sign_of) := by
  unfold tb_card_text
  exact sds_one (sd_ret (ed_op od_add (ed_ix (ed_glob rfl g_SUITS r_SUITS d_SUITS) (ed_ix (ed_var 1) (ed_int))) (ED.er (ed_call C_sign_of (hr.mono h_sign_of) rfl C_sign_of_g C_sign_of_k C_sign_of_b (ea_v (ed_var 0) (ea_v (ed_ix (ed_var 1) (ed_int)) (ea_nil)))))))
abbrev s_law_all_cards : Stmt := topS 23
abbrev N_law_all_cards : List Str := ["ranks", "found", "suit", "rank"]
theorem sc_law_all_cards : FnScope N_law_all_cards ["ranks"] (defScope s_law_all_cards) := ⟨rfl, rfl, rfl, by decide +kernel, rfl, by decide +kernel, by decide +kernel⟩
theorem dv_law_all_cards {f : Addr} {k : Nat} (b_range : mg "range" = none) (cdv : Value) (A : Around) (outer : List PySem.Env) (s : Shared) (H : Hp) (E : XK) (hr : Room k (A.deeper (envOfC "_law_all_cards" (defScope s_law_all_cards) s.heap.objs.size f cdv))) (G : Gh) (hG : G.slots = []) :
    SDs (cxOf CX0 P w K mg base N_law_all_cards "_law_all_cards" (defScope s_law_all_cards) f cdv A outer s H E).nox G (defBody s_law_all_cards) (tb_law_all_cards) := by
  unfold tb_law_all_cards
  exact sds_cons (sd_setL (ns hG (by decide)) sc_law_all_cards.nd rfl (by first | exact Or.inl rfl | exact Or.inr rfl) (el_lst (eds_nil)))
      (sds_cons (sd_for (ms := [2]) PassesOwn.never rfl (id_range1 rfl b_range (ed_int)) (gd_name (ns hG (by decide)) (by decide) sc_law_all_cards.nd rfl (by first | exact Or.inl rfl | exact Or.inr rfl)) (sds_one (sd_expr (ed_extd 1 (el_comp [("rank", 3)] rfl sc_law_all_cards.nd rfl (nsA hG (by decide)) (id_range2 rfl b_range (ed_int) (ed_op od_add (ed_var 0) (ED.er (ed_int)))) (blkOk_by (N := N_law_all_cards) (sc := defScope s_law_all_cards) (by decide +kernel)) (fun _ q1 _ _ _ _ _ => gd_name (ns (q1.trans hG) (by decide)) (by decide) sc_law_all_cards.nd rfl (by first | exact Or.inl rfl | exact Or.inr rfl)) (fun _ q1 _ _ _ _ _ => ebs_nil) (fun _ q1 _ _ _ _ _ => ed_tup (eds_cons (ed_var 2) (eds_cons (ed_var 3) (eds_nil)))))))))
      (sds_one (sd_ret (ed_fzv 1))))
abbrev s_law_mixed : Stmt := topS 22
abbrev N_law_mixed : List Str := ["script", "town", "things", "rest", "found"]
theorem sc_law_mixed : FnScope N_law_mixed ["script", "town", "things"] (defScope s_law_mixed) := ⟨rfl, rfl, rfl, by decide +kernel, rfl, by decide +kernel, by decide +kernel⟩
theorem dv_law_mixed {f : Addr} {k : Nat} (b_len : mg "len" = none) (b_list : mg "list" = none) {sp_law_draw : SpD} {f_law_draw : Addr} {fd_law_draw : FuncData} {k_law_draw : Nat} (C_law_draw : FnOk P w K mg base CX0 k_law_draw f_law_draw fd_law_draw ["script", "town", "many"] (spL K sp_law_draw)) (h_law_draw : k_law_draw ≤ k) (C_law_draw_g : mg "_law_draw" = some (.ref f_law_draw)) (C_law_draw_k : PySem.W.keepIn K (.ref f_law_draw) = true) (C_law_draw_b : Binds K fd_law_draw ["script", "town", "many"] []) (cdv : Value) (A : Around) (outer : List PySem.Env) (s : Shared) (H : Hp) (E : XK) (hr : Room k (A.deeper (envOfC "_law_mixed" (defScope s_law_mixed) s.heap.objs.size f cdv))) (G : Gh) (hG : G.slots = [1]) :
    SDs (cxOf CX0 P w K mg base N_law_mixed "_law_mixed" (defScope s_law_mixed) f cdv A outer s H E).nox G (defBody s_law_mixed) (tb_law_mixed sp_law_draw) := by
  unfold tb_law_mixed
  exact sds_cons (sd_par2 (nsA hG (by decide)) rfl sc_law_mixed.nd rfl rfl (by decide) rfl rfl (eps_l (el_caT1 cd_list (ED.er (ed_var 2)) rfl b_list bb_list) (fun _ q1 => eps_l (el_lst (eds_nil)) (fun _ q2 => eps_nil))))
      (sds_cons (sd_while PassesOwn.never (eb_tru (er_var 3)) (sds_one (sd_expr (ed_app 4 (ed_popAt 3 (ed_call C_law_draw (hr.mono h_law_draw) rfl C_law_draw_g C_law_draw_k C_law_draw_b (ea_v (ed_var 0) (ea_o 1 (ea_v (ed_ca1 cd_len (er_var 3) rfl b_len bb_len) (ea_nil))))))))))
      (sds_one (sd_ret (ed_fzv 4))))
abbrev s_law_drawn_deal : Stmt := topS 24
abbrev N_law_drawn_deal : List Str := ["script", "town", "ranks", "cards", "at"]
theorem sc_law_drawn_deal : FnScope N_law_drawn_deal ["script", "town", "ranks"] (defScope s_law_drawn_deal) := ⟨rfl, rfl, rfl, by decide +kernel, rfl, by decide +kernel, by decide +kernel⟩
theorem dv_law_drawn_deal {f : Addr} {k : Nat} (b_range : mg "range" = none) (b_sorted : mg "sorted" = none) (b_tuple : mg "tuple" = none) {sp_law_all_cards : SpD} {f_law_all_cards : Addr} {fd_law_all_cards : FuncData} {k_law_all_cards : Nat} (C_law_all_cards : FnOk P w K mg base CX0 k_law_all_cards f_law_all_cards fd_law_all_cards ["ranks"] (spL K sp_law_all_cards)) (h_law_all_cards : k_law_all_cards ≤ k) (C_law_all_cards_g : mg "_law_all_cards" = some (.ref f_law_all_cards)) (C_law_all_cards_k : PySem.W.keepIn K (.ref f_law_all_cards) = true) (C_law_all_cards_b : Binds K fd_law_all_cards ["ranks"] []) {sp_law_mixed : SpD} {f_law_mixed : Addr} {fd_law_mixed : FuncData} {k_law_mixed : Nat} (C_law_mixed : FnOk P w K mg base CX0 k_law_mixed f_law_mixed fd_law_mixed ["script", "town", "things"] (spL K sp_law_mixed)) (h_law_mixed : k_law_mixed ≤ k) (C_law_mixed_g : mg "_law_mixed" = some (.ref f_law_mixed)) (C_law_mixed_k : PySem.W.keepIn K (.ref f_law_mixed) = true) (C_law_mixed_b : Binds K fd_law_mixed ["script", "town", "things"] []) (cdv : Value) (A : Around) (outer : List PySem.Env) (s : Shared) (H : Hp) (E : XK) (hr : Room k (A.deeper (envOfC "_law_drawn_deal" (defScope s_law_drawn_deal) s.heap.objs.size f cdv))) (G : Gh) (hG : G.slots = [1]) :
    SDs (cxOf CX0 P w K mg base N_law_drawn_deal "_law_drawn_deal" (defScope s_law_drawn_deal) f cdv A outer s H E).nox G (defBody s_law_drawn_deal) (tb_law_drawn_deal sp_law_all_cards sp_law_mixed) := by
  unfold tb_law_drawn_deal
  exact sds_cons (sd_set (ns hG (by decide)) sc_law_drawn_deal.nd rfl (by first | exact Or.inl rfl | exact Or.inr rfl) (ed_call C_law_mixed (hr.mono h_law_mixed) rfl C_law_mixed_g C_law_mixed_k C_law_mixed_b (ea_v (ed_var 0) (ea_o 1 (ea_v (ed_call C_law_all_cards (hr.mono h_law_all_cards) rfl C_law_all_cards_g C_law_all_cards_k C_law_all_cards_b (ea_v (ed_var 2) (ea_nil))) (ea_nil))))))
      (sds_one (sd_ret (ed_caT1 cd_tuple (ED.er (EL.ed (el_comp [("at", 4)] rfl sc_law_drawn_deal.nd rfl (nsA hG (by decide)) (id_range1 rfl b_range (ed_int)) (blkOk_by (N := N_law_drawn_deal) (sc := defScope s_law_drawn_deal) (by decide +kernel)) (fun _ q1 _ _ _ _ _ => gd_name (ns (q1.trans hG) (by decide)) (by decide) sc_law_drawn_deal.nd rfl (by first | exact Or.inl rfl | exact Or.inr rfl)) (fun _ q1 _ _ _ _ _ => ebs_nil) (fun _ q1 _ _ _ _ _ => ed_caT1 cd_tuple (ED.er (EL.ed (el_ca1 (cd_sorted (u65 hr)) (ED.er (EL.ed (el_sl (ed_var 3) (eo_e (ed_op od_mul (ed_var 4) (ED.er (ed_var 2)))) (eo_e (ed_op od_add (ed_op od_mul (ed_var 4) (ED.er (ed_var 2))) (ED.er (ed_var 2))))))) rfl b_sorted bb_sorted))) rfl b_tuple bb_tuple)))) rfl b_tuple bb_tuple)))
abbrev s_law : Stmt := topS 34
abbrev N_law : List Str := ["script", "town", "signs", "k", "ranks", "deal", "hand", "text", "others", "other", "words", "card", "j", "row"]
theorem sc_law : FnScope N_law ["script"] (defScope s_law) := ⟨rfl, rfl, rfl, by decide +kernel, rfl, by decide +kernel, by decide +kernel⟩
theorem dv_law {f : Addr} {k : Nat} (b_range : mg "range" = none) {sp_law_read_deal : SpD} {f_law_read_deal : Addr} {fd_law_read_deal : FuncData} {k_law_read_deal : Nat} (C_law_read_deal : FnOk P w K mg base CX0 k_law_read_deal f_law_read_deal fd_law_read_deal ["ranks", "text"] (spL K sp_law_read_deal)) (h_law_read_deal : k_law_read_deal ≤ k) (C_law_read_deal_g : mg "_law_read_deal" = some (.ref f_law_read_deal)) (C_law_read_deal_k : PySem.W.keepIn K (.ref f_law_read_deal) = true) (C_law_read_deal_b : Binds K fd_law_read_deal ["ranks", "text"] []) {sp_law_or_refused : SpD} {f_law_or_refused : Addr} {fd_law_or_refused : FuncData} {k_law_or_refused : Nat} (C_law_or_refused : FnOk P w K mg base CX0 k_law_or_refused f_law_or_refused fd_law_or_refused ["found"] (spL K sp_law_or_refused)) (h_law_or_refused : k_law_or_refused ≤ k) (C_law_or_refused_g : mg "_law_or_refused" = some (.ref f_law_or_refused)) (C_law_or_refused_k : PySem.W.keepIn K (.ref f_law_or_refused) = true) (C_law_or_refused_b : Binds K fd_law_or_refused ["found"] []) {sp_law_told_deal : SpD} {f_law_told_deal : Addr} {fd_law_told_deal : FuncData} {k_law_told_deal : Nat} (C_law_told_deal : FnOk P w K mg base CX0 k_law_told_deal f_law_told_deal fd_law_told_deal ["ranks", "text"] (spL K sp_law_told_deal)) (h_law_told_deal : k_law_told_deal ≤ k) (C_law_told_deal_g : mg "_law_told_deal" = some (.ref f_law_told_deal)) (C_law_told_deal_k : PySem.W.keepIn K (.ref f_law_told_deal) = true) (C_law_told_deal_b : Binds K fd_law_told_deal ["ranks", "text"] []) {sp_law_same : SpD} {f_law_same : Addr} {fd_law_same : FuncData} {k_law_same : Nat} (C_law_same : FnOk P w K mg base CX0 k_law_same f_law_same fd_law_same ["got", "due"] (spL K sp_law_same)) (h_law_same : k_law_same ≤ k) (C_law_same_g : mg "_law_same" = some (.ref f_law_same)) (C_law_same_k : PySem.W.keepIn K (.ref f_law_same) = true) (C_law_same_b : Binds K fd_law_same ["got", "due"] []) {sp_law_spoilt : SpD} {f_law_spoilt : Addr} {fd_law_spoilt : FuncData} {k_law_spoilt : Nat} (C_law_spoilt : FnOk P w K mg base CX0 k_law_spoilt f_law_spoilt fd_law_spoilt ["script", "town", "text", "signs"] (spL K sp_law_spoilt)) (h_law_spoilt : k_law_spoilt ≤ k) (C_law_spoilt_g : mg "_law_spoilt" = some (.ref f_law_spoilt)) (C_law_spoilt_k : PySem.W.keepIn K (.ref f_law_spoilt) = true) (C_law_spoilt_b : Binds K fd_law_spoilt ["script", "town", "text", "signs"] []) {sp_deal_text : SpD} {f_deal_text : Addr} {fd_deal_text : FuncData} {k_deal_text : Nat} (C_deal_text : FnOk P w K mg base CX0 k_deal_text f_deal_text fd_deal_text ["ranks", "deal"] (spL K sp_deal_text)) (h_deal_text : k_deal_text ≤ k) (C_deal_text_g : mg "deal_text" = some (.ref f_deal_text)) (C_deal_text_k : PySem.W.keepIn K (.ref f_deal_text) = true) (C_deal_text_b : Binds K fd_deal_text ["ranks", "deal"] []) {sp_law_hand_text : SpD} {f_law_hand_text : Addr} {fd_law_hand_text : FuncData} {k_law_hand_text : Nat} (C_law_hand_text : FnOk P w K mg base CX0 k_law_hand_text f_law_hand_text fd_law_hand_text ["ranks", "hand"] (spL K sp_law_hand_text)) (h_law_hand_text : k_law_hand_text ≤ k) (C_law_hand_text_g : mg "_law_hand_text" = some (.ref f_law_hand_text)) (C_law_hand_text_k : PySem.W.keepIn K (.ref f_law_hand_text) = true) (C_law_hand_text_b : Binds K fd_law_hand_text ["ranks", "hand"] []) {sp_law_read_hand : SpD} {f_law_read_hand : Addr} {fd_law_read_hand : FuncData} {k_law_read_hand : Nat} (C_law_read_hand : FnOk P w K mg base CX0 k_law_read_hand f_law_read_hand fd_law_read_hand ["ranks", "text"] (spL K sp_law_read_hand)) (h_law_read_hand : k_law_read_hand ≤ k) (C_law_read_hand_g : mg "_law_read_hand" = some (.ref f_law_read_hand)) (C_law_read_hand_k : PySem.W.keepIn K (.ref f_law_read_hand) = true) (C_law_read_hand_b : Binds K fd_law_read_hand ["ranks", "text"] []) {sp_law_told_hand : SpD} {f_law_told_hand : Addr} {fd_law_told_hand : FuncData} {k_law_told_hand : Nat} (C_law_told_hand : FnOk P w K mg base CX0 k_law_told_hand f_law_told_hand fd_law_told_hand ["ranks", "text"] (spL K sp_law_told_hand)) (h_law_told_hand : k_law_told_hand ≤ k) (C_law_told_hand_g : mg "_law_told_hand" = some (.ref f_law_told_hand)) (C_law_told_hand_k : PySem.W.keepIn K (.ref f_law_told_hand) = true) (C_law_told_hand_b : Binds K fd_law_told_hand ["ranks", "text"] []) {sp_hand_text : SpD} {f_hand_text : Addr} {fd_hand_text : FuncData} {k_hand_text : Nat} (C_hand_text : FnOk P w K mg base CX0 k_hand_text f_hand_text fd_hand_text ["ranks", "hand"] (spL K sp_hand_text)) (h_hand_text : k_hand_text ≤ k) (C_hand_text_g : mg "hand_text" = some (.ref f_hand_text)) (C_hand_text_k : PySem.W.keepIn K (.ref f_hand_text) = true) (C_hand_text_b : Binds K fd_hand_text ["ranks", "hand"] []) {sp_law_card_text : SpD} {f_law_card_text : Addr} {fd_law_card_text : FuncData} {k_law_card_text : Nat} (C_law_card_text : FnOk P w K mg base CX0 k_law_card_text f_law_card_text fd_law_card_text ["ranks", "card"] (spL K sp_law_card_text)) (h_law_card_text : k_law_card_text ≤ k) (C_law_card_text_g : mg "_law_card_text" = some (.ref f_law_card_text)) (C_law_card_text_k : PySem.W.keepIn K (.ref f_law_card_text) = true) (C_law_card_text_b : Binds K fd_law_card_text ["ranks", "card"] []) {sp_card_text : SpD} {f_card_text : Addr} {fd_card_text : FuncData} {k_card_text : Nat} (C_card_text : FnOk P w K mg base CX0 k_card_text f_card_text fd_card_text ["ranks", "card"] (spL K sp_card_text)) (h_card_text : k_card_text ≤ k) (C_card_text_g : mg "card_text" = some (.ref f_card_text)) (C_card_text_k : PySem.W.keepIn K (.ref f_card_text) = true) (C_card_text_b : Binds K fd_card_text ["ranks", "card"] []) {sp_law_draw : SpD} {f_law_draw : Addr} {fd_law_draw : FuncData} {k_law_draw : Nat} (C_law_draw : FnOk P w K mg base CX0 k_law_draw f_law_draw fd_law_draw ["script", "town", "many"] (spL K sp_law_draw)) (h_law_draw : k_law_draw ≤ k) (C_law_draw_g : mg "_law_draw" = some (.ref f_law_draw)) (C_law_draw_k : PySem.W.keepIn K (.ref f_law_draw) = true) (C_law_draw_b : Binds K fd_law_draw ["script", "town", "many"] []) {sp_law_drawn_deal : SpD} {f_law_drawn_deal : Addr} {fd_law_drawn_deal : FuncData} {k_law_drawn_deal : Nat} (C_law_drawn_deal : FnOk P w K mg base CX0 k_law_drawn_deal f_law_drawn_deal fd_law_drawn_deal ["script", "town", "ranks"] (spL K sp_law_drawn_deal)) (h_law_drawn_deal : k_law_drawn_deal ≤ k) (C_law_drawn_deal_g : mg "_law_drawn_deal" = some (.ref f_law_drawn_deal)) (C_law_drawn_deal_k : PySem.W.keepIn K (.ref f_law_drawn_deal) = true) (C_law_drawn_deal_b : Binds K fd_law_drawn_deal ["script", "town", "ranks"] []) {sp_law_pick : SpD} {f_law_pick : Addr} {fd_law_pick : FuncData} {k_law_pick : Nat} (C_law_pick : FnOk P w K mg base CX0 k_law_pick f_law_pick fd_law_pick ["script", "town", "some"] (spL K sp_law_pick)) (h_law_pick : k_law_pick ≤ k) (C_law_pick_g : mg "_law_pick" = some (.ref f_law_pick)) (C_law_pick_k : PySem.W.keepIn K (.ref f_law_pick) = true) (C_law_pick_b : Binds K fd_law_pick ["script", "town", "some"] []) (cdv : Value) (A : Around) (outer : List PySem.Env) (s : Shared) (H : Hp) (E : XK) (hr : Room k (A.deeper (envOfC "law" (defScope s_law) s.heap.objs.size f cdv))) (G : Gh) (hG : G.slots = []) :
    SDs (cxOf CX0 P w K mg base N_law "law" (defScope s_law) f cdv A outer s H E).nox G (defBody s_law) (tb_law_k32 sp_law_read_deal sp_law_or_refused sp_law_told_deal sp_law_same sp_law_spoilt sp_deal_text sp_law_hand_text sp_law_read_hand sp_law_told_hand sp_hand_text sp_law_card_text sp_card_text sp_law_draw sp_law_drawn_deal sp_law_pick) := by
  unfold tb_law_k32
  exact sds_cons (sd_setL (ns hG (by decide)) sc_law.nd rfl (by first | exact Or.inl rfl | exact Or.inr rfl) (el_lst (eds_nil)))
      (sds_cons (sd_set (ns hG (by decide)) sc_law.nd rfl (by first | exact Or.inl rfl | exact Or.inr rfl) (EL.ed (el_lst (eds_cons (ed_str) (eds_cons (ed_str) (eds_cons (ed_str) (eds_cons (ed_str) (eds_cons (ed_str) (eds_cons (ed_str) (eds_cons (ed_str) (eds_cons (ed_str) (eds_cons (ed_str) (eds_cons (ed_str) (eds_cons (ed_str) (eds_cons (ed_str) (eds_cons (ed_str) (eds_nil)))))))))))))))))
      (sds_cons (sd_for (ms := [3]) PassesOwn.never rfl (id_range1 rfl b_range (ed_int)) (gd_name (ns hG (by decide)) (by decide) sc_law.nd rfl (by first | exact Or.inl rfl | exact Or.inr rfl)) (sds_cons (sd_set (ns hG (by decide)) sc_law.nd rfl (by first | exact Or.inl rfl | exact Or.inr rfl) (ed_call C_law_pick (hr.mono h_law_pick) rfl C_law_pick_g C_law_pick_k C_law_pick_b (ea_v (ed_var 0) (ea_o 1 (ea_v (EL.ed (el_lst (eds_cons (ed_int) (eds_cons (ed_int) (eds_cons (ed_int) (eds_cons (ed_int) (eds_cons (ed_int) (eds_cons (ed_int) (eds_cons (ed_int) (eds_nil)))))))))) (ea_nil))))))
      (sds_cons (sd_set (ns hG (by decide)) sc_law.nd rfl (by first | exact Or.inl rfl | exact Or.inr rfl) (ed_call C_law_drawn_deal (hr.mono h_law_drawn_deal) rfl C_law_drawn_deal_g C_law_drawn_deal_k C_law_drawn_deal_b (ea_v (ed_var 0) (ea_o 1 (ea_v (ed_var 4) (ea_nil))))))
      (sds_cons (sd_set (ns hG (by decide)) sc_law.nd rfl (by first | exact Or.inl rfl | exact Or.inr rfl) (ed_ix (ed_var 5) (ed_call C_law_draw (hr.mono h_law_draw) rfl C_law_draw_g C_law_draw_k C_law_draw_b (ea_v (ed_var 0) (ea_o 1 (ea_v (ed_int) (ea_nil)))))))
      (sds_cons (sd_if (eb_tru (ED.er (EL.ed (el_comp [("card", 11)] rfl sc_law.nd rfl (nsA hG (by decide)) (id_tup (ed_var 6)) (blkOk_by (N := N_law) (sc := defScope s_law) (by decide +kernel)) (fun _ q4 _ _ _ _ _ => gd_name (ns (q4.trans hG) (by decide)) (by decide) sc_law.nd rfl (by first | exact Or.inl rfl | exact Or.inr rfl)) (fun _ q4 _ _ _ _ _ => ebs_one (eb_not (eb_tru (ED.er (ed_call C_law_same (hr.mono h_law_same) rfl C_law_same_g C_law_same_k C_law_same_b (ea_v (ed_call C_card_text (hr.mono h_card_text) rfl C_card_text_g C_card_text_k C_card_text_b (ea_v (ed_var 4) (ea_v (ed_var 11) (ea_nil)))) (ea_v (ed_call C_law_card_text (hr.mono h_law_card_text) rfl C_law_card_text_g C_law_card_text_k C_law_card_text_b (ea_v (ed_var 4) (ea_v (ed_var 11) (ea_nil)))) (ea_nil)))))))) (fun _ q4 _ _ _ _ _ => ed_int))))) (sds_one (sd_ret (ed_bl))) (sds_nil))
      (sds_cons (sd_set (ns hG (by decide)) sc_law.nd rfl (by first | exact Or.inl rfl | exact Or.inr rfl) (ed_call C_law_hand_text (hr.mono h_law_hand_text) rfl C_law_hand_text_g C_law_hand_text_k C_law_hand_text_b (ea_v (ed_var 4) (ea_v (ed_var 6) (ea_nil)))))
      (sds_cons (sd_if (EW.eb (ew_or (eb_not (eb_tru (ED.er (ed_call C_law_same (hr.mono h_law_same) rfl C_law_same_g C_law_same_k C_law_same_b (ea_v (ed_call C_hand_text (hr.mono h_hand_text) rfl C_hand_text_g C_hand_text_k C_hand_text_b (ea_v (ed_var 4) (ea_v (ed_var 6) (ea_nil)))) (ea_v (ed_var 7) (ea_nil))))))) (ew_or1 (eb_not (eb_tru (ED.er (ed_call C_law_same (hr.mono h_law_same) rfl C_law_same_g C_law_same_k C_law_same_b (ea_v (ed_call C_law_told_hand (hr.mono h_law_told_hand) rfl C_law_told_hand_g C_law_told_hand_k C_law_told_hand_b (ea_v (ed_var 4) (ea_v (ed_var 7) (ea_nil)))) (ea_v (ed_var 6) (ea_nil)))))))))) (sds_one (sd_ret (ed_bl))) (sds_nil))
      (sds_cons (sd_set (ns hG (by decide)) sc_law.nd rfl (by first | exact Or.inl rfl | exact Or.inr rfl) (EL.ed (el_op od_cat (EL.ed (el_comp [("j", 12)] rfl sc_law.nd rfl (nsA hG (by decide)) (id_range1 rfl b_range (ed_int)) (blkOk_by (N := N_law) (sc := defScope s_law) (by decide +kernel)) (fun _ q3 _ _ _ _ _ => gd_name (ns (q3.trans hG) (by decide)) (by decide) sc_law.nd rfl (by first | exact Or.inl rfl | exact Or.inr rfl)) (fun _ q3 _ _ _ _ _ => ebs_nil) (fun _ q3 _ _ _ _ _ => ed_call C_law_spoilt (hr.mono h_law_spoilt) rfl C_law_spoilt_g C_law_spoilt_k C_law_spoilt_b (ea_v (ed_var 0) (ea_o 1 (ea_v (ed_var 7) (ea_v (ed_var 2) (ea_nil)))))))) (ED.er (EL.ed (el_lst (eds_cons (ed_str) (eds_cons (ed_str) (eds_cons (ed_str) (eds_nil))))))))))
      (sds_cons (sd_set (ns hG (by decide)) sc_law.nd rfl (by first | exact Or.inl rfl | exact Or.inr rfl) (EL.ed (el_op od_cat (ed_var 8) (ED.er (EL.ed (el_lst (eds_cons (ed_revS (ed_var 7)) (eds_cons (ed_op od_add (ed_str) (ED.er (ed_var 7))) (eds_nil)))))))))
      (sds_cons (sd_for (ms := [9]) PassesOwn.never rfl (id_lst (EL.ed (el_op od_cat (ed_var 8) (ED.er (EL.ed (el_lst (eds_cons (ed_op od_add (ed_str) (ED.er (ed_var 7))) (eds_cons (ed_op od_add (ed_var 7) (ED.er (ed_str))) (eds_cons (ed_sl (ed_var 7) (eo_no) (eo_e (ed_un ud_neg (ED.er (ed_int))))) (eds_cons (ed_str) (eds_cons (ed_op od_mulS (ed_str) (ED.er (ed_var 4))) (eds_nil)))))))))))) (gd_name (ns hG (by decide)) (by decide) sc_law.nd rfl (by first | exact Or.inl rfl | exact Or.inr rfl)) (sds_one (sd_if (eb_not (eb_tru (ED.er (ed_call C_law_same (hr.mono h_law_same) rfl C_law_same_g C_law_same_k C_law_same_b (ea_v (ed_call C_law_told_hand (hr.mono h_law_told_hand) rfl C_law_told_hand_g C_law_told_hand_k C_law_told_hand_b (ea_v (ed_var 4) (ea_v (ed_var 9) (ea_nil)))) (ea_v (ed_call C_law_or_refused (hr.mono h_law_or_refused) rfl C_law_or_refused_g C_law_or_refused_k C_law_or_refused_b (ea_v (ed_call C_law_read_hand (hr.mono h_law_read_hand) rfl C_law_read_hand_g C_law_read_hand_k C_law_read_hand_b (ea_v (ed_var 4) (ea_v (ed_var 9) (ea_nil)))) (ea_nil))) (ea_nil))))))) (sds_one (sd_ret (ed_bl))) (sds_nil))))
      (sds_cons (sd_set (ns hG (by decide)) sc_law.nd rfl (by first | exact Or.inl rfl | exact Or.inr rfl) (ed_joinS (ed_str) (ED.er (EL.ed (el_comp [("row", 13)] rfl sc_law.nd rfl (nsA hG (by decide)) (id_tup (ed_var 5)) (blkOk_by (N := N_law) (sc := defScope s_law) (by decide +kernel)) (fun _ q2 _ _ _ _ _ => gd_name (ns (q2.trans hG) (by decide)) (by decide) sc_law.nd rfl (by first | exact Or.inl rfl | exact Or.inr rfl)) (fun _ q2 _ _ _ _ _ => ebs_nil) (fun _ q2 _ _ _ _ _ => ed_call C_law_hand_text (hr.mono h_law_hand_text) rfl C_law_hand_text_g C_law_hand_text_k C_law_hand_text_b (ea_v (ed_var 4) (ea_v (ed_var 13) (ea_nil)))))))))
      (sds_cons (sd_if (EW.eb (ew_or (eb_not (eb_tru (ED.er (ed_call C_law_same (hr.mono h_law_same) rfl C_law_same_g C_law_same_k C_law_same_b (ea_v (ed_call C_deal_text (hr.mono h_deal_text) rfl C_deal_text_g C_deal_text_k C_deal_text_b (ea_v (ed_var 4) (ea_v (ed_var 5) (ea_nil)))) (ea_v (ed_var 7) (ea_nil))))))) (ew_or1 (eb_not (eb_tru (ED.er (ed_call C_law_same (hr.mono h_law_same) rfl C_law_same_g C_law_same_k C_law_same_b (ea_v (ed_call C_law_told_deal (hr.mono h_law_told_deal) rfl C_law_told_deal_g C_law_told_deal_k C_law_told_deal_b (ea_v (ed_var 4) (ea_v (ed_var 7) (ea_nil)))) (ea_v (ed_var 5) (ea_nil)))))))))) (sds_one (sd_ret (ed_bl))) (sds_nil))
      (sds_cons (sd_set (ns hG (by decide)) sc_law.nd rfl (by first | exact Or.inl rfl | exact Or.inr rfl) (EL.ed (el_split (ed_var 7) (ed_str))))
      (sds_cons (sd_set (ns hG (by decide)) sc_law.nd rfl (by first | exact Or.inl rfl | exact Or.inr rfl) (EL.ed (el_op od_cat (EL.ed (el_comp [("j", 12)] rfl sc_law.nd rfl (nsA hG (by decide)) (id_range1 rfl b_range (ed_int)) (blkOk_by (N := N_law) (sc := defScope s_law) (by decide +kernel)) (fun _ q1 _ _ _ _ _ => gd_name (ns (q1.trans hG) (by decide)) (by decide) sc_law.nd rfl (by first | exact Or.inl rfl | exact Or.inr rfl)) (fun _ q1 _ _ _ _ _ => ebs_nil) (fun _ q1 _ _ _ _ _ => ed_call C_law_spoilt (hr.mono h_law_spoilt) rfl C_law_spoilt_g C_law_spoilt_k C_law_spoilt_b (ea_v (ed_var 0) (ea_o 1 (ea_v (ed_var 7) (ea_v (ed_var 2) (ea_nil)))))))) (ED.er (EL.ed (el_lst (eds_cons (ed_op od_add (ed_var 7) (ED.er (ed_str))) (eds_nil))))))))
      (sds_cons (sd_set (ns hG (by decide)) sc_law.nd rfl (by first | exact Or.inl rfl | exact Or.inr rfl) (EL.ed (el_op od_cat (ed_var 8) (ED.er (EL.ed (el_lst (eds_cons (ed_joinS (ed_str) (ED.er (EL.ed (el_sl (ed_var 10) (eo_no) (eo_e (ed_int)))))) (eds_cons (ed_str) (eds_nil)))))))))
      (sds_cons (sd_set (ns hG (by decide)) sc_law.nd rfl (by first | exact Or.inl rfl | exact Or.inr rfl) (EL.ed (el_op od_cat (ed_var 8) (ED.er (EL.ed (el_lst (eds_cons (ed_joinS (ed_str) (ED.er (EL.ed (el_op od_cat (ed_var 10) (ED.er (EL.ed (el_sl (ed_var 10) (eo_no) (eo_e (ed_int))))))))) (eds_cons (ed_joinS (ed_str) (ED.er (EL.ed (el_op od_cat (EL.ed (el_sl (ed_var 10) (eo_no) (eo_e (ed_int)))) (ED.er (EL.ed (el_sl (ed_var 10) (eo_no) (eo_e (ed_int))))))))) (eds_cons (ed_joinS (ed_str) (ED.er (EL.ed (el_rev (ED.er (ed_var 10)))))) (eds_nil))))))))))
      (sds_one (sd_for (ms := [9]) PassesOwn.never rfl (id_lst (ed_var 8)) (gd_name (ns hG (by decide)) (by decide) sc_law.nd rfl (by first | exact Or.inl rfl | exact Or.inr rfl)) (sds_one (sd_if (eb_not (eb_tru (ED.er (ed_call C_law_same (hr.mono h_law_same) rfl C_law_same_g C_law_same_k C_law_same_b (ea_v (ed_call C_law_told_deal (hr.mono h_law_told_deal) rfl C_law_told_deal_g C_law_told_deal_k C_law_told_deal_b (ea_v (ed_var 4) (ea_v (ed_var 9) (ea_nil)))) (ea_v (ed_call C_law_or_refused (hr.mono h_law_or_refused) rfl C_law_or_refused_g C_law_or_refused_k C_law_or_refused_b (ea_v (ed_call C_law_read_deal (hr.mono h_law_read_deal) rfl C_law_read_deal_g C_law_read_deal_k C_law_read_deal_b (ea_v (ed_var 4) (ea_v (ed_var 9) (ea_nil)))) (ea_nil))) (ea_nil))))))) (sds_one (sd_ret (ed_bl))) (sds_nil)))))))))))))))))))))
      (sds_one (sd_ret (ed_bl)))))
end
theorem all_mk {l : PySem.W.OpenLaw} {w : World} {K : PySem.W.Frag} {h : Heap} {mg : Str → Option Value} {fa : Addr} {f_law_read_hand : Addr} {od_law_read_hand an_law_read_hand : Option Addr} {sl_law_read_hand : Array (Option Value)} {oc_law_read_hand kV_law_read_hand dc_law_read_hand pm_law_read_hand cd_law_read_hand ct_law_read_hand : Value} {f_law_read_deal : Addr} {od_law_read_deal an_law_read_deal : Option Addr} {sl_law_read_deal : Array (Option Value)} {oc_law_read_deal kV_law_read_deal dc_law_read_deal pm_law_read_deal cd_law_read_deal ct_law_read_deal : Value} {f_law_or_refused : Addr} {od_law_or_refused an_law_or_refused : Option Addr} {sl_law_or_refused : Array (Option Value)} {oc_law_or_refused kV_law_or_refused dc_law_or_refused pm_law_or_refused cd_law_or_refused ct_law_or_refused : Value} {f_is_whole : Addr} {od_is_whole an_is_whole : Option Addr} {sl_is_whole : Array (Option Value)} {oc_is_whole kV_is_whole dc_is_whole pm_is_whole cd_is_whole ct_is_whole : Value} {f_is_card : Addr} {od_is_card an_is_card : Option Addr} {sl_is_card : Array (Option Value)} {oc_is_card kV_is_card dc_is_card pm_is_card cd_is_card ct_is_card : Value} {f_is_hand : Addr} {od_is_hand an_is_hand : Option Addr} {sl_is_hand : Array (Option Value)} {oc_is_hand kV_is_hand dc_is_hand pm_is_hand cd_is_hand ct_is_hand : Value} {f_is_deal : Addr} {od_is_deal an_is_deal : Option Addr} {sl_is_deal : Array (Option Value)} {oc_is_deal kV_is_deal dc_is_deal pm_is_deal cd_is_deal ct_is_deal : Value} {f_rank_of : Addr} {od_rank_of an_rank_of : Option Addr} {sl_rank_of : Array (Option Value)} {oc_rank_of kV_rank_of dc_rank_of pm_rank_of cd_rank_of ct_rank_of : Value} {f_read_hand : Addr} {od_read_hand an_read_hand : Option Addr} {sl_read_hand : Array (Option Value)} {oc_read_hand kV_read_hand dc_read_hand pm_read_hand cd_read_hand ct_read_hand : Value} {f_read_deal : Addr} {od_read_deal an_read_deal : Option Addr} {sl_read_deal : Array (Option Value)} {oc_read_deal kV_read_deal dc_read_deal pm_read_deal cd_read_deal ct_read_deal : Value} {f_law_told_deal : Addr} {od_law_told_deal an_law_told_deal : Option Addr} {sl_law_told_deal : Array (Option Value)} {oc_law_told_deal kV_law_told_deal dc_law_told_deal pm_law_told_deal cd_law_told_deal ct_law_told_deal : Value} {f_law_same : Addr} {od_law_same an_law_same : Option Addr} {sl_law_same : Array (Option Value)} {oc_law_same kV_law_same dc_law_same pm_law_same cd_law_same ct_law_same : Value} {f_law_draw : Addr} {od_law_draw an_law_draw : Option Addr} {sl_law_draw : Array (Option Value)} {oc_law_draw kV_law_draw dc_law_draw pm_law_draw cd_law_draw ct_law_draw : Value} {f_law_pick : Addr} {od_law_pick an_law_pick : Option Addr} {sl_law_pick : Array (Option Value)} {oc_law_pick kV_law_pick dc_law_pick pm_law_pick cd_law_pick ct_law_pick : Value} {f_law_spoilt : Addr} {od_law_spoilt an_law_spoilt : Option Addr} {sl_law_spoilt : Array (Option Value)} {oc_law_spoilt kV_law_spoilt dc_law_spoilt pm_law_spoilt cd_law_spoilt ct_law_spoilt : Value} {f_sign_of : Addr} {od_sign_of an_sign_of : Option Addr} {sl_sign_of : Array (Option Value)} {oc_sign_of kV_sign_of dc_sign_of pm_sign_of cd_sign_of ct_sign_of : Value} {f_hand_text : Addr} {od_hand_text an_hand_text : Option Addr} {sl_hand_text : Array (Option Value)} {oc_hand_text kV_hand_text dc_hand_text pm_hand_text cd_hand_text ct_hand_text : Value} {f_deal_text : Addr} {od_deal_text an_deal_text : Option Addr} {sl_deal_text : Array (Option Value)} {oc_deal_text kV_deal_text dc_deal_text pm_deal_text cd_deal_text ct_deal_text : Value} {f_law_sign : Addr} {od_law_sign an_law_sign : Option Addr} {sl_law_sign : Array (Option Value)} {oc_law_sign kV_law_sign dc_law_sign pm_law_sign cd_law_sign ct_law_sign : Value} {f_law_hand_text : Addr} {od_law_hand_text an_law_hand_text : Option Addr} {sl_law_hand_text : Array (Option Value)} {oc_law_hand_text kV_law_hand_text dc_law_hand_text pm_law_hand_text cd_law_hand_text ct_law_hand_text : Value} {f_law_told_hand : Addr} {od_law_told_hand an_law_told_hand : Option Addr} {sl_law_told_hand : Array (Option Value)} {oc_law_told_hand kV_law_told_hand dc_law_told_hand pm_law_told_hand cd_law_told_hand ct_law_told_hand : Value} {f_law_card_text : Addr} {od_law_card_text an_law_card_text : Option Addr} {sl_law_card_text : Array (Option Value)} {oc_law_card_text kV_law_card_text dc_law_card_text pm_law_card_text cd_law_card_text ct_law_card_text : Value} {f_card_text : Addr} {od_card_text an_card_text : Option Addr} {sl_card_text : Array (Option Value)} {oc_card_text kV_card_text dc_card_text pm_card_text cd_card_text ct_card_text : Value} {f_law_all_cards : Addr} {od_law_all_cards an_law_all_cards : Option Addr} {sl_law_all_cards : Array (Option Value)} {oc_law_all_cards kV_law_all_cards dc_law_all_cards pm_law_all_cards cd_law_all_cards ct_law_all_cards : Value} {f_law_mixed : Addr} {od_law_mixed an_law_mixed : Option Addr} {sl_law_mixed : Array (Option Value)} {oc_law_mixed kV_law_mixed dc_law_mixed pm_law_mixed cd_law_mixed ct_law_mixed : Value} {f_law_drawn_deal : Addr} {od_law_drawn_deal an_law_drawn_deal : Option Addr} {sl_law_drawn_deal : Array (Option Value)} {oc_law_drawn_deal kV_law_drawn_deal dc_law_drawn_deal pm_law_drawn_deal cd_law_drawn_deal ct_law_drawn_deal : Value} {f_law : Addr} {od_law an_law : Option Addr} {sl_law : Array (Option Value)} {oc_law kV_law dc_law pm_law cd_law ct_law : Value} {u_SIGNS : Tok} {u_SUITS : Tok} {A_NoText : Addr} (X : K.In h) (G : h.Ns mainGlobals mg) (hfa : mg "law" = some (.ref fa))
    (a_law_read_hand : PySem.W.nsIn K mainGlobals "_law_read_hand" = some (some (.ref f_law_read_hand))) (l_law_read_hand : K.lookup f_law_read_hand = some ⟨oc_law_read_hand, od_law_read_hand, .func (PySem.W.fnOf "_law_read_hand" "_law_read_hand" (defArgs s_law_read_hand) (defBody s_law_read_hand) (defScope s_law_read_hand) .none kV_law_read_hand dc_law_read_hand pm_law_read_hand an_law_read_hand cd_law_read_hand ct_law_read_hand), sl_law_read_hand⟩) (c_law_read_hand : PySem.W.codeIn K cd_law_read_hand "_law_read_hand" = true) (k_law_read_hand : PySem.W.keepIn K (.ref f_law_read_hand) = true)
    (a_law_read_deal : PySem.W.nsIn K mainGlobals "_law_read_deal" = some (some (.ref f_law_read_deal))) (l_law_read_deal : K.lookup f_law_read_deal = some ⟨oc_law_read_deal, od_law_read_deal, .func (PySem.W.fnOf "_law_read_deal" "_law_read_deal" (defArgs s_law_read_deal) (defBody s_law_read_deal) (defScope s_law_read_deal) .none kV_law_read_deal dc_law_read_deal pm_law_read_deal an_law_read_deal cd_law_read_deal ct_law_read_deal), sl_law_read_deal⟩) (c_law_read_deal : PySem.W.codeIn K cd_law_read_deal "_law_read_deal" = true) (k_law_read_deal : PySem.W.keepIn K (.ref f_law_read_deal) = true)
    (a_law_or_refused : PySem.W.nsIn K mainGlobals "_law_or_refused" = some (some (.ref f_law_or_refused))) (l_law_or_refused : K.lookup f_law_or_refused = some ⟨oc_law_or_refused, od_law_or_refused, .func (PySem.W.fnOf "_law_or_refused" "_law_or_refused" (defArgs s_law_or_refused) (defBody s_law_or_refused) (defScope s_law_or_refused) .none kV_law_or_refused dc_law_or_refused pm_law_or_refused an_law_or_refused cd_law_or_refused ct_law_or_refused), sl_law_or_refused⟩) (c_law_or_refused : PySem.W.codeIn K cd_law_or_refused "_law_or_refused" = true) (k_law_or_refused : PySem.W.keepIn K (.ref f_law_or_refused) = true)
    (a_is_whole : PySem.W.nsIn K mainGlobals "is_whole" = some (some (.ref f_is_whole))) (l_is_whole : K.lookup f_is_whole = some ⟨oc_is_whole, od_is_whole, .func (PySem.W.fnOf "is_whole" "is_whole" (defArgs s_is_whole) (defBody s_is_whole) (defScope s_is_whole) .none kV_is_whole dc_is_whole pm_is_whole an_is_whole cd_is_whole ct_is_whole), sl_is_whole⟩) (c_is_whole : PySem.W.codeIn K cd_is_whole "is_whole" = true) (k_is_whole : PySem.W.keepIn K (.ref f_is_whole) = true)
    (a_is_card : PySem.W.nsIn K mainGlobals "is_card" = some (some (.ref f_is_card))) (l_is_card : K.lookup f_is_card = some ⟨oc_is_card, od_is_card, .func (PySem.W.fnOf "is_card" "is_card" (defArgs s_is_card) (defBody s_is_card) (defScope s_is_card) .none kV_is_card dc_is_card pm_is_card an_is_card cd_is_card ct_is_card), sl_is_card⟩) (c_is_card : PySem.W.codeIn K cd_is_card "is_card" = true) (k_is_card : PySem.W.keepIn K (.ref f_is_card) = true)
    (a_is_hand : PySem.W.nsIn K mainGlobals "is_hand" = some (some (.ref f_is_hand))) (l_is_hand : K.lookup f_is_hand = some ⟨oc_is_hand, od_is_hand, .func (PySem.W.fnOf "is_hand" "is_hand" (defArgs s_is_hand) (defBody s_is_hand) (defScope s_is_hand) .none kV_is_hand dc_is_hand pm_is_hand an_is_hand cd_is_hand ct_is_hand), sl_is_hand⟩) (c_is_hand : PySem.W.codeIn K cd_is_hand "is_hand" = true) (k_is_hand : PySem.W.keepIn K (.ref f_is_hand) = true)
    (a_is_deal : PySem.W.nsIn K mainGlobals "is_deal" = some (some (.ref f_is_deal))) (l_is_deal : K.lookup f_is_deal = some ⟨oc_is_deal, od_is_deal, .func (PySem.W.fnOf "is_deal" "is_deal" (defArgs s_is_deal) (defBody s_is_deal) (defScope s_is_deal) .none kV_is_deal dc_is_deal pm_is_deal an_is_deal cd_is_deal ct_is_deal), sl_is_deal⟩) (c_is_deal : PySem.W.codeIn K cd_is_deal "is_deal" = true) (k_is_deal : PySem.W.keepIn K (.ref f_is_deal) = true)
    (a_rank_of : PySem.W.nsIn K mainGlobals "rank_of" = some (some (.ref f_rank_of))) (l_rank_of : K.lookup f_rank_of = some ⟨oc_rank_of, od_rank_of, .func (PySem.W.fnOf "rank_of" "rank_of" (defArgs s_rank_of) (defBody s_rank_of) (defScope s_rank_of) .none kV_rank_of dc_rank_of pm_rank_of an_rank_of cd_rank_of ct_rank_of), sl_rank_of⟩) (c_rank_of : PySem.W.codeIn K cd_rank_of "rank_of" = true) (k_rank_of : PySem.W.keepIn K (.ref f_rank_of) = true)
    (a_read_hand : PySem.W.nsIn K mainGlobals "read_hand" = some (some (.ref f_read_hand))) (l_read_hand : K.lookup f_read_hand = some ⟨oc_read_hand, od_read_hand, .func (PySem.W.fnOf "read_hand" "read_hand" (defArgs s_read_hand) (defBody s_read_hand) (defScope s_read_hand) .none kV_read_hand dc_read_hand pm_read_hand an_read_hand cd_read_hand ct_read_hand), sl_read_hand⟩) (c_read_hand : PySem.W.codeIn K cd_read_hand "read_hand" = true) (k_read_hand : PySem.W.keepIn K (.ref f_read_hand) = true)
    (a_read_deal : PySem.W.nsIn K mainGlobals "read_deal" = some (some (.ref f_read_deal))) (l_read_deal : K.lookup f_read_deal = some ⟨oc_read_deal, od_read_deal, .func (PySem.W.fnOf "read_deal" "read_deal" (defArgs s_read_deal) (defBody s_read_deal) (defScope s_read_deal) .none kV_read_deal dc_read_deal pm_read_deal an_read_deal cd_read_deal ct_read_deal), sl_read_deal⟩) (c_read_deal : PySem.W.codeIn K cd_read_deal "read_deal" = true) (k_read_deal : PySem.W.keepIn K (.ref f_read_deal) = true)
    (a_law_told_deal : PySem.W.nsIn K mainGlobals "_law_told_deal" = some (some (.ref f_law_told_deal))) (l_law_told_deal : K.lookup f_law_told_deal = some ⟨oc_law_told_deal, od_law_told_deal, .func (PySem.W.fnOf "_law_told_deal" "_law_told_deal" (defArgs s_law_told_deal) (defBody s_law_told_deal) (defScope s_law_told_deal) .none kV_law_told_deal dc_law_told_deal pm_law_told_deal an_law_told_deal cd_law_told_deal ct_law_told_deal), sl_law_told_deal⟩) (c_law_told_deal : PySem.W.codeIn K cd_law_told_deal "_law_told_deal" = true) (k_law_told_deal : PySem.W.keepIn K (.ref f_law_told_deal) = true)
    (a_law_same : PySem.W.nsIn K mainGlobals "_law_same" = some (some (.ref f_law_same))) (l_law_same : K.lookup f_law_same = some ⟨oc_law_same, od_law_same, .func (PySem.W.fnOf "_law_same" "_law_same" (defArgs s_law_same) (defBody s_law_same) (defScope s_law_same) .none kV_law_same dc_law_same pm_law_same an_law_same cd_law_same ct_law_same), sl_law_same⟩) (c_law_same : PySem.W.codeIn K cd_law_same "_law_same" = true) (k_law_same : PySem.W.keepIn K (.ref f_law_same) = true)
    (a_law_draw : PySem.W.nsIn K mainGlobals "_law_draw" = some (some (.ref f_law_draw))) (l_law_draw : K.lookup f_law_draw = some ⟨oc_law_draw, od_law_draw, .func (PySem.W.fnOf "_law_draw" "_law_draw" (defArgs s_law_draw) (defBody s_law_draw) (defScope s_law_draw) .none kV_law_draw dc_law_draw pm_law_draw an_law_draw cd_law_draw ct_law_draw), sl_law_draw⟩) (c_law_draw : PySem.W.codeIn K cd_law_draw "_law_draw" = true) (k_law_draw : PySem.W.keepIn K (.ref f_law_draw) = true)
    (a_law_pick : PySem.W.nsIn K mainGlobals "_law_pick" = some (some (.ref f_law_pick))) (l_law_pick : K.lookup f_law_pick = some ⟨oc_law_pick, od_law_pick, .func (PySem.W.fnOf "_law_pick" "_law_pick" (defArgs s_law_pick) (defBody s_law_pick) (defScope s_law_pick) .none kV_law_pick dc_law_pick pm_law_pick an_law_pick cd_law_pick ct_law_pick), sl_law_pick⟩) (c_law_pick : PySem.W.codeIn K cd_law_pick "_law_pick" = true) (k_law_pick : PySem.W.keepIn K (.ref f_law_pick) = true)
    (a_law_spoilt : PySem.W.nsIn K mainGlobals "_law_spoilt" = some (some (.ref f_law_spoilt))) (l_law_spoilt : K.lookup f_law_spoilt = some ⟨oc_law_spoilt, od_law_spoilt, .func (PySem.W.fnOf "_law_spoilt" "_law_spoilt" (defArgs s_law_spoilt) (defBody s_law_spoilt) (defScope s_law_spoilt) .none kV_law_spoilt dc_law_spoilt pm_law_spoilt an_law_spoilt cd_law_spoilt ct_law_spoilt), sl_law_spoilt⟩) (c_law_spoilt : PySem.W.codeIn K cd_law_spoilt "_law_spoilt" = true) (k_law_spoilt : PySem.W.keepIn K (.ref f_law_spoilt) = true)
    (a_sign_of : PySem.W.nsIn K mainGlobals "sign_of" = some (some (.ref f_sign_of))) (l_sign_of : K.lookup f_sign_of = some ⟨oc_sign_of, od_sign_of, .func (PySem.W.fnOf "sign_of" "sign_of" (defArgs s_sign_of) (defBody s_sign_of) (defScope s_sign_of) .none kV_sign_of dc_sign_of pm_sign_of an_sign_of cd_sign_of ct_sign_of), sl_sign_of⟩) (c_sign_of : PySem.W.codeIn K cd_sign_of "sign_of" = true) (k_sign_of : PySem.W.keepIn K (.ref f_sign_of) = true)
    (a_hand_text : PySem.W.nsIn K mainGlobals "hand_text" = some (some (.ref f_hand_text))) (l_hand_text : K.lookup f_hand_text = some ⟨oc_hand_text, od_hand_text, .func (PySem.W.fnOf "hand_text" "hand_text" (defArgs s_hand_text) (defBody s_hand_text) (defScope s_hand_text) .none kV_hand_text dc_hand_text pm_hand_text an_hand_text cd_hand_text ct_hand_text), sl_hand_text⟩) (c_hand_text : PySem.W.codeIn K cd_hand_text "hand_text" = true) (k_hand_text : PySem.W.keepIn K (.ref f_hand_text) = true)
    (a_deal_text : PySem.W.nsIn K mainGlobals "deal_text" = some (some (.ref f_deal_text))) (l_deal_text : K.lookup f_deal_text = some ⟨oc_deal_text, od_deal_text, .func (PySem.W.fnOf "deal_text" "deal_text" (defArgs s_deal_text) (defBody s_deal_text) (defScope s_deal_text) .none kV_deal_text dc_deal_text pm_deal_text an_deal_text cd_deal_text ct_deal_text), sl_deal_text⟩) (c_deal_text : PySem.W.codeIn K cd_deal_text "deal_text" = true) (k_deal_text : PySem.W.keepIn K (.ref f_deal_text) = true)
    (a_law_sign : PySem.W.nsIn K mainGlobals "_law_sign" = some (some (.ref f_law_sign))) (l_law_sign : K.lookup f_law_sign = some ⟨oc_law_sign, od_law_sign, .func (PySem.W.fnOf "_law_sign" "_law_sign" (defArgs s_law_sign) (defBody s_law_sign) (defScope s_law_sign) .none kV_law_sign dc_law_sign pm_law_sign an_law_sign cd_law_sign ct_law_sign), sl_law_sign⟩) (c_law_sign : PySem.W.codeIn K cd_law_sign "_law_sign" = true) (k_law_sign : PySem.W.keepIn K (.ref f_law_sign) = true)
    (a_law_hand_text : PySem.W.nsIn K mainGlobals "_law_hand_text" = some (some (.ref f_law_hand_text))) (l_law_hand_text : K.lookup f_law_hand_text = some ⟨oc_law_hand_text, od_law_hand_text, .func (PySem.W.fnOf "_law_hand_text" "_law_hand_text" (defArgs s_law_hand_text) (defBody s_law_hand_text) (defScope s_law_hand_text) .none kV_law_hand_text dc_law_hand_text pm_law_hand_text an_law_hand_text cd_law_hand_text ct_law_hand_text), sl_law_hand_text⟩) (c_law_hand_text : PySem.W.codeIn K cd_law_hand_text "_law_hand_text" = true) (k_law_hand_text : PySem.W.keepIn K (.ref f_law_hand_text) = true)
    (a_law_told_hand : PySem.W.nsIn K mainGlobals "_law_told_hand" = some (some (.ref f_law_told_hand))) (l_law_told_hand : K.lookup f_law_told_hand = some ⟨oc_law_told_hand, od_law_told_hand, .func (PySem.W.fnOf "_law_told_hand" "_law_told_hand" (defArgs s_law_told_hand) (defBody s_law_told_hand) (defScope s_law_told_hand) .none kV_law_told_hand dc_law_told_hand pm_law_told_hand an_law_told_hand cd_law_told_hand ct_law_told_hand), sl_law_told_hand⟩) (c_law_told_hand : PySem.W.codeIn K cd_law_told_hand "_law_told_hand" = true) (k_law_told_hand : PySem.W.keepIn K (.ref f_law_told_hand) = true)
    (a_law_card_text : PySem.W.nsIn K mainGlobals "_law_card_text" = some (some (.ref f_law_card_text))) (l_law_card_text : K.lookup f_law_card_text = some ⟨oc_law_card_text, od_law_card_text, .func (PySem.W.fnOf "_law_card_text" "_law_card_text" (defArgs s_law_card_text) (defBody s_law_card_text) (defScope s_law_card_text) .none kV_law_card_text dc_law_card_text pm_law_card_text an_law_card_text cd_law_card_text ct_law_card_text), sl_law_card_text⟩) (c_law_card_text : PySem.W.codeIn K cd_law_card_text "_law_card_text" = true) (k_law_card_text : PySem.W.keepIn K (.ref f_law_card_text) = true)
    (a_card_text : PySem.W.nsIn K mainGlobals "card_text" = some (some (.ref f_card_text))) (l_card_text : K.lookup f_card_text = some ⟨oc_card_text, od_card_text, .func (PySem.W.fnOf "card_text" "card_text" (defArgs s_card_text) (defBody s_card_text) (defScope s_card_text) .none kV_card_text dc_card_text pm_card_text an_card_text cd_card_text ct_card_text), sl_card_text⟩) (c_card_text : PySem.W.codeIn K cd_card_text "card_text" = true) (k_card_text : PySem.W.keepIn K (.ref f_card_text) = true)
    (a_law_all_cards : PySem.W.nsIn K mainGlobals "_law_all_cards" = some (some (.ref f_law_all_cards))) (l_law_all_cards : K.lookup f_law_all_cards = some ⟨oc_law_all_cards, od_law_all_cards, .func (PySem.W.fnOf "_law_all_cards" "_law_all_cards" (defArgs s_law_all_cards) (defBody s_law_all_cards) (defScope s_law_all_cards) .none kV_law_all_cards dc_law_all_cards pm_law_all_cards an_law_all_cards cd_law_all_cards ct_law_all_cards), sl_law_all_cards⟩) (c_law_all_cards : PySem.W.codeIn K cd_law_all_cards "_law_all_cards" = true) (k_law_all_cards : PySem.W.keepIn K (.ref f_law_all_cards) = true)
    (a_law_mixed : PySem.W.nsIn K mainGlobals "_law_mixed" = some (some (.ref f_law_mixed))) (l_law_mixed : K.lookup f_law_mixed = some ⟨oc_law_mixed, od_law_mixed, .func (PySem.W.fnOf "_law_mixed" "_law_mixed" (defArgs s_law_mixed) (defBody s_law_mixed) (defScope s_law_mixed) .none kV_law_mixed dc_law_mixed pm_law_mixed an_law_mixed cd_law_mixed ct_law_mixed), sl_law_mixed⟩) (c_law_mixed : PySem.W.codeIn K cd_law_mixed "_law_mixed" = true) (k_law_mixed : PySem.W.keepIn K (.ref f_law_mixed) = true)
    (a_law_drawn_deal : PySem.W.nsIn K mainGlobals "_law_drawn_deal" = some (some (.ref f_law_drawn_deal))) (l_law_drawn_deal : K.lookup f_law_drawn_deal = some ⟨oc_law_drawn_deal, od_law_drawn_deal, .func (PySem.W.fnOf "_law_drawn_deal" "_law_drawn_deal" (defArgs s_law_drawn_deal) (defBody s_law_drawn_deal) (defScope s_law_drawn_deal) .none kV_law_drawn_deal dc_law_drawn_deal pm_law_drawn_deal an_law_drawn_deal cd_law_drawn_deal ct_law_drawn_deal), sl_law_drawn_deal⟩) (c_law_drawn_deal : PySem.W.codeIn K cd_law_drawn_deal "_law_drawn_deal" = true) (k_law_drawn_deal : PySem.W.keepIn K (.ref f_law_drawn_deal) = true)
    (a_law : PySem.W.nsIn K mainGlobals "law" = some (some (.ref f_law))) (l_law : K.lookup f_law = some ⟨oc_law, od_law, .func (PySem.W.fnOf "law" "law" (defArgs s_law) (defBody s_law) (defScope s_law) .none kV_law dc_law pm_law an_law cd_law ct_law), sl_law⟩) (c_law : PySem.W.codeIn K cd_law "law" = true) (k_law : PySem.W.keepIn K (.ref f_law) = true)
    (a_SIGNS : PySem.W.nsIn K mainGlobals "SIGNS" = some (some (.str "23456789TJQKA" u_SIGNS)))
    (a_SUITS : PySem.W.nsIn K mainGlobals "SUITS" = some (some (.str "CDHS" u_SUITS)))
    (a_NoText : PySem.W.nsIn K mainGlobals "NoText" = some (some (.ref A_NoText))) (x_NoText : PySem.W.excIn K A_NoText [.type "ValueError", .type "Exception", .type "BaseException", .type "object"] "ValueError.__new__" = true) (k_NoText : PySem.W.keepIn K (.ref A_NoText) = true) (b_NoText : PySem.W.subIn K (.ref A_NoText) (.type "BaseException") = some true) (t_NoText : PySem.W.typeIn K (.ref A_NoText) = some (.type "type")) (i_NoText : PySem.W.isClsIn K A_NoText = true) (s_NoText : PySem.W.subIn K (.ref A_NoText) (.ref A_NoText) = some true)
    (z_len : PySem.W.nsIn K mainGlobals "len" = some none)
    (z_sorted : PySem.W.nsIn K mainGlobals "sorted" = some none)
    (z_tuple : PySem.W.nsIn K mainGlobals "tuple" = some none)
    (z_zip : PySem.W.nsIn K mainGlobals "zip" = some none)
    (z_set : PySem.W.nsIn K mainGlobals "set" = some none)
    (z_isinstance : PySem.W.nsIn K mainGlobals "isinstance" = some none)
    (z_int : PySem.W.nsIn K mainGlobals "int" = some none)
    (z_bool : PySem.W.nsIn K mainGlobals "bool" = some none)
    (z_range : PySem.W.nsIn K mainGlobals "range" = some none)
    (z_all : PySem.W.nsIn K mainGlobals "all" = some none)
    (z_enumerate : PySem.W.nsIn K mainGlobals "enumerate" = some none)
    (z_str : PySem.W.nsIn K mainGlobals "str" = some none)
    (z_abs : PySem.W.nsIn K mainGlobals "abs" = some none)
    (z_max : PySem.W.nsIn K mainGlobals "max" = some none)
    (z_list : PySem.W.nsIn K mainGlobals "list" = some none) :
    ∃ fd : FuncData, (∀ (s : Shared) (v : Value), BindsTo s fd ⟨[v], []⟩ [("script", v)]) ∧ ∀ base : Heap, K.In base → base.Ns mainGlobals mg → FnOk l.prog w K mg base CX0 7 fa fd ["script"] (spL K spLaw) := by
  cases hfa.symm.trans (PySem.W.mg_of X G a_law)
  have F_law_read_hand := fun_mk (st := s_law_read_hand) l_law_read_hand c_law_read_hand k_law_read_hand
  have B_law_read_hand := F_law_read_hand.binds (ps := ["ranks", "text"]) fun _ _ _ _ _ _ us hl => match us, hl with | [_, _], _ => rfl
  have g_law_read_hand := PySem.W.mg_of X G a_law_read_hand
  have F_law_read_deal := fun_mk (st := s_law_read_deal) l_law_read_deal c_law_read_deal k_law_read_deal
  have B_law_read_deal := F_law_read_deal.binds (ps := ["ranks", "text"]) fun _ _ _ _ _ _ us hl => match us, hl with | [_, _], _ => rfl
  have g_law_read_deal := PySem.W.mg_of X G a_law_read_deal
  have F_law_or_refused := fun_mk (st := s_law_or_refused) l_law_or_refused c_law_or_refused k_law_or_refused
  have B_law_or_refused := F_law_or_refused.binds (ps := ["found"]) fun _ _ _ _ _ _ us hl => match us, hl with | [_], _ => rfl
  have g_law_or_refused := PySem.W.mg_of X G a_law_or_refused
  have F_is_whole := fun_mk (st := s_is_whole) l_is_whole c_is_whole k_is_whole
  have B_is_whole := F_is_whole.binds (ps := ["thing"]) fun _ _ _ _ _ _ us hl => match us, hl with | [_], _ => rfl
  have g_is_whole := PySem.W.mg_of X G a_is_whole
  have F_is_card := fun_mk (st := s_is_card) l_is_card c_is_card k_is_card
  have B_is_card := F_is_card.binds (ps := ["ranks", "thing"]) fun _ _ _ _ _ _ us hl => match us, hl with | [_, _], _ => rfl
  have g_is_card := PySem.W.mg_of X G a_is_card
  have F_is_hand := fun_mk (st := s_is_hand) l_is_hand c_is_hand k_is_hand
  have B_is_hand := F_is_hand.binds (ps := ["ranks", "thing"]) fun _ _ _ _ _ _ us hl => match us, hl with | [_, _], _ => rfl
  have g_is_hand := PySem.W.mg_of X G a_is_hand
  have F_is_deal := fun_mk (st := s_is_deal) l_is_deal c_is_deal k_is_deal
  have B_is_deal := F_is_deal.binds (ps := ["ranks", "thing"]) fun _ _ _ _ _ _ us hl => match us, hl with | [_, _], _ => rfl
  have g_is_deal := PySem.W.mg_of X G a_is_deal
  have F_rank_of := fun_mk (st := s_rank_of) l_rank_of c_rank_of k_rank_of
  have B_rank_of := F_rank_of.binds (ps := ["ranks", "sign"]) fun _ _ _ _ _ _ us hl => match us, hl with | [_, _], _ => rfl
  have g_rank_of := PySem.W.mg_of X G a_rank_of
  have F_read_hand := fun_mk (st := s_read_hand) l_read_hand c_read_hand k_read_hand
  have B_read_hand := F_read_hand.binds (ps := ["ranks", "text"]) fun _ _ _ _ _ _ us hl => match us, hl with | [_, _], _ => rfl
  have g_read_hand := PySem.W.mg_of X G a_read_hand
  have F_read_deal := fun_mk (st := s_read_deal) l_read_deal c_read_deal k_read_deal
  have B_read_deal := F_read_deal.binds (ps := ["ranks", "text"]) fun _ _ _ _ _ _ us hl => match us, hl with | [_, _], _ => rfl
  have g_read_deal := PySem.W.mg_of X G a_read_deal
  have F_law_told_deal := fun_mk (st := s_law_told_deal) l_law_told_deal c_law_told_deal k_law_told_deal
  have B_law_told_deal := F_law_told_deal.binds (ps := ["ranks", "text"]) fun _ _ _ _ _ _ us hl => match us, hl with | [_, _], _ => rfl
  have g_law_told_deal := PySem.W.mg_of X G a_law_told_deal
  have F_law_same := fun_mk (st := s_law_same) l_law_same c_law_same k_law_same
  have B_law_same := F_law_same.binds (ps := ["got", "due"]) fun _ _ _ _ _ _ us hl => match us, hl with | [_, _], _ => rfl
  have g_law_same := PySem.W.mg_of X G a_law_same
  have F_law_draw := fun_mk (st := s_law_draw) l_law_draw c_law_draw k_law_draw
  have B_law_draw := F_law_draw.binds (ps := ["script", "town", "many"]) fun _ _ _ _ _ _ us hl => match us, hl with | [_, _, _], _ => rfl
  have g_law_draw := PySem.W.mg_of X G a_law_draw
  have F_law_pick := fun_mk (st := s_law_pick) l_law_pick c_law_pick k_law_pick
  have B_law_pick := F_law_pick.binds (ps := ["script", "town", "some"]) fun _ _ _ _ _ _ us hl => match us, hl with | [_, _, _], _ => rfl
  have g_law_pick := PySem.W.mg_of X G a_law_pick
  have F_law_spoilt := fun_mk (st := s_law_spoilt) l_law_spoilt c_law_spoilt k_law_spoilt
  have B_law_spoilt := F_law_spoilt.binds (ps := ["script", "town", "text", "signs"]) fun _ _ _ _ _ _ us hl => match us, hl with | [_, _, _, _], _ => rfl
  have g_law_spoilt := PySem.W.mg_of X G a_law_spoilt
  have F_sign_of := fun_mk (st := s_sign_of) l_sign_of c_sign_of k_sign_of
  have B_sign_of := F_sign_of.binds (ps := ["ranks", "rank"]) fun _ _ _ _ _ _ us hl => match us, hl with | [_, _], _ => rfl
  have g_sign_of := PySem.W.mg_of X G a_sign_of
  have F_hand_text := fun_mk (st := s_hand_text) l_hand_text c_hand_text k_hand_text
  have B_hand_text := F_hand_text.binds (ps := ["ranks", "hand"]) fun _ _ _ _ _ _ us hl => match us, hl with | [_, _], _ => rfl
  have g_hand_text := PySem.W.mg_of X G a_hand_text
  have F_deal_text := fun_mk (st := s_deal_text) l_deal_text c_deal_text k_deal_text
  have B_deal_text := F_deal_text.binds (ps := ["ranks", "deal"]) fun _ _ _ _ _ _ us hl => match us, hl with | [_, _], _ => rfl
  have g_deal_text := PySem.W.mg_of X G a_deal_text
  have F_law_sign := fun_mk (st := s_law_sign) l_law_sign c_law_sign k_law_sign
  have B_law_sign := F_law_sign.binds (ps := ["ranks", "rank"]) fun _ _ _ _ _ _ us hl => match us, hl with | [_, _], _ => rfl
  have g_law_sign := PySem.W.mg_of X G a_law_sign
  have F_law_hand_text := fun_mk (st := s_law_hand_text) l_law_hand_text c_law_hand_text k_law_hand_text
  have B_law_hand_text := F_law_hand_text.binds (ps := ["ranks", "hand"]) fun _ _ _ _ _ _ us hl => match us, hl with | [_, _], _ => rfl
  have g_law_hand_text := PySem.W.mg_of X G a_law_hand_text
  have F_law_told_hand := fun_mk (st := s_law_told_hand) l_law_told_hand c_law_told_hand k_law_told_hand
  have B_law_told_hand := F_law_told_hand.binds (ps := ["ranks", "text"]) fun _ _ _ _ _ _ us hl => match us, hl with | [_, _], _ => rfl
  have g_law_told_hand := PySem.W.mg_of X G a_law_told_hand
  have F_law_card_text := fun_mk (st := s_law_card_text) l_law_card_text c_law_card_text k_law_card_text
  have B_law_card_text := F_law_card_text.binds (ps := ["ranks", "card"]) fun _ _ _ _ _ _ us hl => match us, hl with | [_, _], _ => rfl
  have g_law_card_text := PySem.W.mg_of X G a_law_card_text
  have F_card_text := fun_mk (st := s_card_text) l_card_text c_card_text k_card_text
  have B_card_text := F_card_text.binds (ps := ["ranks", "card"]) fun _ _ _ _ _ _ us hl => match us, hl with | [_, _], _ => rfl
  have g_card_text := PySem.W.mg_of X G a_card_text
  have F_law_all_cards := fun_mk (st := s_law_all_cards) l_law_all_cards c_law_all_cards k_law_all_cards
  have B_law_all_cards := F_law_all_cards.binds (ps := ["ranks"]) fun _ _ _ _ _ _ us hl => match us, hl with | [_], _ => rfl
  have g_law_all_cards := PySem.W.mg_of X G a_law_all_cards
  have F_law_mixed := fun_mk (st := s_law_mixed) l_law_mixed c_law_mixed k_law_mixed
  have B_law_mixed := F_law_mixed.binds (ps := ["script", "town", "things"]) fun _ _ _ _ _ _ us hl => match us, hl with | [_, _, _], _ => rfl
  have g_law_mixed := PySem.W.mg_of X G a_law_mixed
  have F_law_drawn_deal := fun_mk (st := s_law_drawn_deal) l_law_drawn_deal c_law_drawn_deal k_law_drawn_deal
  have B_law_drawn_deal := F_law_drawn_deal.binds (ps := ["script", "town", "ranks"]) fun _ _ _ _ _ _ us hl => match us, hl with | [_, _, _], _ => rfl
  have g_law_drawn_deal := PySem.W.mg_of X G a_law_drawn_deal
  have F_law := fun_mk (st := s_law) l_law c_law k_law
  have g_SIGNS := PySem.W.mg_of X G a_SIGNS
  have g_SUITS := PySem.W.mg_of X G a_SUITS
  have g_NoText := PySem.W.mg_of X G a_NoText
  have e_NoText : (fun cls => PySem.W.exmOne K cls (.ref A_NoText)) (.ref A_NoText) = some true := exm_sub b_NoText i_NoText t_NoText s_NoText
  have b_len := PySem.W.mg_none_of X G z_len
  have b_sorted := PySem.W.mg_none_of X G z_sorted
  have b_tuple := PySem.W.mg_none_of X G z_tuple
  have b_zip := PySem.W.mg_none_of X G z_zip
  have b_set := PySem.W.mg_none_of X G z_set
  have b_isinstance := PySem.W.mg_none_of X G z_isinstance
  have b_int := PySem.W.mg_none_of X G z_int
  have b_bool := PySem.W.mg_none_of X G z_bool
  have b_range := PySem.W.mg_none_of X G z_range
  have b_all := PySem.W.mg_none_of X G z_all
  have b_enumerate := PySem.W.mg_none_of X G z_enumerate
  have b_str := PySem.W.mg_none_of X G z_str
  have b_abs := PySem.W.mg_none_of X G z_abs
  have b_max := PySem.W.mg_none_of X G z_max
  have b_list := PySem.W.mg_none_of X G z_list
  refine ⟨PySem.W.fnOf "law" "law" (defArgs s_law) (defBody s_law) (defScope s_law) .none kV_law dc_law pm_law an_law cd_law ct_law, fun s v => .of_eq rfl, fun base _ _ => ?_⟩
  have ok_law_read_hand : FnOk l.prog w K mg base CX0 1 f_law_read_hand _ ["ranks", "text"] (spL K spLRHand) := fn_okD F_law_read_hand sc_law_read_hand sh_law_read_hand (fun cdv A outer s H E hr G hG => dv_law_read_hand b_len b_sorted b_tuple b_zip b_set cdv A outer s H E hr G hG) rd_law_read_hand
  have ok_law_read_deal : FnOk l.prog w K mg base CX0 2 f_law_read_deal _ ["ranks", "text"] (spL K spLRDeal) := fn_okD F_law_read_deal sc_law_read_deal sh_law_read_deal (fun cdv A outer s H E hr G hG => dv_law_read_deal b_len b_set b_tuple ok_law_read_hand (by decide) g_law_read_hand F_law_read_hand.kp B_law_read_hand cdv A outer s H E hr G hG) rd_law_read_deal
  have ok_law_or_refused : FnOk l.prog w K mg base CX0 1 f_law_or_refused _ ["found"] (spL K spOrR) := fn_okD F_law_or_refused sc_law_or_refused sh_law_or_refused (fun cdv A outer s H E hr G hG => dv_law_or_refused cdv A outer s H E hr G hG) rd_law_or_refused
  have ok_is_whole : FnOk l.prog w K mg base CX0 1 f_is_whole _ ["thing"] (spL K spWhole) := fn_okD F_is_whole sc_is_whole sh_is_whole (fun cdv A outer s H E hr G hG => dv_is_whole b_isinstance b_int b_bool cdv A outer s H E hr G hG) rd_is_whole
  have ok_is_card : FnOk l.prog w K mg base CX0 2 f_is_card _ ["ranks", "thing"] (spL K spIsCard) := fn_okD F_is_card sc_is_card sh_is_card (fun cdv A outer s H E hr G hG => dv_is_card b_isinstance b_tuple b_len ok_is_whole (by decide) g_is_whole F_is_whole.kp B_is_whole cdv A outer s H E hr G hG) rd_is_card
  have ok_is_hand : FnOk l.prog w K mg base CX0 3 f_is_hand _ ["ranks", "thing"] (spL K spIsHand) := fn_okD F_is_hand sc_is_hand sh_is_hand (fun cdv A outer s H E hr G hG => dv_is_hand b_range b_all b_isinstance b_tuple b_len ok_is_card (by decide) g_is_card F_is_card.kp B_is_card cdv A outer s H E hr G hG) rd_is_hand
  have ok_is_deal : FnOk l.prog w K mg base CX0 4 f_is_deal _ ["ranks", "thing"] (spL K spIsDeal) := fn_okD F_is_deal sc_is_deal sh_is_deal (fun cdv A outer s H E hr G hG => dv_is_deal b_len b_set b_isinstance b_tuple b_all ok_is_hand (by decide) g_is_hand F_is_hand.kp B_is_hand cdv A outer s H E hr G hG) rd_is_deal
  have ok_rank_of : FnOk l.prog w K mg base (L2.CX l.prog w) 1 f_rank_of _ ["ranks", "sign"] (spLX K (spRank (.ref A_NoText))) := fn_okX F_rank_of sc_rank_of (sh_rank_of _) (fun cdv A outer s H E hr G hG WD hW => dv_rank_of (v_SIGNS := .str "23456789TJQKA") g_SIGNS ⟨_, rfl⟩ (fun _ => .str _) x_NoText g_NoText k_NoText b_NoText t_NoText cdv A outer s H E hr G hG WD hW) (rd_rank_of _)
  have ok_read_hand : FnOk l.prog w K mg base (L2.CX l.prog w) 4 f_read_hand _ ["ranks", "text"] (spLX K (spRHand (.ref A_NoText))) := fn_okXE F_read_hand sc_read_hand (sh_read_hand _) (fun cdv A outer s H E hr G hG WD hW hE => dv_read_hand b_tuple b_enumerate b_len ok_is_hand (by decide) g_is_hand F_is_hand.kp B_is_hand ok_rank_of (by decide) g_rank_of F_rank_of.kp B_rank_of x_NoText g_NoText k_NoText b_NoText t_NoText cdv A outer s H E hr G hG WD hW hE) (rd_read_hand _)
  have ok_read_deal : FnOk l.prog w K mg base (L2.CX l.prog w) 5 f_read_deal _ ["ranks", "text"] (spLX K (spRDeal (.ref A_NoText))) := fn_okXE F_read_deal sc_read_deal (sh_read_deal _) (fun cdv A outer s H E hr G hG WD hW hE => dv_read_deal b_tuple ok_is_deal (by decide) g_is_deal F_is_deal.kp B_is_deal ok_read_hand (by decide) g_read_hand F_read_hand.kp B_read_hand x_NoText g_NoText k_NoText b_NoText t_NoText cdv A outer s H E hr G hG WD hW hE) (rd_read_deal _)
  have ok_law_told_deal : FnOk l.prog w K mg base CX0 6 f_law_told_deal _ ["ranks", "text"] (spL K spToldD) := fn_okD F_law_told_deal sc_law_told_deal sh_law_told_deal (fun cdv A outer s H E hr G hG => dv_law_told_deal ok_read_deal (by decide) g_read_deal F_read_deal.kp B_read_deal g_NoText (m_NoText := fun cls => PySem.W.exmOne K cls (.ref A_NoText)) (fun _ _ h => h) cdv A outer s H E hr G hG) (rd_law_told_deal e_NoText)
  have ok_law_same_z : FnOk l.prog w K mg base CX0 1 f_law_same _ ["got", "due"] (spL K spNo) := no_ok F_law_same sc_law_same
  have ok_law_same_0 : FnOk l.prog w K mg base CX0 2 f_law_same _ ["got", "due"] (spL K (spSame 0)) := fn_okD F_law_same sc_law_same (sh_law_same 0) (fun cdv A outer s H E hr G hG => dv_law_same b_isinstance b_int b_bool b_str b_tuple b_zip b_all b_len ok_law_same_z (by decide) g_law_same F_law_same.kp B_law_same cdv A outer s H E hr G hG) (rd_law_same 0 spNo (fun m e => nomatch e))
  have ok_law_same_1 : FnOk l.prog w K mg base CX0 3 f_law_same _ ["got", "due"] (spL K (spSame 1)) := fn_okD F_law_same sc_law_same (sh_law_same 1) (fun cdv A outer s H E hr G hG => dv_law_same b_isinstance b_int b_bool b_str b_tuple b_zip b_all b_len ok_law_same_0 (by decide) g_law_same F_law_same.kp B_law_same cdv A outer s H E hr G hG) (rd_law_same 1 (spSame 0) (fun m e => by cases e; rfl))
  have ok_law_same_2 : FnOk l.prog w K mg base CX0 4 f_law_same _ ["got", "due"] (spL K (spSame 2)) := fn_okD F_law_same sc_law_same (sh_law_same 2) (fun cdv A outer s H E hr G hG => dv_law_same b_isinstance b_int b_bool b_str b_tuple b_zip b_all b_len ok_law_same_1 (by decide) g_law_same F_law_same.kp B_law_same cdv A outer s H E hr G hG) (rd_law_same 2 (spSame 1) (fun m e => by cases e; rfl))
  have ok_law_same : FnOk l.prog w K mg base CX0 5 f_law_same _ ["got", "due"] (spL K (spSame 3)) := fn_okD F_law_same sc_law_same (sh_law_same 3) (fun cdv A outer s H E hr G hG => dv_law_same b_isinstance b_int b_bool b_str b_tuple b_zip b_all b_len ok_law_same_2 (by decide) g_law_same F_law_same.kp B_law_same cdv A outer s H E hr G hG) (rd_law_same 3 (spSame 2) (fun m e => by cases e; rfl))
  have ok_law_draw : FnOk l.prog w K mg base CX0 1 f_law_draw _ ["script", "town", "many"] (spL K spDraw) := fn_okD F_law_draw sc_law_draw sh_law_draw (fun cdv A outer s H E hr G hG => dv_law_draw b_len b_abs b_max cdv A outer s H E hr G hG) rd_law_draw
  have ok_law_pick : FnOk l.prog w K mg base CX0 2 f_law_pick _ ["script", "town", "some"] (spL K spPick) := fn_okD F_law_pick sc_law_pick sh_law_pick (fun cdv A outer s H E hr G hG => dv_law_pick b_len ok_law_draw (by decide) g_law_draw F_law_draw.kp B_law_draw cdv A outer s H E hr G hG) rd_law_pick
  have ok_law_spoilt : FnOk l.prog w K mg base CX0 3 f_law_spoilt _ ["script", "town", "text", "signs"] (spL K spSpoilt) := fn_okD F_law_spoilt sc_law_spoilt sh_law_spoilt (fun cdv A outer s H E hr G hG => dv_law_spoilt b_len ok_law_draw (by decide) g_law_draw F_law_draw.kp B_law_draw ok_law_pick (by decide) g_law_pick F_law_pick.kp B_law_pick cdv A outer s H E hr G hG) rd_law_spoilt
  have ok_sign_of : FnOk l.prog w K mg base CX0 1 f_sign_of _ ["ranks", "rank"] (spL K spSign) := fn_okD F_sign_of sc_sign_of sh_sign_of (fun cdv A outer s H E hr G hG => dv_sign_of (v_SIGNS := .str "23456789TJQKA") g_SIGNS ⟨_, rfl⟩ (fun _ => .str _) cdv A outer s H E hr G hG) rd_sign_of
  have ok_hand_text : FnOk l.prog w K mg base CX0 2 f_hand_text _ ["ranks", "hand"] (spL K spHandT) := fn_okD F_hand_text sc_hand_text sh_hand_text (fun cdv A outer s H E hr G hG => dv_hand_text ok_sign_of (by decide) g_sign_of F_sign_of.kp B_sign_of cdv A outer s H E hr G hG) rd_hand_text
  have ok_deal_text : FnOk l.prog w K mg base CX0 3 f_deal_text _ ["ranks", "deal"] (spL K spDealT) := fn_okD F_deal_text sc_deal_text sh_deal_text (fun cdv A outer s H E hr G hG => dv_deal_text ok_hand_text (by decide) g_hand_text F_hand_text.kp B_hand_text cdv A outer s H E hr G hG) rd_deal_text
  have ok_law_sign : FnOk l.prog w K mg base CX0 1 f_law_sign _ ["ranks", "rank"] (spL K spSign) := fn_okD F_law_sign sc_law_sign sh_law_sign (fun cdv A outer s H E hr G hG => dv_law_sign cdv A outer s H E hr G hG) rd_law_sign
  have ok_law_hand_text : FnOk l.prog w K mg base CX0 2 f_law_hand_text _ ["ranks", "hand"] (spL K spHandT) := fn_okD F_law_hand_text sc_law_hand_text sh_law_hand_text (fun cdv A outer s H E hr G hG => dv_law_hand_text b_sorted ok_law_sign (by decide) g_law_sign F_law_sign.kp B_law_sign cdv A outer s H E hr G hG) rd_law_hand_text
  have ok_law_told_hand : FnOk l.prog w K mg base CX0 5 f_law_told_hand _ ["ranks", "text"] (spL K spToldH) := fn_okD F_law_told_hand sc_law_told_hand sh_law_told_hand (fun cdv A outer s H E hr G hG => dv_law_told_hand ok_read_hand (by decide) g_read_hand F_read_hand.kp B_read_hand g_NoText (m_NoText := fun cls => PySem.W.exmOne K cls (.ref A_NoText)) (fun _ _ h => h) cdv A outer s H E hr G hG) (rd_law_told_hand e_NoText)
  have ok_law_card_text : FnOk l.prog w K mg base CX0 2 f_law_card_text _ ["ranks", "card"] (spL K spCardT) := fn_okD F_law_card_text sc_law_card_text sh_law_card_text (fun cdv A outer s H E hr G hG => dv_law_card_text ok_law_sign (by decide) g_law_sign F_law_sign.kp B_law_sign cdv A outer s H E hr G hG) rd_law_card_text
  have ok_card_text : FnOk l.prog w K mg base CX0 2 f_card_text _ ["ranks", "card"] (spL K spCardT) := fn_okD F_card_text sc_card_text sh_card_text (fun cdv A outer s H E hr G hG => dv_card_text (v_SUITS := .str "CDHS") g_SUITS ⟨_, rfl⟩ (fun _ => .str _) ok_sign_of (by decide) g_sign_of F_sign_of.kp B_sign_of cdv A outer s H E hr G hG) rd_card_text
  have ok_law_all_cards : FnOk l.prog w K mg base CX0 1 f_law_all_cards _ ["ranks"] (spL K spAllC) := fn_okD F_law_all_cards sc_law_all_cards sh_law_all_cards (fun cdv A outer s H E hr G hG => dv_law_all_cards b_range cdv A outer s H E hr G hG) rd_law_all_cards
  have ok_law_mixed : FnOk l.prog w K mg base CX0 2 f_law_mixed _ ["script", "town", "things"] (spL K spMixed) := fn_okD F_law_mixed sc_law_mixed sh_law_mixed (fun cdv A outer s H E hr G hG => dv_law_mixed b_len b_list ok_law_draw (by decide) g_law_draw F_law_draw.kp B_law_draw cdv A outer s H E hr G hG) rd_law_mixed
  have ok_law_drawn_deal : FnOk l.prog w K mg base CX0 3 f_law_drawn_deal _ ["script", "town", "ranks"] (spL K spDeal) := fn_okD F_law_drawn_deal sc_law_drawn_deal sh_law_drawn_deal (fun cdv A outer s H E hr G hG => dv_law_drawn_deal b_range b_sorted b_tuple ok_law_all_cards (by decide) g_law_all_cards F_law_all_cards.kp B_law_all_cards ok_law_mixed (by decide) g_law_mixed F_law_mixed.kp B_law_mixed cdv A outer s H E hr G hG) rd_law_drawn_deal
  have ok_law : FnOk l.prog w K mg base CX0 7 _ _ ["script"] (spL K spLaw) := fn_okD F_law sc_law sh_law (fun cdv A outer s H E hr G hG => dv_law b_range ok_law_read_deal (by decide) g_law_read_deal F_law_read_deal.kp B_law_read_deal ok_law_or_refused (by decide) g_law_or_refused F_law_or_refused.kp B_law_or_refused ok_law_told_deal (by decide) g_law_told_deal F_law_told_deal.kp B_law_told_deal ok_law_same (by decide) g_law_same F_law_same.kp B_law_same ok_law_spoilt (by decide) g_law_spoilt F_law_spoilt.kp B_law_spoilt ok_deal_text (by decide) g_deal_text F_deal_text.kp B_deal_text ok_law_hand_text (by decide) g_law_hand_text F_law_hand_text.kp B_law_hand_text ok_law_read_hand (by decide) g_law_read_hand F_law_read_hand.kp B_law_read_hand ok_law_told_hand (by decide) g_law_told_hand F_law_told_hand.kp B_law_told_hand ok_hand_text (by decide) g_hand_text F_hand_text.kp B_hand_text ok_law_card_text (by decide) g_law_card_text F_law_card_text.kp B_law_card_text ok_card_text (by decide) g_card_text F_card_text.kp B_card_text ok_law_draw (by decide) g_law_draw F_law_draw.kp B_law_draw ok_law_drawn_deal (by decide) g_law_drawn_deal F_law_drawn_deal.kp B_law_drawn_deal ok_law_pick (by decide) g_law_pick F_law_pick.kp B_law_pick cdv A outer s H E hr G hG) rd_law_k32
  exact ok_law
end LW
open PySem PySem.W PyProof.Rows
set_option maxHeartbeats 0 in
theorem PySem.Challenge.cw_boardcalls_k32_whole_texts_of_hands_holds : PySem.Challenge.rw_boardcalls_k32_whole_texts_of_hands.Holds := by
  w_on; o_law; k_head; (case hw => w_witness2)
  k_fill
  refine DL.law_walk (l := PySem.Challenge.rw_boardcalls_k32_whole_texts_of_hands) (n := 63) (k := 7) (x := "script") (sp := DL.spLaw) rfl (by decide) rfl ⟨rfl, by decide, by decide⟩ (fun w h Y => PySem.W.kIn_of Y) ?F (fun ns Q hl _ q => ⟨ns, rfl, hl, q⟩)
  case F =>
    intro w mg fa h KX G hmg
    refine' LW.all_mk KX G hmg ?a_law_read_hand ?l_law_read_hand ?c_law_read_hand ?k_law_read_hand ?a_law_read_deal ?l_law_read_deal ?c_law_read_deal ?k_law_read_deal ?a_law_or_refused ?l_law_or_refused ?c_law_or_refused ?k_law_or_refused ?a_is_whole ?l_is_whole ?c_is_whole ?k_is_whole ?a_is_card ?l_is_card ?c_is_card ?k_is_card ?a_is_hand ?l_is_hand ?c_is_hand ?k_is_hand ?a_is_deal ?l_is_deal ?c_is_deal ?k_is_deal ?a_rank_of ?l_rank_of ?c_rank_of ?k_rank_of ?a_read_hand ?l_read_hand ?c_read_hand ?k_read_hand ?a_read_deal ?l_read_deal ?c_read_deal ?k_read_deal ?a_law_told_deal ?l_law_told_deal ?c_law_told_deal ?k_law_told_deal ?a_law_same ?l_law_same ?c_law_same ?k_law_same ?a_law_draw ?l_law_draw ?c_law_draw ?k_law_draw ?a_law_pick ?l_law_pick ?c_law_pick ?k_law_pick ?a_law_spoilt ?l_law_spoilt ?c_law_spoilt ?k_law_spoilt ?a_sign_of ?l_sign_of ?c_sign_of ?k_sign_of ?a_hand_text ?l_hand_text ?c_hand_text ?k_hand_text ?a_deal_text ?l_deal_text ?c_deal_text ?k_deal_text ?a_law_sign ?l_law_sign ?c_law_sign ?k_law_sign ?a_law_hand_text ?l_law_hand_text ?c_law_hand_text ?k_law_hand_text ?a_law_told_hand ?l_law_told_hand ?c_law_told_hand ?k_law_told_hand ?a_law_card_text ?l_law_card_text ?c_law_card_text ?k_law_card_text ?a_card_text ?l_card_text ?c_card_text ?k_card_text ?a_law_all_cards ?l_law_all_cards ?c_law_all_cards ?k_law_all_cards ?a_law_mixed ?l_law_mixed ?c_law_mixed ?k_law_mixed ?a_law_drawn_deal ?l_law_drawn_deal ?c_law_drawn_deal ?k_law_drawn_deal ?a_law ?l_law ?c_law ?k_law ?a_SIGNS ?a_SUITS ?a_NoText ?x_NoText ?k_NoText ?b_NoText ?t_NoText ?i_NoText ?s_NoText ?z_len ?z_sorted ?z_tuple ?z_zip ?z_set ?z_isinstance ?z_int ?z_bool ?z_range ?z_all ?z_enumerate ?z_str ?z_abs ?z_max ?z_list
    (case a_law_read_hand => k_is); (case l_law_read_hand => k_is); (case c_law_read_hand => k_is); (case k_law_read_hand => k_is); (case a_law_read_deal => k_is); (case l_law_read_deal => k_is); (case c_law_read_deal => k_is); (case k_law_read_deal => k_is); (case a_law_or_refused => k_is); (case l_law_or_refused => k_is); (case c_law_or_refused => k_is); (case k_law_or_refused => k_is); (case a_is_whole => k_is); (case l_is_whole => k_is); (case c_is_whole => k_is); (case k_is_whole => k_is); (case a_is_card => k_is); (case l_is_card => k_is); (case c_is_card => k_is); (case k_is_card => k_is); (case a_is_hand => k_is); (case l_is_hand => k_is); (case c_is_hand => k_is); (case k_is_hand => k_is); (case a_is_deal => k_is); (case l_is_deal => k_is); (case c_is_deal => k_is); (case k_is_deal => k_is); (case a_rank_of => k_is); (case l_rank_of => k_is); (case c_rank_of => k_is); (case k_rank_of => k_is); (case a_read_hand => k_is); (case l_read_hand => k_is); (case c_read_hand => k_is); (case k_read_hand => k_is); (case a_read_deal => k_is); (case l_read_deal => k_is); (case c_read_deal => k_is); (case k_read_deal => k_is); (case a_law_told_deal => k_is); (case l_law_told_deal => k_is); (case c_law_told_deal => k_is); (case k_law_told_deal => k_is); (case a_law_same => k_is); (case l_law_same => k_is); (case c_law_same => k_is); (case k_law_same => k_is); (case a_law_draw => k_is); (case l_law_draw => k_is); (case c_law_draw => k_is); (case k_law_draw => k_is); (case a_law_pick => k_is); (case l_law_pick => k_is); (case c_law_pick => k_is); (case k_law_pick => k_is); (case a_law_spoilt => k_is); (case l_law_spoilt => k_is); (case c_law_spoilt => k_is); (case k_law_spoilt => k_is); (case a_sign_of => k_is); (case l_sign_of => k_is); (case c_sign_of => k_is); (case k_sign_of => k_is); (case a_hand_text => k_is); (case l_hand_text => k_is); (case c_hand_text => k_is); (case k_hand_text => k_is); (case a_deal_text => k_is); (case l_deal_text => k_is); (case c_deal_text => k_is); (case k_deal_text => k_is); (case a_law_sign => k_is); (case l_law_sign => k_is); (case c_law_sign => k_is); (case k_law_sign => k_is); (case a_law_hand_text => k_is); (case l_law_hand_text => k_is); (case c_law_hand_text => k_is); (case k_law_hand_text => k_is); (case a_law_told_hand => k_is); (case l_law_told_hand => k_is); (case c_law_told_hand => k_is); (case k_law_told_hand => k_is); (case a_law_card_text => k_is); (case l_law_card_text => k_is); (case c_law_card_text => k_is); (case k_law_card_text => k_is); (case a_card_text => k_is); (case l_card_text => k_is); (case c_card_text => k_is); (case k_card_text => k_is); (case a_law_all_cards => k_is); (case l_law_all_cards => k_is); (case c_law_all_cards => k_is); (case k_law_all_cards => k_is); (case a_law_mixed => k_is); (case l_law_mixed => k_is); (case c_law_mixed => k_is); (case k_law_mixed => k_is); (case a_law_drawn_deal => k_is); (case l_law_drawn_deal => k_is); (case c_law_drawn_deal => k_is); (case k_law_drawn_deal => k_is); (case a_law => k_is); (case l_law => k_is); (case c_law => k_is); (case k_law => k_is); (case a_SIGNS => k_is); (case a_SUITS => k_is); (case a_NoText => k_is); (case k_NoText => k_is); (case b_NoText => k_is); (case t_NoText => k_is); (case i_NoText => k_is); (case z_len => k_is); (case z_sorted => k_is); (case z_tuple => k_is); (case z_zip => k_is); (case z_set => k_is); (case z_isinstance => k_is); (case z_int => k_is); (case z_bool => k_is); (case z_range => k_is); (case z_all => k_is); (case z_enumerate => k_is); (case z_str => k_is); (case z_abs => k_is); (case z_max => k_is); (case z_list => k_is); (case x_NoText => k_exc); (case s_NoText => (first | rfl | k_is))
