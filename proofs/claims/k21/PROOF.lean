import PyProof.Rows.All
import Wide.All
import OpenK.AllK
import Wide.FinOn
import HandS.ForMost
import HandS.Deep
import HandS.Flow
import HandS.IsInst
import HandS.EndBits
import KE.KDictKeyed
import HandS.DictTup
import HandS.Style
import HandS.Wide
import HandS.Zip
import HandS.Walk
import HandS.Ends
import HandS.Set
import HandS.SetFor
import HandS.Strs
import KE.SortData
import HandS.SortKw
import KE.GoesMore
import KE.DataFind
import KE.DataCmp
import KE.GoesZip
import KE.GoesEnum
import HandS.TupMul
import KE.DataMinMax
import HandS.TupSets
import KE.KDictDisplayH
import HandS.WordsExc
import HandS.TryOnly
import HandS.ExcOwn
import HandS.Conv
import HandS.NoneIn
import KE.KDictCopyH
import KE.KDictSum
import HandS.Records
import HandS.CallSlots
import HandS.Defaults
import HandS.MakeKw
import HandS.MakeKwOnly
import HandS.HotCalls
import HandS.ExcIs
import HandS.OwnEq
import HandS.FStr
import KE.KCallOwn
import HandS.Codes
import KE.KFmtOwn
import HandS.More
import HandS.Text
import HandS.Iter
import HandS.Exc
import HandS.Comp
import KE.GoesRaise
import PySem.Challenge.RW_boardcalls_k21_whole_scores_compared
set_option Elab.async false
set_option linter.all false
set_option maxRecDepth 100000
/-! DL1: deep data over the hand layer: relations, judgements, names, constants, statements. -/
namespace DL
open PySem PySem.Spec PyProof.Rows L2
abbrev D := PyData
abbrev St := L2.St
/-- a list that nobody writes: frozen, or one of the module's own -/
def LsF (K : PySem.W.Frag) (H : Hp) (a : Addr) (vs : List V) : Prop :=
  (∃ o, H a = some (.frz o (.lst vs))) ∨ ∃ (its : Array Value) (n : Nat), K.lookup a = some { cls := .type "list", data := .seq its n } ∧ its.size ≤ sizeLine ∧ Vals vs its.toList
theorem LsF.sq {K : PySem.W.Frag} {H : Hp} {a : Addr} {vs : List V} (h : LsF K H a vs) : SqL K H a vs := by
  rcases h with h | ⟨its, n, e, z, r⟩
  · exact .inl (.inr h)
  · exact .inr ⟨_, its, n, e, rfl, rfl, rfl, z, r⟩
theorem LsF.of {K : PySem.W.Frag} {H : Hp} {a : Addr} {vs : List V} {o : Obj} (h : H a = some (.frz o (.lst vs))) : LsF K H a vs := .inl ⟨o, h⟩
/-- the object at a has no dict of its own -/
def DNo (K : PySem.W.Frag) (H : Hp) (a : Addr) : Prop := (∃ (o : Obj) (u : HO), H a = some (.frz o u) ∧ o.dict = none) ∨ ∃ o, K.lookup a = some o ∧ o.dict = none
def SqD (K : PySem.W.Frag) (H : Hp) (a : Addr) (vs : List V) : Prop := SqT K H a vs ∧ DNo K H a
/-! ### dicts whose keys are tuples (of ints, nested): the object by its entries -/
mutual
/-- the key of a dict that a tuple of ints (nested) is -/
def nkOf : D → Option NestedKey
  | .int i => some (.num i)
  | .tuple xs => (nksOf xs).map .tup
  | _ => none
def nksOf : List D → Option (List NestedKey)
  | [] => some []
  | x :: xs => match nkOf x, nksOf xs with
    | some k, some ks => some (k :: ks)
    | _, _ => none
end
/-- at a stands a dict with these entries -/
def dO (a : Addr) (es : List DictEntry) : HO := .ext fun h => ∃ (o : Obj) (ep : Nat), h.get? a = some o ∧ o.ExactDict ∧ o.data = .dict es.toArray ep
/-- a key (an int, a text) as data -/
def keyDt : Key → D
  | .inl i => .int i
  | .inr x => .str x
/-- an object's name as data -/
def hdl (a : Addr) : D := .dict [(.none, .int a)]
mutual
/-- the value v stands for the data d; lists within data are frozen -/
inductive Rp (K : PySem.W.Frag) (H : Hp) : D → V → Prop
  | non : Rp K H .none .non
  | bl (b : Bool) : Rp K H (.bool b) (.bl b)
  | int (i : Int) : Rp K H (.int i) (.int i)
  | str (x : Str) : Rp K H (.str x) (.str x)
  | tup {a : Addr} {vs : List V} {ds : List D} : SqD K H a vs → RpL K H ds vs → Rp K H (.tuple ds) (.ref a)
  | lst {a : Addr} {vs : List V} {ds : List D} : LsF K H a vs → RpL K H ds vs → Rp K H (.list ds) (.ref a)
  | dct {a : Addr} {o : Obj} {es : List DictEntry} {kvs : List (D × D)} : H a = some (.frz o (dO a es)) → RpD K H kvs es → (kvs.map fun p => nkOf p.1).Nodup → (a == sysModules) = false → Rp K H (.dict kvs) (.ref a)
  | hdl (a : Addr) : Rp K H (hdl a) (.ref a)
  | dck {a : Addr} {o : Obj} {us : List (Key × V)} {kvs : List (D × D)} : H a = some (.frz o (.dK us)) → kvs.map (·.1) = us.map (fun u => keyDt u.1) → RpL K H (kvs.map (·.2)) (us.map (·.2)) → kvs ≠ [] → Rp K H (.dict kvs) (.ref a)
inductive RpL (K : PySem.W.Frag) (H : Hp) : List D → List V → Prop
  | nil : RpL K H [] []
  | cons {d : D} {v : V} {ds : List D} {vs : List V} : Rp K H d v → RpL K H ds vs → RpL K H (d :: ds) (v :: vs)
/-- the entries of a dict -/
inductive RpD (K : PySem.W.Frag) (H : Hp) : List (D × D) → List DictEntry → Prop
  | nil : RpD K H [] []
  | cons {k d : D} {nk : NestedKey} {b : Addr} {v : V} {e : DictEntry} {kvs : List (D × D)} {es : List DictEntry} : (∃ xs, k = .tuple xs) → nkOf k = some nk → nk.depth ≤ 8 → (∀ w, e.hash = nk.hash w) → e.key = .ref b → Rp K H k (.ref b) → Rp K H d v → RelV v e.val → RpD K H kvs es → RpD K H ((k, d) :: kvs) (e :: es)
end
/-- what never changes stays -/
structure Ext (H H' : Hp) : Prop where
  tup : ∀ a xs, H a = some (.tup xs) → H' a = some (.tup xs)
  frz : ∀ a o u, H a = some (.frz o u) → H' a = some (.frz o u)
/-- all stays -/
def PExt (H H' : Hp) : Prop := ∀ a o, H a = some o → H' a = some o
theorem PExt.ext {H H' : Hp} (p : PExt H H') : Ext H H' := ⟨fun a xs h => p a _ h, fun a o u h => p a _ h⟩
theorem PExt.refl (H : Hp) : PExt H H := fun _ _ h => h
theorem PExt.trans {H H1 H2 : Hp} (a : PExt H H1) (b : PExt H1 H2) : PExt H H2 := fun p o h => b p o (a p o h)
theorem Ext.refl (H : Hp) : Ext H H := ⟨fun _ _ h => h, fun _ _ _ h => h⟩
theorem Ext.trans {H H1 H2 : Hp} (a : Ext H H1) (b : Ext H1 H2) : Ext H H2 := ⟨fun p xs h => b.tup p xs (a.tup p xs h), fun p o u h => b.frz p o u (a.frz p o u h)⟩
theorem PExt.new {H : Hp} {p : Addr} {o : HO} (h : H p = none) : PExt H (upd H p o) := fun a u e => by
  rw [upd_ne (ne_of_none e h)]; exact e
/-- something soft is changed -/
theorem Ext.putS {H : Hp} {p : Addr} {u o : HO} (h : H p = some u) (h1 : ∀ xs, u ≠ .tup xs) (h2 : ∀ q v, u ≠ .frz q v) : Ext H (upd H p o) :=
  ⟨fun a ys e => by rw [upd_ne (ne_of e h (Ne.symm (h1 ys)))]; exact e, fun a q v e => by rw [upd_ne (ne_of e h (Ne.symm (h2 q v)))]; exact e⟩
/-- a list is changed -/
theorem Ext.put {H : Hp} {p : Addr} {xs : List V} {o : HO} (h : H p = some (.lst xs)) : Ext H (upd H p o) :=
  ⟨fun a ys e => by rw [upd_ne (ne_of e h (by intro z; cases z))]; exact e, fun a q u e => by rw [upd_ne (ne_of e h (by intro z; cases z))]; exact e⟩
section
variable {K : PySem.W.Frag} {H H' : Hp}
theorem SqT.ext {a : Addr} {xs : List V} (x : Ext H H') (h : SqT K H a xs) : SqT K H' a xs := by
  rcases h with (h | ⟨o, h⟩) | h
  · exact .inl (.inl (x.tup _ _ h))
  · exact .inl (.inr ⟨o, x.frz _ _ _ h⟩)
  · exact .inr h
theorem SqD.ext {a : Addr} {xs : List V} (x : Ext H H') (h : SqD K H a xs) : SqD K H' a xs := by
  refine ⟨SqT.ext x h.1, ?_⟩
  rcases h.2 with ⟨o, u, e, d⟩ | h
  · exact .inl ⟨o, u, x.frz _ _ _ e, d⟩
  · exact .inr h
theorem SqD.new {p : Addr} {o : Obj} {vs : List V} (d : o.dict = none) : SqD K (upd H p (.frz o (.tup vs))) p vs := ⟨.inl (.inr ⟨o, upd_same⟩), .inl ⟨o, _, upd_same, d⟩⟩
theorem LsF.ext {a : Addr} {xs : List V} (x : Ext H H') (h : LsF K H a xs) : LsF K H' a xs := by
  rcases h with ⟨o, h⟩ | h
  · exact .inl ⟨o, x.frz _ _ _ h⟩
  · exact .inr h
mutual
theorem Rp.ext (x : Ext H H') : ∀ {d : D} {v : V}, Rp K H d v → Rp K H' d v
  | _, _, .non => .non
  | _, _, .bl b => .bl b
  | _, _, .int i => .int i
  | _, _, .str s => .str s
  | _, _, .tup h l => .tup (SqD.ext x h) (RpL.ext x l)
  | _, _, .lst h l => .lst (LsF.ext x h) (RpL.ext x l)
  | _, _, .dct h l n m => .dct (x.frz _ _ _ h) (RpD.ext x l) n m
  | _, _, .hdl a => .hdl a
  | _, _, .dck h e l n => .dck (x.frz _ _ _ h) e (RpL.ext x l) n
theorem RpL.ext (x : Ext H H') : ∀ {ds : List D} {vs : List V}, RpL K H ds vs → RpL K H' ds vs
  | _, _, .nil => .nil
  | _, _, .cons h l => .cons (Rp.ext x h) (RpL.ext x l)
theorem RpD.ext (x : Ext H H') : ∀ {kvs : List (D × D)} {es : List DictEntry}, RpD K H kvs es → RpD K H' kvs es
  | _, _, .nil => .nil
  | _, _, .cons t n1 n2 n3 e h g r l => .cons t n1 n2 n3 e (Rp.ext x h) (Rp.ext x g) r (RpD.ext x l)
end
theorem RpD.length : ∀ {kvs : List (D × D)} {es : List DictEntry}, RpD K H kvs es → kvs.length = es.length
  | _, _, .nil => rfl
  | _, _, .cons _ _ _ _ _ _ _ _ l => by rw [List.length_cons, List.length_cons, RpD.length l]
theorem RpL.length : ∀ {ds : List D} {vs : List V}, RpL K H ds vs → ds.length = vs.length
  | _, _, .nil => rfl
  | _, _, .cons _ l => by rw [List.length_cons, List.length_cons, RpL.length l]
theorem RpL.get : ∀ {ds : List D} {vs : List V} {i : Nat} {d : D}, RpL K H ds vs → ds[i]? = some d → ∃ v, vs[i]? = some v ∧ Rp K H d v
  | _, _, _, _, .nil, e => by simp at e
  | _, _, 0, _, .cons r _, e => by simp at e; subst e; exact ⟨_, rfl, r⟩
  | _, _, i + 1, d, .cons _ t, e => by
    obtain ⟨u, h1, h2⟩ := RpL.get (i := i) (d := d) t (by simpa using e)
    exact ⟨u, by simpa using h1, h2⟩
theorem RpL.getV : ∀ {ds : List D} {vs : List V} {i : Nat} {v : V}, RpL K H ds vs → vs[i]? = some v → ∃ d, ds[i]? = some d ∧ Rp K H d v
  | _, _, _, _, .nil, e => by simp at e
  | _, _, 0, _, .cons r _, e => by simp at e; subst e; exact ⟨_, rfl, r⟩
  | _, _, i + 1, d, .cons _ t, e => by
    obtain ⟨u, h1, h2⟩ := RpL.getV (i := i) (v := d) t (by simpa using e)
    exact ⟨u, by simpa using h1, h2⟩
theorem RpL.append : ∀ {ds es : List D} {vs us : List V}, RpL K H ds vs → RpL K H es us → RpL K H (ds ++ es) (vs ++ us)
  | _, _, _, _, .nil, s => s
  | _, _, _, _, .cons r t, s => .cons r (RpL.append t s)
theorem RpL.take : ∀ {ds : List D} {vs : List V} (n : Nat), RpL K H ds vs → RpL K H (ds.take n) (vs.take n)
  | _, _, 0, _ => .nil
  | _, _, _ + 1, .nil => .nil
  | _, _, n + 1, .cons r t => .cons r (RpL.take n t)
theorem RpL.drop : ∀ {ds : List D} {vs : List V} (n : Nat), RpL K H ds vs → RpL K H (ds.drop n) (vs.drop n)
  | _, _, 0, r => r
  | _, _, _ + 1, .nil => .nil
  | _, _, n + 1, .cons _ t => RpL.drop n t
theorem RpL.set {d : D} {v : V} (r : Rp K H d v) : ∀ {ds : List D} {vs : List V} (i : Nat), RpL K H ds vs → RpL K H (ds.set i d) (vs.set i v)
  | _, _, _, .nil => .nil
  | _, _, 0, .cons _ t => .cons r t
  | _, _, i + 1, .cons q t => .cons q (RpL.set r i t)
theorem RpL.eraseIdx : ∀ {ds : List D} {vs : List V} (i : Nat), RpL K H ds vs → RpL K H (ds.eraseIdx i) (vs.eraseIdx i)
  | _, _, _, .nil => .nil
  | _, _, 0, .cons _ t => t
  | _, _, i + 1, .cons q t => .cons q (RpL.eraseIdx i t)
theorem RpL.reverse : ∀ {ds : List D} {vs : List V}, RpL K H ds vs → RpL K H ds.reverse vs.reverse
  | _, _, .nil => .nil
  | _, _, .cons q t => by rw [List.reverse_cons, List.reverse_cons]; exact RpL.append (RpL.reverse t) (.cons q .nil)
theorem RpL.ints : ∀ {ns : List Int} {vs : List V}, RpL K H (ns.map PyData.int) vs → vs = ns.map V.int
  | [], _, .nil => rfl
  | _ :: _, _, .cons (.int _) t => by rw [RpL.ints t]; rfl
theorem RpL.ofInts : ∀ (ns : List Int), RpL K H (ns.map PyData.int) (ns.map V.int)
  | [] => .nil
  | n :: ns => .cons (.int n) (RpL.ofInts ns)
mutual
theorem Rp.dp : ∀ {d : D} {v : V}, Rp K H d v → d.canLay0 = true → Dp K H v d
  | _, _, .non, _ => .non
  | _, _, .bl b, _ => .bl b
  | _, _, .int i, _ => .int i
  | _, _, .str s, _ => .str s
  | _, _, .tup h l, z => .tup h.1 (RpL.dp l (by simpa [PyData.canLay0] using z))
  | _, _, .lst h l, z => .lst h.sq (RpL.dp l (by simpa [PyData.canLay0] using z))
  | _, _, .dct _ _ _ _, z => by simp [PyData.canLay0] at z
  | _, _, .hdl a, z => by simp [DL.hdl, PyData.canLay0] at z
  | _, _, .dck _ _ _ _, z => by simp [PyData.canLay0] at z
theorem RpL.dp : ∀ {ds : List D} {vs : List V}, RpL K H ds vs → PyData.canLayAll0 ds = true → DpAll K H vs ds
  | _, _, .nil, _ => .nil
  | _, _, .cons h l, z => by
    simp only [PyData.canLayAll0, Bool.and_eq_true] at z
    exact .cons (Rp.dp h z.1) (RpL.dp l z.2)
end
end
/-- readable now: as Rp, the outermost list may be one that can change -/
def RpR (K : PySem.W.Frag) (H : Hp) (d : D) (v : V) : Prop :=
  Rp K H d v ∨ ∃ (ds : List D) (a : Addr) (vs : List V), d = .list ds ∧ v = .ref a ∧ H a = some (.lst vs) ∧ RpL K H ds vs
theorem RpR.dp {K : PySem.W.Frag} {H : Hp} {d : D} {v : V} (h : RpR K H d v) (z : d.canLay0 = true) : Dp K H v d := by
  rcases h with h | ⟨ds, a, vs, rfl, rfl, h, l⟩
  · exact h.dp z
  · exact .lst (.inl (.inl h)) (l.dp (by simpa [PyData.canLay0] using z))
/-- what an iterator hands out: a pair of its own may be there, of which less is known -/
def RpB (W : Bool) (K : PySem.W.Frag) (H : Hp) (d : D) (v : V) : Prop :=
  if W = true then Rp K H d v ∨ ∃ (ds : List D) (a : Addr) (vs : List V), d = .tuple ds ∧ v = .ref a ∧ SqT K H a vs ∧ RpL K H ds vs else Rp K H d v
theorem RpB.of {W : Bool} {K : PySem.W.Frag} {H : Hp} {d : D} {v : V} (h : Rp K H d v) : RpB W K H d v := by unfold RpB; split; exact .inl h; exact h
theorem RpB.pair {K : PySem.W.Frag} {H : Hp} {ds : List D} {a : Addr} {vs : List V} (h : SqT K H a vs) (l : RpL K H ds vs) : RpB true K H (.tuple ds) (.ref a) := .inr ⟨_, _, _, rfl, rfl, h, l⟩
/-- a list or a tuple that is read: its items -/
theorem RpR.list {K : PySem.W.Frag} {H : Hp} {ds : List D} {v : V} (h : RpR K H (.list ds) v) : ∃ a vs, v = .ref a ∧ SqL K H a vs ∧ RpL K H ds vs := by
  rcases h with h | ⟨ds, a, vs, e, rfl, h, l⟩
  · cases h with
    | lst h l => exact ⟨_, _, rfl, h.sq, l⟩
  · cases e
    exact ⟨_, _, rfl, .inl (.inl h), l⟩
theorem RpR.tupD {K : PySem.W.Frag} {H : Hp} {ds : List D} {v : V} (h : RpR K H (.tuple ds) v) : ∃ a vs, v = .ref a ∧ SqD K H a vs ∧ RpL K H ds vs := by
  rcases h with h | ⟨ds, a, vs, e, _⟩
  · cases h with
    | tup h l => exact ⟨_, _, rfl, h, l⟩
  · cases e
theorem RpR.tuple {K : PySem.W.Frag} {H : Hp} {ds : List D} {v : V} (h : RpR K H (.tuple ds) v) : ∃ a vs, v = .ref a ∧ SqT K H a vs ∧ RpL K H ds vs := by
  rcases h with h | ⟨ds, a, vs, e, rfl, h, l⟩
  · cases h with
    | tup h l => exact ⟨_, _, rfl, h.1, l⟩
  · cases e
theorem RpR.int {K : PySem.W.Frag} {H : Hp} {i : Int} {v : V} (h : RpR K H (.int i) v) : v = .int i := by
  rcases h with h | ⟨_, _, _, e, _⟩
  · cases h; rfl
  · cases e
theorem RpR.str {K : PySem.W.Frag} {H : Hp} {i : Str} {v : V} (h : RpR K H (.str i) v) : v = .str i := by
  rcases h with h | ⟨_, _, _, e, _⟩
  · cases h; rfl
  · cases e
theorem RpR.bool {K : PySem.W.Frag} {H : Hp} {i : Bool} {v : V} (h : RpR K H (.bool i) v) : v = .bl i := by
  rcases h with h | ⟨_, _, _, e, _⟩
  · cases h; rfl
  · cases e
theorem RpR.none {K : PySem.W.Frag} {H : Hp} {v : V} (h : RpR K H .none v) : v = .non := by
  rcases h with h | ⟨_, _, _, e, _⟩
  · cases h; rfl
  · cases e
theorem RpR.pext {K : PySem.W.Frag} {H H' : Hp} {d : D} {v : V} (p : PExt H H') (h : RpR K H d v) : RpR K H' d v := by
  rcases h with h | ⟨ds, a, vs, rfl, rfl, h, l⟩
  · exact .inl (h.ext p.ext)
  · exact .inr ⟨ds, a, vs, rfl, rfl, p _ _ h, l.ext p.ext⟩
/-! ### the environment -/
inductive FS where
  | d (x : D)
  | l (xs : List D)
inductive S where
  /-- not known -/
  | un
  /-- data -/
  | d (x : D)
  /-- a list of one's own that may change -/
  | ol (xs : List D)
  /-- a dict of one's own, keys tuples of ints -/
  | dt (kvs : List (D × D))
  /-- a dict of one's own, keys ints and texts -/
  | dk (kvs : List (Key × D))
  /-- no name's: the object at a, of the class at C -/
  | ob (a C : Addr) (fs : List (Str × FS))
  /-- no name's: the list at a, that may change -/
  | gl (a : Addr) (xs : List D)
  /-- no name's: the object at a stands for data -/
  | al (a : Addr) (x : D)
abbrev Env := List S
def S.isMut : S → Bool
  | .ol _ => true
  | .dt _ => true
  | .dk _ => true
  | _ => false
structure Gh where
  H0 : Hp
  own : List (Nat × Addr)
  X0 : Hp := fun _ => none
  more : List Addr := []
def Gh.slots (G : Gh) : List Nat := G.own.map (·.1)
def Gh.addrs (G : Gh) : List Addr := G.own.map (·.2) ++ G.more
/-- a mutable thing at an address -/
def RelM (K : PySem.W.Frag) (H : Hp) : S → Addr → Prop
  | .ol xs, a => ∃ vs, H a = some (.lst vs) ∧ RpL K H xs vs
  | .dt kvs, a => ∃ es, H a = some (dO a es) ∧ RpD K H kvs es ∧ (kvs.map fun p => nkOf p.1).Nodup ∧ (a == sysModules) = false
  | .dk kvs, a => ∃ us, H a = some (.dK us) ∧ us.map (·.1) = kvs.map (·.1) ∧ RpL K H (kvs.map (·.2)) (us.map (·.2))
  | _, _ => False
/-- the fields of an object: data, lists of its own -/
inductive FsR (K : PySem.W.Frag) (H : Hp) : List (Str × FS) → List (Str × V) → List Addr → Prop
  | nil : FsR K H [] [] []
  | d {f : Str} {x : D} {v : V} {fs : List (Str × FS)} {vs : List (Str × V)} {ls : List Addr} : Rp K H x v → FsR K H fs vs ls → FsR K H ((f, .d x) :: fs) ((f, v) :: vs) ls
  | l {f : Str} {xs : List D} {a : Addr} {us : List V} {fs : List (Str × FS)} {vs : List (Str × V)} {ls : List Addr} : H a = some (.lst us) → RpL K H xs us → FsR K H fs vs ls → FsR K H ((f, .l xs) :: fs) ((f, .ref a) :: vs) (a :: ls)
def RelOb (K : PySem.W.Frag) (H : Hp) (a C : Addr) (fs : List (Str × FS)) (fp : List Addr) : Prop :=
  ∃ dx vs ls, fp = a :: dx :: ls ∧ fp.Nodup ∧ H a = some (.ins C dx vs) ∧ H dx = some (.own a) ∧ FsR K H fs vs ls
def RelS (K : PySem.W.Frag) (H : Hp) (s : S) (o : Option (Option V)) (fp : List Addr) : Prop :=
  match s with
  | .un => fp = []
  | .d x => fp = [] ∧ ∃ v, o = some (some v) ∧ Rp K H x v
  | .ob a C fs => RelOb K H a C fs fp
  | .ol xs => ∃ a, fp = [a] ∧ o = some (some (.ref a)) ∧ RelM K H (.ol xs) a
  | .dt xs => ∃ a, fp = [a] ∧ o = some (some (.ref a)) ∧ RelM K H (.dt xs) a
  | .dk xs => ∃ a, fp = [a] ∧ o = some (some (.ref a)) ∧ RelM K H (.dk xs) a
  | .gl a xs => fp = [a] ∧ RelM K H (.ol xs) a
  | .al a x => fp = [] ∧ Rp K H x (.ref a)
theorem RelS.mut {K : PySem.W.Frag} {H : Hp} {s : S} {o : Option (Option V)} {fp : List Addr} (h : RelS K H s o fp) (m : s.isMut = true) : ∃ a, fp = [a] ∧ o = some (some (.ref a)) ∧ RelM K H s a := by
  cases s with
  | ol _ => exact h
  | dt _ => exact h
  | dk _ => exact h
  | _ => cases m
theorem RelS.ofMut {K : PySem.W.Frag} {H : Hp} {s : S} {o : Option (Option V)} {a : Addr} (m : s.isMut = true) (e : o = some (some (.ref a))) (h : RelM K H s a) : RelS K H s o [a] := by
  cases s with
  | ol _ => exact ⟨a, rfl, e, h⟩
  | dt _ => exact ⟨a, rfl, e, h⟩
  | dk _ => exact ⟨a, rfl, e, h⟩
  | _ => cases m
/-- what can change: no tuple, nothing frozen -/
def Soft (H : Hp) (a : Addr) : Prop := ∃ u, H a = some u ∧ (∀ xs, u ≠ .tup xs) ∧ ∀ o v, u ≠ .frz o v
theorem RelM.soft {K : PySem.W.Frag} {H : Hp} {s : S} {a : Addr} (h : RelM K H s a) : Soft H a := by
  cases s with
  | ol xs => obtain ⟨vs, e, _⟩ := h; exact ⟨_, e, (fun _ z => by cases z), fun _ _ z => by cases z⟩
  | dt xs => obtain ⟨vs, e, _⟩ := h; exact ⟨_, e, (fun _ z => by cases z), fun _ _ z => by cases z⟩
  | dk xs => obtain ⟨vs, e, _⟩ := h; exact ⟨_, e, (fun _ z => by cases z), fun _ _ z => by cases z⟩
  | _ => exact h.elim
theorem RelM.isMut {K : PySem.W.Frag} {H : Hp} {s : S} {a : Addr} (h : RelM K H s a) : s.isMut = true := by
  cases s with
  | ol xs => rfl
  | dt xs => rfl
  | dk xs => rfl
  | _ => exact h.elim
theorem RelM.move {K : PySem.W.Frag} {H H' : Hp} {s : S} {a : Addr} (h : RelM K H s a) (x : Ext H H') (k : H' a = H a) : RelM K H' s a := by
  cases s with
  | ol xs => obtain ⟨vs, e, l⟩ := h; exact ⟨vs, by rw [k]; exact e, l.ext x⟩
  | dt xs => obtain ⟨es, e, l, n, m⟩ := h; exact ⟨es, by rw [k]; exact e, l.ext x, n, m⟩
  | dk xs => obtain ⟨us, e, n, l⟩ := h; exact ⟨us, by rw [k]; exact e, n, l.ext x⟩
  | _ => exact h.elim
theorem FsR.move {K : PySem.W.Frag} {H H' : Hp} (x : Ext H H') : ∀ {fs : List (Str × FS)} {vs : List (Str × V)} {ls : List Addr}, FsR K H fs vs ls → (∀ p ∈ ls, H' p = H p) → FsR K H' fs vs ls
  | _, _, _, .nil, _ => .nil
  | _, _, _, FsR.d h r, k => FsR.d (h.ext x) (FsR.move x r k)
  | _, _, _, FsR.l h q r, k => FsR.l (by rw [k _ (List.mem_cons_self ..)]; exact h) (q.ext x) (FsR.move x r fun p hp => k p (List.mem_cons_of_mem _ hp))
theorem FsR.soft {K : PySem.W.Frag} {H : Hp} : ∀ {fs : List (Str × FS)} {vs : List (Str × V)} {ls : List Addr}, FsR K H fs vs ls → ∀ p ∈ ls, Soft H p
  | _, _, _, .nil, p, hp => by cases hp
  | _, _, _, FsR.d h r, p, hp => FsR.soft r p hp
  | _, _, _, FsR.l h q r, p, hp => by
    rcases List.mem_cons.mp hp with z | z
    · subst z; exact ⟨_, h, (fun _ z => by cases z), fun _ _ z => by cases z⟩
    · exact FsR.soft r p z
/-- what a slot holds stays, if its footprint does -/
theorem RelS.move {K : PySem.W.Frag} {H H' : Hp} {s : S} {o : Option (Option V)} {fp : List Addr} (h : RelS K H s o fp) (x : Ext H H') (k : ∀ p ∈ fp, H' p = H p) : RelS K H' s o fp := by
  cases s with
  | un => exact h
  | d y => obtain ⟨h1, v, h2, h3⟩ := h; exact ⟨h1, v, h2, h3.ext x⟩
  | ob a C fs =>
    obtain ⟨dx, vs, ls, e, nd, h1, h2, h3⟩ := h
    subst e
    exact ⟨dx, vs, ls, rfl, nd, by rw [k a (by simp)]; exact h1, by rw [k dx (by simp)]; exact h2, h3.move x fun p hp => k p (by simp [hp])⟩
  | ol xs => obtain ⟨a, e, e2, h⟩ := h; subst e; exact ⟨a, rfl, e2, h.move x (k a (by simp))⟩
  | dt xs => obtain ⟨a, e, e2, h⟩ := h; subst e; exact ⟨a, rfl, e2, h.move x (k a (by simp))⟩
  | dk xs => obtain ⟨a, e, e2, h⟩ := h; subst e; exact ⟨a, rfl, e2, h.move x (k a (by simp))⟩
  | gl a xs => obtain ⟨e, h⟩ := h; subst e; exact ⟨rfl, h.move x (k a (by simp))⟩
  | al a y => exact ⟨h.1, h.2.ext x⟩
/-- ex: addresses apart from all footprints -/
structure RelX (K : PySem.W.Frag) (G : Gh) (ex : List Addr) (H : Hp) (E : Env) (σ : St) : Prop where
  len : E.length = σ.length
  keep : ∀ p o, G.H0 p = some o → p ∉ G.addrs → H p = some o
  pin : ∀ i a, (i, a) ∈ G.own → σ[i]? = some (some (V.ref a))
  dom : ∀ a ∈ G.addrs, H a ≠ none
  ext : Ext G.X0 H
  fp : ∃ A : Nat → List Addr, (∀ i j a, a ∈ A i → a ∈ A j → i = j) ∧ (∀ i a, a ∈ A i → (a ∈ G.addrs ∨ G.H0 a = none) ∧ a ∉ ex) ∧ ∀ i s, E[i]? = some s → RelS K H s σ[i]? (A i)
abbrev RelE (K : PySem.W.Frag) (G : Gh) (H : Hp) (E : Env) (σ : St) : Prop := RelX K G [] H E σ
section
variable {K : PySem.W.Frag} {G : Gh} {H H' : Hp} {E : Env} {σ : St} {ex : List Addr}
/-- a footprint lies in the heap -/
theorem RelS.indom {s : S} {o : Option (Option V)} {fp : List Addr} (h : RelS K H s o fp) : ∀ a ∈ fp, Soft H a := by
  cases s with
  | un => intro a ha; rw [show fp = [] from h] at ha; cases ha
  | d x => intro a ha; rw [h.1] at ha; cases ha
  | ob a C fs =>
    obtain ⟨dx, vs, ls, e, nd, h1, h2, h3⟩ := h
    subst e
    intro p hp
    rcases List.mem_cons.mp hp with z | z
    · subst z; exact ⟨_, h1, (fun _ z => by cases z), fun _ _ z => by cases z⟩
    · rcases List.mem_cons.mp z with z | z
      · subst z; exact ⟨_, h2, (fun _ z => by cases z), fun _ _ z => by cases z⟩
      · exact h3.soft p z
  | ol xs => obtain ⟨a, e, e2, h⟩ := h; subst e; intro p hp; rw [List.mem_singleton.mp hp]; exact h.soft
  | dt xs => obtain ⟨a, e, e2, h⟩ := h; subst e; intro p hp; rw [List.mem_singleton.mp hp]; exact h.soft
  | dk xs => obtain ⟨a, e, e2, h⟩ := h; subst e; intro p hp; rw [List.mem_singleton.mp hp]; exact h.soft
  | gl a xs => obtain ⟨e, h⟩ := h; subst e; intro p hp; rw [List.mem_singleton.mp hp]; exact h.soft
  | al a y => intro p hp; rw [h.1] at hp; cases hp
theorem RelS.pext {s : S} {o : Option (Option V)} {fp : List Addr} (p : PExt H H') (h : RelS K H s o fp) : RelS K H' s o fp :=
  h.move p.ext fun a ha => by
    obtain ⟨u, e, _⟩ := h.indom a ha
    rw [e, p _ _ e]
theorem RelX.pext (p : PExt H H') (h : RelX K G ex H E σ) : RelX K G ex H' E σ := by
  obtain ⟨l, k, pn, dm, x0, A, h1, h2, h3⟩ := h
  refine ⟨l, fun q o e ne => p _ _ (k q o e ne), pn, fun a ha z => ?_, x0.trans p.ext, A, h1, h2, fun i s e => (h3 i s e).pext p⟩
  cases q : H a with
  | none => exact dm a ha q
  | some o => have := p _ _ q; rw [z] at this; cases this
end
end DL
set_option Elab.async false
set_option linter.all false
set_option maxRecDepth 100000
namespace DL
open PySem PySem.Spec PyProof.Rows L2
/-! ### judgements -/
abbrev TD := Env → (D → Env → Prop) → Prop
abbrev TLd := Env → (List D → Env → Prop) → Prop
abbrev TTd := Env → (Bool → Env → Prop) → Prop
structure EndsD where
  nx : Env → Prop
  rt : D → Env → Prop
  bk : Env → Prop := fun _ => False
  ct : Env → Prop := fun _ => False
abbrev TSd := EndsD → Env → Prop
/-- an argument: data, or a name of a mutable thing -/
inductive Arg where
  | v (x : D)
  | o (i : Nat)
abbrev TAd := Env → (List Arg → Env → Prop) → Prop
def liftE (K : PySem.W.Frag) (G : Gh) (t : TD) : TE := fun σ H Q => ∃ (E : Env) (QE : D → Env → Prop), RelE K G H E σ ∧ t E QE ∧ ∀ d E' v H', QE d E' → Ext H H' → RelE K G H' E' σ → Rp K H' d v → Q v H'
/-- a new list: nobody else has it -/
def liftL (K : PySem.W.Frag) (G : Gh) (t : TLd) : TE := fun σ H Q => ∃ (E : Env) (QE : List D → Env → Prop), RelE K G H E σ ∧ t E QE ∧
  ∀ xs E' a vs H', QE xs E' → Ext H H' → RelX K G [a] H' E' σ → G.H0 a = none → a ∉ G.addrs → H' a = some (.lst vs) → RpL K H' xs vs → Q (.ref a) H'
/-- readable now -/
def liftR (K : PySem.W.Frag) (G : Gh) (t : TD) : TE := fun σ H Q => ∃ (E : Env) (QE : D → Env → Prop), RelE K G H E σ ∧ t E QE ∧ ∀ d E' v H', QE d E' → Ext H H' → RelE K G H' E' σ → RpR K H' d v → Q v H'
def liftT (K : PySem.W.Frag) (G : Gh) (t : TTd) : TT := fun σ H Q => ∃ (E : Env) (QE : Bool → Env → Prop), RelE K G H E σ ∧ t E QE ∧ ∀ b E' H', QE b E' → Ext H H' → RelE K G H' E' σ → Q b H'
/-- the values of arguments at a heap -/
inductive RelA (K : PySem.W.Frag) (H : Hp) (σ : St) : List Arg → List V → Prop
  | nil : RelA K H σ [] []
  | v {x : D} {v : V} {as : List Arg} {vs : List V} : Rp K H x v → RelA K H σ as vs → RelA K H σ (.v x :: as) (v :: vs)
  | o {i : Nat} {v : V} {as : List Arg} {vs : List V} : σ[i]? = some (some v) → RelA K H σ as vs → RelA K H σ (.o i :: as) (v :: vs)
def liftA (K : PySem.W.Frag) (G : Gh) (t : TAd) : TA := fun σ H Q => ∃ (E : Env) (QE : List Arg → Env → Prop), RelE K G H E σ ∧ t E QE ∧ ∀ as E' vs H', QE as E' → Ext H H' → RelE K G H' E' σ → RelA K H' σ as vs → Q vs H'
def liftS (K : PySem.W.Frag) (G : Gh) (t : TSd) : TS := fun F σ H => ∃ (E : Env) (DE : EndsD), RelE K G H E σ ∧ t DE E ∧
  (∀ E' σ' H', DE.nx E' → Ext H H' → RelE K G H' E' σ' → F.nx σ' H') ∧
  (∀ d E' v σ' H', DE.rt d E' → Ext H H' → RelE K G H' E' σ' → Rp K H' d v → F.rt v H') ∧
  (∀ E' σ' H', DE.bk E' → Ext H H' → RelE K G H' E' σ' → F.bk σ' H') ∧
  (∀ E' σ' H', DE.ct E' → Ext H H' → RelE K G H' E' σ' → F.ct σ' H')
structure ED (X : Cx) (G : Gh) (e : Expr) (t : TD) : Prop where
  pe : PE X e (liftE X.K G t)
structure EL (X : Cx) (G : Gh) (e : Expr) (t : TLd) : Prop where
  pe : PE X e (liftL X.K G t)
structure ER (X : Cx) (G : Gh) (e : Expr) (t : TD) : Prop where
  pe : PE X e (liftR X.K G t)
structure EB (X : Cx) (G : Gh) (e : Expr) (t : TTd) : Prop where
  pt : PT X e (liftT X.K G t)
structure EW (X : Cx) (G : Gh) (e : Expr) (t : TTd) : Prop where
  pw : PW X e (liftT X.K G t)
structure EA (X : Cx) (G : Gh) (es : List Expr) (t : TAd) : Prop where
  pa : PA X es (liftA X.K G t)
structure SD (X : Cx) (G : Gh) (st : Stmt) (t : TSd) : Prop where
  ps : PS X st (liftS X.K G t)
structure SDs (X : Cx) (G : Gh) (st : List Stmt) (t : TSd) : Prop where
  pss : PSs X st (liftS X.K G t)
theorem PE.weak {X : Cx} {e : Expr} {t u : TE} (h : PE X e t) (w : ∀ σ H Q, u σ H Q → t σ H Q) : PE X e u := ⟨fun pins s σ H Q I q => h.run pins s σ H Q I (w σ H Q q)⟩
theorem PT.weak {X : Cx} {e : Expr} {t u : TT} (h : PT X e t) (w : ∀ σ H Q, u σ H Q → t σ H Q) : PT X e u := ⟨fun pins s σ H Q I q => h.run pins s σ H Q I (w σ H Q q)⟩
theorem PW.weak {X : Cx} {e : Expr} {t u : TT} (h : PW X e t) (w : ∀ σ H Q, u σ H Q → t σ H Q) : PW X e u := ⟨fun wh pins s σ H Q I q => h.run wh pins s σ H Q I (w σ H Q q)⟩
theorem PA.weak {X : Cx} {es : List Expr} {t u : TA} (h : PA X es t) (w : ∀ σ H Q, u σ H Q → t σ H Q) : PA X es u := ⟨fun pos pins s σ H Q I q => h.run pos pins s σ H Q I (w σ H Q q)⟩
theorem PS.weak {X : Cx} {st : Stmt} {t u : TS} (h : PS X st t) (w : ∀ F σ H, u F σ H → t F σ H) : PS X st u := ⟨fun pins s σ H F I q => h.run pins s σ H F I (w F σ H q)⟩
theorem PSs.weak {X : Cx} {st : List Stmt} {t u : TS} (h : PSs X st t) (w : ∀ F σ H, u F σ H → t F σ H) : PSs X st u := ⟨fun pins s σ H F I q => h.run pins s σ H F I (w F σ H q)⟩
section
variable {X : Cx} {G : Gh} {a b c e : Expr} {es : List Expr} {pos : Pos}
/-- data may be read -/
theorem ED.er {t : TD} (h : ED X G e t) : ER X G e t := ⟨PE.weak h.pe fun σ H Q ⟨E, QE, r, q, k⟩ => ⟨E, QE, r, q, fun d E' v H' z x r' p => k d E' v H' z x r' (.inl p)⟩⟩
/-! ### names, constants -/
def tV (i : Nat) : TD := fun E Q => match E[i]? with
  | some (.d x) => Q x E
  | _ => False
/-- a name that may hold a list that can change, read now -/
def tVr (i : Nat) : TD := fun E Q => match E[i]? with
  | some (.d x) => Q x E
  | some (.ol xs) => Q (.list xs) E
  | _ => False
def tK (d : D) : TD := fun E Q => Q d E
theorem RelX.data {K : PySem.W.Frag} {ex : List Addr} {H : Hp} {E : Env} {σ : St} {i : Nat} {x : D} (r : RelX K G ex H E σ) (e : E[i]? = some (.d x)) : ∃ v, σ[i]? = some (some v) ∧ Rp K H x v := by
  obtain ⟨l, k, pn, dm, x0, A, h1, h2, h3⟩ := r
  exact (h3 i _ e).2
theorem RelX.ol {K : PySem.W.Frag} {ex : List Addr} {H : Hp} {E : Env} {σ : St} {i : Nat} {xs : List D} (r : RelX K G ex H E σ) (e : E[i]? = some (.ol xs)) : ∃ a vs, σ[i]? = some (some (.ref a)) ∧ H a = some (.lst vs) ∧ RpL K H xs vs := by
  obtain ⟨l, k, pn, dm, x0, A, h1, h2, h3⟩ := r
  obtain ⟨a, e1, e2, vs, e3, e4⟩ := h3 i _ e
  exact ⟨a, vs, e2, e3, e4⟩
theorem RelX.mutAt {K : PySem.W.Frag} {ex : List Addr} {H : Hp} {E : Env} {σ : St} {i : Nat} {s : S} (r : RelX K G ex H E σ) (e : E[i]? = some s) (m : s.isMut = true) : ∃ a, σ[i]? = some (some (.ref a)) ∧ RelM K H s a := by
  obtain ⟨l, k, pn, dm, x0, A, h1, h2, h3⟩ := r
  obtain ⟨a, e1, e2, e3⟩ := (h3 i _ e).mut m
  exact ⟨a, e2, e3⟩
theorem ed_var (i : Nat) {x : Str} (hN : X.N[i]? = some x := by rfl) (hv : Vis X.env.scope x := by first | exact Or.inl rfl | exact Or.inr (Or.inl rfl) | exact Or.inr (Or.inr rfl)) (hd : (x == ("__debug__" : Str)) = false := by decide)
    (hcd : (x == ("__classdict__" : Str)) = false := by decide) : ED X G (.Name x pos) (tV i) := ⟨PE.weak (pe_var hN hv hd hcd) fun σ H Q ⟨E, QE, r, q, k⟩ => by
  unfold tV at q
  split at q
  · rename_i x he
    obtain ⟨v, e, p⟩ := r.data he
    exact ⟨v, e, k _ _ _ _ q (Ext.refl _) r p⟩
  · exact q.elim⟩
theorem er_var (i : Nat) {x : Str} (hN : X.N[i]? = some x := by rfl) (hv : Vis X.env.scope x := by first | exact Or.inl rfl | exact Or.inr (Or.inl rfl) | exact Or.inr (Or.inr rfl)) (hd : (x == ("__debug__" : Str)) = false := by decide)
    (hcd : (x == ("__classdict__" : Str)) = false := by decide) : ER X G (.Name x pos) (tVr i) := ⟨PE.weak (pe_var hN hv hd hcd) fun σ H Q ⟨E, QE, r, q, k⟩ => by
  unfold tVr at q
  split at q
  · rename_i x he
    obtain ⟨v, e, p⟩ := r.data he
    exact ⟨v, e, k _ _ _ _ q (Ext.refl _) r (.inl p)⟩
  · rename_i xs he
    obtain ⟨a, vs, e, h, p⟩ := r.ol he
    exact ⟨_, e, k _ _ _ _ q (Ext.refl _) r (.inr ⟨_, _, _, rfl, rfl, h, p⟩)⟩
  · exact q.elim⟩
theorem ed_int {i j} : ED X G (.Constant (.int i) j pos) (tK (.int i)) := ⟨PE.weak pe_int fun σ H Q ⟨E, QE, r, q, k⟩ => k _ _ _ _ q (Ext.refl _) r (.int i)⟩
theorem ed_bl {i j} : ED X G (.Constant (.bool i) j pos) (tK (.bool i)) := ⟨PE.weak pe_bl fun σ H Q ⟨E, QE, r, q, k⟩ => k _ _ _ _ q (Ext.refl _) r (.bl i)⟩
theorem ed_non {j} : ED X G (.Constant .none j pos) (tK .none) := ⟨PE.weak pe_non fun σ H Q ⟨E, QE, r, q, k⟩ => k _ _ _ _ q (Ext.refl _) r .non⟩
theorem ed_str {i j} : ED X G (.Constant (.str i) j pos) (tK (.str i)) := ⟨PE.weak pe_str fun σ H Q ⟨E, QE, r, q, k⟩ => k _ _ _ _ q (Ext.refl _) r (.str i)⟩
/-- a module's name -/
theorem ed_glob {x : Str} {d : D} {v : V} {u : Value} (hg : Gl X x) (hm : X.mg x = some u) (rv : RelV v u) (rd : ∀ H, Rp X.K H d v) (hd : (x == ("__debug__" : Str)) = false := by decide) : ED X G (.Name x pos) (tK d) :=
  ⟨PE.weak (pe_glob hg hm rv hd) fun σ H Q ⟨E, QE, r, q, k⟩ => k _ _ _ _ q (Ext.refl _) r (rd H)⟩
/-! ### operators -/
/-- what an operator gives of data -/
abbrev OpT := D → D → (D → Prop) → Prop
/-- by values: the heap only grows -/
def OpD (X : Cx) (f : Value → Value → Sem Value) (op : OpT) : Prop := ∃ r : R2, OpR X f r ∧
  ∀ x y v u H (QD : D → Prop) (Q : VK), RpR X.K H x v → RpR X.K H y u → op x y QD → (∀ z w H', QD z → PExt H H' → Rp X.K H' z w → Q w H') → r v u H Q
theorem OpD.or {f : Value → Value → Sem Value} {op op' : OpT} (h : OpD X f op) (h' : OpD X f op') : OpD X f (fun x y Q => op x y Q ∨ op' x y Q) := by
  obtain ⟨r, hr, hq⟩ := h
  obtain ⟨r', hr', hq'⟩ := h'
  refine ⟨_, hr.or hr', fun x y v u H QD Q hx hy q k => ?_⟩
  rcases q with q | q
  · exact .inl (hq x y v u H QD Q hx hy q k)
  · exact .inr (hq' x y v u H QD Q hx hy q k)
def tOpD (op : OpT) (ta tb : TD) : TD := fun E Q => ta E fun x E1 => tb E1 fun y E2 => op x y fun z => Q z E2
/-- two parts: the left is data -/
theorem lift_bin {K : PySem.W.Frag} {op : OpT} {ta tb : TD} {r : R2} (hr : ∀ x y v u H (QD : D → Prop) (Q : VK), RpR K H x v → RpR K H y u → op x y QD → (∀ z w H', QD z → PExt H H' → Rp K H' z w → Q w H') → r v u H Q)
    (σ : St) (H : Hp) (Q : VK) (h : liftE K G (tOpD op ta tb) σ H Q) : tOp r (liftE K G ta) (liftR K G tb) σ H Q := by
  obtain ⟨E, QE, rel, q, k⟩ := h
  refine ⟨E, _, rel, q, fun x E1 v H1 q1 x1 rel1 p1 => ⟨E1, _, rel1, q1, fun y E2 u H2 q2 x2 rel2 p2 => ?_⟩⟩
  exact hr x y v u H2 _ Q (.inl (p1.ext x2)) p2 q2 fun z w H3 q3 p3 rz => k z E2 w H3 q3 ((x1.trans x2).trans p3.ext) (rel2.pext p3) rz
theorem ed_op {op : Operator} {o : OpT} {ta tb : TD} (ho : OpD X (binaryOp op) o) (ha : ED X G a ta) (hb : ER X G b tb) : ED X G (.BinOp a op b pos) (tOpD o ta tb) := by
  obtain ⟨r, hr, hq⟩ := ho
  exact ⟨PE.weak (pe_op hr ha.pe hb.pe) fun σ H Q h => lift_bin hq σ H Q h⟩
theorem ed_cmp {op : CmpOp} {o : OpT} {ta tb : TD} (ho : OpD X (compareOp op) o) (ha : ED X G a ta) (hb : ER X G b tb) (hm : behindInMarks op b = false) : ED X G (.Compare a [op] [b] pos) (tOpD o ta tb) := by
  obtain ⟨r, hr, hq⟩ := ho
  exact ⟨PE.weak (pe_cmpR hr ha.pe hb.pe hm) fun σ H Q h => lift_bin hq σ H Q h⟩
def UnT := D → (D → Prop) → Prop
def UnD (X : Cx) (f : Value → Sem Value) (op : UnT) : Prop := ∃ r : V → Hp → VK → Prop, UnR X f r ∧
  ∀ x v H (QD : D → Prop) (Q : VK), RpR X.K H x v → op x QD → (∀ z w H', QD z → PExt H H' → Rp X.K H' z w → Q w H') → r v H Q
def tUnD (op : UnT) (ta : TD) : TD := fun E Q => ta E fun x E1 => op x fun z => Q z E1
theorem ed_un {op : UnaryOp} {o : UnT} {ta : TD} (ho : UnD X (unaryOp op) o) (ha : ER X G a ta) : ED X G (.UnaryOp op a pos) (tUnD o ta) := by
  obtain ⟨r, hr, hq⟩ := ho
  refine ⟨PE.weak (pe_un hr ha.pe) fun σ H Q ⟨E, QE, rel, q, k⟩ => ⟨E, _, rel, q, fun x E1 v H1 q1 x1 rel1 p1 => ?_⟩⟩
  exact hq x v H1 _ Q p1 q1 fun z w H3 q3 p3 rz => k z E1 w H3 q3 (x1.trans p3.ext) (rel1.pext p3) rz
/-! ### tests -/
/-- an expression that gives a truth -/
def tBo (t : TD) : TTd := fun E Q => t E fun x E1 => match x with
  | .bool b => Q b E1
  | _ => False
theorem eb_cmp {op : CmpOp} {o : OpT} {ta tb : TD} (ho : OpD X (compareOp op) o) (ha : ED X G a ta) (hb : ER X G b tb) (hm : behindInMarks op b = false) : EB X G (.Compare a [op] [b] pos) (tBo (tOpD o ta tb)) := by
  obtain ⟨r, hr, hq⟩ := ho
  refine ⟨PT.weak (pt_cmpR hr ha.pe hb.pe hm) fun σ H Q ⟨E, QE, rel, q, k⟩ => ?_⟩
  have h : liftE X.K G (tOpD o ta tb) σ H fun x H' => ∃ k, x = .bl k ∧ Q k H' := ⟨E, _, rel, q, fun d E' v H' q1 x1 r1 p1 => by
    cases p1 with
    | bl b => exact ⟨b, rfl, k b E' H' q1 x1 r1⟩
    | _ => exact q1.elim⟩
  exact lift_bin hq σ H _ h
def tAndD (t u : TTd) : TTd := fun E Q => t E fun c E1 => if c = true then u E1 Q else Q false E1
def tOrD (t u : TTd) : TTd := fun E Q => t E fun c E1 => if c = true then Q true E1 else u E1 Q
def tNotD (t : TTd) : TTd := fun E Q => t E fun c E1 => Q (!c) E1
theorem ew_or1 {t : TTd} (h : EB X G a t) : EW X G (.BoolOp .Or [a] pos) t := ⟨pw_or1 h.pt⟩
theorem ew_or {t u : TTd} (h : EB X G a t) (hb : EW X G (.BoolOp .Or (b :: es) pos) u) : EW X G (.BoolOp .Or (a :: b :: es) pos) (tOrD t u) :=
  ⟨PW.weak (pw_or h.pt hb.pw) fun σ H Q ⟨E, QE, r, q, k⟩ => ⟨E, _, r, q, fun c E1 H1 q1 x1 r1 => by
    cases c with
    | false => exact ⟨E1, QE, r1, q1, fun b E2 H2 q2 x2 r2 => k b E2 H2 q2 (x1.trans x2) r2⟩
    | true => exact k true E1 H1 q1 x1 r1⟩⟩
theorem EW.eb {t : TTd} (h : EW X G e t) : EB X G e t := ⟨h.pw.pt⟩
theorem eb_not {t : TTd} (h : EB X G a t) : EB X G (.UnaryOp .Not a pos) (tNotD t) :=
  ⟨PT.weak (pt_not h.pt) fun σ H Q ⟨E, QE, r, q, k⟩ => ⟨E, _, r, q, fun c E1 H1 q1 x1 r1 => k _ E1 H1 q1 x1 r1⟩⟩
/-- a if c else b -/
def tIfE (c : TTd) (t u : TD) : TD := fun E Q => c E fun k E1 => if k = true then t E1 Q else u E1 Q
theorem ed_if {tc : TTd} {t u : TD} (hc : EB X G c tc) (ha : ED X G a t) (hb : ED X G b u) : ED X G (.IfExp c a b pos) (tIfE tc t u) :=
  ⟨PE.weak (pe_ifExp hc.pt ha.pe hb.pe) fun σ H Q ⟨E, QE, r, q, k⟩ => ⟨E, _, r, q, fun c E1 H1 q1 x1 r1 => by
    cases c with
    | true => exact ⟨E1, QE, r1, q1, fun d E2 v H2 q2 x2 r2 => k d E2 v H2 q2 (x1.trans x2) r2⟩
    | false => exact ⟨E1, QE, r1, q1, fun d E2 v H2 q2 x2 r2 => k d E2 v H2 q2 (x1.trans x2) r2⟩⟩⟩
/-! as values -/
def tAndV (t u : TD) : TD := fun E Q => t E fun x E1 => match x with
  | .bool true => u E1 Q
  | .bool false => Q (.bool false) E1
  | _ => False
def tOrV (t u : TD) : TD := fun E Q => t E fun x E1 => match x with
  | .bool true => Q (.bool true) E1
  | .bool false => u E1 Q
  | _ => False
def tNotV (t : TD) : TD := fun E Q => t E fun x E1 => match x with
  | .bool b => Q (.bool (!b)) E1
  | _ => False
theorem ed_one {op} {t : TD} (h : ED X G a t) : ED X G (.BoolOp op [a] pos) t := ⟨pe_one h.pe⟩
theorem ed_and {t u : TD} (h : ED X G a t) (hb : ED X G (.BoolOp .And (b :: es) pos) u) : ED X G (.BoolOp .And (a :: b :: es) pos) (tAndV t u) :=
  ⟨PE.weak (pe_and h.pe hb.pe) fun σ H Q ⟨E, QE, r, q, k⟩ => ⟨E, _, r, q, fun d E1 v H1 q1 x1 r1 p1 => by
    cases p1 with
    | bl c =>
      refine ⟨c, rfl, ?_⟩
      cases c with
      | true => exact ⟨E1, QE, r1, q1, fun d E2 v H2 q2 x2 r2 => k d E2 v H2 q2 (x1.trans x2) r2⟩
      | false => exact k _ E1 _ H1 q1 x1 r1 (.bl false)
    | _ => exact q1.elim⟩⟩
theorem ed_not {t : TD} (h : ED X G a t) : ED X G (.UnaryOp .Not a pos) (tNotV t) :=
  ⟨PE.weak (pe_not h.pe) fun σ H Q ⟨E, QE, r, q, k⟩ => ⟨E, _, r, q, fun d E1 v H1 q1 x1 r1 p1 => by
    cases p1 with
    | bl c => exact ⟨c, rfl, k _ E1 _ H1 q1 x1 r1 (.bl _)⟩
    | _ => exact q1.elim⟩⟩
/-! ### truth of any data -/
def truD : D → Option Bool
  | .none => some false
  | .bool b => some b
  | .int i => some (i != 0)
  | .str x => some ((x.length : Int) != 0)
  | .list xs => some (!xs.isEmpty)
  | .tuple xs => some (!xs.isEmpty)
  | .dict _ => none
def okLen : D → Prop
  | .str x => x.length ≤ sizeLine
  | _ => True
def tTru (t : TD) : TTd := fun E Q => t E fun x E1 => match truD x with
  | some b => okLen x ∧ Q b E1
  | none => False
theorem isEmpty_RpL {K : PySem.W.Frag} {H : Hp} {ds : List D} {vs : List V} (l : RpL K H ds vs) : ds.isEmpty = vs.isEmpty := by cases l <;> rfl
theorem eb_tru {t : TD} (h : ER X G e t) (he : ∀ whole, isTrue e X.env whole = (do let v ← whole; standAt e.pos; holding [v] (truthy v)) := by intro _; rfl) : EB X G e (tTru t) :=
  ⟨PT.weak (pt_truth h.pe he) fun σ H Q ⟨E, QE, r, q, k⟩ => ⟨E, _, r, q, fun d E' v H' q1 x1 r1 p1 => by
    cases d with
    | none => rw [p1.none]; exact ⟨false, rfl, k _ _ _ q1.2 x1 r1⟩
    | bool b => rw [p1.bool]; exact ⟨b, rfl, k _ _ _ q1.2 x1 r1⟩
    | int b => rw [p1.int]; exact ⟨_, rfl, k _ _ _ q1.2 x1 r1⟩
    | str b => rw [p1.str]; exact ⟨_, ⟨q1.1, rfl⟩, k _ _ _ q1.2 x1 r1⟩
    | list b =>
      obtain ⟨a, vs, rfl, hs, l⟩ := p1.list
      exact ⟨!vs.isEmpty, .inl ⟨vs, hs, rfl⟩, by have := k _ _ _ q1.2 x1 r1; rw [isEmpty_RpL l] at this; exact this⟩
    | tuple b =>
      obtain ⟨a, vs, rfl, hs, l⟩ := p1.tuple
      exact ⟨!vs.isEmpty, .inr (.inl ⟨vs, hs, rfl⟩), by have := k _ _ _ q1.2 x1 r1; rw [isEmpty_RpL l] at this; exact this⟩
    | dict b => exact q1.elim⟩⟩
/-! ### arguments -/
def aNil : TAd := fun E Q => Q [] E
def aV (t : TD) (u : TAd) : TAd := fun E Q => t E fun x E1 => u E1 fun as E2 => Q (.v x :: as) E2
def aO (i : Nat) (u : TAd) : TAd := fun E Q => match E[i]? with
  | some (.ol _) => u E fun as E2 => Q (.o i :: as) E2
  | some (.dt _) => u E fun as E2 => Q (.o i :: as) E2
  | some (.dk _) => u E fun as E2 => Q (.o i :: as) E2
  | _ => False
theorem ea_nil : EA X G [] aNil := ⟨PA.weak pa_nil fun σ H Q ⟨E, QE, r, q, k⟩ => k _ _ _ _ q (Ext.refl _) r .nil⟩
theorem ea_v {t : TD} {u : TAd} (h : ED X G e t) (hr : EA X G es u) (hs : starEach (e :: es) X.env = (false, eval e X.env) :: starEach es X.env := by rfl) : EA X G (e :: es) (aV t u) :=
  ⟨PA.weak (pa_cons h.pe hr.pa hs) fun σ H Q ⟨E, QE, r, q, k⟩ => ⟨E, _, r, q, fun x E1 v H1 q1 x1 r1 p1 => ⟨E1, _, r1, q1, fun as E2 vs H2 q2 x2 r2 p2 => k _ _ _ _ q2 (x1.trans x2) r2 (.v (p1.ext x2) p2)⟩⟩⟩
theorem ea_o (i : Nat) {x : Str} {u : TAd} {p : Pos} (hr : EA X G es u) (hN : X.N[i]? = some x := by rfl) (hv : Vis X.env.scope x := by first | exact Or.inl rfl | exact Or.inr (Or.inl rfl) | exact Or.inr (Or.inr rfl)) (hd : (x == ("__debug__" : Str)) = false := by decide)
    (hcd : (x == ("__classdict__" : Str)) = false := by decide) (hs : starEach (Expr.Name x p :: es) X.env = (false, eval (Expr.Name x p) X.env) :: starEach es X.env := by rfl) : EA X G (Expr.Name x p :: es) (aO i u) :=
  ⟨PA.weak (pa_cons (pe_var hN hv hd hcd) hr.pa hs) fun σ H Q ⟨E, QE, r, q, k⟩ => by
    unfold aO at q
    split at q
    · rename_i xs he
      obtain ⟨a, e, _⟩ := r.mutAt he rfl
      exact ⟨_, e, E, _, r, q, fun as E2 vs H2 q2 x2 r2 p2 => k _ _ _ _ q2 x2 r2 (.o e p2)⟩
    · rename_i xs he
      obtain ⟨a, e, _⟩ := r.mutAt he rfl
      exact ⟨_, e, E, _, r, q, fun as E2 vs H2 q2 x2 r2 p2 => k _ _ _ _ q2 x2 r2 (.o e p2)⟩
    · rename_i xs he
      obtain ⟨a, e, _⟩ := r.mutAt he rfl
      exact ⟨_, e, E, _, r, q, fun as E2 vs H2 q2 x2 r2 p2 => k _ _ _ _ q2 x2 r2 (.o e p2)⟩
    · exact q.elim⟩
/-! ### statements -/
section
variable {st : Stmt} {rest : List Stmt}
def sNx : TSd := fun DE E => DE.nx E
def sSeq (t u : TSd) : TSd := fun DE E => t { DE with nx := u DE } E
theorem sds_nil : SDs X G [] sNx := ⟨PSs.weak pss_nil fun F σ H ⟨E, DE, r, q, k1, _⟩ => k1 _ _ _ q (Ext.refl _) r⟩
theorem lift_more {K : PySem.W.Frag} {F : Ends} {σ : St} {H H1 : Hp} {E E1 : Env} {DE : EndsD} {u : TSd} {σ1 : St} (x1 : Ext H H1) (r1 : RelE K G H1 E1 σ1) (q : u DE E1)
    (k1 : ∀ E' σ' H', DE.nx E' → Ext H H' → RelE K G H' E' σ' → F.nx σ' H') (k2 : ∀ d E' v σ' H', DE.rt d E' → Ext H H' → RelE K G H' E' σ' → Rp K H' d v → F.rt v H')
    (k3 : ∀ E' σ' H', DE.bk E' → Ext H H' → RelE K G H' E' σ' → F.bk σ' H') (k4 : ∀ E' σ' H', DE.ct E' → Ext H H' → RelE K G H' E' σ' → F.ct σ' H') : liftS K G u F σ1 H1 :=
  ⟨E1, DE, r1, q, fun E' σ' H' z x r => k1 E' σ' H' z (x1.trans x) r, fun d E' v σ' H' z x r => k2 d E' v σ' H' z (x1.trans x) r, fun E' σ' H' z x r => k3 E' σ' H' z (x1.trans x) r, fun E' σ' H' z x r => k4 E' σ' H' z (x1.trans x) r⟩
theorem sds_cons {t u : TSd} (h : SD X G st t) (hr : SDs X G rest u) : SDs X G (st :: rest) (sSeq t u) :=
  ⟨PSs.weak (pss_cons h.ps hr.pss) fun F σ H ⟨E, DE, r, q, k1, k2, k3, k4⟩ => ⟨E, { DE with nx := u DE }, r, q, fun E' σ' H' z x r => lift_more (σ := σ) (E := E) x r z k1 k2 k3 k4, k2, k3, k4⟩⟩
theorem sds_one {t : TSd} (h : SD X G st t) : SDs X G [st] t := ⟨pss_one h.ps⟩
def sRet (t : TD) : TSd := fun DE E => t E DE.rt
theorem sd_ret {t : TD} (h : ED X G e t) : SD X G (.Return (some e) pos) (sRet t) :=
  ⟨PS.weak (ps_ret h.pe) fun F σ H ⟨E, DE, r, q, k1, k2, k3, k4⟩ => ⟨E, _, r, q, fun d E' v H' z x r p => k2 d E' v σ H' z x r p⟩⟩
def sIf (c : TTd) (t u : TSd) : TSd := fun DE E => c E fun b E1 => if b = true then t DE E1 else u DE E1
theorem sd_if {sa sb : List Stmt} {tc : TTd} {t u : TSd} (hc : EB X G c tc) (ha : SDs X G sa t) (hb : SDs X G sb u) : SD X G (.If c sa sb pos) (sIf tc t u) :=
  ⟨PS.weak (ps_if hc.pt ha.pss hb.pss) fun F σ H ⟨E, DE, r, q, k1, k2, k3, k4⟩ => ⟨E, _, r, q, fun c E1 H1 q1 x1 r1 => by
    cases c with
    | true => exact lift_more (σ := σ) (E := E) x1 r1 q1 k1 k2 k3 k4
    | false => exact lift_more (σ := σ) (E := E) x1 r1 q1 k1 k2 k3 k4⟩⟩
def sExpr (t : TD) : TSd := fun DE E => t E fun _ E1 => DE.nx E1
theorem sd_expr {t : TD} (h : ED X G e t) (hs : swapsWith e none pos.line X.env = pure false := by rfl) : SD X G (.Expr e pos) (sExpr t) :=
  ⟨PS.weak (ps_expr h.pe hs) fun F σ H ⟨E, DE, r, q, k1, k2, k3, k4⟩ => ⟨E, _, r, q, fun d E1 v H1 q1 x1 r1 p1 => k1 _ _ _ q1 x1 r1⟩⟩
end
end
end DL
set_option Elab.async false
set_option linter.all false
set_option maxRecDepth 100000
namespace DL
open PySem PySem.Spec PyProof.Rows L2
section
variable {K : PySem.W.Frag} {G : Gh} {H H' : Hp} {E : Env} {σ : St} {ex : List Addr}
theorem notin_slots {i : Nat} (hi : i ∉ G.slots) (a : Addr) : (i, a) ∉ G.own := fun h => hi (List.mem_map.mpr ⟨(i, a), h, rfl⟩)
/-- a slot gets data -/
theorem RelX.setD {i : Nat} {x : D} {v : V} (r : RelX K G ex H E σ) (hi : i ∉ G.slots) (p : Rp K H x v) : RelX K G ex H (E.set i (.d x)) (σ.set i (some v)) := by
  obtain ⟨l, k, pn, dm, x0, A, h1, h2, h3⟩ := r
  refine ⟨by simp [l], k, fun j a hj => ?_, dm, x0, fun j => if j = i then [] else A j, fun j m a e1 e2 => ?_, fun j a e1 => ?_, fun j s e => ?_⟩
  · have : i ≠ j := fun z => notin_slots hi a (z ▸ hj)
    rw [List.getElem?_set_ne this]; exact pn j a hj
  · by_cases z : j = i
    · simp [z] at e1
    · by_cases z2 : m = i
      · simp [z2] at e2
      · simp only [z, z2, if_false] at e1 e2; exact h1 j m a e1 e2
  · by_cases z : j = i
    · simp [z] at e1
    · simp only [z, if_false] at e1; exact h2 j a e1
  · by_cases z : j = i
    · subst z
      by_cases hl : j < E.length
      · rw [List.getElem?_set_self hl] at e
        cases e
        exact ⟨by simp, v, by rw [List.getElem?_set_self (l ▸ hl)], p⟩
      · rw [List.getElem?_eq_none (by simpa using hl)] at e; cases e
    · rw [List.getElem?_set_ne (Ne.symm z)] at e
      rw [List.getElem?_set_ne (Ne.symm z)]
      simp only [z, if_false]; exact h3 j s e
/-- a slot gets a new mutable thing of one's own -/
theorem RelX.setM {i : Nat} {s0 : S} {a : Addr} (r : RelX K G (a :: ex) H E σ) (hx : a ∉ ex) (hi : i ∉ G.slots) (h0 : G.H0 a = none) (p : RelM K H s0 a) : RelX K G ex H (E.set i s0) (σ.set i (some (.ref a))) := by
  obtain ⟨l, k, pn, dm, x0, A, h1, h2, h3⟩ := r
  refine ⟨by simp [l], k, fun j a hj => ?_, dm, x0, fun j => if j = i then [a] else A j, fun j m b e1 e2 => ?_, fun j b e1 => ?_, fun j s e => ?_⟩
  · have : i ≠ j := fun z => notin_slots hi a (z ▸ hj)
    rw [List.getElem?_set_ne this]; exact pn j a hj
  · by_cases z : j = i
    · by_cases z2 : m = i
      · rw [z, z2]
      · simp only [z, if_true, z2, if_false, List.mem_cons, List.not_mem_nil, or_false] at e1 e2
        exact absurd e1 fun z => (h2 m b e2).2 (by simp [z])
    · by_cases z2 : m = i
      · simp only [z, if_false, z2, if_true, List.mem_cons, List.not_mem_nil, or_false] at e1 e2
        exact absurd e2 fun z => (h2 j b e1).2 (by simp [z])
      · simp only [z, z2, if_false] at e1 e2; exact h1 j m b e1 e2
  · by_cases z : j = i
    · simp only [z, if_true, List.mem_cons, List.not_mem_nil, or_false] at e1
      subst e1; exact ⟨.inr h0, hx⟩
    · simp only [z, if_false] at e1; exact ⟨(h2 j b e1).1, fun q => (h2 j b e1).2 (List.mem_cons_of_mem _ q)⟩
  · by_cases z : j = i
    · subst z
      by_cases hl : j < E.length
      · rw [List.getElem?_set_self hl] at e
        cases e
        simp only [if_true]
        exact RelS.ofMut p.isMut (by rw [List.getElem?_set_self (l ▸ hl)]) p
      · rw [List.getElem?_eq_none (by simpa using hl)] at e; cases e
    · rw [List.getElem?_set_ne (Ne.symm z)] at e
      rw [List.getElem?_set_ne (Ne.symm z)]
      simp only [z, if_false]; exact h3 j s e
theorem RelX.setL {i : Nat} {xs : List D} {a : Addr} {vs : List V} (r : RelX K G (a :: ex) H E σ) (hx : a ∉ ex) (hi : i ∉ G.slots) (h0 : G.H0 a = none) (ha : H a = some (.lst vs)) (p : RpL K H xs vs) : RelX K G ex H (E.set i (.ol xs)) (σ.set i (some (.ref a))) :=
  r.setM hx hi h0 (s0 := .ol xs) ⟨vs, ha, p⟩
/-- a mutable thing of one's own changes -/
theorem RelX.putM {i : Nat} {s0 s1 : S} {a : Addr} {u : HO} (r : RelX K G ex H E σ) (e : E[i]? = some s0) (m0 : s0.isMut = true) (hs : σ[i]? = some (some (.ref a))) (p : RelM K (upd H a u) s1 a) : RelX K G ex (upd H a u) (E.set i s1) σ := by
  obtain ⟨l, k, pn, dm, x0, A, h1, h2, h3⟩ := r
  obtain ⟨b, e1, e2, e3⟩ := (h3 i _ e).mut m0
  rw [hs] at e2
  have e2' : a = b := by injection e2 with z; injection z with z; injection z
  subst e2'
  obtain ⟨u0, g1, g2, g3⟩ := e3.soft
  have x : Ext H (upd H a u) := Ext.putS g1 g2 g3
  have own := h2 i a (by rw [e1]; simp)
  have hl : i < E.length := by
    rcases Nat.lt_or_ge i E.length with z | z
    · exact z
    · rw [List.getElem?_eq_none z] at e; cases e
  refine ⟨by simpa using l, fun q o he ne => ?_, pn, fun q hq => ?_, x0.trans x, A, h1, h2, fun j s he => ?_⟩
  · have : q ≠ a := by
      rintro rfl
      rcases own.1 with z | z
      · exact ne z
      · rw [z] at he; cases he
    rw [upd_ne this]; exact k q o he ne
  · by_cases z : q = a
    · subst z; rw [upd_same]; simp
    · rw [upd_ne z]; exact dm q hq
  · by_cases z : j = i
    · subst z
      rw [List.getElem?_set_self hl] at he
      cases he
      rw [e1]
      exact RelS.ofMut p.isMut hs p
    · rw [List.getElem?_set_ne (Ne.symm z)] at he
      exact (h3 j s he).move x fun c hc => upd_ne fun zz => z (h1 j i c hc (by rw [e1, zz]; simp))
/-- a list of one's own changes -/
theorem RelX.putL {i : Nat} {xs ys : List D} {a : Addr} {us : List V} (r : RelX K G ex H E σ) (e : E[i]? = some (.ol xs)) (hs : σ[i]? = some (some (.ref a))) (p : RpL K H ys us) : RelX K G ex (upd H a (.lst us)) (E.set i (.ol ys)) σ := by
  have x : Ext H (upd H a (.lst us)) := by
    obtain ⟨l, k, pn, dm, x0, A, h1, h2, h3⟩ := r
    obtain ⟨b, e1, e2, vs, e3, e4⟩ := h3 i _ e
    rw [hs] at e2
    have e2' : a = b := by injection e2 with z; injection z with z; injection z
    subst e2'; exact Ext.put e3
  exact r.putM e rfl hs (s1 := .ol ys) ⟨us, upd_same, p.ext x⟩
/-- a new object is apart from all -/
theorem RelX.fresh {p : Addr} {o : HO} (r : RelE K G H E σ) (hp : H p = none) : RelX K G [p] (upd H p o) E σ ∧ G.H0 p = none ∧ p ∉ G.addrs := by
  have px : PExt H (upd H p o) := PExt.new hp
  have r' := r.pext px
  obtain ⟨l, k, pn, dm, x0, A, h1, h2, h3⟩ := r'
  obtain ⟨_, k0, _, dm0, _, A0, g1, g2, g3⟩ := r
  have na : p ∉ G.addrs := fun z => dm0 p z hp
  refine ⟨⟨l, k, pn, dm, x0, fun i => if E[i]? = none then [] else A0 i, fun i j a e1 e2 => ?_, fun i a e => ?_, fun i s e => ?_⟩, ?_, na⟩
  · dsimp only at e1 e2
    split at e1
    · cases e1
    · split at e2
      · cases e2
      · exact g1 i j a e1 e2
  · dsimp only at e
    split at e
    · cases e
    · rename_i hE
      refine ⟨(g2 i a e).1, ?_⟩
      cases q : E[i]? with
      | none => exact absurd q hE
      | some s =>
        obtain ⟨u, hvs, _⟩ := (g3 i s q).indom a e
        simp only [List.mem_cons, List.not_mem_nil, or_false]
        rintro rfl
        rw [hp] at hvs; cases hvs
  · have : E[i]? ≠ none := by rw [e]; simp
    simp only [this, if_false]
    exact (g3 i s e).pext px
  · cases q : G.H0 p with
    | none => rfl
    | some o' => have := k0 p o' q na; rw [hp] at this; cases this
/-- a thing that nobody else has is frozen -/
theorem RelX.freezeS {a : Addr} {u u' : HO} (r : RelX K G [a] H E σ) (h0 : G.H0 a = none) (na : a ∉ G.addrs) (ha : H a = some u) (s1 : ∀ xs, u ≠ .tup xs) (s2 : ∀ o v, u ≠ .frz o v) : RelE K G (upd H a u') E σ := by
  have x : Ext H (upd H a u') := Ext.putS ha s1 s2
  obtain ⟨l, k, pn, dm, x0, A, h1, h2, h3⟩ := r
  refine ⟨l, fun q u he ne => ?_, pn, fun q hq => ?_, x0.trans x, fun i => if E[i]? = none then [] else A i, fun i j b e1 e2 => ?_, fun i b e => ?_, fun i s e => ?_⟩
  · have : q ≠ a := by rintro rfl; rw [h0] at he; cases he
    rw [upd_ne this]; exact k q u he ne
  · have : q ≠ a := by rintro rfl; exact na hq
    rw [upd_ne this]; exact dm q hq
  · dsimp only at e1 e2
    split at e1
    · cases e1
    · split at e2
      · cases e2
      · exact h1 i j b e1 e2
  · dsimp only at e
    split at e
    · cases e
    · exact ⟨(h2 i b e).1, by simp⟩
  · have : E[i]? ≠ none := by rw [e]; simp
    simp only [this, if_false]
    exact (h3 i s e).move x fun p hp => upd_ne (by rintro rfl; exact (h2 i p hp).2 (by simp))
/-- a list that nobody else has is frozen -/
theorem RelX.freeze {a : Addr} {vs : List V} {o : Obj} (r : RelX K G [a] H E σ) (h0 : G.H0 a = none) (na : a ∉ G.addrs) (ha : H a = some (.lst vs)) : RelE K G (upd H a (.frz o (.lst vs))) E σ :=
  r.freezeS h0 na ha (fun _ z => by cases z) (fun _ _ z => by cases z)
end
section
variable {X : Cx} {G : Gh} {a b c e : Expr} {es : List Expr} {pos : Pos}
/-! ### a new list is frozen: data -/
def tFz (t : TE) : TE := fun σ H Q => t σ H fun v H1 => ∃ a xs, v = .ref a ∧ H1 a = some (.lst xs) ∧ ∀ o, Q v (upd H1 a (.frz o (.lst xs)))
theorem PE.fz {t : TE} (h : PE X e t) : PE X e (tFz t) := ⟨fun pins s σ H Q I q => thn (h.run pins s σ H _ I q) fun u s1 ⟨v, H1, I1, r1, a, xs, e1, e2, q1⟩ => by
  obtain ⟨o, I2⟩ := I1.lock e2 trivial
  exact ⟨v, _, I2, r1, q1 o⟩⟩
def tFzD (t : TLd) : TD := fun E Q => t E fun xs E1 => Q (.list xs) E1
theorem EL.ed {t : TLd} (h : EL X G e t) : ED X G e (tFzD t) :=
  ⟨PE.weak (PE.fz h.pe) fun σ H Q ⟨E, QE, r, q, k⟩ => ⟨E, _, r, q, fun xs E1 a vs H1 q1 x1 r1 h0 na ha p1 => ⟨a, vs, rfl, ha, fun o =>
    k _ _ _ _ q1 (x1.trans (Ext.put ha)) (r1.freeze h0 na ha) (.lst (.of upd_same) (p1.ext (Ext.put ha)))⟩⟩⟩
/-- a list that is read now -/
theorem EL.er {t : TLd} (h : EL X G e t) : ER X G e (tFzD t) := h.ed.er
/-! ### displays -/
abbrev TDs := Env → (List D → Env → Prop) → Prop
def liftDs (K : PySem.W.Frag) (G : Gh) (t : TDs) : TA := fun σ H Q => ∃ (E : Env) (QE : List D → Env → Prop), RelE K G H E σ ∧ t E QE ∧ ∀ ds E' vs H', QE ds E' → Ext H H' → RelE K G H' E' σ → RpL K H' ds vs → Q vs H'
structure EDs (X : Cx) (G : Gh) (es : List Expr) (t : TDs) : Prop where
  pa : PA X es (liftDs X.K G t)
def dNil : TDs := fun E Q => Q [] E
def dCons (t : TD) (u : TDs) : TDs := fun E Q => t E fun x E1 => u E1 fun ds E2 => Q (x :: ds) E2
theorem eds_nil : EDs X G [] dNil := ⟨PA.weak pa_nil fun σ H Q ⟨E, QE, r, q, k⟩ => k _ _ _ _ q (Ext.refl _) r .nil⟩
theorem eds_cons {t : TD} {u : TDs} (h : ED X G e t) (hr : EDs X G es u) (hs : starEach (e :: es) X.env = (false, eval e X.env) :: starEach es X.env := by rfl) : EDs X G (e :: es) (dCons t u) :=
  ⟨PA.weak (pa_cons h.pe hr.pa hs) fun σ H Q ⟨E, QE, r, q, k⟩ => ⟨E, _, r, q, fun x E1 v H1 q1 x1 r1 p1 => ⟨E1, _, r1, q1, fun as E2 vs H2 q2 x2 r2 p2 => k _ _ _ _ q2 (x1.trans x2) r2 (.cons (p1.ext x2) p2)⟩⟩⟩
/-- a tuple of written items: the new object is plain -/
theorem pe_tupF {x1 : Nat} {t : TA} (h : PA X es t) : PE X (.Tuple es x1 pos) (fun σ H Q => t σ H fun xs H1 => xs.length ≤ sizeLine ∧ ∀ p o, H1 p = none → o.dict = none → Q (.ref p) (upd H1 p (.frz o (.tup xs)))) :=
  ⟨fun pins s σ H Q I hq => wpAny_Tuple_spliced (thn (h.run pos pins s σ H _ I hq) fun us s1 ⟨xs, H1, I1, r, z, q⟩ => ⟨by rw [← r.length]; exact z,
    ⟨.ref s1.heap.objs.size, upd H1 s1.heap.objs.size (.frz { cls := .type "tuple", data := .seq us.toArray } (.tup xs)), I1.laid (t' := s1.toks) (fun b u e => Heap.get?_push_of_some _ e) (Nat.le_refl _) ⟨Heap.get?_push_size _ rfl, z, us, r, ⟨_, Heap.get?_push_size _ rfl, rfl, _, rfl⟩⟩, rfl, q _ _ (I1.hok.fresh (Nat.le_refl _)) rfl⟩⟩)⟩
def tTupD (t : TDs) : TD := fun E Q => t E fun ds E1 => ds.length ≤ sizeLine ∧ Q (.tuple ds) E1
theorem ed_tup {x1} {t : TDs} (h : EDs X G es t) : ED X G (.Tuple es x1 pos) (tTupD t) :=
  ⟨PE.weak (pe_tupF h.pa) fun σ H Q ⟨E, QE, r, q, k⟩ => ⟨E, _, r, q, fun ds E1 vs H1 q1 x1 r1 p1 => ⟨by rw [← p1.length]; exact q1.1, fun p o hp ho =>
    k _ _ _ _ q1.2 (x1.trans (PExt.new hp).ext) (r1.pext (PExt.new hp)) (.tup (.new ho) (p1.ext (PExt.new hp).ext))⟩⟩⟩
def tLstD (t : TDs) : TLd := fun E Q => t E fun ds E1 => ds.length ≤ sizeLine ∧ Q ds E1
theorem el_lst {t : TDs} (h : EDs X G es t) : EL X G (.List es pos) (tLstD t) :=
  ⟨PE.weak (pe_lst h.pa) fun σ H Q ⟨E, QE, r, q, k⟩ => ⟨E, _, r, q, fun ds E1 vs H1 q1 x1 r1 p1 => ⟨by rw [← p1.length]; exact q1.1, fun p hp => by
    obtain ⟨r2, h0, na⟩ := r1.fresh (o := .lst vs) hp
    exact k _ _ _ _ _ q1.2 (x1.trans (PExt.new hp).ext) r2 h0 na upd_same (p1.ext (PExt.new hp).ext)⟩⟩⟩
/-! ### assignments -/
def sSet (i : Nat) (t : TD) : TSd := fun DE E => t E fun d E1 => DE.nx (E1.set i (.d d))
theorem sd_set {i : Nat} {x : Str} {pos' : Pos} {t : TD} (hi : i ∉ G.slots) (hN : X.N.Nodup) (hx : X.N[i]? = some x) (hl : Loc X.env.scope x) (h : ED X G e t) (hs : swapsWith e (some (.Name x pos')) pos.line X.env = pure false := by rfl)
    (hf : X.fn x = true ∨ X.env.scope.names.lookup x = some .local := by first | exact .inl rfl | exact .inr rfl | assumption) : SD X G (.Assign [.Name x pos'] e pos) (sSet i t) :=
  ⟨PS.weak (ps_set hN hx hl h.pe hs hf) fun F σ H ⟨E, DE, r, q, k1, k2, k3, k4⟩ => ⟨E, _, r, q, fun d E1 v H1 q1 x1 r1 p1 => k1 _ _ _ q1 x1 (r1.setD hi p1)⟩⟩
def sSetL (i : Nat) (t : TLd) : TSd := fun DE E => t E fun d E1 => DE.nx (E1.set i (.ol d))
theorem sd_setL {i : Nat} {x : Str} {pos' : Pos} {t : TLd} (hi : i ∉ G.slots) (hN : X.N.Nodup) (hx : X.N[i]? = some x) (hl : Loc X.env.scope x) (h : EL X G e t) (hs : swapsWith e (some (.Name x pos')) pos.line X.env = pure false := by rfl)
    (hf : X.fn x = true ∨ X.env.scope.names.lookup x = some .local := by first | exact .inl rfl | exact .inr rfl | assumption) : SD X G (.Assign [.Name x pos'] e pos) (sSetL i t) :=
  ⟨PS.weak (ps_set hN hx hl h.pe hs hf) fun F σ H ⟨E, DE, r, q, k1, k2, k3, k4⟩ => ⟨E, _, r, q, fun d E1 a vs H1 q1 x1 r1 h0 na ha p1 => k1 _ _ _ q1 x1 (r1.setL (by simp) hi h0 ha p1)⟩⟩
/-! targets: ms the slots that they change -/
theorem wipe_setIn {σ : St} {i : Nat} {o : Option V} : ∀ {ms : List Nat}, i ∈ ms → wipe (σ.set i o) ms = wipe σ ms
  | m :: ms, h => by
    show (wipe (σ.set i o) ms).set m none = (wipe σ ms).set m none
    by_cases hi : i ∈ ms
    · rw [wipe_setIn hi]
    · have hm : i = m := by rcases List.mem_cons.mp h with z | z; exact z; exact absurd z hi
      subst hm
      have : ∀ (l : List Nat), i ∉ l → wipe (σ.set i o) l = (wipe σ l).set i o := by
        intro l
        induction l with
        | nil => intro _; rfl
        | cons k l ih =>
          intro hk
          show (wipe (σ.set i o) l).set k none = ((wipe σ l).set k none).set i o
          rw [ih (fun z => hk (List.mem_cons_of_mem _ z)), List.set_comm _ _ (fun z => hk (by simp [z]))]
      rw [this ms hi, List.set_set]
abbrev TGd := D → Env → (Env → Prop) → Prop
def liftG (W : Bool) (K : PySem.W.Frag) (G : Gh) (ms : List Nat) (t : TGd) : TG := fun v σ H Q => ∃ (E : Env) (d : D) (QE : Env → Prop), RelE K G H E σ ∧ RpB W K H d v ∧ t d E QE ∧ ∀ E' σ' H', QE E' → Ext H H' → RelE K G H' E' σ' → wipe σ' ms = wipe σ ms → Q σ' H'
structure GD (X : Cx) (G : Gh) (W : Bool) (ms : List Nat) (tg : Expr) (t : TGd) : Prop where
  pg : PG X tg (liftG W X.K G ms t)
theorem PG.weak {tg : Expr} {t u : TG} (h : PG X tg t) (w : ∀ v σ H Q, u v σ H Q → t v σ H Q) : PG X tg u := ⟨fun pins s σ H v x Q I r q => h.run pins s σ H v x Q I r (w v σ H Q q)⟩
def gSet (i : Nat) : TGd := fun d E Q => Q (E.set i (.d d))
theorem gd_name {i : Nat} {x : Str} {ms : List Nat} (hi : i ∉ G.slots) (hm : i ∈ ms) (hN : X.N.Nodup) (hx : X.N[i]? = some x) (hl : Loc X.env.scope x) (hf : X.fn x = true ∨ X.env.scope.names.lookup x = some .local := by first | exact .inl rfl | exact .inr rfl | assumption) : GD X G false ms (.Name x pos) (gSet i) :=
  ⟨PG.weak (pg_name hN hx hl hf) fun v σ H Q ⟨E, d, QE, r, p, q, k⟩ => k _ _ _ q (Ext.refl _) (r.setD hi p) (wipe_setIn hm)⟩
abbrev TGsd := List D → Env → (Env → Prop) → Prop
def liftGs (K : PySem.W.Frag) (G : Gh) (ms : List Nat) (t : TGsd) : TGs := fun vs σ H Q => ∃ (E : Env) (ds : List D) (QE : Env → Prop), RelE K G H E σ ∧ RpL K H ds vs ∧ t ds E QE ∧ ∀ E' σ' H', QE E' → Ext H H' → RelE K G H' E' σ' → wipe σ' ms = wipe σ ms → Q σ' H'
structure GDs (X : Cx) (G : Gh) (ms : List Nat) (tgs : List Expr) (t : TGsd) : Prop where
  pg : PGs X tgs (liftGs X.K G ms t)
theorem PGs.weak {tgs : List Expr} {t u : TGs} (h : PGs X tgs t) (w : ∀ v σ H Q, u v σ H Q → t v σ H Q) : PGs X tgs u := ⟨fun pins s σ H v x Q I r q => h.run pins s σ H v x Q I r (w v σ H Q q)⟩
def gsNil : TGsd := fun ds E Q => match ds with
  | [] => Q E
  | _ => False
def gsCons (t : TGd) (u : TGsd) : TGsd := fun ds E Q => match ds with
  | d :: r => t d E fun E1 => u r E1 Q
  | _ => False
theorem gds_nil {ms : List Nat} : GDs X G ms [] gsNil := ⟨PGs.weak pgs_nil fun vs σ H Q ⟨E, ds, QE, r, p, q, k⟩ => by
  cases p with
  | nil => exact ⟨rfl, k _ _ _ q (Ext.refl _) r rfl⟩
  | cons _ _ => exact q.elim⟩
theorem gds_cons {ms : List Nat} {t : TGd} {u : TGsd} (h1 : GD X G false ms e t) (h2 : GDs X G ms es u) (hs : (assignEach (e :: es) X.env).map (·.2) = assign e X.env :: (assignEach es X.env).map (·.2) := by rfl) : GDs X G ms (e :: es) (gsCons t u) := ⟨PGs.weak (pgs_cons h1.pg h2.pg hs) fun vs σ H Q ⟨E, ds, QE, r, p, q, k⟩ => by
  cases p with
  | nil => exact q.elim
  | cons p1 p2 => exact ⟨_, _, rfl, E, _, _, r, .of p1, q, fun E1 σ1 H1 q1 x1 r1 w1 => ⟨E1, _, QE, r1, p2.ext x1, q1, fun E2 σ2 H2 q2 x2 r2 w2 => k _ _ _ q2 (x1.trans x2) r2 (w2.trans w1)⟩⟩⟩
/-- a tuple of targets: n of them -/
def gTupD (n : Nat) (u : TGsd) : TGd := fun d E Q => match d with
  | .tuple ds => ds.length = n ∧ u ds E Q
  | _ => False
theorem gd_tup {W : Bool} {ms : List Nat} {k n : Nat} {u : TGsd} (hc : X.calm = true) (h : GDs X G ms es u) (hn : (assignEach es X.env).length = n := by rfl) (hst : (assignEach es X.env).findIdx? (·.1) = none := by rfl) : GD X G W ms (.Tuple es k pos) (gTupD n u) :=
  ⟨PG.weak (pg_tup hc h.pg hn hst) fun v σ H Q ⟨E, d, QE, r, p, q, k⟩ => by
    have strong : Rp X.K H d v → gTup X.K n (liftGs X.K G ms u) v σ H Q := fun p => by
      cases p with
      | tup hs l => exact ⟨_, _, rfl, hs.1, by rw [← l.length]; exact q.1, E, _, QE, r, l, q.2, k⟩
      | _ => exact q.elim
    unfold RpB at p
    split at p
    · rcases p with p | ⟨ds, a, vs, rfl, rfl, hs, l⟩
      · exact strong p
      · exact ⟨_, _, rfl, hs, by rw [← l.length]; exact q.1, E, _, QE, r, l, q.2, k⟩
    · exact strong p⟩
/-- targets = e -/
def sAsg (t : TD) (g : TGd) : TSd := fun DE E => t E fun d E1 => g d E1 DE.nx
end
end DL
set_option Elab.async false
set_option linter.all false
set_option maxRecDepth 100000
namespace DL
open PySem PySem.Spec PyProof.Rows L2
/-! ### a thing that nobody else has, kept while something else runs -/
def pend (G : Gh) (a : Addr) (o : HO) : Gh := { H0 := upd G.H0 a o, own := G.own, X0 := G.X0, more := G.more }
section
variable {K : PySem.W.Frag} {G : Gh} {H H' : Hp} {E : Env} {σ : St} {ex : List Addr}
theorem RelX.toPend {a : Addr} {o : HO} (r : RelX K G (a :: ex) H E σ) (ha : H a = some o) (na : a ∉ G.addrs) : RelX K (pend G a o) ex H E σ := by
  obtain ⟨l, k, pn, dm, x0, A, h1, h2, h3⟩ := r
  refine ⟨l, fun p u e ne => ?_, pn, dm, x0, A, h1, fun i b e => ⟨?_, fun q => (h2 i b e).2 (List.mem_cons_of_mem _ q)⟩, h3⟩
  · by_cases z : p = a
    · subst z
      have : (pend G p o).H0 p = some o := upd_same
      rw [this] at e; cases e; exact ha
    · have e' : G.H0 p = some u := by
        have : (pend G a o).H0 p = G.H0 p := upd_ne z
        rw [this] at e; exact e
      exact k p u e' ne
  · have hb := h2 i b e
    have z : b ≠ a := by intro z; exact hb.2 (by simp [z])
    rcases hb.1 with q | q
    · exact .inl q
    · exact .inr (by show upd G.H0 a o b = none; rw [upd_ne z]; exact q)
theorem RelX.ofPend {a : Addr} {o : HO} (r : RelX K (pend G a o) ex H E σ) (h0 : G.H0 a = none) (na : a ∉ G.addrs) : RelX K G (a :: ex) H E σ ∧ H a = some o := by
  obtain ⟨l, k, pn, dm, x0, A, h1, h2, h3⟩ := r
  refine ⟨⟨l, fun p u e ne => ?_, pn, dm, x0, A, h1, fun i b e => ?_, h3⟩, ?_⟩
  · have z : p ≠ a := by rintro rfl; rw [h0] at e; cases e
    exact k p u (by show upd G.H0 a o p = some u; rw [upd_ne z]; exact e) ne
  · have hb := (h2 i b e).1
    have z : b ≠ a := by
      rintro rfl
      rcases hb with q | q
      · exact na q
      · have : upd G.H0 b o b = none := q
        rw [upd_same] at this; cases this
    refine ⟨?_, fun q => by
      rcases List.mem_cons.mp q with q | q
      · exact z q
      · exact (h2 i b e).2 q⟩
    rcases hb with q | q
    · exact .inl q
    · exact .inr (by have : upd G.H0 a o b = none := q; rw [upd_ne z] at this; exact this)
  · exact k a o upd_same na
end
/-! ### what is walked -/
structure WalkD (W : Bool) (K : PySem.W.Frag) (J : It) (H0 : Hp) (ds : List D) : Prop where
  goes : ∀ i H, Ext H0 H → i < ds.length → J.go i H
  yld : ∀ i H x H', Ext H0 H → i < ds.length → J.yld i H x H' → PExt H H' ∧ ∃ d, ds[i]? = some d ∧ RpB W K H' d x
  stops : ∀ H, Ext H0 H → J.stop ds.length H
def liftI (W : Bool) (K : PySem.W.Frag) (G : Gh) (t : TDs) : TI := fun σ H R => ∃ (E : Env) (QE : List D → Env → Prop), RelE K G H E σ ∧ t E QE ∧ ∀ ds E' J H', QE ds E' → Ext H H' → RelE K G H' E' σ → WalkD W K J H' ds → R J H'
structure ID (X : Cx) (G : Gh) (W : Bool) (tg iter : Expr) (t : TDs) : Prop where
  pi : PI X tg iter (liftI W X.K G t)
theorem PI.weak {X : Cx} {tg iter : Expr} {t u : TI} (h : PI X tg iter t) (w : ∀ σ H R, u σ H R → t σ H R) : PI X tg iter u := ⟨fun pins s σ H R I q => h.run pins s σ H R I (w σ H R q)⟩
section
variable {X : Cx} {G : Gh} {tg iter e : Expr} {pos : Pos}
/-- over data that is a tuple -/
def iTupD (t : TD) : TDs := fun E Q => t E fun d E1 => match d with
  | .tuple ds => Q ds E1
  | _ => False
def iLstD (t : TD) : TDs := fun E Q => t E fun d E1 => match d with
  | .list ds => Q ds E1
  | _ => False
theorem walkD_tup {K : PySem.W.Frag} {H : Hp} {a : Addr} {vs : List V} {ds : List D} (h : SqT K H a vs) (l : RpL K H ds vs) : WalkD false K (Itt K a) H ds where
  goes := fun i H' x hi => by
    rw [l.length] at hi
    exact ⟨vs, vs[i], SqT.ext x h, List.getElem?_eq_getElem hi⟩
  yld := fun i H' v H2 x hi hy => by
    obtain ⟨e1, e2⟩ := hy
    subst e1
    have hv := e2 vs (SqT.ext x h)
    obtain ⟨d, hd, p⟩ := l.getV hv
    exact ⟨PExt.refl _, d, hd, p.ext x⟩
  stops := fun H' x => ⟨vs, SqT.ext x h, by rw [l.length]; exact Nat.le_refl _⟩
theorem walkD_lst {K : PySem.W.Frag} {H : Hp} {a : Addr} {vs : List V} {ds : List D} (h : LsF K H a vs) (l : RpL K H ds vs) : WalkD false K (Itl K a) H ds where
  goes := fun i H' x hi => by
    rw [l.length] at hi
    exact ⟨vs, vs[i], (LsF.ext x h).sq, List.getElem?_eq_getElem hi⟩
  yld := fun i H' v H2 x hi hy => by
    obtain ⟨e1, e2⟩ := hy
    subst e1
    have hv := e2 vs ((LsF.ext x h).sq)
    obtain ⟨d, hd, p⟩ := l.getV hv
    exact ⟨PExt.refl _, d, hd, p.ext x⟩
  stops := fun H' x => ⟨vs, (LsF.ext x h).sq, by rw [l.length]; exact Nat.le_refl _⟩
theorem id_tup {t : TD} (h : ED X G iter t) : ID X G false tg iter (iTupD t) :=
  ⟨PI.weak (pi_tup h.pe) fun σ H R ⟨E, QE, r, q, k⟩ => ⟨E, _, r, q, fun d E1 v H1 q1 x1 r1 p1 => by
    cases p1 with
    | tup hs l => exact ⟨_, rfl, ⟨_, hs.1⟩, k _ _ _ _ q1 x1 r1 (walkD_tup hs.1 l)⟩
    | _ => exact q1.elim⟩⟩
theorem id_lst {t : TD} (h : ED X G iter t) : ID X G false tg iter (iLstD t) :=
  ⟨PI.weak (pi_list h.pe) fun σ H R ⟨E, QE, r, q, k⟩ => ⟨E, _, r, q, fun d E1 v H1 q1 x1 r1 p1 => by
    cases p1 with
    | lst hs l => exact ⟨_, rfl, ⟨_, hs.sq⟩, k _ _ _ _ q1 x1 r1 (walkD_lst hs l)⟩
    | _ => exact q1.elim⟩⟩
/-! ranges -/
def rangeD (lo : Int) (n : Nat) : List D := (List.range n).map fun i : Nat => PyData.int (lo + (i : Int))
theorem rangeD_length (lo : Int) (n : Nat) : (rangeD lo n).length = n := by simp [rangeD]
theorem rangeD_get {lo : Int} {n i : Nat} (h : i < n) : (rangeD lo n)[i]? = some (.int (lo + (i : Int))) := by
  simp [rangeD, h]
theorem walkD_range {K : PySem.W.Frag} {H : Hp} {lo : Int} {n : Nat} : WalkD false K (Itr lo n) H (rangeD lo n) where
  goes := fun i H' x hi => by rw [rangeD_length] at hi; exact hi
  yld := fun i H' v H2 x hi hy => by
    obtain ⟨rfl, rfl⟩ := hy
    rw [rangeD_length] at hi
    exact ⟨PExt.refl _, _, rangeD_get hi, .int _⟩
  stops := fun H' x => by rw [rangeD_length]; exact Nat.le_refl _
def iRange1 (t : TD) : TDs := fun E Q => t E fun d E1 => match d with
  | .int j => (-(2 ^ 62) ≤ j ∧ j < 2 ^ 62) ∧ Q (rangeD 0 j.toNat) E1
  | _ => False
theorem id_range1 {a : Expr} {t : TD} {p : Pos} (hg : Gl X "range") (hm : X.mg "range" = none) (h : ED X G a t) (hs : starEach [a] X.env = [(false, eval a X.env)] := by rfl) : ID X G false tg (.Call (.Name "range" p) [a] [] pos) (iRange1 t) :=
  ⟨PI.weak (pi_range1 hg hm (pa_cons h.pe pa_nil hs) hs) fun σ H R ⟨E, QE, r, q, k⟩ => ⟨E, _, r, q, fun d E1 v H1 q1 x1 r1 p1 => by
    cases p1 with
    | int i => exact ⟨i, rfl, q1.1.1, q1.1.2, k _ _ _ _ q1.2 x1 r1 walkD_range⟩
    | _ => exact q1.elim⟩⟩
def iRange2 (t u : TD) : TDs := fun E Q => t E fun d E1 => u E1 fun f E2 => match d, f with
  | .int i, .int j => (-(2 ^ 62) ≤ i ∧ i < 2 ^ 62 ∧ -(2 ^ 62) ≤ j ∧ j < 2 ^ 62) ∧ Q (rangeD i (j - i).toNat) E2
  | _, _ => False
/-! ### for -/
def forD (g : TGd) (tb : TSd) : List D → TSd
  | [] => fun DE E => DE.nx E
  | d :: ds => fun DE E => g d E fun E1 => tb { DE with nx := forD g tb ds DE, ct := forD g tb ds DE, bk := DE.nx } E1
def sFor (ti : TDs) (g : TGd) (tb : TSd) : TSd := fun DE E => ti E fun ds E1 => forD g tb ds DE E1
theorem sd_for {W : Bool} {body : List Stmt} {ti : TDs} {g : TGd} {tb : TSd} (hp : PassesOwn (model X.prog X.w) X.A X.env X.xe) (hc : X.calm = true) (hi : ID X G W tg iter ti) {ms : List Nat} (hg : GD X G W ms tg g) (hb : SDs X G body tb)
    (hs : ∀ x, foldedSetIterable iter X.env x = pure x := by intro _; rfl) : SD X G (.For tg iter body [] pos) (sFor ti g tb) := by
  refine ⟨PS.weak (ps_for hp hc hi.pi hg.pg hb.pss hs) fun F σ H ⟨E, DE, r, q, k1, k2, k3, k4⟩ => ⟨E, _, r, q, fun ds E1 J H1 q1 x1 r1 wk => ?_⟩⟩
  refine ⟨fun i m σ' H' => ∃ E', i + m = ds.length ∧ Ext H1 H' ∧ RelE X.K G H' E' σ' ∧ forD g tb (ds.drop i) DE E', ⟨ds.length, E1, by omega, Ext.refl _, r1, q1⟩, fun i m σ2 H2 hW => ?_⟩
  obtain ⟨E2, hm, x2, r2, q2⟩ := hW
  by_cases hi : i < ds.length
  · obtain ⟨d, hd⟩ : ∃ d, ds[i]? = some d := ⟨ds[i], List.getElem?_eq_getElem hi⟩
    have hdr : ds.drop i = d :: ds.drop (i + 1) := by
      rw [List.drop_eq_getElem_cons hi]
      rw [List.getElem?_eq_getElem hi] at hd
      rw [Option.some.inj hd]
    rw [hdr] at q2
    refine .inr ⟨wk.goes i H2 x2 hi, fun σ' H' => ∃ E', Ext H1 H' ∧ RelE X.K G H' E' σ' ∧ forD g tb (ds.drop (i + 1)) DE E', fun σ' H' ⟨E', a1, a2, a3⟩ => ⟨m - 1, by omega, E', by omega, a1, a2, a3⟩, fun x H3 hy => ?_⟩
    obtain ⟨px, d', hd', p⟩ := wk.yld i H2 x H3 x2 hi hy
    rw [hd] at hd'; cases hd'
    refine ⟨E2, d, _, r2.pext px, p, q2, fun E4 σ4 H4 q4 x4 r4 _ => ?_⟩
    have xx : Ext H1 H4 := (x2.trans px.ext).trans x4
    refine ⟨E4, _, r4, q4, fun E5 σ5 H5 z x5 r5 => ⟨E5, xx.trans x5, r5, z⟩, fun d E5 v σ5 H5 z x5 r5 p5 => k2 d E5 v σ5 H5 z ((x1.trans xx).trans x5) r5 p5, fun E5 σ5 H5 z x5 r5 => k1 E5 σ5 H5 z ((x1.trans xx).trans x5) r5, fun E5 σ5 H5 z x5 r5 => ⟨E5, xx.trans x5, r5, z⟩⟩
  · have e0 : ds.drop i = [] := List.drop_eq_nil_of_le (by omega)
    have ei : i = ds.length := by omega
    rw [e0] at q2
    refine .inl ⟨by rw [ei]; exact wk.stops H2 x2, k1 _ _ _ q2 (x1.trans x2) r2⟩
/-! ### while -/
/-! ### comprehensions -/
def wipeE (E : Env) : List Nat → Env
  | [] => E
  | v :: vs => (wipeE E vs).set v .un
def datOf : Option S → S
  | some (.d x) => .d x
  | _ => .un
/-- behind a comprehension: its own names are as they were -/
def restE (E0 E : Env) : List Nat → Env
  | [] => E
  | v :: vs => (restE E0 E vs).set v (datOf E0[v]?)
/-- one turn: an item, or none -/
def turnD (g : TGd) (tt : TTd) (te : TD) (d : D) (E : Env) (Q : Option D → Env → Prop) : Prop :=
  g d E fun E1 => tt E1 fun b E2 => if b = true then te E2 fun y E3 => Q (some y) E3 else Q none E2
def compD (g : TGd) (tt : TTd) (te : TD) (ms : List Nat) : List D → List D → Env → (List D → Env → Prop) → Prop
  | [], acc, E, Q => Q acc E
  | d :: ds, acc, E, Q => turnD g tt te d (wipeE E ms) fun o E' => match o with
    | some y => acc.length < sizeLine ∧ compD g tt te ms ds (acc ++ [y]) E' Q
    | none => compD g tt te ms ds acc E' Q
def tComp (ti : TDs) (g : TGd) (tt : TTd) (te : TD) (ms : List Nat) : TLd := fun E Q => ti E fun ds E1 => compD g tt te ms ds [] E1 fun xs E2 => Q xs (restE E1 E2 ms)
def tTrue : TTd := fun E Q => Q true E
structure EBs (X : Cx) (G : Gh) (ifs : List Expr) (t : TTd) : Prop where
  pt : PTs X ifs (liftT X.K G t)
theorem PTs.weak {ifs : List Expr} {t u : TT} (h : PTs X ifs t) (w : ∀ σ H Q, u σ H Q → t σ H Q) : PTs X ifs u := ⟨fun pins s σ H Q I q => h.run pins s σ H Q I (w σ H Q q)⟩
theorem ebs_nil : EBs X G [] tTrue := ⟨PTs.weak pts_nil fun σ H Q ⟨E, QE, r, q, k⟩ => k _ _ _ q (Ext.refl _) r⟩
theorem ebs_one {c : Expr} {t : TTd} (h : EB X G c t) : EBs X G [c] t := ⟨pts_one h.pt⟩
theorem RelX.wipe1 {K : PySem.W.Frag} {ex : List Addr} {H : Hp} {E : Env} {σ : St} {i : Nat} (r : RelX K G ex H E σ) (hi : i ∉ G.slots) : RelX K G ex H (E.set i .un) (σ.set i none) := by
  obtain ⟨l, k, pn, dm, x0, A, h1, h2, h3⟩ := r
  refine ⟨by simp [l], k, fun j a hj => ?_, dm, x0, fun j => if j = i then [] else A j, fun j m a e1 e2 => ?_, fun j a e1 => ?_, fun j s e => ?_⟩
  · have : i ≠ j := fun z => notin_slots hi a (z ▸ hj)
    rw [List.getElem?_set_ne this]; exact pn j a hj
  · by_cases z : j = i
    · simp [z] at e1
    · by_cases z2 : m = i
      · simp [z2] at e2
      · simp only [z, z2, if_false] at e1 e2; exact h1 j m a e1 e2
  · by_cases z : j = i
    · simp [z] at e1
    · simp only [z, if_false] at e1; exact h2 j a e1
  · by_cases z : j = i
    · subst z
      by_cases hl : j < E.length
      · rw [List.getElem?_set_self hl] at e
        cases e
        simp [RelS]
      · rw [List.getElem?_eq_none (by simpa using hl)] at e; cases e
    · rw [List.getElem?_set_ne (Ne.symm z)] at e
      rw [List.getElem?_set_ne (Ne.symm z)]
      simp only [z, if_false]; exact h3 j s e
theorem RelX.wipe {K : PySem.W.Frag} {ex : List Addr} {H : Hp} {E : Env} {σ : St} (r : RelX K G ex H E σ) : ∀ {ms : List Nat}, (∀ i ∈ ms, i ∉ G.slots) → RelX K G ex H (wipeE E ms) (wipe σ ms)
  | [], _ => r
  | i :: ms, h => (RelX.wipe r fun j hj => h j (List.mem_cons_of_mem _ hj)).wipe1 (h i (List.mem_cons_self ..))
theorem wipe_get {σ : St} {i : Nat} : ∀ {ms : List Nat}, i ∉ ms → (L2.wipe σ ms)[i]? = σ[i]?
  | [], _ => rfl
  | v :: vs, h => by
    show ((L2.wipe σ vs).set v none)[i]? = _
    rw [List.getElem?_set_ne (fun z => h (by simp [z])), wipe_get fun z => h (List.mem_cons_of_mem _ z)]
/-- behind a comprehension: the slots of before -/
theorem RelX.rest {K : PySem.W.Frag} {ex : List Addr} {H1 H : Hp} {E1 E : Env} {σ σ2 : St} {ms : List Nat} (r1 : RelE K G H1 E1 σ) (x : Ext H1 H) (r : RelX K G ex H E σ2) (hw : L2.wipe σ2 ms = L2.wipe σ ms) (hm : ∀ i ∈ ms, i ∉ G.slots) : RelX K G ex H (restE E1 E ms) σ := by
  have hl : σ2.length = σ.length := by rw [← wipe_length σ2 ms, hw, wipe_length]
  have rl : ∀ (l : List Nat), (restE E1 E l).length = E.length := by
    intro l
    induction l with
    | nil => rfl
    | cons v vs ih => show ((restE E1 E vs).set v _).length = _; rw [List.length_set, ih]
  have rg : ∀ (l : List Nat) (i : Nat), i ∉ l → (restE E1 E l)[i]? = E[i]? := by
    intro l
    induction l with
    | nil => intro i _; rfl
    | cons v vs ih => intro i h; show ((restE E1 E vs).set v _)[i]? = _; rw [List.getElem?_set_ne (fun z => h (by simp [z])), ih i fun z => h (List.mem_cons_of_mem _ z)]
  have rin : ∀ (l : List Nat) (i : Nat) (s : S), i ∈ l → (restE E1 E l)[i]? = some s → s = datOf E1[i]? := by
    intro l
    induction l with
    | nil => intro i s h; cases h
    | cons v vs ih =>
      intro i s h e
      have e : ((restE E1 E vs).set v (datOf E1[v]?))[i]? = some s := e
      by_cases z : v = i
      · subst z
        by_cases hv : v < (restE E1 E vs).length
        · rw [List.getElem?_set_self hv] at e; exact (Option.some.inj e).symm
        · rw [List.getElem?_eq_none (by simpa using hv)] at e; cases e
      · rw [List.getElem?_set_ne z] at e
        exact ih i s (by rcases List.mem_cons.mp h with q | q; exact absurd q.symm z; exact q) e
  obtain ⟨l, k, pn, dm, x0, A, h1, h2, h3⟩ := r
  have same : ∀ i, i ∉ ms → σ2[i]? = σ[i]? := fun i hi => by rw [← wipe_get (σ := σ2) hi, hw, wipe_get hi]
  refine ⟨by rw [rl, l, hl], k, fun i a ha => ?_, dm, x0, fun i => if i ∈ ms then [] else A i, fun i j a e1 e2 => ?_, fun i a e => ?_, fun i s e => ?_⟩
  · have : i ∉ ms := fun z => notin_slots (hm i z) a ha
    rw [← same i this]; exact pn i a ha
  · dsimp only at e1 e2
    split at e1
    · cases e1
    · split at e2
      · cases e2
      · exact h1 i j a e1 e2
  · dsimp only at e
    split at e
    · cases e
    · exact h2 i a e
  · by_cases hi : i ∈ ms
    · simp only [hi, if_true]
      have es := rin ms i s hi e
      subst es
      cases q : E1[i]? with
      | none => exact rfl
      | some s =>
        cases s with
        | d y =>
          obtain ⟨v, e1, p⟩ := r1.data q
          exact ⟨rfl, v, e1, p.ext x⟩
        | _ => exact rfl
    · simp only [hi, if_false]
      rw [rg ms i hi] at e
      rw [← same i hi]
      exact h3 i s e
abbrev anyG (W : Bool) (K : PySem.W.Frag) (G : Gh) (ms : List Nat) (g : TGd) : TG := fun v σ H Q => ∃ G' : Gh, G'.slots = G.slots ∧ liftG W K G' ms g v σ H Q
abbrev anyT (K : PySem.W.Frag) (G : Gh) (tt : TTd) : TT := fun σ H Q => ∃ G' : Gh, G'.slots = G.slots ∧ liftT K G' tt σ H Q
abbrev anyE (K : PySem.W.Frag) (G : Gh) (te : TD) : TE := fun σ H Q => ∃ G' : Gh, G'.slots = G.slots ∧ liftE K G' te σ H Q
theorem lift_comp {W : Bool} {ti : TDs} {g : TGd} {tt : TTd} {te : TD} {ms : List Nat} (hm : ∀ i ∈ ms, i ∉ G.slots) (σ : St) (H : Hp) (Q : VK) (h : liftL X.K G (tComp ti g tt te ms) σ H Q) : tLc (liftI W X.K G ti) (anyG W X.K G ms g) (anyT X.K G tt) (anyE X.K G te) ms σ H Q := by
  obtain ⟨E, QE, r, q, k⟩ := h
  refine ⟨E, _, r, q, fun ds E1 J H1 q1 x1 r1 wk L hL => ?_⟩
  obtain ⟨rL, h0, na⟩ := r1.fresh (o := .lst []) hL
  refine ⟨fun i m H' => ∃ (E' : Env) (σ' : St) (acc : List D) (vs : List V), i + m = ds.length ∧ Ext (upd H1 L (.lst [])) H' ∧ RelX X.K G [L] H' E' σ' ∧ L2.wipe σ' ms = L2.wipe σ ms ∧ H' L = some (.lst vs) ∧ RpL X.K H' acc vs ∧
    compD g tt te ms (ds.drop i) acc E' fun xs E2 => QE xs (restE E1 E2 ms), ⟨ds.length, E1, σ, [], [], by omega, Ext.refl _, rL, rfl, upd_same, .nil, q1⟩, fun i m H2 hW => ?_⟩
  obtain ⟨E2, σ2, acc, vs, hm2, x2, r2, w2, a2, p2, q2⟩ := hW
  have xL : Ext H1 H2 := (PExt.new hL).ext.trans x2
  by_cases hi : i < ds.length
  · obtain ⟨d, hd⟩ : ∃ d, ds[i]? = some d := ⟨ds[i], List.getElem?_eq_getElem hi⟩
    have hdr : ds.drop i = d :: ds.drop (i + 1) := by
      rw [List.drop_eq_getElem_cons hi]
      rw [List.getElem?_eq_getElem hi] at hd
      rw [Option.some.inj hd]
    rw [hdr] at q2
    refine .inr ⟨wk.goes i H2 xL hi, fun H' => ∃ (E' : Env) (σ' : St) (acc : List D) (vs : List V), Ext (upd H1 L (.lst [])) H' ∧ RelX X.K G [L] H' E' σ' ∧ L2.wipe σ' ms = L2.wipe σ ms ∧ H' L = some (.lst vs) ∧ RpL X.K H' acc vs ∧
      compD g tt te ms (ds.drop (i + 1)) acc E' fun xs E2 => QE xs (restE E1 E2 ms), fun H' ⟨E', σ', acc, vs, b1, b2, b3, b4, b5, b6⟩ => ⟨m - 1, by omega, E', σ', acc, vs, by omega, b1, b2, b3, b4, b5, b6⟩, fun x H3 hy => ?_⟩
    obtain ⟨px, d', hd', p⟩ := wk.yld i H2 x H3 xL hi hy
    rw [hd] at hd'; cases hd'
    have hs0 : (pend G L (.lst vs)).slots = G.slots := rfl
    have r3 : RelE X.K (pend G L (.lst vs)) H3 (wipeE E2 ms) (L2.wipe σ ms) := by
      have := ((r2.pext px).wipe hm).toPend (px _ _ a2) na
      rw [w2] at this; exact this
    refine ⟨pend G L (.lst vs), hs0, _, d, _, r3, p, q2, fun E4 σ4 H4 q4 x4 r4 w4 => ?_⟩
    have ww : ∀ (l : List Nat), L2.wipe (L2.wipe σ l) l = L2.wipe σ l := by
      intro l
      have : ∀ (τ : St) (l k : List Nat), (∀ j ∈ l, j ∈ k) → (∀ j ∈ k, ∀ v, τ[j]? = some v → v = none) → L2.wipe τ l = τ := by
        intro τ l
        induction l with
        | nil => intro _ _ _; rfl
        | cons v vs ih =>
          intro k hk hn
          show (L2.wipe τ vs).set v none = τ
          rw [ih k (fun j hj => hk j (List.mem_cons_of_mem _ hj)) hn]
          refine List.ext_getElem? fun j => ?_
          by_cases hv : v = j
          · subst hv
            by_cases hl : v < τ.length
            · rw [List.getElem?_set_self hl]
              have := hn v (hk v (List.mem_cons_self ..)) _ (List.getElem?_eq_getElem hl)
              rw [List.getElem?_eq_getElem hl, this]
            · rw [List.getElem?_eq_none (by simpa using hl), List.getElem?_eq_none (by simpa using hl)]
          · rw [List.getElem?_set_ne hv]
      refine this _ l l (fun j hj => hj) fun j hj v e => ?_
      cases v with
      | none => rfl
      | some y => exact absurd hj (wipe_some e).2
    refine ⟨by rw [w4]; exact ww ms, pend G L (.lst vs), hs0, E4, _, r4, q4, fun b E5 H5 q5 x5 r5 => ?_⟩
    have w45 : L2.wipe σ4 ms = L2.wipe σ ms := by rw [w4]; exact ww ms
    have x5' : Ext (upd H1 L (.lst [])) H5 := ((x2.trans px.ext).trans x4).trans x5
    cases b with
    | false =>
      rw [if_neg Bool.false_ne_true] at q5
      refine iteF ?_
      obtain ⟨r6, a6⟩ := RelX.ofPend r5 h0 na
      exact ⟨E5, σ4, acc, vs, x5', r6, w45, a6, p2.ext ((px.ext.trans x4).trans x5), q5⟩
    | true =>
      rw [if_pos rfl] at q5
      refine iteT ?_
      refine ⟨pend G L (.lst vs), hs0, E5, _, r5, q5, fun y E6 u H6 q6 x6 r6 p6 => ?_⟩
      obtain ⟨r7, a7⟩ := RelX.ofPend r6 h0 na
      have pv := p2.ext (((px.ext.trans x4).trans x5).trans x6)
      have xp : Ext H6 (upd H6 L (.lst (vs ++ [u]))) := Ext.put a7
      refine ⟨vs, a7, by rw [← pv.length]; exact q6.1, E6, σ4, acc ++ [y], vs ++ [u], (x5'.trans x6).trans xp, ?_, w45, upd_same, (RpL.append pv (.cons p6 .nil)).ext xp, q6.2⟩
      -- the list L grows: apart from all footprints
      obtain ⟨l, kk, pn, dm, x0, A, h1, h2, h3⟩ := r7
      refine ⟨l, fun p o e ne => ?_, pn, fun p hp => ?_, x0.trans xp, fun j => if E6[j]? = none then [] else A j, fun i j b e1 e2 => ?_, fun i b e => ?_, fun j s e => ?_⟩
      · have : p ≠ L := by rintro rfl; rw [h0] at e; cases e
        rw [upd_ne this]; exact kk p o e ne
      · have : p ≠ L := by rintro rfl; exact na hp
        rw [upd_ne this]; exact dm p hp
      · dsimp only at e1 e2
        split at e1
        · cases e1
        · split at e2
          · cases e2
          · exact h1 i j b e1 e2
      · dsimp only at e
        split at e
        · cases e
        · exact h2 i b e
      · have : E6[j]? ≠ none := by rw [e]; simp
        simp only [this, if_false]
        exact (h3 j s e).move xp fun p hp => upd_ne (by rintro rfl; exact (h2 j p hp).2 (by simp))
  · have e0 : ds.drop i = [] := List.drop_eq_nil_of_le (by omega)
    have ei : i = ds.length := by omega
    rw [e0] at q2
    exact .inl ⟨by rw [ei]; exact wk.stops H2 xL, k _ _ _ _ _ q2 (x1.trans xL) (RelX.rest r1 xL r2 w2 hm) h0 na a2 p2⟩
theorem comp_parts {W : Bool} {elt tg : Expr} {ifs : List Expr} {scope : Scope} {g : TGd} {tt : TTd} {te : TD} {ms : List Nat}
    (hg : ∀ (G' : Gh), G'.slots = G.slots → ∀ (s : Shared) (H : Hp) (C : Addr) (cl : List (Str × Addr)) (fp : List Addr), GD (X.blk s H scope (compEnvC scope cl C X.env) fp) G' W ms tg g)
    (ht : ∀ (G' : Gh), G'.slots = G.slots → ∀ (s : Shared) (H : Hp) (C : Addr) (cl : List (Str × Addr)) (fp : List Addr), EBs (X.blk s H scope (compEnvC scope cl C X.env) fp) G' ifs tt)
    (he : ∀ (G' : Gh), G'.slots = G.slots → ∀ (s : Shared) (H : Hp) (C : Addr) (cl : List (Str × Addr)) (fp : List Addr), ED (X.blk s H scope (compEnvC scope cl C X.env) fp) G' elt te) :
    (∀ (s : Shared) (H : Hp) (C : Addr) (cl : List (Str × Addr)) (fp : List Addr), PG (X.blk s H scope (compEnvC scope cl C X.env) fp) tg (anyG W X.K G ms g)) ∧
    (∀ (s : Shared) (H : Hp) (C : Addr) (cl : List (Str × Addr)) (fp : List Addr), PTs (X.blk s H scope (compEnvC scope cl C X.env) fp) ifs (anyT X.K G tt)) ∧
    (∀ (s : Shared) (H : Hp) (C : Addr) (cl : List (Str × Addr)) (fp : List Addr), PE (X.blk s H scope (compEnvC scope cl C X.env) fp) elt (anyE X.K G te)) :=
  ⟨fun s H C cl fp => ⟨fun pins s' σ H' v x Q I r ⟨G', hG', q⟩ => (hg G' hG' s H C cl fp).pg.run pins s' σ H' v x Q I r q⟩,
   fun s H C cl fp => ⟨fun pins s' σ H' Q I ⟨G', hG', q⟩ => (ht G' hG' s H C cl fp).pt.run pins s' σ H' Q I q⟩,
   fun s H C cl fp => ⟨fun pins s' σ H' Q I ⟨G', hG', q⟩ => (he G' hG' s H C cl fp).pe.run pins s' σ H' Q I q⟩⟩
section
variable {elt : Expr} {ifs : List Expr} {scope : Scope} {ti : TDs} {g : TGd} {tt : TTd} {te : TD} {ms : List Nat}
theorem el_comp {W : Bool} (own : List (Str × Nat)) (hc : X.calm = true) (hN : X.N.Nodup) (hms : own.map (·.2) = ms) (hm : ∀ i ∈ ms, i ∉ G.slots) (hi : ID X G W tg iter ti) (ok : BlkOk X.N X.env.scope scope own)
    (hg : ∀ (G' : Gh), G'.slots = G.slots → ∀ (s : Shared) (H : Hp) (C : Addr) (cl : List (Str × Addr)) (fp : List Addr), GD (X.blk s H scope (compEnvC scope cl C X.env) fp) G' W ms tg g)
    (ht : ∀ (G' : Gh), G'.slots = G.slots → ∀ (s : Shared) (H : Hp) (C : Addr) (cl : List (Str × Addr)) (fp : List Addr), EBs (X.blk s H scope (compEnvC scope cl C X.env) fp) G' ifs tt)
    (he : ∀ (G' : Gh), G'.slots = G.slots → ∀ (s : Shared) (H : Hp) (C : Addr) (cl : List (Str × Addr)) (fp : List Addr), ED (X.blk s H scope (compEnvC scope cl C X.env) fp) G' elt te) (hs : ∀ x, foldedSetIterable iter X.env x = pure x := by intro _; rfl) :
    EL X G (.ListComp elt [⟨tg, iter, ifs, 0⟩] scope pos) (tComp ti g tt te ms) := by
  obtain ⟨Pg, Pt, Pe⟩ := comp_parts hg ht he
  refine ⟨PE.weak (pe_lc hc hN hi.pi ok Pg Pt Pe hs) fun σ H Q h => ?_⟩
  rw [hms]; exact lift_comp hm σ H Q h
end
end
end DL
set_option Elab.async false
set_option linter.all false
set_option maxRecDepth 100000
namespace DL
open PySem PySem.Spec PyProof.Rows L2
/-! ### a def's promise over data -/
abbrev SpD := List S → (D → List S → Prop) → Prop
inductive AR (K : PySem.W.Frag) (H : Hp) : List S → List V → List Addr → Prop
  | nil : AR K H [] [] []
  | d {x : D} {v : V} {ss : List S} {vs : List V} {as : List Addr} : Rp K H x v → AR K H ss vs as → AR K H (.d x :: ss) (v :: vs) as
  | o {s : S} {a : Addr} {ss : List S} {vs : List V} {as : List Addr} : s.isMut = true → RelM K H s a → AR K H ss vs as → AR K H (s :: ss) (.ref a :: vs) (a :: as)
def spL (K : PySem.W.Frag) (sp : SpD) : Sp := fun vs H Q _ => ∃ (ss : List S) (as : List Addr) (QD : D → List S → Prop), sp ss QD ∧ AR K H ss vs as ∧ as.Nodup ∧
  ∀ d outs v H', QD d outs → (∀ p o, H p = some o → p ∉ as → H' p = some o) → Paired (RelM K H') outs as → Rp K H' d v → Q v H'
/-- the places of the mutable ones -/
def mpos : Nat → List S → List Nat
  | _, [] => []
  | k, s :: ss => if s.isMut = true then k :: mpos (k + 1) ss else mpos (k + 1) ss
theorem AR.length {K : PySem.W.Frag} {H : Hp} : ∀ {ss : List S} {vs : List V} {as : List Addr}, AR K H ss vs as → ss.length = vs.length
  | _, _, _, .nil => rfl
  | _, _, _, .d _ r => by rw [List.length_cons, List.length_cons, AR.length r]
  | _, _, _, .o _ _ r => by rw [List.length_cons, List.length_cons, AR.length r]
theorem AR.mlen {K : PySem.W.Frag} {H : Hp} : ∀ {ss : List S} {vs : List V} {as : List Addr} (k : Nat), AR K H ss vs as → (mpos k ss).length = as.length
  | _, _, _, _, .nil => rfl
  | _, _, _, k, .d _ r => by show (mpos (k + 1) _).length = _; exact AR.mlen (k + 1) r
  | _, _, _, k, .o h _ r => by unfold mpos; rw [if_pos h, List.length_cons, List.length_cons, AR.mlen (k + 1) r]
/-- what an argument place holds -/
theorem AR.get {K : PySem.W.Frag} {H : Hp} : ∀ {ss : List S} {vs : List V} {as : List Addr} (k : Nat) {i : Nat} {s : S}, AR K H ss vs as → ss[i]? = some s →
    (∃ x v, s = .d x ∧ vs[i]? = some v ∧ Rp K H x v) ∨ (s.isMut = true ∧ ∃ a, vs[i]? = some (.ref a) ∧ RelM K H s a ∧ (k + i, a) ∈ (mpos k ss).zip as)
  | _, _, _, _, i, _, .nil, e => by simp at e
  | _, _, _, k, 0, s, .d (x := x) (v := v) p r, e => by
    simp at e; exact .inl ⟨x, v, e.symm, rfl, p⟩
  | _, _, _, k, i + 1, s, .d p r, e => by
    rcases AR.get (k + 1) (i := i) r (by simpa using e) with ⟨x, v, e1, e2, e3⟩ | ⟨h, a, e1, e2, e3⟩
    · exact .inl ⟨x, v, e1, by simpa using e2, e3⟩
    · refine .inr ⟨h, a, by simpa using e1, e2, ?_⟩
      show (k + (i + 1), a) ∈ (mpos (k + 1) _).zip _
      rw [show k + (i + 1) = k + 1 + i by omega]; exact e3
  | _, _, _, k, 0, s, .o (a := a) h m r, e => by
    simp at e; subst e
    refine .inr ⟨h, a, rfl, m, ?_⟩
    unfold mpos; rw [if_pos h]; simp
  | _, _, _, k, i + 1, s, .o h m r, e => by
    rcases AR.get (k + 1) (i := i) r (by simpa using e) with ⟨x, v, e1, e2, e3⟩ | ⟨h', a, e1, e2, e3⟩
    · exact .inl ⟨x, v, e1, by simpa using e2, e3⟩
    · refine .inr ⟨h', a, by simpa using e1, e2, ?_⟩
      unfold mpos; rw [if_pos h, List.zip_cons_cons]
      refine List.mem_cons_of_mem _ ?_
      rw [show k + (i + 1) = k + 1 + i by omega]; exact e3
theorem AR.back {K : PySem.W.Frag} {H : Hp} : ∀ {ss : List S} {vs : List V} {as : List Addr} (k : Nat) {j : Nat} {a : Addr}, AR K H ss vs as → (j, a) ∈ (mpos k ss).zip as → ∃ i s, j = k + i ∧ ss[i]? = some s ∧ vs[i]? = some (.ref a) ∧ RelM K H s a
  | _, _, _, _, _, _, .nil, e => by simp [mpos] at e
  | _, _, _, k, j, a, .d p r, e => by
    obtain ⟨i, s, e1, e2, e3, e4⟩ := AR.back (k + 1) (j := j) (a := a) r e
    exact ⟨i + 1, s, by omega, by simpa using e2, by simpa using e3, e4⟩
  | _, _, _, k, j, a, .o h m r, e => by
    unfold mpos at e; rw [if_pos h, List.zip_cons_cons] at e
    rcases List.mem_cons.mp e with z | z
    · cases z; exact ⟨0, _, by omega, rfl, rfl, m⟩
    · obtain ⟨i, s, e1, e2, e3, e4⟩ := AR.back (k + 1) r z
      exact ⟨i + 1, s, by omega, by simpa using e2, by simpa using e3, e4⟩
theorem zip_inj2 {α β : Type} : ∀ {xs : List α} {ys : List β} {i j : α} {a : β}, ys.Nodup → (i, a) ∈ xs.zip ys → (j, a) ∈ xs.zip ys → i = j
  | x :: xs, y :: ys, i, j, a, nd, h1, h2 => by
    rw [List.zip_cons_cons] at h1 h2
    have ⟨n1, n2⟩ := List.nodup_cons.mp nd
    rcases List.mem_cons.mp h1 with z1 | z1
    · rcases List.mem_cons.mp h2 with z2 | z2
      · cases z1; cases z2; rfl
      · cases z1; exact absurd (List.of_mem_zip z2).2 n1
    · rcases List.mem_cons.mp h2 with z2 | z2
      · cases z2; exact absurd (List.of_mem_zip z1).2 n1
      · exact zip_inj2 n2 z1 z2
  | [], _, _, _, _, _, h1, _ => by simp at h1
  | _ :: _, [], _, _, _, _, h1, _ => by simp at h1
theorem zip_fst {α β : Type} : ∀ {xs : List α} {ys : List β}, xs.length = ys.length → (xs.zip ys).map (·.1) = xs
  | [], _, _ => by simp
  | x :: xs, y :: ys, h => by rw [List.zip_cons_cons, List.map_cons, zip_fst (by simpa using h)]
  | _ :: _, [], h => by simp at h
theorem zip_snd {α β : Type} : ∀ {xs : List α} {ys : List β}, xs.length = ys.length → (xs.zip ys).map (·.2) = ys
  | [], [], _ => by simp
  | [], _ :: _, h => by simp at h
  | x :: xs, y :: ys, h => by rw [List.zip_cons_cons, List.map_cons, zip_snd (by simpa using h)]
  | _ :: _, [], h => by simp at h
/-- the start of a def's body -/
theorem AR.start {K : PySem.W.Frag} {H : Hp} {ss : List S} {vs : List V} {as : List Addr} {n : Nat} (r : AR K H ss vs as) (nd : as.Nodup) :
    RelE K ⟨H, (mpos 0 ss).zip as, fun _ => none, []⟩ H (ss ++ List.replicate n .un) (vs.map some ++ List.replicate n none) := by
  have hl := r.length
  have own : ∀ i a, (i, a) ∈ (mpos 0 ss).zip as → ∃ s, ss[i]? = some s ∧ vs[i]? = some (.ref a) ∧ RelM K H s a := fun i a h => by
    obtain ⟨j, s, e1, e2, e3, e4⟩ := r.back 0 h
    have : i = j := by omega
    subst this; exact ⟨s, e2, e3, e4⟩
  have key : ∀ i a, ((mpos 0 ss).zip as).lookup i = some a → (i, a) ∈ (mpos 0 ss).zip as := by
    intro i a
    generalize (mpos 0 ss).zip as = l
    induction l with
    | nil => intro h; cases h
    | cons p l ih =>
      obtain ⟨j, b⟩ := p
      intro h
      rw [List.lookup_cons] at h
      split at h
      · rename_i q; have : i = j := by simpa using q
        subst this; cases h; exact List.mem_cons_self ..
      · exact List.mem_cons_of_mem _ (ih h)
  have key2 : ∀ i a, (i, a) ∈ (mpos 0 ss).zip as → ∃ b, ((mpos 0 ss).zip as).lookup i = some b := by
    intro i a
    generalize (mpos 0 ss).zip as = l
    induction l with
    | nil => intro h; cases h
    | cons p l ih =>
      obtain ⟨j, b⟩ := p
      intro h
      rw [List.lookup_cons]
      split
      · exact ⟨b, rfl⟩
      · rename_i q
        rcases List.mem_cons.mp h with z | z
        · cases z; simp at q
        · exact ih z
  refine ⟨by simp [hl], fun p o h _ => h, fun i a h => ?_, fun a h => ?_, ⟨(fun _ _ z => by cases z), (fun _ _ _ z => by cases z)⟩, fun i => match ((mpos 0 ss).zip as).lookup i with | some a => [a] | none => [], fun i j a h1 h2 => ?_, fun i a h => ?_, fun i s h => ?_⟩
  · obtain ⟨s, e1, e2, e3⟩ := own i a h
    have hi : i < vs.length := by
      rcases Nat.lt_or_ge i vs.length with z | z
      · exact z
      · rw [List.getElem?_eq_none z] at e2; cases e2
    rw [List.getElem?_append_left (by simpa using hi), List.getElem?_map, e2]; rfl
  · have h : a ∈ ((mpos 0 ss).zip as).map (·.2) ++ [] := h
    rw [List.append_nil] at h
    obtain ⟨p, hp, rfl⟩ := List.mem_map.mp h
    obtain ⟨s, e1, e2, e3⟩ := own p.1 p.2 hp
    obtain ⟨u, e, _⟩ := e3.soft
    rw [e]; simp
  · dsimp only at h1 h2
    split at h1
    · rename_i b hb
      split at h2
      · rename_i c hc
        simp only [List.mem_cons, List.not_mem_nil, or_false] at h1 h2
        subst h1; subst h2
        exact zip_inj2 nd (key _ _ hb) (key _ _ hc)
      · cases h2
    · cases h1
  · dsimp only at h
    split at h
    · rename_i b hb
      simp only [List.mem_cons, List.not_mem_nil, or_false] at h
      subst h
      exact ⟨.inl (List.mem_append_left _ (List.mem_map.mpr ⟨_, key _ _ hb, rfl⟩)), by simp⟩
    · cases h
  · by_cases hi : i < ss.length
    · rw [List.getElem?_append_left hi] at h
      rw [List.getElem?_append_left (by simpa [← hl] using hi), List.getElem?_map]
      rcases r.get 0 h with ⟨x, v, rfl, e2, e3⟩ | ⟨hm, a, e1, e2, e3⟩
      · have no : ((mpos 0 ss).zip as).lookup i = none := by
          cases q : ((mpos 0 ss).zip as).lookup i with
          | none => rfl
          | some b =>
            obtain ⟨s', f1, f2, f3⟩ := own i b (key _ _ q)
            rw [h] at f1; cases f1
            exact f3.elim
        dsimp only
        rw [no, e2]
        exact ⟨rfl, v, rfl, e3⟩
      · rw [Nat.zero_add] at e3
        obtain ⟨b, hb⟩ := key2 i a e3
        obtain ⟨s', f1, f2, f3⟩ := own i b (key _ _ hb)
        rw [e1] at f2; cases f2
        dsimp only
        rw [hb, e1]
        exact RelS.ofMut hm rfl e2
    · have hi' : ss.length ≤ i := Nat.le_of_not_lt hi
      rw [List.getElem?_append_right hi'] at h
      have hs : s = .un := by
        have := List.mem_of_getElem? h
        exact (List.mem_replicate.mp this).2
      subst hs
      have no : ((mpos 0 ss).zip as).lookup i = none := by
        cases q : ((mpos 0 ss).zip as).lookup i with
        | none => rfl
        | some b =>
          obtain ⟨s', f1, f2, f3⟩ := own i b (key _ _ q)
          rw [List.getElem?_eq_none hi'] at f1; cases f1
      dsimp only
      rw [no]; rfl
/-- the mutable arguments at the end -/
def finO : List Nat → Env → (List S → Prop) → Prop
  | [], _, Q => Q []
  | i :: is, E, Q => match E[i]? with
    | some (.ol xs) => finO is E fun outs => Q (.ol xs :: outs)
    | some (.dt xs) => finO is E fun outs => Q (.dt xs :: outs)
    | some (.dk xs) => finO is E fun outs => Q (.dk xs :: outs)
    | _ => False
theorem finO_rel {K : PySem.W.Frag} {G : Gh} {H : Hp} {E : Env} {σ : St} (r : RelE K G H E σ) : ∀ {slots : List Nat} {as : List Addr} {Q : List S → Prop}, slots.length = as.length → (∀ p ∈ slots.zip as, p ∈ G.own) → finO slots E Q → ∃ outs, Q outs ∧ Paired (RelM K H) outs as
  | [], [], Q, _, _, h => ⟨[], h, .nil⟩
  | i :: is, a :: as, Q, hl, hs, h => by
    have key : ∀ s : S, E[i]? = some s → s.isMut = true → finO is E (fun outs => Q (s :: outs)) → ∃ outs, Q outs ∧ Paired (RelM K H) outs (a :: as) := fun s he hm h => by
      have hp := r.pin i a (hs (i, a) (by simp))
      obtain ⟨b, e1, e2⟩ := r.mutAt he hm
      rw [hp] at e1
      have : a = b := by injection e1 with z; injection z with z; injection z
      subst this
      obtain ⟨outs, q, p⟩ := finO_rel r (slots := is) (as := as) (by simpa using hl) (fun p hp => hs p (by rw [List.zip_cons_cons]; exact List.mem_cons_of_mem _ hp)) h
      exact ⟨_, q, .cons e2 p⟩
    unfold finO at h
    split at h
    · rename_i xs he; exact key _ he rfl h
    · rename_i xs he; exact key _ he rfl h
    · rename_i xs he; exact key _ he rfl h
    · exact h.elim
  | [], _ :: _, _, hl, _, _ => by simp at hl
  | _ :: _, [], _, hl, _, _ => by simp at hl
/-- THE RULE for a def -/
theorem fn_okD {P : Program} {w : World} {K : PySem.W.Frag} {mg : Str → Option Value} {base : Heap} {x qual : Str} {st : Stmt} {f : Addr} {fd : FuncData} {N ps : List Str} {k : Nat} {sp : SpD} {slots : List Nat} {tb : TSd}
    (F : Fun K x qual st f fd) (Sc : FnScope N ps (defScope st)) (shape : ∀ ss QD, sp ss QD → ss.length = ps.length ∧ mpos 0 ss = slots)
    (body : ∀ (cdv : Value) (A : Around) (outer : List PySem.Env) (s : Shared) (H : Hp) (E : XK), Room k (A.deeper (envOfC qual (defScope st) s.heap.objs.size f cdv)) → ∀ G : Gh, G.slots = slots →
      SDs (cxOf CX0 P w K mg base N qual (defScope st) f cdv A outer s H E).nox G (defBody st) tb)
    (read : ∀ ss QD, sp ss QD → tb { nx := fun E' => finO slots E' (QD .none), rt := fun d E' => finO slots E' (QD d) } (ss ++ List.replicate (N.length - ps.length) .un)) :
    FnOk P w K mg base CX0 (k + 1) f fd ps (spL K sp) := by
  refine F.ok Sc (fun vs H Q E h => ?_) (fun cdv A outer s H vs Q E hr h => ?_)
  · obtain ⟨ss, as, QD, h1, h2, _⟩ := h
    rw [← h2.length]; exact (shape ss QD h1).1
  · obtain ⟨ss, as, QD, h1, h2, nd, h4⟩ := h
    obtain ⟨hl, hm⟩ := shape ss QD h1
    have ml := h2.mlen 0
    have hG : (⟨H, (mpos 0 ss).zip as, fun _ => none, []⟩ : Gh).slots = slots := by show ((mpos 0 ss).zip as).map (·.1) = slots; rw [zip_fst ml, hm]
    have hA : (⟨H, (mpos 0 ss).zip as, fun _ => none, []⟩ : Gh).addrs = as := by show ((mpos 0 ss).zip as).map (·.2) ++ [] = as; rw [zip_snd ml, List.append_nil]
    refine ⟨_, (body cdv A outer s H E hr ⟨H, (mpos 0 ss).zip as, fun _ => none, []⟩ hG).pss, ?_⟩
    have hst : L2.start N vs = vs.map some ++ List.replicate (N.length - ps.length) none := by unfold L2.start; rw [← h2.length, hl]
    refine ⟨ss ++ List.replicate (N.length - ps.length) .un, { nx := fun E' => finO slots E' (QD .none), rt := fun d E' => finO slots E' (QD d) }, by rw [hst]; exact h2.start nd, read ss QD h1, fun E' σ' H' q x r => ?_, fun d E' v σ' H' q x r p => ?_, fun _ _ _ q => False.elim q, fun _ _ _ q => False.elim q⟩
    · obtain ⟨outs, q1, p1⟩ := finO_rel r (as := as) (by rw [← hm]; exact ml) (by rw [← hm]; exact fun p hp => hp) q
      exact h4 .none outs .non H' q1 (fun p o e ne => r.keep p o e (by rw [hA]; exact ne)) p1 .non
    · obtain ⟨outs, q1, p1⟩ := finO_rel r (as := as) (by rw [← hm]; exact ml) (by rw [← hm]; exact fun p hp => hp) q
      exact h4 d outs v H' q1 (fun p o e ne => r.keep p o e (by rw [hA]; exact ne)) p1 p
/-! ### a call of a def -/
def oixs : List Arg → List Nat
  | [] => []
  | .v _ :: as => oixs as
  | .o i :: as => i :: oixs as
def argS (E : Env) : List Arg → Option (List S)
  | [] => some []
  | .v x :: as => (argS E as).map (.d x :: ·)
  | .o i :: as => match E[i]? with
    | some (.ol xs) => (argS E as).map (.ol xs :: ·)
    | some (.dt xs) => (argS E as).map (.dt xs :: ·)
    | some (.dk xs) => (argS E as).map (.dk xs :: ·)
    | _ => none
def putO : List Arg → List S → Env → Env
  | .v _ :: as, outs, E => putO as outs E
  | .o i :: as, s :: outs, E => putO as outs (E.set i s)
  | _, _, E => E
def ndp : List Nat → Bool
  | [] => true
  | i :: is => !is.contains i && ndp is
def tCallD (sp : SpD) (ta : TAd) : TD := fun E Q => ta E fun as E1 => match argS E1 as with
  | some ss => ndp (oixs as) = true ∧ sp ss fun r outs => Q r (putO as outs E1)
  | none => False
section
variable {K : PySem.W.Frag} {G : Gh} {H H' : Hp} {E : Env} {σ : St}
abbrev MutAt (σ : St) (E : Env) : Nat → Addr → Prop := fun i a => σ[i]? = some (some (.ref a)) ∧ ∃ s : S, E[i]? = some s ∧ s.isMut = true
theorem RelA.args (r : RelE K G H E σ) : ∀ {as : List Arg} {ss : List S} {vs : List V}, RelA K H σ as vs → argS E as = some ss → ∃ addrs, AR K H ss vs addrs ∧ Paired (MutAt σ E) (oixs as) addrs
  | _, _, _, .nil, e => by cases e; exact ⟨[], .nil, .nil⟩
  | _, _, _, .v (as := as) p t, e => by
    unfold argS at e
    cases q : argS E as with
    | none => rw [q] at e; cases e
    | some ss' =>
      rw [q] at e; cases e
      obtain ⟨ad, a1, a2⟩ := RelA.args r t q
      exact ⟨ad, .d p a1, a2⟩
  | _, ss, _, .o (i := i) (v := v0) (as := as) (vs := vs0) hs t, e => by
    have key : ∀ s : S, E[i]? = some s → s.isMut = true → (argS E as).map (s :: ·) = some ss → ∃ addrs, AR K H ss (v0 :: vs0) addrs ∧ Paired (MutAt σ E) (oixs (.o i :: as)) addrs := fun s he hm e => by
      cases q : argS E as with
      | none => rw [q] at e; cases e
      | some ss' =>
        rw [q] at e; cases e
        obtain ⟨ad, a1, a2⟩ := RelA.args r t q
        obtain ⟨a, e1, e2⟩ := r.mutAt he hm
        rw [hs] at e1; cases e1
        exact ⟨a :: ad, .o hm e2 a1, .cons ⟨hs, s, he, hm⟩ a2⟩
    unfold argS at e
    split at e
    · rename_i xs he; exact key _ he rfl e
    · rename_i xs he; exact key _ he rfl e
    · rename_i xs he; exact key _ he rfl e
    · cases e
theorem Paired.mem2 {α β : Type} {F : α → β → Prop} : ∀ {xs : List α} {ys : List β} {y : β}, Paired F xs ys → y ∈ ys → ∃ x ∈ xs, F x y
  | _, _, _, .cons r t, h => by
    rcases List.mem_cons.mp h with rfl | z
    · exact ⟨_, List.mem_cons_self .., r⟩
    · obtain ⟨x, hx, f⟩ := Paired.mem2 t z; exact ⟨x, List.mem_cons_of_mem _ hx, f⟩
  | _, _, _, .nil, h => by cases h
theorem addrs_nodup (r : RelE K G H E σ) : ∀ {is : List Nat} {ad : List Addr}, ndp is = true → Paired (MutAt σ E) is ad → ad.Nodup
  | [], [], _, _ => List.nodup_nil
  | i :: is, a :: ad, h, .cons p t => by
    unfold ndp at h
    simp only [Bool.and_eq_true, Bool.not_eq_true'] at h
    refine List.nodup_cons.mpr ⟨fun z => ?_, addrs_nodup r h.2 t⟩
    obtain ⟨j, hj, e1, s2, e2, m2⟩ := Paired.mem2 t z
    obtain ⟨l, k, pn, dm, x0, A, h1, h2, h3⟩ := r
    obtain ⟨p1, s1, p2, m1⟩ := p
    obtain ⟨b, f1, f2, _⟩ := (h3 i _ p2).mut m1
    obtain ⟨c, g1, g2, _⟩ := (h3 j _ e2).mut m2
    rw [p1] at f2; cases f2
    rw [e1] at g2; cases g2
    have : i = j := h1 i j a (by rw [f1]; simp) (by rw [g1]; simp)
    subst this
    have := h.1
    simp at this
    exact this hj
/-- what is soft is no tuple, nothing frozen -/
theorem Ext.ofSoft {ad : List Addr} (keep : ∀ p o, H p = some o → p ∉ ad → H' p = some o) (soft : ∀ a ∈ ad, Soft H a) : Ext H H' :=
  ⟨fun a xs e => keep a _ e fun z => (by
      obtain ⟨u, f, g1, g2⟩ := soft a z
      rw [e] at f
      injection f with f
      exact g1 xs f.symm), fun a o v e => keep a _ e fun z => (by
      obtain ⟨u, f, g1, g2⟩ := soft a z
      rw [e] at f
      injection f with f
      exact g2 o v f.symm)⟩
/-- behind a call: the mutable arguments have changed -/
theorem RelX.puts : ∀ {as : List Arg} {outs : List S} {ad : List Addr} {E : Env}, ndp (oixs as) = true → RelE K G H E σ → (∀ p o, H p = some o → p ∉ ad → H' p = some o) → (∀ a ∈ ad, Soft H a) → Paired (RelM K H') outs ad →
    Paired (MutAt σ E) (oixs as) ad → RelE K G H' (putO as outs E) σ := by
  -- all at once: the environment with new contents
  intro as outs ad E nd r keep islst pr po
  have adn := addrs_nodup r nd po
  have ext : Ext H H' := Ext.ofSoft keep islst
  obtain ⟨l, k, pn, dm, x0, A, h1, h2, h3⟩ := r
  have own : ∀ a ∈ ad, a ∈ G.addrs ∨ G.H0 a = none := fun a ha => by
    obtain ⟨i, hi, e1, s, e2, m⟩ := Paired.mem2 po ha
    obtain ⟨b, f1, f2, _⟩ := (h3 i _ e2).mut m
    rw [e1] at f2; cases f2
    exact (h2 i a (by rw [f1]; simp)).1
  have there : ∀ (ad : List Addr) (outs : List S), Paired (RelM K H') outs ad → ∀ a ∈ ad, Soft H' a := by
    intro ad outs p
    induction p with
    | nil => intro a h; cases h
    | cons q t ih =>
      intro a h
      rcases List.mem_cons.mp h with rfl | z
      · exact q.soft
      · exact ih a z
  -- the slots that are not put keep their relation, those that are put have the new one
  have step : ∀ (as : List Arg) (outs : List S) (ad : List Addr) (E1 : Env), ndp (oixs as) = true → Paired (RelM K H') outs ad → Paired (MutAt σ E) (oixs as) ad →
      (∀ i, i ∉ oixs as → ∀ s, E1[i]? = some s → RelS K H' s σ[i]? (A i)) → E1.length = E.length →
      (∀ i s, (putO as outs E1)[i]? = some s → RelS K H' s σ[i]? (A i)) ∧ (putO as outs E1).length = E.length := by
    intro as
    induction as with
    | nil =>
      intro outs ad E1 _ _ _ h hl
      have e : DL.putO [] outs E1 = E1 := by cases outs <;> rfl
      rw [e]; exact ⟨fun i s q => h i (by simp [oixs]) s q, hl⟩
    | cons x as ih =>
      intro outs ad E1 nd p q h hl
      cases x with
      | v x =>
        have e : DL.putO (.v x :: as) outs E1 = DL.putO as outs E1 := by cases outs <;> rfl
        rw [e]
        exact ih outs ad E1 nd p q h hl
      | o i =>
        cases q with
        | cons q1 q2 =>
          rename_i a0 ad0
          cases p with
          | cons p1 p2 =>
            rename_i s0 outs0
            have nd' : ndp (i :: oixs as) = true := nd
            unfold ndp at nd'
            simp only [Bool.and_eq_true, Bool.not_eq_true'] at nd'
            have e : DL.putO (.o i :: as) (s0 :: outs0) E1 = DL.putO as outs0 (E1.set i s0) := rfl
            rw [e]
            refine ih outs0 ad0 (E1.set i s0) nd'.2 p2 q2 (fun j hj s e => ?_) (by rw [List.length_set]; exact hl)
            by_cases z : j = i
            · subst z
              by_cases hlj : j < E1.length
              · rw [List.getElem?_set_self hlj] at e
                cases e
                obtain ⟨q3, ys, q4, q5⟩ := q1
                obtain ⟨b, f1, f2, _⟩ := (h3 j _ q4).mut q5
                rw [q3] at f2; cases f2
                rw [f1]
                exact RelS.ofMut p1.isMut q3 p1
              · rw [List.getElem?_eq_none (by simpa using hlj)] at e; cases e
            · rw [List.getElem?_set_ne (Ne.symm z)] at e
              exact h j (by simp [oixs, z, hj]) s e
  have base : ∀ i, i ∉ oixs as → ∀ s, E[i]? = some s → RelS K H' s σ[i]? (A i) := fun i hi s e => by
    have hs := h3 i s e
    refine hs.move ext fun a ha => ?_
    have : a ∉ ad := fun z => by
      obtain ⟨j, hj, e1, s2, e2, m2⟩ := Paired.mem2 po z
      obtain ⟨b, f1, f2, _⟩ := (h3 j _ e2).mut m2
      rw [e1] at f2; cases f2
      have : i = j := h1 i j a ha (by rw [f1]; simp)
      subst this; exact hi hj
    obtain ⟨u, hu, _⟩ := hs.indom a ha
    rw [hu]; exact keep a u hu this
  obtain ⟨s1, s2⟩ := step as outs ad E nd pr po base rfl
  refine ⟨by rw [s2]; exact l, fun p o e ne => ?_, pn, fun a ha => ?_, x0.trans ext, A, h1, h2, s1⟩
  · refine keep p o (k p o e ne) fun z => ?_
    rcases own p z with q | q
    · exact ne q
    · rw [q] at e; cases e
  · by_cases z : a ∈ ad
    · obtain ⟨u, e, _⟩ := there ad outs pr a z; rw [e]; simp
    · cases q : H a with
      | none => exact absurd q (dm a ha)
      | some o => rw [keep a o q z]; simp
theorem Paired.keys {α β : Type} {F : α → β → Prop} : ∀ {xs : List α} {ys : List β}, Paired F xs ys → ∀ y ∈ ys, ∃ x, F x y
  | _, _, .cons r t, y, h => by
    rcases List.mem_cons.mp h with rfl | z
    · exact ⟨_, r⟩
    · exact Paired.keys t y z
  | _, _, .nil, _, h => by cases h
end
section
variable {X : Cx} {G : Gh} {e : Expr} {es : List Expr} {pos p : Pos} {x : Str} {f : Addr} {fd : FuncData} {ps : List Str} {k : Nat} {sp : SpD} {ta : TAd} {CX : CXT}
theorem lift_call (σ : St) (H : Hp) (Q : VK) (E : XK) (h : liftE X.K G (tCallD sp ta) σ H Q) : tCall (spL X.K sp) [] E (liftA X.K G ta) σ H Q := by
  obtain ⟨E0, QE, r, q, kk⟩ := h
  refine ⟨E0, _, r, q, fun as E1 vs H1 q1 x1 r1 p1 => ?_⟩
  show spL X.K sp (vs ++ []) H1 Q E
  rw [List.append_nil]
  split at q1
  · rename_i ss hs
    obtain ⟨nd, q1⟩ := q1
    obtain ⟨ad, ar, po⟩ := RelA.args r1 p1 hs
    have adn := addrs_nodup r1 nd po
    refine ⟨ss, ad, _, q1, ar, adn, fun d outs v H' q2 keep pr pd => ?_⟩
    have islst : ∀ a ∈ ad, Soft H1 a := fun a ha => by
      obtain ⟨i, hi, e1, s, e2, m⟩ := Paired.mem2 po ha
      obtain ⟨b, f1, f2⟩ := r1.mutAt e2 m
      rw [e1] at f1; cases f1; exact f2.soft
    have ext : Ext H1 H' := Ext.ofSoft keep islst
    exact kk d _ v H' q2 (x1.trans ext) (RelX.puts nd r1 keep islst pr po) pd
  · exact q1.elim
theorem ed_call (F : FnOk X.prog X.w X.K X.mg X.base CX0 k f fd ps (spL X.K sp)) (hr : Room k X.A) (hg : Gl X x) (hm : X.mg x = some (.ref f)) (hk : PySem.W.keepIn X.K (.ref f) = true) (hb : Binds X.K fd ps []) (ha : EA X G (e :: es) ta) (hdb : (x == ("__debug__" : Str)) = false := by decide)
    (hs : starEach (e :: es) X.env = (false, eval e X.env) :: starEach es X.env := by rfl) (hplain : (backTo pos (starEach es X.env)).any (·.1) = false := by rfl) : ED X G (.Call (.Name x p) (e :: es) [] pos) (tCallD sp ta) :=
  ⟨PE.weak (pe_call (dvs := []) (E := fun _ _ _ => False) F hr hg hm hk hb .nil pass0 ha.pa (hdb := hdb) (he := hs) (hpl := hplain)) fun σ H Q h => lift_call σ H Q _ h⟩
end
end DL
set_option Elab.async false
set_option linter.all false
set_option maxRecDepth 100000
namespace DL
open PySem PySem.Spec PyProof.Rows L2
/-! ### lists of one's own change -/
section
variable {X : Cx} {G : Gh} {a b c e : Expr} {es : List Expr} {pos apos cpos p0 : Pos} {x : Str}
def tApp (i : Nat) (t : TD) : TD := fun E Q => match E[i]? with
  | some (.ol _) => t E fun d E1 => match E1[i]? with
    | some (.ol xs) => xs.length < sizeLine ∧ Q .none (E1.set i (.ol (xs ++ [d])))
    | _ => False
  | _ => False
theorem ed_app (i : Nat) {t : TD} (h : ED X G e t) (hN : X.N[i]? = some x := by rfl) (hv : Vis X.env.scope x := by first | exact Or.inl rfl | exact Or.inr (Or.inl rfl) | exact Or.inr (Or.inr rfl)) (hd : (x == ("__debug__" : Str)) = false := by decide)
    (hcd : (x == ("__classdict__" : Str)) = false := by decide)
    (hbase : attributeBase (.Name x p0) "append" X.env (eval (.Name x p0) X.env) = eval (.Name x p0) X.env := by rfl)
    (hfew : ((backTo cpos (starEach [e] X.env)).all (fun x => !x.1) && (backToKw cpos (keywordEach [] X.env)).all (fun x => x.1.isSome)
      && decide (([e] : List Expr).length + ([] : List Keyword).length + (if ([] : List Keyword).isEmpty then 0 else 1) < 30)) = true := by rfl)
    (hline : (apos.endLine == cpos.line) = true := by rfl) (hs : starEach [e] X.env = (false, eval e X.env) :: starEach [] X.env := by rfl) (hplain : (backTo cpos (starEach [] X.env)).any (·.1) = false := by rfl) :
    ED X G (.Call (.Attribute (.Name x p0) "append" apos) [e] [] cpos) (tApp i t) :=
  ⟨PE.weak (pe_bm PySem.F.plainAttrs_list PySem.F.slot_list_append PySem.F.type_list_append mt_append (pe_var hN hv hd hcd) (pa_cons h.pe pa_nil hs) hbase hfew hline hs hplain) fun σ H Q ⟨E, QE, r, q, k⟩ => by
    unfold tApp at q
    split at q
    · rename_i xs0 he0
      obtain ⟨l, vs0, e1, e2, e3⟩ := r.ol he0
      refine ⟨_, e1, .inl ⟨rfl, _, SqL.of e2⟩, E, _, r, q, fun d E1 v H1 q1 x1 r1 p1 => ?_⟩
      split at q1
      · rename_i xs he
        obtain ⟨l', vs, f1, f2, f3⟩ := r1.ol he
        rw [e1] at f1; cases f1
        refine ⟨l, vs, v, rfl, rfl, f2, by rw [← f3.length]; exact q1.1, ?_⟩
        exact k _ _ _ _ q1.2 (x1.trans (Ext.put f2)) (r1.putL he e1 (RpL.append f3 (.cons p1 .nil))) .non
      · exact q1.elim
    · exact q.elim⟩
def tExtd (i : Nat) (t : TLd) : TD := fun E Q => match E[i]? with
  | some (.ol _) => t E fun ys E1 => match E1[i]? with
    | some (.ol xs) => xs.length + ys.length ≤ sizeLine ∧ Q .none (E1.set i (.ol (xs ++ ys)))
    | _ => False
  | _ => False
def tPopAt (i : Nat) (t : TD) : TD := fun E Q => match E[i]? with
  | some (.ol _) => t E fun d E1 => match d, E1[i]? with
    | .int k, some (.ol xs) => (0 ≤ k ∧ k < xs.length ∧ k < 2 ^ 63) ∧ ∀ y, xs[k.toNat]? = some y → Q y (E1.set i (.ol (xs.eraseIdx k.toNat)))
    | _, _ => False
  | _ => False
/-- an item is put -/
def putD (xs : List D) (k : Int) (d : D) (Q : List D → Prop) : Prop := match ixN xs.length k with
  | some n => Q (xs.set n d)
  | none => False
/-- xs[k] = e -/
def sSetIx (i : Nat) (tk te : TD) : TSd := fun DE E => te E fun d E1 => match E1[i]? with
  | some (.ol _) => tk E1 fun j E2 => match j, E2[i]? with
    | .int k, some (.ol xs) => putD xs k d fun ys => DE.nx (E2.set i (.ol ys))
    | _, _ => False
  | _ => False
theorem sd_setIx (i : Nat) {ix : Expr} {tk te : TD} (hk : ED X G ix tk) (he : ED X G e te) (hN : X.N[i]? = some x := by rfl) (hv : Vis X.env.scope x := by first | exact Or.inl rfl | exact Or.inr (Or.inl rfl) | exact Or.inr (Or.inr rfl)) (hd : (x == ("__debug__" : Str)) = false := by decide)
    (hcd : (x == ("__classdict__" : Str)) = false := by decide)
    (ha : ∀ v, assign (.Subscript (.Name x p0) ix apos) X.env v = (do
      let ov ← holding [v] (eval (.Name x p0) X.env)
      let iv ← holding [v, ov] (eval ix X.env)
      standAt apos
      holding [v, ov, iv] (setItem ov iv v)
      release [v, ov, iv] []) := by intro _; rfl)
    (hs : swapsWithSole [.Subscript (.Name x p0) ix apos] e pos.line X.env = pure false := by rfl) (hw : swappedStores [.Subscript (.Name x p0) ix apos] e X.env = pure none := by rfl)
    (hb : (assignEach [.Subscript (.Name x p0) ix apos] X.env).map (·.2) = [assign (.Subscript (.Name x p0) ix apos) X.env] := by rfl) :
    SD X G (.Assign [.Subscript (.Name x p0) ix apos] e pos) (sSetIx i tk te) :=
  ⟨PS.weak (ps_asg he.pe (pg_sub (pe_var hN hv hd hcd) hk.pe set_list ha) hs hw hb) fun F σ H ⟨E, DE, r, q, k1, k2, k3, k4⟩ => ⟨E, _, r, q, fun d E1 v H1 q1 x1 r1 p1 => by
    split at q1
    · rename_i xs0 he0
      obtain ⟨l, vs0, e1, e2, e3⟩ := r1.ol he0
      refine ⟨_, e1, E1, _, r1, q1, fun j E2 u H2 q2 x2 r2 p2 => ?_⟩
      split at q2
      · rename_i d0 o0 k xs he
        cases p2
        unfold putD at q2
        split at q2
        · rename_i n hn
          obtain ⟨l', vs, f1, f2, f3⟩ := r2.ol he
          rw [e1] at f1; cases f1
          refine ⟨l, vs, k, n, rfl, rfl, f2, by rw [← f3.length]; exact hn, ?_⟩
          exact k1 _ _ _ q2 ((x1.trans x2).trans (Ext.put f2)) (r2.putL he e1 (RpL.set (p1.ext x2) n f3))
        · exact q2.elim
      · exact q2.elim
    · exact q1.elim⟩⟩
/-! ### several at once -/
abbrev TPs := Env → (List S → Env → Prop) → Prop
/-- new lists at ex, data -/
inductive PVs (K : PySem.W.Frag) (G : Gh) (H : Hp) : List S → List V → List Addr → Prop
  | nil : PVs K G H [] [] []
  | d {x : D} {v : V} {ss : List S} {vs : List V} {ex : List Addr} : Rp K H x v → PVs K G H ss vs ex → PVs K G H (.d x :: ss) (v :: vs) ex
  | m {s : S} {a : Addr} {ss : List S} {vs : List V} {ex : List Addr} : RelM K H s a → G.H0 a = none → a ∉ G.addrs → a ∉ ex → PVs K G H ss vs ex → PVs K G H (s :: ss) (.ref a :: vs) (a :: ex)
theorem PVs.length {K : PySem.W.Frag} {G : Gh} {H : Hp} : ∀ {ss : List S} {vs : List V} {ex : List Addr}, PVs K G H ss vs ex → ss.length = vs.length
  | _, _, _, .nil => rfl
  | _, _, _, .d _ r => by rw [List.length_cons, List.length_cons, PVs.length r]
  | _, _, _, .m _ _ _ _ r => by rw [List.length_cons, List.length_cons, PVs.length r]
theorem PVs.pext {K : PySem.W.Frag} {G : Gh} {H H' : Hp} (p : PExt H H') : ∀ {ss : List S} {vs : List V} {ex : List Addr}, PVs K G H ss vs ex → PVs K G H' ss vs ex
  | _, _, _, .nil => .nil
  | _, _, _, .d h r => .d (h.ext p.ext) (PVs.pext p r)
  | _, _, _, .m h1 h3 h4 h5 r => .m (h1.move p.ext (by obtain ⟨u, e, _⟩ := h1.soft; rw [e, p _ _ e])) h3 h4 h5 (PVs.pext p r)
theorem PVs.ofPend {K : PySem.W.Frag} {G : Gh} {H : Hp} {a : Addr} {o : HO} : ∀ {ss : List S} {vs : List V} {ex : List Addr}, PVs K (pend G a o) H ss vs ex → PVs K G H ss vs ex ∧ a ∉ ex
  | _, _, _, .nil => ⟨.nil, by simp⟩
  | _, _, _, .d h r => ⟨.d h (PVs.ofPend r).1, (PVs.ofPend r).2⟩
  | _, _, _, .m (a := b) h1 h3 h4 h5 r => by
    have z : b ≠ a := by
      rintro rfl
      have : upd G.H0 b o b = none := h3
      rw [upd_same] at this; cases this
    have h3' : G.H0 b = none := by
      have : upd G.H0 a o b = none := h3
      rw [upd_ne z] at this; exact this
    refine ⟨.m h1 h3' h4 h5 (PVs.ofPend r).1, fun q => ?_⟩
    rcases List.mem_cons.mp q with q | q
    · exact z q.symm
    · exact (PVs.ofPend r).2 q
def liftPs (K : PySem.W.Frag) (G : Gh) (t : TPs) : TA := fun σ H Q => ∃ (E : Env) (QE : List S → Env → Prop), RelE K G H E σ ∧ t E QE ∧ ∀ ss E' vs H' ex, QE ss E' → Ext H H' → RelX K G ex H' E' σ → PVs K G H' ss vs ex → Q vs H'
structure EPs (X : Cx) (G : Gh) (es : List Expr) (t : TPs) : Prop where
  pa : PA X es (liftPs X.K G t)
def pNil : TPs := fun E Q => Q [] E
def pD (t : TD) (u : TPs) : TPs := fun E Q => t E fun x E1 => u E1 fun ss E2 => Q (.d x :: ss) E2
def pL (t : TLd) (u : TPs) : TPs := fun E Q => t E fun xs E1 => u E1 fun ss E2 => Q (.ol xs :: ss) E2
theorem eps_nil : EPs X G [] pNil := ⟨PA.weak pa_nil fun σ H Q ⟨E, QE, r, q, k⟩ => k _ _ _ _ _ q (Ext.refl _) r .nil⟩
theorem eps_l {t : TLd} {u : TPs} (h : EL X G e t) (hr : ∀ G' : Gh, G'.slots = G.slots → EPs X G' es u) (hs : starEach (e :: es) X.env = (false, eval e X.env) :: starEach es X.env := by rfl) : EPs X G (e :: es) (pL t u) := by
  have hp : PA X es (fun σ H Q => ∃ G' : Gh, G'.slots = G.slots ∧ liftPs X.K G' u σ H Q) := ⟨fun pos pins s σ H Q I ⟨G', hG', q⟩ => (hr G' hG').pa.run pos pins s σ H Q I q⟩
  refine ⟨PA.weak (pa_cons h.pe hp hs) fun σ H Q ⟨E, QE, r, q, k⟩ => ⟨E, _, r, q, fun xs E1 a us H1 q1 x1 r1 h0 na ha p1 => ?_⟩⟩
  refine ⟨pend G a (.lst us), rfl, E1, _, r1.toPend ha na, q1, fun ss E2 vs H2 ex q2 x2 r2 p2 => ?_⟩
  obtain ⟨r3, ha3⟩ := RelX.ofPend r2 h0 na
  obtain ⟨p3, nx⟩ := PVs.ofPend p2
  exact k _ _ _ _ (a :: ex) q2 (x1.trans x2) r3 (.m (s := .ol xs) ⟨_, ha3, p1.ext x2⟩ h0 na nx p3)
def setAll : Env → List Nat → List S → Env
  | E, i :: is, s :: ss => setAll (E.set i s) is ss
  | E, _, _ => E
def setAllV : St → List Nat → List V → St
  | σ, i :: is, v :: vs => setAllV (σ.set i (some v)) is vs
  | σ, _, _ => σ
theorem RelX.setAll {K : PySem.W.Frag} {G : Gh} {H : Hp} : ∀ {is : List Nat} {ss : List S} {vs : List V} {ex : List Addr} {E : Env} {σ : St}, (∀ i ∈ is, i ∉ G.slots) → is.length = ss.length → RelX K G ex H E σ → PVs K G H ss vs ex → RelE K G H (setAll E is ss) (setAllV σ is vs)
  | [], [], [], _, E, σ, _, _, r, .nil => r
  | i :: is, _, _, _, E, σ, hi, hl, r, .d p t => by
    exact RelX.setAll (is := is) (fun j hj => hi j (List.mem_cons_of_mem _ hj)) (by simpa using hl) (r.setD (hi i (List.mem_cons_self ..)) p) t
  | i :: is, _, _, _, E, σ, hi, hl, r, .m h1 h3 h4 h5 t => by
    exact RelX.setAll (is := is) (fun j hj => hi j (List.mem_cons_of_mem _ hj)) (by simpa using hl) (r.setM h5 (hi i (List.mem_cons_self ..)) h3 h1) t
  | [], _, _, _, _, _, _, hl, _, .d _ _ => by simp at hl
  | [], _, _, _, _, _, _, hl, _, .m _ _ _ _ _ => by simp at hl
  | _ :: _, _, _, _, _, _, _, hl, _, .nil => by simp at hl
def sPar (is : List Nat) (t : TPs) : TSd := fun DE E => t E fun ss E1 => is.length = ss.length ∧ DE.nx (setAll E1 is ss)
/-- x, y = a, b: plain local names -/
theorem sd_par2 {i j : Nat} {x y : Str} {t : TPs} {px py pt : Pos} {kt k2 pt2} (hsl : ∀ n ∈ [i, j], n ∉ G.slots) (hc : X.calm = true) (hN : X.N.Nodup) (hi : X.N[i]? = some x) (hj : X.N[j]? = some y) (hij : i ≠ j)
    (hx : X.env.scope.names.lookup x = some .local) (hy : X.env.scope.names.lookup y = some .local) (ha : EPs X G [a, b] t)
    (hw : swappedStores [.Tuple [.Name x px, .Name y py] kt pt] (.Tuple [a, b] k2 pt2) X.env = pure (some [x, y]) := by rfl)
    (hs : swapsWithSole [.Tuple [.Name x px, .Name y py] kt pt] (.Tuple [a, b] k2 pt2) pos.line X.env = pure false := by rfl) :
    SD X G (.Assign [.Tuple [.Name x px, .Name y py] kt pt] (.Tuple [a, b] k2 pt2) pos) (sPar [i, j] t) :=
  ⟨PS.weak (ps_par hc hN hi hj hij hx hy ha.pa hw hs) fun F σ H ⟨E, DE, r, q, k1, k2, k3, k4⟩ => ⟨E, _, r, q, fun ss E1 vs H1 ex q1 x1 r1 p1 => by
    obtain ⟨hl, q1⟩ := q1
    have hv : vs.length = 2 := by rw [← p1.length, ← hl]; rfl
    match vs, hv, p1 with
    | [v, w], _, p1 => exact ⟨v, w, rfl, k1 _ _ _ q1 x1 (RelX.setAll hsl hl r1 p1)⟩⟩⟩
end
end DL
set_option Elab.async false
set_option linter.all false
set_option maxRecDepth 100000
set_option maxHeartbeats 1000000
namespace DL
open PySem PySem.Spec PyProof.Rows L2
section
variable {X : Cx}
/-! ### arithmetic -/
/-- () + t is t -/
theorem op_catT0 : OpR X (binaryOp .Add) (fun x y H Q => ∃ a b ys, x = .ref a ∧ y = .ref b ∧ SqT X.K H a [] ∧ SqT X.K H b ys ∧ Q (.ref b) H) := by
  intro pins s σ H x y v u Q I rx ry h
  obtain ⟨a, b, ys, rfl, rfl, ha, hb, q⟩ := h
  cases rx
  cases ry
  obtain ⟨its, r1, p1, _⟩ := I.tuple ha
  obtain ⟨its2, r2, p2, _⟩ := I.tuple hb
  have e0 : its = [] := r1.nil_iff.mpr rfl
  subst e0
  obtain ⟨⟨cls, dd, data, sl⟩, ho, hc, n, hd⟩ := id p1
  obtain ⟨⟨cls2, dd2, data2, sl2⟩, ho2, hc2, n2, hd2⟩ := id p2
  simp only at hc hd hc2 hd2
  subst hc hd hc2 hd2
  exact concat_meets ⟨_, ho, rfl⟩ ⟨_, ho2, rfl⟩ noFill_tuple_add seq_tuple_add PySem.F.slot_tuple_add PySem.F.entry_tuple_add (PySem.F.args_tuple_add_2 _ _)
      (tuple_addW0 a b [].toArray its2.toArray n n2 dd dd2 sl sl2 rfl) ⟨ho, ho2, ⟨.ref b, H, I, rfl, q⟩⟩
/-- t + u, both with items: a new, plain tuple -/
theorem op_catF : OpR X (binaryOp .Add) (fun x y H Q => ∃ a b xs ys, x = .ref a ∧ y = .ref b ∧ SqT X.K H a xs ∧ SqT X.K H b ys ∧ xs ≠ [] ∧ xs.length + ys.length ≤ sizeLine ∧ (ys = [] → Q (.ref a) H) ∧ (ys ≠ [] → ∀ p o, H p = none → o.dict = none → Q (.ref p) (upd H p (.frz o (.tup (xs ++ ys)))))) := by
  intro pins s σ H x y v u Q I rx ry h
  obtain ⟨a, b, xs, ys, rfl, rfl, ha, hb, hx, hz, q1, q2⟩ := h
  cases rx; cases ry
  obtain ⟨its, r1, p1, _⟩ := I.tuple ha
  obtain ⟨its2, r2, p2, _⟩ := I.tuple hb
  refine HT.cat_tup p1 p2 (fun z => hx (r1.nil_iff.mp z)) (fun z => ⟨.ref a, H, I, rfl, q1 (r2.nil_iff.mp z)⟩) (fun z => ?_) (by rw [← r1.length, ← r2.length]; exact hz)
  refine ⟨.ref s.heap.objs.size, _, I.laid (t' := s.toks) (o := .frz _ (.tup (xs ++ ys))) (fun b ob q => Heap.get?_push_of_some _ q) (Nat.le_refl _) ⟨Heap.get?_push_size _ rfl, ?_⟩, rfl, q2 (fun w => z (r2.nil_iff.mpr w)) _ _ (I.hok.fresh (Nat.le_refl _)) rfl⟩
  exact ⟨by rw [List.length_append]; exact hz, _, r1.append r2, IsTup.new _ _⟩
/-- tuple(xs) of a list: a new, plain tuple -/
theorem call_tupF : CallR X (.type "tuple") (fun xs H Q => ∃ p ys, xs = [.ref p] ∧ ((SqL X.K H p ys ∧ ∀ l o, H l = none → o.dict = none → Q (.ref l) (upd H l (.frz o (.tup ys)))) ∨ (SqT X.K H p ys ∧ Q (.ref p) H))) := by
  intro pins s σ H xs us Q I r h
  obtain ⟨p, ys, rfl, h⟩ := h
  obtain rfl := Vals.ref1 r
  rcases h with ⟨hq, q⟩ | ⟨hq, q⟩
  · obtain ⟨its, r', pl, hz⟩ := I.list hq
    have hlen := r'.length
    refine call_tuple_list pl.isList (fun h' kp => ?_) (by simp only [List.size_toArray] <;> omega)
    have I1 : Inv X pins σ H { s with heap := h' } := I.kept (t' := s.toks) kp
    exact ⟨.ref h'.objs.size, upd H h'.objs.size (.frz { cls := .type "tuple", data := .seq its.toArray } (.tup ys)), I1.laid (t' := s.toks) (fun b o e => Heap.get?_push_of_some _ e) (Nat.le_refl _) ⟨Heap.get?_push_size _ rfl, hz, its, r', IsTup.new _ _⟩, rfl, q _ _ (I1.hok.fresh (Nat.le_refl _)) rfl⟩
  · obtain ⟨its, r', pl, hz⟩ := I.tuple hq
    exact call_tuple_same pl ⟨.ref p, H, I, rfl, q⟩
def opAdd : OpT := fun x y Q => match x, y with
  | .int i, .int j => Q (.int (i + j))
  | .str a, .str b => a.length + b.length ≤ sizeLine ∧ Q (.str (a ++ b))
  | .tuple xs, .tuple ys => xs.length + ys.length ≤ sizeLine ∧ Q (.tuple (xs ++ ys))
  | _, _ => False
theorem od_add : OpD X (binaryOp .Add) opAdd := by
  refine ⟨_, op_add.or (op_add_str.or (op_catF.or op_catT0)), fun x y v u H QD Q hx hy q k => ?_⟩
  cases x with
  | int i =>
    cases y with
    | int j => rw [hx.int, hy.int]; exact .inl ⟨i, j, rfl, rfl, k _ _ _ q (PExt.refl _) (.int _)⟩
    | _ => exact q.elim
  | str i =>
    cases y with
    | str j => rw [hx.str, hy.str]; exact .inr (.inl ⟨i, j, rfl, rfl, q.1, k _ _ _ q.2 (PExt.refl _) (.str _)⟩)
    | _ => exact q.elim
  | tuple xs =>
    cases y with
    | tuple ys =>
      obtain ⟨a, vs, rfl, sa, la⟩ := hx.tupD
      obtain ⟨b, us, rfl, sb, lb⟩ := hy.tupD
      cases la with
      | nil => exact .inr (.inr (.inr ⟨a, b, us, rfl, rfl, sa.1, sb.1, k _ _ _ q.2 (PExt.refl _) (.tup sb lb)⟩))
      | cons p la =>
        rename_i x0 v0 xs0 vs0
        refine .inr (.inr (.inl ⟨a, b, _, us, rfl, rfl, sa.1, sb.1, List.cons_ne_nil _ _, ?_, fun e => ?_, fun _ p0 o hp ho => ?_⟩))
        · have := q.1
          rw [List.length_cons] at this ⊢
          rw [← la.length, ← lb.length]; exact this
        · subst e
          cases lb
          have := q.2
          rw [List.append_nil] at this
          exact k _ _ _ this (PExt.refl _) (.tup sa (.cons p la))
        · have px := PExt.new (o := .frz o (.tup (v0 :: vs0 ++ us))) hp
          exact k _ _ _ q.2 px (.tup (.new ho) ((RpL.append (.cons p la) lb).ext px.ext))
    | _ => exact q.elim
  | _ => exact q.elim
def opI (C : Int → Int → Prop) (g : Int → Int → Int) : OpT := fun x y Q => match x, y with
  | .int i, .int j => C i j ∧ Q (.int (g i j))
  | _, _ => False
def opI0 (g : Int → Int → Int) : OpT := fun x y Q => match x, y with
  | .int i, .int j => Q (.int (g i j))
  | _, _ => False
def opB0 (g : Int → Int → Bool) : OpT := fun x y Q => match x, y with
  | .int i, .int j => Q (.bool (g i j))
  | _, _ => False
theorem od_I {f : Value → Value → Sem Value} {C : Int → Int → Prop} {g : Int → Int → Int} (h : OpR X f (rI C fun i j => .int (g i j))) : OpD X f (opI C g) := ⟨_, h, fun x y v u H QD Q hx hy q k => by
  cases x with
  | int i =>
    cases y with
    | int j => rw [hx.int, hy.int]; exact ⟨i, j, rfl, rfl, q.1, k _ _ _ q.2 (PExt.refl _) (.int _)⟩
    | _ => exact q.elim
  | _ => exact q.elim⟩
theorem od_I0 {f : Value → Value → Sem Value} {g : Int → Int → Int} (h : OpR X f (rI0 fun i j => .int (g i j))) : OpD X f (opI0 g) := ⟨_, h, fun x y v u H QD Q hx hy q k => by
  cases x with
  | int i =>
    cases y with
    | int j => rw [hx.int, hy.int]; exact ⟨i, j, rfl, rfl, k _ _ _ q (PExt.refl _) (.int _)⟩
    | _ => exact q.elim
  | _ => exact q.elim⟩
theorem od_B0 {f : Value → Value → Sem Value} {g : Int → Int → Bool} (h : OpR X f (rI0 fun i j => .bl (g i j))) : OpD X f (opB0 g) := ⟨_, h, fun x y v u H QD Q hx hy q k => by
  cases x with
  | int i =>
    cases y with
    | int j => rw [hx.int, hy.int]; exact ⟨i, j, rfl, rfl, k _ _ _ q (PExt.refl _) (.bl _)⟩
    | _ => exact q.elim
  | _ => exact q.elim⟩
def opSub : OpT := opI0 fun i j => i - j
theorem od_sub : OpD X (binaryOp .Sub) opSub := od_I0 op_sub
def opMul : OpT := opI CMulW fun i j => i * j
theorem od_mul : OpD X (binaryOp .Mult) opMul := od_I op_mulW
def opDiv : OpT := opI CDivW fun i j => i / j
theorem od_div : OpD X (binaryOp .FloorDiv) opDiv := od_I op_fdivW
def opMod : OpT := opI (fun _ j => 0 < j) fun i j => i % j
theorem od_mod : OpD X (binaryOp .Mod) opMod := od_I op_mod
def opPow : OpT := opI CPow fun i j => i ^ j.toNat
def unNeg : UnT := fun x Q => match x with
  | .int i => Q (.int (-i))
  | _ => False
theorem ud_neg : UnD X (unaryOp .USub) unNeg := ⟨_, un_neg, fun x v H QD Q hx q k => by
  cases x with
  | int i => rw [hx.int]; exact ⟨i, rfl, k _ _ _ q (PExt.refl _) (.int _)⟩
  | _ => exact q.elim⟩
/-! ### comparisons -/
def opEq : OpT := fun x y Q => (SeqAt.shaped x = true ∧ SeqAt.shaped y = true) ∧ Q (.bool (PyData.eqv x y))
def opNe : OpT := fun x y Q => (SeqAt.shaped x = true ∧ SeqAt.shaped y = true) ∧ Q (.bool (!PyData.eqv x y))
theorem od_eq (hu : X.A.units + 64 < cLine) : OpD X (compareOp .Eq) opEq := ⟨_, op_eqD hu, fun x y v u H QD Q hx hy q k => ⟨x, y, hx.dp (SeqAt.canLay_of_shaped q.1.1), hy.dp (SeqAt.canLay_of_shaped q.1.2), q.1.1, q.1.2, k _ _ _ q.2 (PExt.refl _) (.bl _)⟩⟩
theorem od_ne (hu : X.A.units + 64 < cLine) : OpD X (compareOp .NotEq) opNe := ⟨_, op_neD hu, fun x y v u H QD Q hx hy q k => ⟨x, y, hx.dp (SeqAt.canLay_of_shaped q.1.1), hy.dp (SeqAt.canLay_of_shaped q.1.2), q.1.1, q.1.2, k _ _ _ q.2 (PExt.refl _) (.bl _)⟩⟩
def opLt : OpT := opB0 fun i j => decide (i < j)
theorem od_lt : OpD X (compareOp .Lt) opLt := od_B0 op_lt
def opLe : OpT := opB0 fun i j => decide (i ≤ j)
theorem od_le : OpD X (compareOp .LtE) opLe := od_B0 op_le
def opGt : OpT := opB0 fun i j => decide (j < i)
theorem od_gt : OpD X (compareOp .Gt) opGt := od_B0 op_gt
def opGe : OpT := opB0 fun i j => decide (j ≤ i)
theorem od_ge : OpD X (compareOp .GtE) opGe := od_B0 op_ge
def isNone : D → Bool
  | .none => true
  | _ => false
def opIs : OpT := fun x y Q => match y with
  | .none => Q (.bool (isNone x))
  | .bool b => match x with
    | .bool a => Q (.bool (decide (a = b)))
    | _ => False
  | _ => False
def opIsN : OpT := fun x y Q => match y with
  | .none => Q (.bool (!isNone x))
  | .bool b => match x with
    | .bool a => Q (.bool (!decide (a = b)))
    | _ => False
  | _ => False
theorem isNone_iff {K : PySem.W.Frag} {H : Hp} {x : D} {v : V} (h : RpR K H x v) : isNone x = decide (v = .non) := by
  rcases h with h | ⟨ds, a, vs, rfl, rfl, _⟩
  · cases h <;> rfl
  · rfl
theorem od_is : OpD X (compareOp .Is) opIs := ⟨_, op_isN.or op_isBl, fun x y v u H QD Q hx hy q k => by
  cases y with
  | none => rw [hy.none]; exact .inl ⟨rfl, by rw [← isNone_iff hx]; exact k _ _ _ q (PExt.refl _) (.bl _)⟩
  | bool b =>
    cases x with
    | bool a => rw [hx.bool, hy.bool]; exact .inr ⟨a, b, rfl, rfl, k _ _ _ q (PExt.refl _) (.bl _)⟩
    | _ => exact q.elim
  | _ => exact q.elim⟩
/-! x in a list, a tuple -/
def opIn : OpT := fun x y Q => match y with
  | .list ds => (SeqAt.shaped x = true ∧ SeqAt.shaped (.list ds) = true) ∧ Q (.bool (ds.any fun z => PyData.eqv z x))
  | .tuple ds => (SeqAt.shaped x = true ∧ SeqAt.shaped (.tuple ds) = true) ∧ Q (.bool (ds.any fun z => PyData.eqv z x))
  | _ => False
def opNotIn : OpT := fun x y Q => match y with
  | .list ds => (SeqAt.shaped x = true ∧ SeqAt.shaped (.list ds) = true) ∧ Q (.bool (!ds.any fun z => PyData.eqv z x))
  | .tuple ds => (SeqAt.shaped x = true ∧ SeqAt.shaped (.tuple ds) = true) ∧ Q (.bool (!ds.any fun z => PyData.eqv z x))
  | _ => False
end
section
variable {X : Cx} {G : Gh} {a b c e : Expr} {es : List Expr} {pos p p2 : Pos} {x : Str}
/-! ### chains -/
def tChainD (o o' : OpT) (ta tb tc : TD) : TD := fun E Q => ta E fun x E1 => tb E1 fun y E2 => o x y fun z => match z with
  | .bool true => tc E2 fun w E3 => o' y w fun r => Q r E3
  | .bool false => Q (.bool false) E2
  | _ => False
/-! ### items -/
def atD (xs : List D) (i : Int) (Q : D → Prop) : Prop := match atI xs i with
  | some d => Q d
  | none => False
def opIx : OpT := fun x y Q => match x, y with
  | .list xs, .int i => atD xs i Q
  | .tuple xs, .int i => atD xs i Q
  | .str z, .int i => match atI z.cps.toList i with
    | some c => z.length ≤ sizeLine ∧ Q (.str ⟨#[c]⟩)
    | none => False
  | _, _ => False
theorem atI_rp {K : PySem.W.Frag} {H : Hp} {ds : List D} {vs : List V} {i : Int} {d : D} (l : RpL K H ds vs) (h : atI ds i = some d) : ∃ v, atI vs i = some v ∧ Rp K H d v := by
  unfold atI at h ⊢
  rw [l.length] at h
  cases q : ixN vs.length i with
  | none => rw [q] at h; cases h
  | some j =>
    rw [q] at h
    exact l.get h
theorem lift_ix {r : R2} {ta tb : TD} (hr : r = rIx X.K) (σ : St) (H : Hp) (Q : VK) (h : liftE X.K G (tOpD opIx ta tb) σ H Q) : tOp r (liftE X.K G ta) (liftR X.K G tb) σ H Q := by
  subst hr
  refine lift_bin (fun x y v u H QD Q hx hy q k => ?_) σ H Q h
  cases y with
  | int i =>
    rw [hy.int]
    cases x with
    | list xs =>
      obtain ⟨a, vs, rfl, hs, l⟩ := hx.list
      have q : atD xs i QD := q
      unfold atD at q
      split at q
      · rename_i d hd
        obtain ⟨v, hv, pv⟩ := atI_rp l hd
        exact .inl ⟨a, vs, i, v, rfl, rfl, hs, hv, k _ _ _ q (PExt.refl _) pv⟩
      · exact q.elim
    | tuple xs =>
      obtain ⟨a, vs, rfl, hs, l⟩ := hx.tuple
      have q : atD xs i QD := q
      unfold atD at q
      split at q
      · rename_i d hd
        obtain ⟨v, hv, pv⟩ := atI_rp l hd
        exact .inr (.inl ⟨a, vs, i, v, rfl, rfl, hs, hv, k _ _ _ q (PExt.refl _) pv⟩)
      · exact q.elim
    | str z =>
      rw [hx.str]
      have q : (match atI z.cps.toList i with
        | some c => z.length ≤ sizeLine ∧ QD (.str ⟨#[c]⟩)
        | none => False) := q
      split at q
      · rename_i c hc
        exact .inr (.inr ⟨z, i, c, rfl, rfl, q.1, hc, k _ _ _ q.2 (PExt.refl _) (.str _)⟩)
      · exact q.elim
    | _ => exact q.elim
  | _ => cases x <;> exact q.elim
theorem ed_ix {ta tb : TD} (ha : ED X G a ta) (hb : ED X G b tb) (hs : PlainIx b := by exact fun _ _ => rfl) : ED X G (.Subscript a b pos) (tOpD opIx ta tb) :=
  ⟨PE.weak (pe_ix ix_seq ha.pe hb.er.pe hs) fun σ H Q h => lift_ix rfl σ H Q h⟩
/-- an item of a list of one's own, at a name -/
def tIxO (i : Nat) (tb : TD) : TD := fun E Q => match E[i]? with
  | some (.ol _) => tb E fun y E1 => match E1[i]?, y with
    | some (.ol xs), .int k => atD xs k fun d => Q d E1
    | _, _ => False
  | _ => False
theorem ed_ixO (i : Nat) {tb : TD} (hb : ED X G b tb) (hN : X.N[i]? = some x := by rfl) (hv : Vis X.env.scope x := by first | exact Or.inl rfl | exact Or.inr (Or.inl rfl) | exact Or.inr (Or.inr rfl)) (hd : (x == ("__debug__" : Str)) = false := by decide)
    (hcd : (x == ("__classdict__" : Str)) = false := by decide) (hs : PlainIx b := by exact fun _ _ => rfl) : ED X G (.Subscript (.Name x p) b pos) (tIxO i tb) :=
  ⟨PE.weak (pe_ix ix_list (pe_var hN hv hd hcd) hb.pe hs) fun σ H Q ⟨E, QE, r, q, k⟩ => by
    unfold tIxO at q
    split at q
    · rename_i xs0 he0
      obtain ⟨l, vs0, e1, e2, e3⟩ := r.ol he0
      refine ⟨_, e1, E, _, r, q, fun d E1 v H1 q1 x1 r1 p1 => ?_⟩
      split at q1
      · rename_i o0 d0 xs j he
        cases p1
        obtain ⟨l', vs, f1, f2, f3⟩ := r1.ol he
        rw [e1] at f1; cases f1
        unfold atD at q1
        split at q1
        · rename_i d hd
          obtain ⟨v, hv, pv⟩ := atI_rp f3 hd
          exact ⟨l, vs, j, v, rfl, rfl, SqL.of f2, hv, k _ _ _ _ q1 x1 r1 pv⟩
        · exact q1.elim
      · exact q1.elim
    · exact q.elim⟩
/-! ### calls of builtins -/
abbrev CaT := List D → (D → Prop) → Prop
abbrev CaL := List D → (List D → Prop) → Prop
inductive RpRs (K : PySem.W.Frag) (H : Hp) : List D → List V → Prop
  | nil : RpRs K H [] []
  | cons {d : D} {v : V} {ds : List D} {vs : List V} : RpR K H d v → RpRs K H ds vs → RpRs K H (d :: ds) (v :: vs)
theorem RpRs.one {K : PySem.W.Frag} {H : Hp} {d : D} {vs : List V} (h : RpRs K H [d] vs) : ∃ v, vs = [v] ∧ RpR K H d v := by
  cases h with
  | cons h t => cases t; exact ⟨_, rfl, h⟩
def CaD (X : Cx) (f : Value) (op : CaT) : Prop := ∃ r, CallR X f r ∧ ∀ ds vs H (QD : D → Prop) (Q : VK), RpRs X.K H ds vs → op ds QD → (∀ z w H', QD z → PExt H H' → Rp X.K H' z w → Q w H') → r vs H Q
/-- a new list is handed back -/
def CaLD (X : Cx) (f : Value) (op : CaL) : Prop := ∃ r, CallR X f r ∧ ∀ ds vs H (QD : List D → Prop) (Q : VK), RpRs X.K H ds vs → op ds QD → (∀ zs us p, QD zs → H p = none → RpL X.K H zs us → Q (.ref p) (upd H p (.lst us))) → r vs H Q
def tCa1 (op : CaT) (ta : TD) : TD := fun E Q => ta E fun x E1 => op [x] fun z => Q z E1
def tCa2 (op : CaT) (ta tb : TD) : TD := fun E Q => ta E fun x E1 => tb E1 fun y E2 => op [x, y] fun z => Q z E2
def tCaL1 (op : CaL) (ta : TD) : TLd := fun E Q => ta E fun x E1 => op [x] fun z => Q z E1
section
variable {id : String} {op : CaT} {opl : CaL} {ta tb : TD}
theorem lift_ca1 {r : List V → Hp → VK → Prop} (hq : ∀ ds vs H (QD : D → Prop) (Q : VK), RpRs X.K H ds vs → op ds QD → (∀ z w H', QD z → PExt H H' → Rp X.K H' z w → Q w H') → r vs H Q)
    (σ : St) (H : Hp) (Q : VK) (h : liftE X.K G (tCa1 op ta) σ H Q) : tCB r (tCons (liftR X.K G ta) tNil) σ H Q := by
  obtain ⟨E, QE, rel, q, k⟩ := h
  refine ⟨E, _, rel, q, fun x E1 v H1 q1 x1 r1 p1 => ?_⟩
  exact hq [x] [v] H1 _ Q (.cons p1 .nil) q1 fun z w H3 q3 p3 rz => k z E1 w H3 q3 (x1.trans p3.ext) (r1.pext p3) rz
theorem ed_ca1 (hc : CaD X (.builtin id) op) (ha : ER X G a ta) (hg : Gl X x) (hm : X.mg x = none) (hv : bootBuiltins x = some (.builtin id)) (hn : x ≠ "__name__" := by decide) (hdb : (x == ("__debug__" : Str)) = false := by decide)
    (hs : starEach [a] X.env = (false, eval a X.env) :: starEach [] X.env := by rfl) (hpl : (backTo pos (starEach [] X.env)).any (·.1) = false := by rfl) : ED X G (.Call (.Name x p) [a] [] pos) (tCa1 op ta) := by
  obtain ⟨r, hr, hq⟩ := hc
  exact ⟨PE.weak (pe_callB hr hg hm hv (pa_cons ha.pe pa_nil hs) hn hdb hs hpl) fun σ H Q h => lift_ca1 hq σ H Q h⟩
theorem ed_caT1 (hc : CaD X (.type id) op) (ha : ER X G a ta) (hg : Gl X x) (hm : X.mg x = none) (hv : bootBuiltins x = some (.type id)) (hn : x ≠ "__name__" := by decide) (hdb : (x == ("__debug__" : Str)) = false := by decide)
    (hs : starEach [a] X.env = (false, eval a X.env) :: starEach [] X.env := by rfl) (hpl : (backTo pos (starEach [] X.env)).any (·.1) = false := by rfl) : ED X G (.Call (.Name x p) [a] [] pos) (tCa1 op ta) := by
  obtain ⟨r, hr, hq⟩ := hc
  exact ⟨PE.weak (pe_callTy hr hg hm hv (pa_cons ha.pe pa_nil hs) hn hdb hs hpl) fun σ H Q h => lift_ca1 hq σ H Q h⟩
theorem lift_caL1 {r : List V → Hp → VK → Prop} (hq : ∀ ds vs H (QD : List D → Prop) (Q : VK), RpRs X.K H ds vs → opl ds QD → (∀ zs us p, QD zs → H p = none → RpL X.K H zs us → Q (.ref p) (upd H p (.lst us))) → r vs H Q)
    (σ : St) (H : Hp) (Q : VK) (h : liftL X.K G (tCaL1 opl ta) σ H Q) : tCB r (tCons (liftR X.K G ta) tNil) σ H Q := by
  obtain ⟨E, QE, rel, q, k⟩ := h
  refine ⟨E, _, rel, q, fun x E1 v H1 q1 x1 r1 p1 => ?_⟩
  refine hq [x] [v] H1 _ Q (.cons p1 .nil) q1 fun zs us p q3 hp rz => ?_
  obtain ⟨r2, h0, na⟩ := r1.fresh (o := .lst us) hp
  exact k zs E1 p us _ q3 (x1.trans (PExt.new hp).ext) r2 h0 na upd_same (rz.ext (PExt.new hp).ext)
theorem el_ca1 (hc : CaLD X (.builtin id) opl) (ha : ER X G a ta) (hg : Gl X x) (hm : X.mg x = none) (hv : bootBuiltins x = some (.builtin id)) (hn : x ≠ "__name__" := by decide) (hdb : (x == ("__debug__" : Str)) = false := by decide)
    (hs : starEach [a] X.env = (false, eval a X.env) :: starEach [] X.env := by rfl) (hpl : (backTo pos (starEach [] X.env)).any (·.1) = false := by rfl) : EL X G (.Call (.Name x p) [a] [] pos) (tCaL1 opl ta) := by
  obtain ⟨r, hr, hq⟩ := hc
  exact ⟨PE.weak (pe_callB hr hg hm hv (pa_cons ha.pe pa_nil hs) hn hdb hs hpl) fun σ H Q h => lift_caL1 hq σ H Q h⟩
end
/-! len, abs, max, min, sum, all, tuple, list, int -/
def caLen : CaT := fun ds Q => match ds with
  | [.list xs] => Q (.int xs.length)
  | [.tuple xs] => Q (.int xs.length)
  | [.str z] => z.length ≤ sizeLine ∧ Q (.int z.length)
  | _ => False
theorem cd_len : CaD X (.builtin "len") caLen := by
  refine ⟨_, (show CallR X (.builtin "len") (fun xs H Q => (∃ p ys, xs = [.ref p] ∧ (SqL X.K H p ys ∨ SqT X.K H p ys) ∧ Q (.int ys.length) H) ∨ ∃ z, xs = [.str z] ∧ z.length ≤ sizeLine ∧ Q (.int z.length) H) from fun pins s σ H vs us Q I r h => by
    rcases h with h | h
    · exact call_len_seq pins s σ H vs us Q I r h
    · exact call_len_str pins s σ H vs us Q I r h), fun ds vs H QD Q hd q k => ?_⟩
  match ds, q, hd with
  | [.list xs], q, hd =>
    obtain ⟨v, rfl, h⟩ := hd.one
    obtain ⟨a, us, rfl, hs, l⟩ := h.list
    exact .inl ⟨a, us, rfl, .inl hs, by rw [← l.length]; exact k _ _ _ q (PExt.refl _) (.int _)⟩
  | [.tuple xs], q, hd =>
    obtain ⟨v, rfl, h⟩ := hd.one
    obtain ⟨a, us, rfl, hs, l⟩ := h.tuple
    exact .inl ⟨a, us, rfl, .inr hs, by rw [← l.length]; exact k _ _ _ q (PExt.refl _) (.int _)⟩
  | [.str z], q, hd =>
    obtain ⟨v, rfl, h⟩ := hd.one
    rw [h.str]
    exact .inr ⟨z, rfl, q.1, k _ _ _ q.2 (PExt.refl _) (.int _)⟩
def caAbs : CaT := fun ds Q => match ds with
  | [.int i] => Q (.int (if i < 0 then -i else i))
  | _ => False
theorem cd_abs : CaD X (.builtin "abs") caAbs := ⟨_, call_abs, fun ds vs H QD Q hd q k => by
  match ds, q, hd with
  | [.int i], q, hd =>
    obtain ⟨v, rfl, h⟩ := hd.one
    rw [h.int]
    exact ⟨i, rfl, k _ _ _ q (PExt.refl _) (.int _)⟩⟩
def caMax2 : CaT := fun ds Q => match ds with
  | [.int i, .int j] => Q (.int (if j > i then j else i))
  | _ => False
def caMin2 : CaT := fun ds Q => match ds with
  | [.int i, .int j] => Q (.int (if j < i then j else i))
  | _ => False
theorem RpL.bools {K : PySem.W.Frag} {H : Hp} : ∀ {ns : List Bool} {vs : List V}, RpL K H (ns.map PyData.bool) vs → vs = ns.map V.bl
  | [], _, .nil => rfl
  | _ :: _, _, .cons (.bl _) t => by rw [RpL.bools t]; rfl
def caSum : CaT := fun ds Q => match ds with
  | [.list xs] => ∃ ns : List Int, xs = ns.map PyData.int ∧ Q (.int ns.sum)
  | _ => False
theorem cd_sum (hc : X.calm = true) : CaD X (.builtin "sum") caSum := ⟨_, cr_sum hc, fun ds vs H QD Q hd q k => by
  match ds, q, hd with
  | [.list xs], q, hd =>
    obtain ⟨ns, rfl, q⟩ := q
    obtain ⟨v, rfl, h⟩ := hd.one
    obtain ⟨a, us, rfl, hs, l⟩ := h.list
    have := l.ints; subst this
    exact ⟨a, ns, rfl, hs, k _ _ _ q (PExt.refl _) (.int _)⟩⟩
def caMax : CaT := fun ds Q => match ds with
  | [.list xs] => ∃ ns : List Int, xs = ns.map PyData.int ∧ 0 < ns.length ∧ ∀ m, m ∈ ns → (∀ y, y ∈ ns → y ≤ m) → Q (.int m)
  | _ => False
theorem cd_max (hc : X.calm = true) : CaD X (.builtin "max") caMax := ⟨_, cr_max hc, fun ds vs H QD Q hd q k => by
  match ds, q, hd with
  | [.list xs], q, hd =>
    obtain ⟨ns, rfl, hl, q⟩ := q
    obtain ⟨v, rfl, h⟩ := hd.one
    obtain ⟨a, us, rfl, hs, l⟩ := h.list
    have := l.ints; subst this
    exact ⟨a, ns, rfl, hs, hl, fun m h1 h2 => k _ _ _ (q m h1 h2) (PExt.refl _) (.int _)⟩⟩
def caMin : CaT := fun ds Q => match ds with
  | [.list xs] => ∃ ns : List Int, xs = ns.map PyData.int ∧ 0 < ns.length ∧ ∀ m, m ∈ ns → (∀ y, y ∈ ns → m ≤ y) → Q (.int m)
  | _ => False
def caAll : CaT := fun ds Q => match ds with
  | [.list xs] => ∃ bs : List Bool, xs = bs.map PyData.bool ∧ Q (.bool (bs.all id))
  | _ => False
theorem cd_all (hc : X.calm = true) : CaD X (.builtin "all") caAll := ⟨_, cr_all hc, fun ds vs H QD Q hd q k => by
  match ds, q, hd with
  | [.list xs], q, hd =>
    obtain ⟨bs, rfl, q⟩ := q
    obtain ⟨v, rfl, h⟩ := hd.one
    obtain ⟨a, us, rfl, hs, l⟩ := h.list
    have := l.bools; subst this
    exact ⟨a, bs, rfl, hs, k _ _ _ q (PExt.refl _) (.bl _)⟩⟩
def caTuple : CaT := fun ds Q => match ds with
  | [.list xs] => Q (.tuple xs)
  | [.tuple xs] => Q (.tuple xs)
  | _ => False
theorem cd_tuple : CaD X (.type "tuple") caTuple := ⟨_, call_tupF, fun ds vs H QD Q hd q k => by
  match ds, q, hd with
  | [.list xs], q, hd =>
    obtain ⟨v, rfl, h⟩ := hd.one
    obtain ⟨a, us, rfl, hs, l⟩ := h.list
    exact ⟨a, us, rfl, .inl ⟨hs, fun p o hp ho => k _ _ _ q (PExt.new hp) (.tup (.new ho) (l.ext (PExt.new hp).ext))⟩⟩
  | [.tuple xs], q, hd =>
    obtain ⟨v, rfl, h⟩ := hd.one
    obtain ⟨a, us, rfl, hs, l⟩ := h.tupD
    exact ⟨a, us, rfl, .inr ⟨hs.1, k _ _ _ q (PExt.refl _) (.tup hs l)⟩⟩⟩
def caList : CaL := fun ds Q => match ds with
  | [.list xs] => Q xs
  | [.tuple xs] => Q xs
  | _ => False
def caInt : CaT := fun ds Q => match ds with
  | [.int i] => Q (.int i)
  | [.bool b] => Q (.int (if b then 1 else 0))
  | _ => False
theorem cd_int : CaD X (.type "int") caInt := ⟨_, call_int1, fun ds vs H QD Q hd q k => by
  match ds, q, hd with
  | [.int i], q, hd =>
    obtain ⟨v, rfl, h⟩ := hd.one
    rw [h.int]; exact .inl ⟨i, rfl, k _ _ _ q (PExt.refl _) (.int _)⟩
  | [.bool b], q, hd =>
    obtain ⟨v, rfl, h⟩ := hd.one
    rw [h.bool]; exact .inr ⟨b, rfl, k _ _ _ q (PExt.refl _) (.int _)⟩⟩
end
end DL
set_option Elab.async false
set_option linter.all false
set_option maxRecDepth 100000
set_option maxHeartbeats 1000000
namespace DL
open PySem PySem.Spec PyProof.Rows L2
section
variable {X : Cx} {G : Gh} {a b c e : Expr} {es : List Expr} {pos p p1 p2 p3 : Pos} {x : Str}
/-- a list whose object is plain -/
def LsP (K : PySem.W.Frag) (H : Hp) (a : Addr) (vs : List V) : Prop := H a = some (.lst vs) ∨ LsF K H a vs
theorem LsP.at {K : PySem.W.Frag} {H : Hp} {a : Addr} {vs : List V} {P : Program} {w : World} {h : Heap} (l : LsP K H a vs) (hok : HOk P w H h) (KX : K.In h) : vs.length ≤ sizeLine ∧ ∃ (its : List Value) (n : Nat), Vals vs its ∧ h.get? a = some { cls := .type "list", data := .seq its.toArray n } := by
  rcases l with l | ⟨o, l⟩ | ⟨its, n, e, z, r⟩
  · exact Rd.ok (.inl l) hok
  · exact Rd.ok (.inr ⟨o, l⟩) hok
  · refine ⟨?_, its.toList, n, r, by have := KX _ _ e; simpa using this⟩
    have e2 := r.length
    simp only [Array.length_toList] at e2
    omega
theorem RpR.listR {K : PySem.W.Frag} {H : Hp} {ds : List D} {v : V} (h : RpR K H (.list ds) v) : ∃ a vs, v = .ref a ∧ LsP K H a vs ∧ RpL K H ds vs := by
  rcases h with h | ⟨ds, a, vs, e, rfl, h, l⟩
  · cases h with
    | lst h l => exact ⟨_, _, rfl, .inr h, l⟩
  · cases e
    exact ⟨_, _, rfl, .inl h, l⟩
/-! ### list + list, list * int: new lists -/
def OpLD (X : Cx) (f : Value → Value → Sem Value) (op : D → D → (List D → Prop) → Prop) : Prop := ∃ r : R2, OpR X f r ∧
  ∀ x y v u H (QD : List D → Prop) (Q : VK), RpR X.K H x v → RpR X.K H y u → op x y QD → (∀ zs us q, QD zs → H q = none → RpL X.K H zs us → Q (.ref q) (upd H q (.lst us))) → r v u H Q
def tOpL (op : D → D → (List D → Prop) → Prop) (ta tb : TD) : TLd := fun E Q => ta E fun x E1 => tb E1 fun y E2 => op x y fun z => Q z E2
theorem el_op {op : Operator} {o : D → D → (List D → Prop) → Prop} {ta tb : TD} (ho : OpLD X (binaryOp op) o) (ha : ED X G a ta) (hb : ER X G b tb) : EL X G (.BinOp a op b pos) (tOpL o ta tb) := by
  obtain ⟨r, hr, hq⟩ := ho
  refine ⟨PE.weak (pe_op hr ha.pe hb.pe) fun σ H Q ⟨E, QE, rel, q, k⟩ => ⟨E, _, rel, q, fun x E1 v H1 q1 x1 r1 p1 => ⟨E1, _, r1, q1, fun y E2 u H2 q2 x2 r2 p2 => ?_⟩⟩⟩
  refine hq x y v u H2 _ Q (.inl (p1.ext x2)) p2 q2 fun zs us q3 qz hp rz => ?_
  obtain ⟨r3, h0, na⟩ := r2.fresh (o := .lst us) hp
  exact k zs E2 q3 us _ qz ((x1.trans x2).trans (PExt.new hp).ext) r3 h0 na upd_same (rz.ext (PExt.new hp).ext)
theorem op_catR : OpR X (binaryOp .Add) (fun x y H Q => ∃ l b xs zs, x = .ref l ∧ y = .ref b ∧ LsP X.K H l xs ∧ LsP X.K H b zs ∧ xs.length + zs.length ≤ sizeLine ∧ ∀ p, H p = none → Q (.ref p) (upd H p (.lst (xs ++ zs)))) := by
  intro pins s σ H x y v u Q I rx ry h
  obtain ⟨l, b, xs, zs, rfl, rfl, hH, hB, hz, q⟩ := h
  cases rx
  cases ry
  obtain ⟨z, its, n, r, e⟩ := hH.at I.hok I.kIn
  obtain ⟨z2, its2, n2, r2, e2⟩ := hB.at I.hok I.kIn
  have hl := r.length
  have hl2 := r2.length
  refine PySem.P.add_list e e2 ?_ (by rw [List.size_toArray, List.size_toArray]; omega)
  have ea : its.toArray ++ its2.toArray = (its ++ its2).toArray := by simp
  rw [ea]
  exact ⟨.ref _, _, I.lnew (t' := s.toks) (r.append r2) (by rw [List.length_append]; omega), rfl, q _ I.fresh⟩
def opCat : D → D → (List D → Prop) → Prop := fun x y Q => match x, y with
  | .list xs, .list ys => xs.length + ys.length ≤ sizeLine ∧ Q (xs ++ ys)
  | _, _ => False
theorem od_cat : OpLD X (binaryOp .Add) opCat := ⟨_, op_catR, fun x y v u H QD Q hx hy q k => by
  cases x with
  | list xs =>
    cases y with
    | list ys =>
      obtain ⟨a, vs, rfl, sa, la⟩ := hx.listR
      obtain ⟨b, us, rfl, sb, lb⟩ := hy.listR
      exact ⟨a, b, vs, us, rfl, rfl, sa, sb, by rw [← la.length, ← lb.length]; exact q.1, fun p hp => k _ _ _ q.2 hp (la.append lb)⟩
    | _ => exact q.elim
  | _ => exact q.elim⟩
def opRep : D → D → (List D → Prop) → Prop := fun x y Q => match x, y with
  | .list xs, .int k => (-(2 ^ 63) ≤ k ∧ k < 2 ^ 63 ∧ xs.length * k.toNat ≤ sizeLine) ∧ Q (List.replicate k.toNat xs).flatten
  | _, _ => False
/-! ### slices -/
def cutD (xs : List D) (lo hi : Option Int) : List D := (xs.drop (HT.sIx xs.length 0 lo)).take (HT.sIx xs.length xs.length hi - HT.sIx xs.length 0 lo)
theorem RpL.cut {K : PySem.W.Frag} {H : Hp} {ds : List D} {vs : List V} (l : RpL K H ds vs) (lo hi : Option Int) : RpL K H (cutD ds lo hi) (cutV vs lo hi) := by
  unfold cutD cutV
  rw [l.length]
  exact (l.drop _).take _
abbrev TOd := Env → (Option Int → Env → Prop) → Prop
def liftO (K : PySem.W.Frag) (G : Gh) (t : TOd) : TO := fun σ H Q => ∃ (E : Env) (QE : Option Int → Env → Prop), RelE K G H E σ ∧ t E QE ∧ ∀ o E' H', QE o E' → Ext H H' → RelE K G H' E' σ → Q o H'
structure EO (X : Cx) (G : Gh) (e : Option Expr) (t : TOd) : Prop where
  po : PO X e (liftO X.K G t)
theorem PO.weak {e : Option Expr} {t u : TO} (h : PO X e t) (w : ∀ σ H Q, u σ H Q → t σ H Q) : PO X e u := ⟨fun pins s σ H Q I q => h.run pins s σ H Q I (w σ H Q q)⟩
def oNo : TOd := fun E Q => Q none E
def oE (t : TD) : TOd := fun E Q => t E fun d E1 => match d with
  | .int i => Q (some i) E1
  | _ => False
theorem eo_no : EO X G none oNo := ⟨PO.weak po_none fun σ H Q ⟨E, QE, r, q, k⟩ => k _ _ _ q (Ext.refl _) r⟩
theorem eo_e {t : TD} (h : ED X G e t) : EO X G (some e) (oE t) := ⟨PO.weak (po_some h.pe) fun σ H Q ⟨E, QE, r, q, k⟩ => ⟨E, _, r, q, fun d E1 v H1 q1 x1 r1 p1 => by
  cases p1 with
  | int i => exact ⟨i, rfl, k _ _ _ q1 x1 r1⟩
  | _ => exact q1.elim⟩⟩
/-- t[lo:hi], the whole: t itself -/
theorem whole_tuple {prog : Program} {w : World} {A : Around} {E : Value → Shared → Prop} {s : Shared} {t sl : Addr} {items : Array Value} {vl vu : Value} {lo hi : Option Int} {Q : Value → Shared → Prop} (ht : IsTup s.heap t items) (hs : s.heap.IsSliceOf sl vl vu .none) (pl : IsPart vl lo) (pu : IsPart vu hi)
    (hw : HT.sIx items.size 0 lo = 0 ∧ HT.sIx items.size items.size hi = items.size) (h : Q (.ref t) s) : wpAny (model prog w) A (getItem (.ref t) (.ref sl)) Q E s := by
  obtain ⟨os, hos, hcs, hds⟩ := id hs
  have hTs : s.TypeIs (.ref sl) "slice" := ⟨os, hos, hcs⟩
  unfold getItem
  try with_reducible refine wpAny_holding ?_
  first | refine wpAny_bind (wpAny_pure ?_) | skip
  refine wpAny_bind (wpAny_sequenceKey ht.typeIs (by decide) ?_)
  refine wpAny_bind (wpAny_callSpecial?_slot (name := Str.ofString "__getitem__") ht.typeIs PyProof.Rows.slot_tuple_getitem
    (wpAny_call_entry PyProof.Rows.slot_tuple_getitem ht.typeIs entry_tuple_getitem ?_ (args_tuple_getitem _ _)))
  show wpAny _ _ (Builtin.Tuple.tupleItemsOf (.ref t) >>= _) _ _ s
  refine wpAny_bind (tupleItemsOf_ ht ?_)
  refine wpAny_bind (wpAny_typeOf hTs ?_)
  rw [if_pos (by decide)]
  refine wpAny_bind (HT.sliceApplied_gen hs pl pu ?_)
  have hyes : (((HT.sIx items.size 0 lo : Nat) : Int) == 0 && (1 : Int) == 1 && (HT.sIx items.size items.size hi - HT.sIx items.size 0 lo) == items.size) = true := by
    rw [hw.1, hw.2]; simp
  show wpAny _ _ (if (((HT.sIx items.size 0 lo : Nat) : Int) == 0 && (1 : Int) == 1 && (HT.sIx items.size items.size hi - HT.sIx items.size 0 lo) == items.size) = true then _ else _) _ _ s
  rw [if_pos hyes]
  refine wpAny_bind ?_
  · unfold Builtin.Tuple.tupleIsExact
    refine wpAny_bind (wpAny_typeOf ht.typeIs (wpAny_pure ?_))
    rw [if_pos (by decide)]
    exact wpAny_bind (wpAny_rule (wpAny_pure ⟨_, rfl, wpAny_pure h⟩))
theorem sl_tupW : SlR X (fun x lo hi H Q => ∃ a xs, x = .ref a ∧ SqT X.K H a xs ∧ (HT.sIx xs.length 0 lo = 0 ∧ HT.sIx xs.length xs.length hi = xs.length) ∧ Q (.ref a) H) := by
  intro pins s σ H x v vl vu lo hi sl Q I rx hs pl pu h
  obtain ⟨a, xs, rfl, hx, hw, q⟩ := h
  cases rx
  obtain ⟨its, r, ht, hz⟩ := I.tuple hx
  have hlen : its.toArray.size = xs.length := by rw [List.size_toArray]; exact r.length.symm
  refine ⟨"tuple", _, PyProof.Rows.slot_tuple_getitem.lookup, ht.typeIs, ?_⟩
  exact whole_tuple ht hs pl pu (by rw [hlen]; exact hw) ⟨.ref a, H, I, rfl, q⟩
/-- t[lo:hi], not the whole: a new, plain tuple -/
theorem sl_tupF : SlR X (fun x lo hi H Q => ∃ a xs, x = .ref a ∧ SqT X.K H a xs ∧ ¬ (HT.sIx xs.length 0 lo = 0 ∧ HT.sIx xs.length xs.length hi = xs.length) ∧ ∀ p o, H p = none → o.dict = none → Q (.ref p) (upd H p (.frz o (.tup (cutV xs lo hi))))) := by
  intro pins s σ H x v vl vu lo hi sl Q I rx hs pl pu h
  obtain ⟨a, xs, rfl, hx, hw, q⟩ := h
  cases rx
  obtain ⟨its, r, ht, hz⟩ := I.tuple hx
  have hlen : its.toArray.size = xs.length := by rw [List.size_toArray]; exact r.length.symm
  refine ⟨"tuple", _, PyProof.Rows.slot_tuple_getitem.lookup, ht.typeIs, HT.getItem_tuple_cut ht hs pl pu (by rw [hlen]; exact hw) ?_ (by rw [hlen]; exact hz)⟩
  rw [hlen]
  exact ⟨.ref s.heap.objs.size, _, I.laid (t' := s.toks) (o := .frz _ (.tup (cutV xs lo hi))) (fun b ob q => Heap.get?_push_of_some _ q) (Nat.le_refl _) ⟨Heap.get?_push_size _ rfl, Nat.le_trans (cutV_length xs lo hi) hz, _, (r.drop (HT.sIx xs.length 0 lo)).take (HT.sIx xs.length xs.length hi - HT.sIx xs.length 0 lo), IsTup.new _ _⟩, rfl, q _ _ (I.hok.fresh (Nat.le_refl _)) rfl⟩
def slD (x : D) (lo hi : Option Int) (Q : D → Prop) : Prop := match x with
  | .tuple xs => Q (.tuple (cutD xs lo hi))
  | .str z => z.length ≤ sizeLine ∧ Q (.str (cutS z lo hi))
  | _ => False
def tSlD (ta : TD) (tl th : TOd) : TD := fun E Q => ta E fun x E1 => tl E1 fun l E2 => th E2 fun u E3 => slD x l u fun z => Q z E3
theorem cut_whole {xs : List D} {lo hi : Option Int} (h : HT.sIx xs.length 0 lo = 0 ∧ HT.sIx xs.length xs.length hi = xs.length) : cutD xs lo hi = xs := by
  unfold cutD; rw [h.1, h.2]; simp
theorem ed_sl {lo hi : Option Expr} {ta : TD} {tl th : TOd} (ha : ED X G a ta) (hl : EO X G lo tl) (hh : EO X G hi th) : ED X G (.Subscript a (.Slice lo hi none p2) pos) (tSlD ta tl th) := by
  refine ⟨PE.weak (pe_slice (sl_tupF.or (sl_tupW.or sl_str)) ha.pe hl.po hh.po) fun σ H Q ⟨E, QE, rel, q, k⟩ => ⟨E, _, rel, q, fun x E1 v H1 q1 x1 r1 p1 => ⟨E1, _, r1, q1, fun l E2 H2 q2 x2 r2 => ⟨E2, _, r2, q2, fun u E3 H3 q3 x3 r3 => ?_⟩⟩⟩⟩
  have xx := (x1.trans x2).trans x3
  have p3 := (p1.ext x2).ext x3
  cases p3 with
  | tup hs ll =>
    rename_i a0 vs ds
    by_cases hw : HT.sIx vs.length 0 l = 0 ∧ HT.sIx vs.length vs.length u = vs.length
    · have hw' := hw
      rw [← ll.length] at hw'
      refine .inr (.inl ⟨_, _, rfl, hs.1, hw, k _ _ _ _ q3 xx r3 ?_⟩)
      rw [cut_whole hw']; exact .tup hs ll
    · exact .inl ⟨_, _, rfl, hs.1, hw, fun p o hp ho => k _ _ _ _ q3 (xx.trans (PExt.new hp).ext) (r3.pext (PExt.new hp)) (.tup (.new ho) ((ll.cut l u).ext (PExt.new hp).ext))⟩
  | str z => exact .inr (.inr ⟨z, rfl, q3.1, k _ _ _ _ q3.2 xx r3 (.str _)⟩)
  | _ => exact q3.elim
def tSlL (ta : TD) (tl th : TOd) : TLd := fun E Q => ta E fun x E1 => tl E1 fun l E2 => th E2 fun u E3 => match x with
  | .list xs => Q (cutD xs l u) E3
  | _ => False
/-- xs[::-1] of a list -/
def tRevD (ta : TD) : TLd := fun E Q => ta E fun x E1 => match x with
  | .list xs => Q xs.reverse E1
  | _ => False
/-! ### isinstance with a built-in class -/
def tyD : D → String
  | .none => "NoneType"
  | .bool _ => "bool"
  | .int _ => "int"
  | .str _ => "str"
  | .list _ => "list"
  | .tuple _ => "tuple"
  | .dict _ => "dict"
theorem call_isiR {T : String} {bf : D → Bool} (hb : ∀ d : D, (match d with | .dict _ => True | _ => kitB (tyD d) T = some (bf d))) : CallR X (.builtin "isinstance") (fun vs H Q => ∃ d v, vs = [v, .ty T] ∧ Rp X.K H d v ∧ (∀ k, d ≠ .dict k) ∧ Q (.bl (bf d)) H) := by
  intro pins s σ H vs us Q I r h
  obtain ⟨d, v, rfl, hd, hn, q⟩ := h
  obtain ⟨u1, u2, rfl, r1, r2⟩ := vals2 r
  cases (show u2 = Value.type T from r2)
  have kit : ∃ P : Heap → Prop, PySem.W.KitX X.K u1 (.type (tyD d)) P ∧ P s.heap ∧ u1 ≠ .builtin "__main__.__loader__#opaque" := by
    cases hd with
    | non => cases (show u1 = Value.none from r1); exact ⟨_, PySem.W.kitx_none, True.intro, fun z => nomatch z⟩
    | bl y => cases (show u1 = Value.bool y from r1); exact ⟨_, PySem.W.kitx_bool, True.intro, fun z => nomatch z⟩
    | int i => obtain ⟨t, q⟩ := (show ∃ t, u1 = Value.int i t from r1); cases q; exact ⟨_, PySem.W.kitx_int, True.intro, fun z => nomatch z⟩
    | str y => obtain ⟨t, q⟩ := (show ∃ t, u1 = Value.str y t from r1); cases q; exact ⟨_, PySem.W.kitx_str, True.intro, fun z => nomatch z⟩
    | dct _ _ _ _ => exact absurd rfl (hn _)
    | hdl a => exact absurd rfl (hn _)
    | dck _ _ _ _ => exact absurd rfl (hn _)
    | lst hs _ =>
      rename_i a xs ds _
      cases (show u1 = Value.ref a from r1)
      obtain ⟨its, rv, hl, _⟩ := I.list hs.sq
      obtain ⟨o, n, ho, hc, _⟩ := hl
      exact ⟨_, PySem.W.kitx_list, ⟨o, ho, hc⟩, fun z => nomatch z⟩
    | tup hs _ =>
      rename_i a xs ds _
      cases (show u1 = Value.ref a from r1)
      obtain ⟨its, rv, ⟨o, ho, hc, _⟩, _⟩ := I.tuple hs.1
      exact ⟨_, PySem.W.kitx_tuple, ⟨o, ho, hc⟩, fun z => nomatch z⟩
  obtain ⟨P, Z, p, hx⟩ := kit
  have e : PySem.W.kitOne X.K (.type (tyD d)) (.type T) = some (bf d) := by
    have := hb d
    cases d with
    | dict k => exact absurd rfl (hn k)
    | _ => exact kit_ty this
  exact PySem.W.kia_one Z I.kIn p e hx fun tk => ⟨.bl _, H, I.tok tk, rfl, q⟩
def isInt : D → Bool
  | .int _ => true
  | .bool _ => true
  | _ => false
def isBool : D → Bool
  | .bool _ => true
  | _ => false
def isStr : D → Bool
  | .str _ => true
  | _ => false
def isTuple : D → Bool
  | .tuple _ => true
  | _ => false
def isList : D → Bool
  | .list _ => true
  | _ => false
def notDict : D → Prop
  | .dict _ => False
  | _ => True
def tIsi (bf : D → Bool) (ta : TD) : TD := fun E Q => ta E fun x E1 => notDict x ∧ Q (.bool (bf x)) E1
theorem ed_isi {T : String} {ty : Str} {bf : D → Bool} {ta : TD} {pt : Pos} (hb : ∀ d : D, (match d with | .dict _ => True | _ => kitB (tyD d) T = some (bf d))) (ha : ED X G a ta) (hg : Gl X "isinstance") (hm : X.mg "isinstance" = none) (hg2 : Gl X ty) (hm2 : X.mg ty = none) (hv2 : bootBuiltins ty = some (.type T))
    (hn2 : ty ≠ "__name__" := by decide) (hd2 : (ty == ("__debug__" : Str)) = false := by decide)
    (hs : starEach [a, .Name ty pt] X.env = (false, eval a X.env) :: starEach [.Name ty pt] X.env := by rfl) (hs2 : starEach [.Name ty pt] X.env = (false, eval (.Name ty pt) X.env) :: starEach [] X.env := by rfl) (hpl : (backTo pos (starEach [.Name ty pt] X.env)).any (·.1) = false := by rfl) :
    ED X G (.Call (.Name "isinstance" p) [a, .Name ty pt] [] pos) (tIsi bf ta) := by
  refine ⟨PE.weak (pe_callB (call_isiR hb) hg hm (by decide +kernel) (pa_cons ha.pe (pa_cons (pe_bltn (v := .ty T) hg2 hm2 hv2 rfl hn2 hd2) pa_nil hs2) hs) (by decide) (by decide) hs hpl) fun σ H Q ⟨E, QE, rel, q, k⟩ => ⟨E, _, rel, q, fun x E1 v H1 q1 x1 r1 p1 => ?_⟩⟩
  refine ⟨x, v, rfl, p1, ?_, k _ _ _ _ q1.2 x1 r1 (.bl _)⟩
  intro z e; subst e; exact q1.1
theorem isi_int : ∀ d : D, (match d with | .dict _ => True | _ => kitB (tyD d) "int" = some (isInt d)) := by intro d; cases d <;> first | trivial | (show kitB _ _ = _; decide +kernel)
theorem isi_bool : ∀ d : D, (match d with | .dict _ => True | _ => kitB (tyD d) "bool" = some (isBool d)) := by intro d; cases d <;> first | trivial | (show kitB _ _ = _; decide +kernel)
theorem isi_str : ∀ d : D, (match d with | .dict _ => True | _ => kitB (tyD d) "str" = some (isStr d)) := by intro d; cases d <;> first | trivial | (show kitB _ _ = _; decide +kernel)
theorem isi_tuple : ∀ d : D, (match d with | .dict _ => True | _ => kitB (tyD d) "tuple" = some (isTuple d)) := by intro d; cases d <;> first | trivial | (show kitB _ _ = _; decide +kernel)
/-! ### zip of two tuples, of two lists -/
def zipD (xs ys : List D) : List D := (xs.zip ys).map fun p => .tuple [p.1, p.2]
def iZipD (ta tb : TD) : TDs := fun E Q => ta E fun x E1 => tb E1 fun y E2 => match x, y with
  | .tuple xs, .tuple ys => Q (zipD xs ys) E2
  | .list xs, .list ys => Q (zipD xs ys) E2
  | _, _ => False
theorem zipD_len (xs ys : List D) : (zipD xs ys).length = min xs.length ys.length := by simp [zipD]
theorem zipD_get {xs ys : List D} {i : Nat} {x y : D} (h1 : xs[i]? = some x) (h2 : ys[i]? = some y) : (zipD xs ys)[i]? = some (.tuple [x, y]) := by
  unfold zipD
  rw [List.getElem?_map, (List.getElem?_zip_eq_some (z := (x, y))).mpr ⟨h1, h2⟩]; rfl
theorem walkD_zipT {K : PySem.W.Frag} {H : Hp} {a b : Addr} {vs us : List V} {ds es : List D} (h : SqT K H a vs) (h' : SqT K H b us) (l : RpL K H ds vs) (l' : RpL K H es us) : WalkD true K (RZ.ItzT K a b) H (zipD ds es) where
  goes := fun i H' x hi => by
    rw [zipD_len, l.length, l'.length] at hi
    exact ⟨vs, us, vs[i], us[i], SqT.ext x h, SqT.ext x h', List.getElem?_eq_getElem _, List.getElem?_eq_getElem _⟩
  yld := fun i H' v H2 x hi hy => by
    obtain ⟨T, v1, v2, rfl, hT, rfl, e1, e2⟩ := hy
    obtain ⟨d, hd, p⟩ := l.getV (e1 vs (SqT.ext x h))
    obtain ⟨d', hd', p'⟩ := l'.getV (e2 us (SqT.ext x h'))
    have px := PExt.new (o := .tup [v1, v2]) hT
    exact ⟨px, _, zipD_get hd hd', .pair (SqT.of upd_same) (.cons ((p.ext x).ext px.ext) (.cons ((p'.ext x).ext px.ext) .nil))⟩
  stops := fun H' x => ⟨vs, us, SqT.ext x h, SqT.ext x h', by rw [zipD_len, l.length, l'.length]; omega⟩
theorem walkD_zipL {K : PySem.W.Frag} {H : Hp} {a b : Addr} {vs us : List V} {ds es : List D} (h : LsF K H a vs) (h' : LsF K H b us) (l : RpL K H ds vs) (l' : RpL K H es us) : WalkD true K (Itz K a b) H (zipD ds es) where
  goes := fun i H' x hi => by
    rw [zipD_len, l.length, l'.length] at hi
    exact ⟨vs, us, vs[i], us[i], (LsF.ext x h).sq, (LsF.ext x h').sq, List.getElem?_eq_getElem _, List.getElem?_eq_getElem _⟩
  yld := fun i H' v H2 x hi hy => by
    obtain ⟨T, v1, v2, rfl, hT, rfl, e1, e2⟩ := hy
    obtain ⟨d, hd, p⟩ := l.getV (e1 vs ((LsF.ext x h).sq))
    obtain ⟨d', hd', p'⟩ := l'.getV (e2 us ((LsF.ext x h').sq))
    have px := PExt.new (o := .tup [v1, v2]) hT
    exact ⟨px, _, zipD_get hd hd', .pair (SqT.of upd_same) (.cons ((p.ext x).ext px.ext) (.cons ((p'.ext x).ext px.ext) .nil))⟩
  stops := fun H' x => ⟨vs, us, (LsF.ext x h).sq, (LsF.ext x h').sq, by rw [zipD_len, l.length, l'.length]; omega⟩
theorem id_zip {elts : List Expr} {kk : Nat} {tpos : Pos} {ta tb : TD} (ha : ED X G a ta) (hb : ED X G b tb) (hg : Gl X "zip") (hm : X.mg "zip" = none)
    (hs : starEach [a, b] X.env = (false, eval a X.env) :: starEach [b] X.env := by rfl) (hs2 : starEach [b] X.env = (false, eval b X.env) :: starEach [] X.env := by rfl) (hpl : (backTo pos (starEach [b] X.env)).any (·.1) = false := by rfl) :
    ID X G true (.Tuple elts kk tpos) (.Call (.Name "zip" p) [a, b] [] pos) (iZipD ta tb) := by
  refine ⟨PI.weak (RZ.pi_zipA hg hm (pa_cons ha.pe (pa_cons hb.pe pa_nil hs2) hs) hs hpl) fun σ H R ⟨E, QE, rel, q, k⟩ => ⟨E, _, rel, q, fun x E1 v H1 q1 x1 r1 p1 => ⟨E1, _, r1, q1, fun y E2 u H2 q2 x2 r2 p2 => ?_⟩⟩⟩
  have p1 := p1.ext x2
  cases p1 with
  | tup h1 l1 =>
    cases p2 with
    | tup h2 l2 => exact ⟨_, _, _, _, rfl, .inr ⟨h1.1, h2.1, k _ _ _ _ q2 (x1.trans x2) r2 (walkD_zipT h1.1 h2.1 l1 l2)⟩⟩
    | _ => exact q2.elim
  | lst h1 l1 =>
    cases p2 with
    | lst h2 l2 => exact ⟨_, _, _, _, rfl,   .inl ⟨h1.sq, h2.sq, k _ _ _ _ q2 (x1.trans x2) r2 (walkD_zipL h1 h2 l1 l2)⟩⟩
    | _ => exact q2.elim
  | _ => cases p2 <;> exact q2.elim
end
end DL
set_option Elab.async false
set_option linter.all false
set_option maxRecDepth 100000
set_option maxHeartbeats 1000000
namespace DL
open PySem PySem.Spec PyProof.Rows L2
theorem ns {G : Gh} {l : List Nat} (h : G.slots = l) {i : Nat} (hd : i ∉ l) : i ∉ G.slots := by rw [h]; exact hd
theorem nsA {G : Gh} {l ms : List Nat} (h : G.slots = l) (hd : ∀ i ∈ ms, i ∉ l) : ∀ i ∈ ms, i ∉ G.slots := by rw [h]; exact hd
theorem u65 {k : Nat} {A : Around} (r : Room k A) : A.units + 65 < cLine := by have := r.un; omega
theorem bb_len : bootBuiltins "len" = some (.builtin "len") := by decide +kernel
theorem bb_abs : bootBuiltins "abs" = some (.builtin "abs") := by decide +kernel
theorem bb_max : bootBuiltins "max" = some (.builtin "max") := by decide +kernel
theorem bb_sum : bootBuiltins "sum" = some (.builtin "sum") := by decide +kernel
theorem bb_all : bootBuiltins "all" = some (.builtin "all") := by decide +kernel
theorem bb_sorted : bootBuiltins "sorted" = some (.builtin "sorted") := by decide +kernel
theorem bb_tuple : bootBuiltins "tuple" = some (.type "tuple") := by decide +kernel
theorem bb_int : bootBuiltins "int" = some (.type "int") := by decide +kernel
theorem bb_bool : bootBuiltins "bool" = some (.type "bool") := by decide +kernel
theorem bb_str : bootBuiltins "str" = some (.type "str") := by decide +kernel
end DL
set_option Elab.async false
set_option linter.all false
set_option maxRecDepth 100000
set_option maxHeartbeats 1000000
namespace DL
open PySem PySem.Spec PyProof.Rows L2
/-! ### reading: one statement after another, what follows a letter -/
theorem seq_step {t u : TSd} {DE : EndsD} {E : Env} (h : ∀ R : Env → Prop, (∀ E', u DE E' → R E') → t { DE with nx := R } E) : sSeq t u DE E := h _ fun _ h => h
theorem ifB {b : Bool} {A B : Prop} (h1 : b = true → A) (h2 : b = false → B) : if b = true then A else B := by
  cases b with
  | true => exact if_pos rfl ▸ h1 rfl
  | false => rw [if_neg Bool.false_ne_true]; exact h2 rfl
theorem ifT {b : Bool} {A B : Prop} (hb : b = true) (h1 : A) : if b = true then A else B := by rw [if_pos hb]; exact h1
theorem ifF {b : Bool} {A B : Prop} (hb : b = false) (h1 : B) : if b = true then A else B := by rw [hb, if_neg Bool.false_ne_true]; exact h1
/-! == of numbers, truths -/
theorem eqv_int (i j : Int) : PyData.eqv (.int i) (.int j) = decide (i = j) := by
  show (i == j) = decide (i = j)
  by_cases h : i = j
  · subst h; simp
  · simp [h]
theorem eqv_bool (i j : Bool) : PyData.eqv (.bool i) (.bool j) = (i == j) := rfl
theorem eqv_str (i j : Str) : PyData.eqv (.str i) (.str j) = (i == j) := rfl
theorem eqv_none : PyData.eqv .none .none = true := rfl
theorem shaped_int (i : Int) : SeqAt.shaped (.int i) = true := rfl
theorem shaped_bool (i : Bool) : SeqAt.shaped (.bool i) = true := rfl
theorem shaped_none : SeqAt.shaped .none = true := rfl
/-! items -/
theorem atI_at {α : Type} {xs : List α} {i : Int} {d : α} (h0 : 0 ≤ i) (h : xs[i.toNat]? = some d) : atI xs i = some d := by
  obtain ⟨hl, _⟩ := List.getElem?_eq_some_iff.mp h
  unfold atI ixN
  rw [if_pos h0, if_pos (by omega)]
  exact h
theorem atD_at {xs : List D} {i : Int} {d : D} {Q : D → Prop} (h0 : 0 ≤ i) (h : xs[i.toNat]? = some d) (q : Q d) : atD xs i Q := by unfold atD; rw [atI_at h0 h]; exact q
theorem atD_0 {x : D} {xs : List D} {Q : D → Prop} : atD (x :: xs) 0 Q = Q x := by
  unfold atD; rw [atI_at (d := x) (by decide) rfl]
theorem atD_1 {x y : D} {xs : List D} {Q : D → Prop} : atD (x :: y :: xs) 1 Q = Q y := by
  unfold atD; rw [atI_at (d := y) (by decide) rfl]
theorem atD_2 {x y z : D} {xs : List D} {Q : D → Prop} : atD (x :: y :: z :: xs) 2 Q = Q z := by
  unfold atD; rw [atI_at (d := z) (by decide) rfl]
theorem atD_3 {x y z u : D} {xs : List D} {Q : D → Prop} : atD (x :: y :: z :: u :: xs) 3 Q = Q u := by
  unfold atD; rw [atI_at (d := u) (by decide) rfl]
theorem putD_0 {x d : D} {xs : List D} {Q : List D → Prop} : putD (x :: xs) 0 d Q = Q (d :: xs) := by
  unfold putD ixN; rw [if_pos (by decide), if_pos (by rw [List.length_cons]; omega)]; rfl
theorem getElem_map_int {ns : List Int} {i : Nat} (h : i < ns.length) : (ns.map PyData.int)[i]? = some (.int ns[i]) := by
  rw [List.getElem?_map, List.getElem?_eq_getElem h]; rfl
/-- a for by what holds between two turns; R: what follows a turn -/
theorem forD_inv {g : TGd} {tb : TSd} {DE : EndsD} {ds : List D} {E : Env} (I : Nat → Env → Prop) (h0 : I 0 E)
    (hs : ∀ (i : Nat) (d : D) (E : Env), ds[i]? = some d → I i E → ∀ R : Env → Prop, (∀ E', I (i + 1) E' → R E') → g d E fun E1 => tb { DE with nx := R, ct := R, bk := DE.nx } E1)
    (hd : ∀ E, I ds.length E → DE.nx E) : forD g tb ds DE E := by
  induction ds generalizing E I with
  | nil => exact hd E h0
  | cons d ds ih =>
    refine hs 0 d E rfl h0 _ fun E' h' => ?_
    exact ih (fun i => I (i + 1)) h' (fun i d E e q => hs (i + 1) d E (by simpa using e) q) fun E q => hd E (by simpa using q)
theorem for_inv {ti : TDs} {g : TGd} {tb : TSd} {DE : EndsD} {E : Env} {ds : List D} {E1 : Env} (h : ∀ Q : List D → Env → Prop, Q ds E1 → ti E Q) (I : Nat → Env → Prop) (h0 : I 0 E1)
    (hs : ∀ (i : Nat) (d : D) (E : Env), ds[i]? = some d → I i E → ∀ R : Env → Prop, (∀ E', I (i + 1) E' → R E') → g d E fun E1 => tb { DE with nx := R, ct := R, bk := DE.nx } E1)
    (hd : ∀ E, I ds.length E → DE.nx E) : sFor ti g tb DE E := h _ (forD_inv I h0 hs hd)
/-- behind it the environment is the one ahead (its own names were not in use, and hold nothing known) -/
theorem rest_wipe {E E' : Env} : ∀ {ms : List Nat}, wipeE E' ms = wipeE E ms → (∀ i ∈ ms, E[i]? = some .un ∨ (∃ x, E[i]? = some (.d x))) → restE E E' ms = E := by
  intro ms hw hE
  have hl : E'.length = E.length := by
    have : ∀ (F : Env) (l : List Nat), (wipeE F l).length = F.length := by
      intro F l
      induction l with
      | nil => rfl
      | cons v vs ih => show ((wipeE F vs).set v .un).length = _; rw [List.length_set, ih]
    rw [← this E' ms, hw, this]
  have wg : ∀ (F : Env) (l : List Nat) (i : Nat), i ∉ l → (wipeE F l)[i]? = F[i]? := by
    intro F l
    induction l with
    | nil => intro _ _; rfl
    | cons v vs ih => intro i h; show ((wipeE F vs).set v .un)[i]? = _; rw [List.getElem?_set_ne (fun z => h (by simp [z])), ih i fun z => h (List.mem_cons_of_mem _ z)]
  refine List.ext_getElem? fun i => ?_
  by_cases hi : i ∈ ms
  · have key : ∀ (l : List Nat), i ∈ l → (restE E E' l)[i]? = some (datOf E[i]?) := by
      intro l
      induction l with
      | nil => intro h; cases h
      | cons v vs ih =>
        intro h
        show ((restE E E' vs).set v (datOf E[v]?))[i]? = _
        have rl : ∀ (l : List Nat), (restE E E' l).length = E'.length := by
          intro l
          induction l with
          | nil => rfl
          | cons v vs ih => show ((restE E E' vs).set v _).length = _; rw [List.length_set, ih]
        by_cases hv : v = i
        · subst hv
          have : v < E.length := by
            rcases hE v hi with z | ⟨x, z⟩
            · exact (List.getElem?_eq_some_iff.mp z).1
            · exact (List.getElem?_eq_some_iff.mp z).1
          rw [List.getElem?_set_self (by rw [rl, hl]; exact this)]
        · rw [List.getElem?_set_ne hv]
          exact ih (by rcases List.mem_cons.mp h with q | q; exact absurd q.symm hv; exact q)
    rw [key ms hi]
    rcases hE i hi with z | ⟨x, z⟩
    · rw [z]; rfl
    · rw [z]; rfl
  · have rg : ∀ (l : List Nat), i ∉ l → (restE E E' l)[i]? = E'[i]? := by
      intro l
      induction l with
      | nil => intro _; rfl
      | cons v vs ih => intro h; show ((restE E E' vs).set v _)[i]? = _; rw [List.getElem?_set_ne (fun z => h (by simp [z])), ih fun z => h (List.mem_cons_of_mem _ z)]
    rw [rg ms hi, ← wg E' ms i hi, hw, wg E ms i hi]
/-- over typed items -/
theorem compD_map {α : Type} {g : TGd} {tt : TTd} {te : TD} {ms : List Nat} {W : Env} (enc : α → D) (p : α → Bool) (f : α → D) : ∀ (xs : List α) (acc : List D) (E : Env) (Q : List D → Env → Prop), wipeE E ms = W →
    (∀ x ∈ xs, ∀ R : Option D → Env → Prop, (∀ E', wipeE E' ms = W → R (if p x = true then some (f x) else none) E') → turnD g tt te (enc x) W R) → acc.length + xs.length ≤ sizeLine → (∀ E', wipeE E' ms = W → Q (acc ++ (xs.filter p).map f) E') → compD g tt te ms (xs.map enc) acc E Q
  | [], acc, E, Q, hE, _, _, q => by have := q E hE; rw [List.filter_nil, List.map_nil, List.append_nil] at this; exact this
  | x :: xs, acc, E, Q, hE, hf, hl, q => by
    show turnD g tt te (enc x) (wipeE E ms) _
    rw [hE]
    refine hf x (List.mem_cons_self ..) _ fun E' hE' => ?_
    rw [List.length_cons] at hl
    cases hp : p x with
    | false =>
      rw [if_neg Bool.false_ne_true]
      refine compD_map enc p f xs acc E' Q hE' (fun d hd => hf d (List.mem_cons_of_mem _ hd)) (by omega) fun E2 h2 => ?_
      have := q E2 h2
      rw [List.filter_cons_of_neg (by rw [hp]; exact Bool.false_ne_true)] at this; exact this
    | true =>
      rw [if_pos rfl]
      refine ⟨by omega, compD_map enc p f xs (acc ++ [f x]) E' Q hE' (fun d hd => hf d (List.mem_cons_of_mem _ hd)) (by rw [List.length_append]; simp; omega) fun E2 h2 => ?_⟩
      have := q E2 h2
      rw [List.filter_cons_of_pos hp] at this
      rw [List.append_assoc]; exact this
theorem comp_filter {α : Type} {ti : TDs} {g : TGd} {tt : TTd} {te : TD} {ms : List Nat} {E E1 : Env} {Q : List D → Env → Prop} (xs : List α) (enc : α → D) (p : α → Bool) (f : α → D) (hi : ∀ R : List D → Env → Prop, R (xs.map enc) E1 → ti E R)
    (hE : ∀ i ∈ ms, E1[i]? = some .un ∨ (∃ x, E1[i]? = some (.d x))) (hl : xs.length ≤ sizeLine)
    (hf : ∀ x ∈ xs, ∀ R : Option D → Env → Prop, (∀ E', wipeE E' ms = wipeE E1 ms → R (if p x = true then some (f x) else none) E') → turnD g tt te (enc x) (wipeE E1 ms) R) (q : Q ((xs.filter p).map f) E1) : tComp ti g tt te ms E Q :=
  hi _ (compD_map enc p f xs [] E1 _ rfl hf (by simpa using hl) fun E' hE' => by rw [rest_wipe hE' hE]; exact q)
theorem comp_map {α : Type} {ti : TDs} {g : TGd} {te : TD} {ms : List Nat} {E E1 : Env} {Q : List D → Env → Prop} (xs : List α) (enc : α → D) (f : α → D) (hi : ∀ R : List D → Env → Prop, R (xs.map enc) E1 → ti E R)
    (hE : ∀ i ∈ ms, E1[i]? = some .un ∨ (∃ x, E1[i]? = some (.d x))) (hl : xs.length ≤ sizeLine)
    (hf : ∀ x ∈ xs, ∀ R : D → Env → Prop, (∀ E', wipeE E' ms = wipeE E1 ms → R (f x) E') → g (enc x) (wipeE E1 ms) fun E1 => te E1 R) (q : Q (xs.map f) E1) : tComp ti g tTrue te ms E Q := by
  refine comp_filter xs enc (fun _ => true) f hi hE hl (fun x hx R hR => ?_) (by rw [List.filter_eq_self.mpr (fun _ _ => rfl)]; exact q)
  exact hf x hx (fun y E3 => R (some y) E3) hR
theorem un1 {E : Env} {i : Nat} (h : E[i]? = some .un) : ∀ j ∈ [i], E[j]? = some .un ∨ (∃ x, E[j]? = some (.d x)) := fun j hj => by
  rcases List.mem_cons.mp hj with rfl | z
  · exact .inl h
  · cases z
theorem un2 {E : Env} {i k : Nat} (h : E[i]? = some .un) (h' : E[k]? = some .un) : ∀ j ∈ [i, k], E[j]? = some .un ∨ (∃ x, E[j]? = some (.d x)) := fun j hj => by
  rcases List.mem_cons.mp hj with rfl | z
  · exact .inl h
  · exact un1 h' j z
end DL
set_option Elab.async false
set_option linter.all false
set_option maxRecDepth 100000
set_option maxHeartbeats 1000000
namespace DL
open PySem PySem.Spec PyProof.Rows L2
section
variable {X : Cx} {G : Gh} {a b c e : Expr} {es : List Expr} {pos p p1 p2 p3 : Pos} {x : Str}
/-! ### range(a, b, c): as an object, its len -/
def tLenRange (ta tb tc : TD) : TD := fun E Q => ta E fun x E1 => tb E1 fun y E2 => tc E2 fun z E3 => match x, y, z with
  | .int i, .int j, .int k => ∃ n : Nat, (k ≠ 0 ∧ k.natAbs < 1073741824) ∧ Builtin.Range.rangeSize i j k = n ∧ n < 2 ^ 62 ∧ Q (.int n) E3
  | _, _, _ => False
/-! range with a step, walked -/
/-! ### slices by numbers from 0 on -/
theorem sIx_int {n d : Nat} {i : Int} (h : 0 ≤ i) : HT.sIx n d (some i) = min i.toNat n := by
  show (if i < 0 then (i + (n : Int)).toNat else min i.toNat n) = _
  rw [if_neg (by omega)]
theorem cut_to {xs : List D} {i : Int} (h : 0 ≤ i) : cutD xs none (some i) = xs.take i.toNat := by
  unfold cutD
  rw [HT.sIx_none, sIx_int h]
  show xs.take (min i.toNat xs.length - 0) = _
  rw [Nat.sub_zero]
  rcases Nat.le_total i.toNat xs.length with z | z
  · rw [Nat.min_eq_left z]
  · rw [Nat.min_eq_right z, List.take_of_length_le (Nat.le_refl _), List.take_of_length_le z]
theorem cut_from {xs : List D} {i : Int} (h : 0 ≤ i) : cutD xs (some i) none = xs.drop i.toNat := by
  unfold cutD
  rw [HT.sIx_none, sIx_int h]
  rcases Nat.le_total i.toNat xs.length with z | z
  · rw [Nat.min_eq_left z, List.take_of_length_le (by rw [List.length_drop]; omega)]
  · rw [Nat.min_eq_right z, List.drop_eq_nil_of_le (Nat.le_refl _), List.drop_eq_nil_of_le z, List.take_nil]
end
end DL
set_option Elab.async false
set_option linter.all false
set_option maxRecDepth 100000
namespace DL
open PySem PySem.Spec PyProof.Rows L2
/-- a def that nobody calls at this height -/
theorem no_ok {P : Program} {w : World} {K : PySem.W.Frag} {mg : Str → Option Value} {base : Heap} {x qual : Str} {st : Stmt} {f : Addr} {fd : FuncData} {N ps : List Str} {k : Nat} (F : Fun K x qual st f fd) (Sc : FnScope N ps (defScope st)) : FnOk P w K mg base CX0 (k + 1) f fd ps (spL K fun _ _ => False) :=
  F.ok Sc (fun vs H Q E ⟨_, _, _, h, _⟩ => h.elim) (fun cdv A outer s H vs Q E hr ⟨_, _, _, h, _⟩ => h.elim)
/-- the end of a law: the law's def keeps the promise spLaw-like on every script -/
theorem law_walk {l : PySem.W.OpenLaw} {n k : Nat} {q : Program} {loose : List Str} {XP : (Str → Option Value) → Heap → Prop} {YP : World → Heap → Prop} {d : DefRec} {KK : Params → PySem.W.Frag} {sp : SpD} {x : Str} (hm : l.most = some n) (hl : n ≤ sizeLine) (hdf : d.params.defaults = []) (rm : Room k callerA) (hY : ∀ (w : World) (h : Heap), YP w h → (KK w.params).In h)
    (F : ∀ (w : World) (mg : Str → Option Value) (fa : Addr) (h : Heap), (KK w.params).In h → h.Ns mainGlobals mg → mg d.name = some (.ref fa) → ∃ fd : FuncData, (∀ (s : Shared) (u : Value), BindsTo s fd ⟨[u], []⟩ [(x, u)]) ∧ ∀ base : Heap, (KK w.params).In base → base.Ns mainGlobals mg → FnOk l.prog w (KK w.params) mg base L2.CX0 k fa fd [x] (spL (KK w.params) sp))
    (hsp : ∀ (ns : List Int) (Q : D → List S → Prop), ns.length ≤ n → (∀ z ∈ ns, Builtin.Int.intBits z ≤ 1048576) → Q (.bool true) [] → sp [.d (.list (ns.map PyData.int))] Q) :
    PySem.W.WalkO q loose XP YP l.row.toRowW d [] (fun f vs => PySem.call f vs) := by
  refine Att.attach_callB hm hdf fun w s₀ s₁ mg mb fa o pm cd doc a vs ns G Y ho hd hcd hmg hobj hints hlen hbits hg => ?_
  have KX := hY w _ Y
  obtain ⟨fd, hb, hF⟩ := F w mg fa _ KX G.T.g hmg
  refine law_call KX G.T.g G.T.b G.T.builtins G.T.nolimit hg hobj hints (Nat.le_trans hlen hl) rm hF hb (fun H hO hS => ?_) (fun H e s' h => h)
  have hF : LsF (KK w.params) H a (ns.map V.int) := by
    rcases hS with (z | z) | ⟨ob, its, m, e, hc, hdd, hdt, hz, r⟩
    · rcases hO a with y | ⟨ob, xs, y⟩
      · rw [z] at y; cases y
      · rw [z] at y; cases y
    · exact .inl z
    · have e2 := KX _ _ e
      rw [hobj] at e2
      cases e2
      cases hdt
      exact .inr ⟨_, _, e, hz, r⟩
  refine ⟨[.d (.list (ns.map PyData.int))], [], fun d outs => d = .bool true, hsp ns _ hlen hbits rfl, .d (.lst hF (RpL.ofInts ns)) .nil, List.nodup_nil, fun d outs v H' h _ _ r => ?_⟩
  subst h
  cases r
  rfl
end DL
set_option Elab.async false
set_option linter.all false
set_option maxRecDepth 100000
set_option maxHeartbeats 3200000
/-! DL13: set(xs) of a list of ints, sorted(set(xs)), len(set(xs)). -/
namespace DL
open PySem PySem.Spec PyProof.Rows L2
section
variable {P : Program} {w : World} {A : Around} {E : Value → Shared → Prop} {s : Shared}
abbrev nSet (w : World) : Obj := { cls := .type "set", dict := none, data := .set #[] 0 (.fresh 0 0 (!w.params.followText "set-order")) }
end
end DL
namespace DL
open PySem PySem.Spec PyProof.Rows L2
section
variable {X : Cx} {G : Gh} {a : Expr} {pos p p1 p2 p3 : Pos}
/-- sorted(set(xs)), xs a list of fewer than 64 ints -/
def tSortSet (ta : TD) : TLd := fun E Q => ta E fun x E1 => match x with
  | .list xs => ∃ ns : List Int, xs = ns.map PyData.int ∧ ns.length < 64 ∧ ∀ zs : List Int, zs.Pairwise (· < ·) → (∀ k, k ∈ zs ↔ k ∈ ns) → Q (zs.map PyData.int) E1
  | _ => False
/-- len(set(xs)) -/
def tLenSet (ta : TD) : TD := fun E Q => ta E fun x E1 => match x with
  | .list xs => ∃ ns : List Int, xs = ns.map PyData.int ∧ ns.Nodup ∧ ns.length ≤ 4000 ∧ Q (.int (ns.length : Nat)) E1
  | _ => False
end
end DL
set_option Elab.async false
set_option linter.all false
set_option maxRecDepth 100000
/-! DL14: plain laws of data: shaped, == of encoded lists. -/
namespace DL
open PySem PySem.Spec PyProof.Rows L2
/-- n lists or tuples deep at most, no dict -/
def shOk : Nat → D → Bool
  | _, .none => true
  | _, .bool _ => true
  | _, .int _ => true
  | _, .str x => PyData.strOk x
  | n + 1, .tuple ds => ds.all (shOk n)
  | n + 1, .list ds => ds.all (shOk n)
  | _, _ => false
theorem shOk_all {n : Nat} (ih : ∀ d, shOk n d = true → d.canLay0 = true ∧ d.depth ≤ n) : ∀ ds : List D, ds.all (shOk n) = true → PyData.canLayAll0 ds = true ∧ PyData.depthAll ds ≤ n
  | [], _ => ⟨rfl, Nat.zero_le _⟩
  | d :: ds, h => by
    rw [List.all_cons, Bool.and_eq_true] at h
    have ⟨a, b⟩ := ih d h.1
    have ⟨c, e⟩ := shOk_all ih ds h.2
    exact ⟨by rw [PyData.canLayAll0, a, c]; rfl, by rw [PyData.depthAll]; omega⟩
theorem shOk_spec : ∀ (n : Nat) (d : D), shOk n d = true → d.canLay0 = true ∧ d.depth ≤ n
  | n, .none, _ => ⟨rfl, Nat.zero_le _⟩
  | n, .bool _, _ => ⟨rfl, Nat.zero_le _⟩
  | n, .int _, _ => ⟨rfl, Nat.zero_le _⟩
  | n, .str x, h => ⟨by cases n <;> exact h, Nat.zero_le _⟩
  | n + 1, .tuple ds, h => by
    have ⟨a, b⟩ := shOk_all (shOk_spec n) ds h
    exact ⟨by rw [PyData.canLay0]; exact a, by rw [PyData.depth]; omega⟩
  | n + 1, .list ds, h => by
    have ⟨a, b⟩ := shOk_all (shOk_spec n) ds h
    exact ⟨by rw [PyData.canLay0]; exact a, by rw [PyData.depth]; omega⟩
  | 0, .tuple _, h => by cases h
  | 0, .list _, h => by cases h
  | 0, .dict _, h => by cases h
  | n + 1, .dict _, h => by cases h
theorem all_enc {α : Type} {n : Nat} {e : α → D} (he : ∀ a, shOk n (e a) = true) (xs : List α) : (xs.map e).all (shOk n) = true := by
  rw [List.all_map]; exact List.all_eq_true.mpr fun a _ => he a
theorem all_ints {n : Nat} (ns : List Int) : (ns.map PyData.int).all (shOk n) = true := all_enc (fun _ => by cases n <;> rfl) ns
end DL
set_option Elab.async false
set_option linter.all false
set_option maxRecDepth 100000
set_option maxHeartbeats 1000000
/-! DL15: sorted(xs), sorted(xs, reverse=b): lists and tuples of any data that is alike. -/
namespace DL
open PySem PySem.Spec PyProof.Rows L2
section
variable {prog : Program} {w : World} {A : Around} {E : Value → Shared → Prop} {s : Shared} {β : Type} {vs : List Value} {bs : List β} {enc : β → PyData} {R : Value → β → Prop}
/-- what is made of a list's or a tuple's items: a new list, in the very next place -/
theorem collect_one {l : Addr} {T : String} {o : Obj} {n : Nat} {Q : List Value → Shared → Prop} (hT : T = "list" ∨ T = "tuple") (ho : s.heap.get? l = some o) (hc : o.cls = .type T) (hd : o.data = .seq vs.toArray n) (small : vs.length ≤ sizeLine)
    (fin : Q vs { s with heap := (s.heap.push (seqObj "list" #[] 0)).update s.heap.objs.size (Obj.mapSeq (· ++ vs.toArray)) }) : wpAny (model prog w) A (collect (.ref l)) Q E s := by
  have new : (s.heap.push (seqObj "list" #[] 0)).get? s.heap.objs.size = some (seqObj "list" #[] 0) := Heap.get?_push_size _ rfl
  have was : (s.heap.push (seqObj "list" #[] 0)).get? l = some o := Heap.get?_push_of_some _ ho
  unfold collect; refine wpAny_bind (wpAny_runValue (codeAny_builtin entry_proto_collect' ?_))
  show wpAny _ _ (do again (.builtin "list.__iadd__" ⟨[← newList [], Value.ref l], []⟩)) _ _ s
  refine wpAny_bind (wpAny_newList (wpAny_pure ⟨Code.quiet_builtin _ (by decide +kernel), codeAny_builtin entry_list_iadd' ?_⟩) (Nat.zero_le _))
  show wpAny _ _ (Builtin.List.listExtendWith (Value.ref s.heap.objs.size) (Value.ref l) (Value.ref s.heap.objs.size)) _ _ { s with heap := s.heap.push (seqObj "list" #[] 0) }
  unfold Builtin.List.listExtendWith; refine wpAny_bind (wpAny_typeOf (T := T) ⟨o, was, hc⟩ ?_)
  rw [if_pos (by rcases hT with rfl | rfl; · rw [show (Value.type "list" == Value.type "list") = true from rfl, Bool.or_true, Bool.true_or]
                 · rw [show (Value.type "tuple" == Value.type "tuple") = true from rfl, Bool.or_true])]; refine wpAny_bind (listItems_at was hd ?_); refine wpAny_bind (listItems_at (xs := #[]) (n := 0) new rfl ?_)
  rw [if_neg (by simp)]
  refine wpAny_bind (listUpdate_at (xs := #[]) (n := 0) new rfl ?_ (Nat.zero_le _) (by show (#[] ++ vs.toArray).size ≤ sizeLine + 1; simp only [Array.size_append, List.size_toArray, List.length_nil]; omega)); refine wpAny_pure ?_
  show wpAny (model prog w) A (do
      let ob ← load s.heap.objs.size
      match ob.data with | .seq xs _ => pure xs.toList | _ => unsupported "internal:collect") Q E { s with heap := (s.heap.push (seqObj "list" #[] 0)).update s.heap.objs.size (Obj.mapSeq (· ++ vs.toArray)) }
  refine wpAny_bind (wpAny_load (get?_update_seq new _) ?_); show wpAny _ _ (pure ((#[] : Array Value) ++ vs.toArray).toList) Q E _
  have e0 : ((#[] : Array Value) ++ vs.toArray).toList = vs := by simp
  rw [e0]; exact wpAny_pure fin
theorem sorted_seqD {l : Addr} {T : String} {o : Obj} {n : Nat} {rv : Bool} {kw : List (Str × Value)} {Q : Value → Shared → Prop} (hT : T = "list" ∨ T = "tuple") (ho : s.heap.get? l = some o) (hc : o.cls = .type T) (hd : o.data = .seq vs.toArray n)
    (hkw : ∀ p, Builtin.«list.sort» ⟨[.ref p], kw⟩ = Builtin.«list.sort» ⟨[.ref p], [(Str.ofString "reverse", .bool rv)]⟩) (ok1 : argsOk "sorted" ⟨[.ref l], kw⟩) (ok2 : ∀ x, argsOk "list.sort" ⟨[.ref x], kw⟩)
    (e : PySem.W.EachIs R vs bs) (er : PySem.W.EachIs (fun v b => ∃ as, Reads s.heap v (enc b) as) vs bs) (hal : PySem.W.AllAlike (bs.map enc)) (hk : PySem.W.Sortable (bs.map enc)) (hL : vs.length ≤ sizeLine) (hu : ∀ b, b ∈ bs → A.units + 2 + (enc b).depth < cLine)
    (h : ∀ h' p out c, (∀ b o, s.heap.get? b = some o → h'.get? b = some o) → s.heap.objs.size ≤ p → h'.get? p = some { cls := .type "list", data := .seq (List.toArray out) c } → PySem.W.EachIs R out (bs.mergeSort (PySem.W.dataLe rv enc)) → Q (.ref p) { s with heap := h' }) :
    wpAny (model prog w) A (call (.builtin "sorted") [.ref l] kw) Q E s := by
  refine call_function_entry_kw kind_sorted plain_sorted entry_sorted ok1 ?_
  unfold Builtin.«sorted»
  refine wpAny_bind (m := checkCount "sorted" 1 1 _) (wpAny_pure ?_)
  refine wpAny_bind (collect_one hT ho hc hd hL ?_)
  generalize hh1 : (s.heap.push (seqObj "list" #[] 0)).update s.heap.objs.size (Obj.mapSeq (· ++ vs.toArray)) = h1
  have le1 : s.heap.objs.size ≤ h1.objs.size := by rw [← hh1, Heap.size_update, size_push']; exact Nat.le_succ _
  have k1 : ∀ b u, s.heap.get? b = some u → h1.get? b = some u := fun b u q => by
    rw [← hh1, Heap.get?_update_ne _ _ _ _ (Nat.ne_of_lt (Heap.lt_size q))]; exact Heap.get?_push_of_some _ q
  refine wpAny_bind (wpAny_newList ?_ hL)
  have hp : (h1.push (seqObj "list" vs.toArray 0)).get? h1.objs.size = some (seqObj "list" vs.toArray 0) := Heap.get?_push_size _ rfl
  have old : ∀ b u, s.heap.get? b = some u → b ≠ h1.objs.size ∧ (h1.push (seqObj "list" vs.toArray 0)).get? b = some u := fun b u q => ⟨Nat.ne_of_lt (Heap.lt_size (k1 b u q)), Heap.get?_push_of_some _ (k1 b u q)⟩
  refine wpAny_bind (wpAny_holding (wpAny_call_entry_kw slot_list_sort ⟨_, hp, rfl⟩ entry_list_sort ?body (ok2 _)))
  case body =>
    have er' : PySem.W.EachIs (fun v b => ∃ as, Reads (PySem.W.sortingHeap (h1.push (seqObj "list" vs.toArray 0)) h1.objs.size vs) v (enc b) as) vs bs := er.mono fun _ _ ⟨as, r⟩ => ⟨as, PyProof.Rows.Reads.keeps (fun b u q => PySem.W.sortingHeap_old (old b u q).1 (old b u q).2) r⟩
    show wpAny (model prog w) A.in1.in1 (Builtin.«list.sort» ⟨[.ref h1.objs.size], kw⟩) _ _ _
    rw [hkw]
    refine PySem.W.list_sort_rev_vals (κ := PySem.W.dataKind (PySem.W.sortingHeap (h1.push (seqObj "list" vs.toArray 0)) h1.objs.size vs) (bs.map enc)) hp (PySem.W.SortsAt.data (s := { s with heap := PySem.W.sortingHeap (h1.push (seqObj "list" vs.toArray 0)) h1.objs.size vs }) (PySem.W.each_map (R := fun v d => ∃ as, Reads (PySem.W.sortingHeap (h1.push (seqObj "list" vs.toArray 0)) h1.objs.size vs) v d as) enc er') hal hk (PySem.W.bound_map hu)) hL ⟨_, rfl, wpAny_pure ⟨_, rfl, ?_⟩⟩
    obtain ⟨c, hc2⟩ := sortedHeap_at (vs := vs) (out := (PySem.W.sortVals (PySem.W.dataKind (PySem.W.sortingHeap (h1.push (seqObj "list" vs.toArray 0)) h1.objs.size vs) (bs.map enc)) rv vs vs).toArray) hp
    refine h _ _ _ c (fun b u q => ?_) le1 hc2 (PySem.W.sortVals_data rv e er' hal)
    rw [sortedHeap_old (old b u q).1 (Heap.lt_size (old b u q).2)]
    exact (old b u q).2
end
section
variable {X : Cx} {G : Gh}
theorem each_pairs {K : PySem.W.Frag} {H : Hp} : ∀ {ds : List D} {us : List V} {vs : List Value}, RpL K H ds us → Vals us vs → PySem.W.EachIs (fun v (b : V × D) => RelV b.1 v) vs (us.zip ds)
  | _, _, _, .nil, .nil => .nil
  | _, _, _, .cons _ l, .cons r t => .cons r (each_pairs l t)
theorem each_reads {pins : List (Addr × Obj)} {s : Shared} {σ : St} {H : Hp} (I : Inv X pins σ H s) : ∀ {ds : List D} {us : List V} {vs : List Value}, (∀ d ∈ ds, d.canLay0 = true) → RpL X.K H ds us → Vals us vs → PySem.W.EachIs (fun v (b : V × D) => ∃ as, Reads s.heap v b.2 as) vs (us.zip ds)
  | _, _, _, _, .nil, .nil => .nil
  | _, _, _, z, .cons h l, .cons r t => .cons (Dp.reads I _ _ _ (h.dp (z _ (List.mem_cons_self ..))) r) (each_reads I (fun d hd => z d (List.mem_cons_of_mem _ hd)) l t)
theorem each_vals : ∀ {bs : List (V × D)} {vs : List Value}, PySem.W.EachIs (fun v (b : V × D) => RelV b.1 v) vs bs → Vals (bs.map (·.1)) vs
  | _, _, .nil => .nil
  | _, _, .cons r t => .cons r (each_vals t)
theorem zip_rp {K : PySem.W.Frag} {H : Hp} : ∀ {ds : List D} {us : List V}, RpL K H ds us → ∀ b ∈ us.zip ds, Rp K H b.2 b.1
  | _, _, .nil, b, hb => by simp at hb
  | _, _, .cons r l, b, hb => by
    rw [List.zip_cons_cons] at hb
    rcases List.mem_cons.mp hb with e | e
    · subst e; exact r
    · exact zip_rp l b e
theorem rp_zip {K : PySem.W.Frag} {H : Hp} : ∀ {bs : List (V × D)}, (∀ b ∈ bs, Rp K H b.2 b.1) → RpL K H (bs.map (·.2)) (bs.map (·.1))
  | [], _ => .nil
  | b :: bs, h => .cons (h b List.mem_cons_self) (rp_zip fun c hc => h c (List.mem_cons_of_mem _ hc))
theorem zip_snd2 {K : PySem.W.Frag} {H : Hp} {ds : List D} {us : List V} (l : RpL K H ds us) : (us.zip ds).map (·.2) = ds := by
  have := l.length
  rw [List.map_snd_zip (by omega)]
theorem le_snd (rv : Bool) : ∀ a b : V × D, PySem.W.dataLe rv (fun b : V × D => b.2) a b = PySem.W.dataLe rv (fun d : D => d) a.2 b.2 := fun _ _ => rfl
/-- sorted: the data in order -/
def sortD (rv : Bool) (xs : List D) : List D := xs.mergeSort (PySem.W.dataLe rv fun d : D => d)
def sortOk (xs : List D) : Prop := PySem.W.AllAlike xs ∧ PySem.W.Sortable xs ∧ ∀ d ∈ xs, d.depth ≤ 60 ∧ d.canLay0 = true
theorem sorted_run {rv : Bool} {kw : List (Str × Value)} (hu : X.A.units + 65 < cLine) {pins : List (Addr × Obj)} {s : Shared} {σ : St} {H : Hp} {a : Addr} {us : List V} {ds : List D} {Q : VK} (I : Inv X pins σ H s)
    (hs : SqL X.K H a us ∨ SqT X.K H a us) (l : RpL X.K H ds us) (ok : sortOk ds)
    (hkw : ∀ p, Builtin.«list.sort» ⟨[.ref p], kw⟩ = Builtin.«list.sort» ⟨[.ref p], [(Str.ofString "reverse", .bool rv)]⟩) (ok1 : argsOk "sorted" ⟨[.ref a], kw⟩) (ok2 : ∀ x, argsOk "list.sort" ⟨[.ref x], kw⟩)
    (q : ∀ ws p, H p = none → RpL X.K H (sortD rv ds) ws → Q (.ref p) (upd H p (.lst ws))) : wpAny (model X.prog X.w) X.A (call (.builtin "sorted") [.ref a] kw) (EP X pins σ Q) X.xe s := by
  obtain ⟨T, o, n, its, hT, ho, hc, hd, r, hz⟩ : ∃ (T : String) (o : Obj) (n : Nat) (its : List Value), (T = "list" ∨ T = "tuple") ∧ s.heap.get? a = some o ∧ o.cls = .type T ∧ o.data = .seq its.toArray n ∧ Vals us its ∧ us.length ≤ sizeLine := by
    rcases hs with hs | hs
    · obtain ⟨its, r, ⟨o, n, ho, hc, _, hd⟩, hz⟩ := I.list hs
      exact ⟨"list", o, n, its, .inl rfl, ho, hc, hd, r, hz⟩
    · obtain ⟨its, r, ⟨o, ho, hc, n, hd⟩, hz⟩ := I.tuple hs
      exact ⟨"tuple", o, n, its, .inr rfl, ho, hc, hd, r, hz⟩
  have e2 := zip_snd2 l
  refine sorted_seqD (enc := fun b : V × D => b.2) (R := fun v b => RelV b.1 v) (bs := us.zip ds) hT ho hc hd hkw ok1 ok2 (each_pairs l r) (each_reads I (fun d hd => (ok.2.2 d hd).2) l r) (by rw [e2]; exact ok.1) (by rw [e2]; exact ok.2.1) (by rw [← r.length]; exact hz) (fun b hb => ?_) fun h' p out c k1 hp hp2 eo => ?_
  · have := (ok.2.2 b.2 (by rw [← e2]; exact List.mem_map_of_mem hb)).1; omega
  · have rv1 := each_vals eo
    have hn : H p = none := I.hok.fresh hp
    have mem : ∀ b ∈ (us.zip ds).mergeSort (PySem.W.dataLe rv fun b : V × D => b.2), Rp X.K H b.2 b.1 := fun b hb => zip_rp l b ((List.mergeSort_perm _ _).mem_iff.mp hb)
    have e3 : ((us.zip ds).mergeSort (PySem.W.dataLe rv fun b : V × D => b.2)).map (·.2) = sortD rv ds := by
      unfold sortD
      rw [PySem.W.sort_maps (s := PySem.W.dataLe rv fun d : D => d) (fun b : V × D => b.2) (fun a _ b _ => le_snd rv a b), e2]
    have hr := rp_zip mem
    rw [e3] at hr
    have hlen : (((us.zip ds).mergeSort (PySem.W.dataLe rv fun b : V × D => b.2)).map (·.1)).length ≤ sizeLine := by
      rw [List.length_map, (List.mergeSort_perm _ _).length_eq, List.length_zip]; omega
    exact ⟨.ref p, upd H p (.lst _), I.laid (t' := s.toks) k1 hp ⟨hlen, out, c, rv1, hp2⟩, rfl, q _ p hn hr⟩
def caSorted : CaL := fun ds Q => match ds with
  | [.list xs] => sortOk xs ∧ Q (sortD false xs)
  | [.tuple xs] => sortOk xs ∧ Q (sortD false xs)
  | _ => False
theorem cr_sortedD (hu : X.A.units + 65 < cLine) : CallR X (.builtin "sorted") (fun vs H Q => ∃ (a : Addr) (us : List V) (ds : List D), vs = [.ref a] ∧ (SqL X.K H a us ∨ SqT X.K H a us) ∧ RpL X.K H ds us ∧ sortOk ds ∧ ∀ ws p, H p = none → RpL X.K H (sortD false ds) ws → Q (.ref p) (upd H p (.lst ws))) := by
  intro pins s σ H vs us Q I r h
  obtain ⟨a, ws, ds, rfl, hs, l, ok, q⟩ := h
  obtain rfl := Vals.ref1 r
  exact DL.sorted_run hu I hs l ok (fun p => PySem.W.plain_is_rev p) (args_sorted1 _) (fun _ => args_list_sort _) q
theorem cd_sorted (hu : X.A.units + 65 < cLine) : CaLD X (.builtin "sorted") caSorted := ⟨_, cr_sortedD hu, fun ds vs H QD Q hd q k => by
  match ds, q, hd with
  | [.list xs], q, hd =>
    obtain ⟨v, rfl, h⟩ := hd.one
    obtain ⟨a, us, rfl, hs, l⟩ := h.list
    exact ⟨a, us, xs, rfl, .inl hs, l, q.1, fun ws p hp hr => k _ _ _ q.2 hp hr⟩
  | [.tuple xs], q, hd =>
    obtain ⟨v, rfl, h⟩ := hd.one
    obtain ⟨a, us, rfl, hs, l⟩ := h.tuple
    exact ⟨a, us, xs, rfl, .inr hs, l, q.1, fun ws p hp hr => k _ _ _ q.2 hp hr⟩⟩
end
end DL
set_option Elab.async false
set_option linter.all false
set_option maxRecDepth 100000
set_option maxHeartbeats 1000000
/-! DL16: enumerate(t) of a tuple; count, index. -/
namespace DL
open PySem PySem.Spec PyProof.Rows L2 AutoSeq1
section
theorem meets_enumT (l : Addr) (items : Array Value) (n : Nat) (dct : Option Addr) (sl : Array (Option Value)) :
    Meets (Builtin.«enumerate.__new__» ⟨[.type "enumerate", .ref l], []⟩) (fun _ R s => s.heap.get? l = some { cls := .type "tuple", dict := dct, data := .seq items n, slots := sl } ∧
      R (.ok (.ret (.ref (s.heap.push { cls := .type "tuple_iterator", data := .fields #[.ref l, .int 0 0] }).objs.size)))
        { s with heap := (s.heap.push { cls := .type "tuple_iterator", data := .fields #[.ref l, .int 0 0] }).push { cls := .type "enumerate", data := .fields #[.none, .bool false, .ref s.heap.objs.size, rawInt 0, .none, .none] } }) :=
  .of_wp fun prog w A R s h => by
    obtain ⟨hp, g, d, tk, os⟩ := s; obtain ⟨hl, h⟩ := h
    have subE := sub_enumerate; have isT : Heap.IsTuple (Shared.heap ⟨hp, g, d, tk, os⟩) l items := ⟨_, hl, rfl, n, rfl⟩
    wp_walk using wpAny_loadPart' hl
    refine wpAny_stack_any fun st => wpAny_pure ?_
    split
    · rename_i c _ _ _ _ _
      cases (c == Value.type "enumerate") <;> (wp_walk using wpAny_loadPart' hl, wpAny_pyIter_tuple isT; exact ⟨_, rfl, h⟩)
    · wp_walk using wpAny_loadPart' hl, wpAny_pyIter_tuple isT; exact ⟨_, rfl, h⟩
variable {prog : Program} {w : World} {A : Around} {E : Value → Shared → Prop} {s : Shared}
theorem call_enumT {l : Addr} {items : Array Value} {Q : Value → Shared → Prop} (hL : s.heap.IsTuple l items)
    (fin : ∀ h', IsEnum h' (s.heap.objs.size + 1) s.heap.objs.size 0 .none → h'.IsTupleIter s.heap.objs.size l 0 → (∀ b o, s.heap.get? b = some o → h'.get? b = some o) → Q (.ref (s.heap.objs.size + 1)) { s with heap := h' }) :
    wpAny (model prog w) A (call (.type "enumerate") [.ref l]) Q E s := by
  obtain ⟨⟨c, dct, dt, sl⟩, hl, hc, n, hd⟩ := hL
  obtain rfl : c = .type "tuple" := hc
  obtain rfl : dt = .seq items n := hd
  refine callType_new F.called_enumerate (by decide) (F.typeCall_enumerate_1 _) (F.newCall_enumerate_1 _) (fun obj => F.args_object_init_2 obj _) F.entry_enumerate_new (meets_enumT l items n dct sl) ⟨hl, ?_⟩
  have z1 : (s.heap.push { cls := .type "tuple_iterator", data := .fields #[.ref l, .int 0 0] }).objs.size = s.heap.objs.size + 1 := Heap.size_push ..
  show _ ∧ _
  rw [z1]
  have is : IsEnum ((s.heap.push { cls := .type "tuple_iterator", data := .fields #[.ref l, .int 0 0] }).push { cls := .type "enumerate", data := .fields #[.none, .bool false, .ref s.heap.objs.size, rawInt 0, .none, .none] }) (s.heap.objs.size + 1) s.heap.objs.size 0 .none := by
    have q := Heap.get?_push_size (s.heap.push { cls := .type "tuple_iterator", data := .fields #[.ref l, .int 0 0] }) (o := { cls := .type "enumerate", data := .fields #[.none, .bool false, .ref s.heap.objs.size, rawInt 0, .none, .none] }) rfl
    rw [z1] at q; exact q
  exact ⟨⟨_, is, rfl⟩, fin _ is ⟨_, Heap.get?_push_of_some _ (Heap.get?_push_size _ rfl), rfl, rfl⟩ fun b o x => Heap.get?_push_of_some _ (Heap.get?_push_of_some _ x)⟩
end
/-- the tuple at a, each item in a new pair with its number -/
def IteT (K : PySem.W.Frag) (a : Addr) : It :=
  ⟨fun i H => ∃ (xs : List V) (x : V), SqT K H a xs ∧ xs[i]? = some x, fun i H v H' => ∃ T x, v = .ref T ∧ H T = none ∧ H' = upd H T (.tup [.int (i : Nat), x]) ∧ ∀ xs, SqT K H a xs → xs[i]? = some x, fun i H => ∃ xs : List V, SqT K H a xs ∧ xs.length = i⟩
theorem turn_enumT {P : Program} {w : World} {K : PySem.W.Frag} {elts : List Expr} {kk : Nat} {tpos : Pos} (a e it : Addr) :
    Turn P w K (.Tuple elts kk tpos) (IteT K a) [e, it] e (fun i h => (∃ old, IsEnum h e it ((i : Nat) : Int) old) ∧ h.IsTupleIter it a i ∧ e ≠ it ∧ a ≠ it ∧ a ≠ e) where
  mem := by simp
  obj := fun i h st b hb => by
    obtain ⟨⟨old, he⟩, ⟨o, ho, hc, hd⟩, _⟩ := st
    rcases (show b = e ∨ b = it by simpa using hb) with z | z
    · rw [z]; exact ⟨_, he, fun v q => nomatch q⟩
    · rw [z]; exact ⟨o, ho, fun v q => by rw [hd] at q; cases q⟩
  keep := fun i h h' st k => let ⟨⟨old, he⟩, hi, hne⟩ := st; ⟨⟨old, k e (by simp) _ he⟩, hi.at fun o q => k it (by simp) o q, hne⟩
  item := by
    intro X hP hw hK hc i pins s σ H E I hf st hg
    subst hP hw hK
    obtain ⟨⟨old, he⟩, hit, hne, hai, hae⟩ := st
    obtain ⟨xs, x, hq, hx⟩ := hg
    obtain ⟨its, rv, p, hz⟩ := I.tuple hq
    obtain ⟨u, hu, ru⟩ := rv.get hx
    have hel : e < s.heap.objs.size := Heap.lt_size he
    have hil : it < s.heap.objs.size := by obtain ⟨_, q, _⟩ := hit; exact Heap.lt_size q
    have lt : i < its.toArray.size := by simpa using (List.getElem?_eq_some_iff.mp hu).1
    have nf : e ∉ [it, a] := by simp; exact ⟨hne, Ne.symm hae⟩
    refine wpAny_pyNext_enum_itemD (Draws.tuple (A := X.A.in1) (I.ok.hd hc) it a hai its.toArray) he ⟨hit, p⟩ lt hne nf fun u2 h' tk hP2 ho hit' hT hsz hk => ?_
    obtain rfl : u2 = u := by
      have : its[i]? = some u2 := by simpa using hP2
      rw [hu] at this; exact (Option.some.inj this).symm
    refine ⟨_, rfl, wpAny_letOwnedTupleGo_enum (s := { s with heap := h', toks := tk + 1 }) ho fun h'' he' sb => ?_⟩
    have hT2 : h''.get? s.heap.objs.size = some { cls := .type "tuple", data := .seq #[.int i tk, u2] } := (sb.2 _ (Nat.ne_of_gt hel)).trans hT
    have new : ObjOk X.prog X.w (upd H s.heap.objs.size (.tup [.int (i : Nat), x])) h'' s.heap.objs.size (.tup [.int (i : Nat), x]) := ⟨by show 2 ≤ sizeLine; decide, [.int i tk, u2], .cons ⟨_, rfl⟩ (.cons ru .nil), ⟨_, hT2, rfl, _, rfl⟩⟩
    have I1 : Inv X pins σ (upd H s.heap.objs.size (.tup [.int (i : Nat), x])) { s with heap := h'', toks := tk + 1 } :=
      I.turnedNew (ch := [e, it]) (fun b ob hb q => (sb.2 b (fun z => hb (by simp [z]))).trans (hk b ob (fun z => hb (by simp [z])) (fun z => hb (by simp [z])) q)) hf (Nat.le_refl _) new
    refine ⟨.ref s.heap.objs.size, _, I1, rfl, ⟨_, x, rfl, I.hok.fresh (Nat.le_refl _), rfl, fun ys hy => by rw [I.tuple_inj hy hq]; exact hx⟩, ⟨⟨u2, ?_⟩, hit'.1.at fun o q => (sb.2 it (Ne.symm hne)).trans q, hne, hai, hae⟩, fun b hb => ?_⟩
    · rw [show ((i + 1 : Nat) : Int) = (i : Int) + 1 by omega]; exact he'
    · have hb' : b < s.heap.objs.size := by rcases (show b = e ∨ b = it by simpa using hb) with z | z <;> rw [z] <;> assumption
      rw [upd_ne (Nat.ne_of_lt hb')]; exact (hf b hb).1
  done := by
    intro X hP hw hK hc i pins s σ H E I hf st hg
    subst hP hw hK
    obtain ⟨⟨old, he⟩, hit, hne, hai, hae⟩ := st
    obtain ⟨xs, hq, hx⟩ := hg
    obtain ⟨its, rv, p, hz⟩ := I.tuple hq
    obtain ⟨f0, f1, f2, f3, f4, f5⟩ := hf it (by simp)
    have hl := rv.length
    subst hx
    have hit2 : s.heap.IsTupleIter it a its.toArray.size := by rw [List.size_toArray, ← hl]; exact hit
    exact wpAny_pyNext_enum_endD (Draws.tuple (A := X.A.in1) (I.ok.hd hc) it a hai its.toArray) he ⟨hit2, p⟩ fun h' eb => ⟨rfl, I.turned (t' := s.toks) (fun b o hb q => eb b o hb q) f0 f1 f3 f4 f5⟩
  self := fun A i s Q E st h => let ⟨⟨_, he⟩, _⟩ := st; wpAny_pyIter_enum he h
section
variable {X : Cx} {G : Gh} {e : Expr} {p pos tpos : Pos} {elts : List Expr} {kk : Nat}
theorem pi_enumT {ta : TA} (hg : Gl X "enumerate") (hm : X.mg "enumerate" = none) (ha : PA X [e] ta) (hs : starEach [e] X.env = [(false, eval e X.env)] := by rfl) :
    PI X (.Tuple elts kk tpos) (.Call (.Name "enumerate" p) [e] [] pos) (fun σ H R => ta σ H fun vs H1 => ∃ a xs, vs = [.ref a] ∧ SqT X.K H1 a xs ∧ R (IteT X.K a) H1) := by
  refine ⟨fun pins s σ H R I h => Call_ (ld_blt I hg hm boot_enumerate (PyProof.Rows.callWith_type1 (thn (ha.run pos pins s σ H _ I h) fun us s1 ⟨vs, H1, I1, r1, q1⟩ => ?_) hs rfl))⟩
  obtain ⟨a, xs, rfl, hq, q⟩ := q1
  obtain rfl := Vals.ref1 r1
  obtain ⟨its, rv, pt, hz⟩ := I1.tuple hq
  have lta : a < s1.heap.objs.size := by obtain ⟨o, ho, _⟩ := pt; exact Heap.lt_size ho
  refine call_enumT pt fun h' he hit hk => wpAny_pyIter_enum he ?_
  have I2 : Inv X pins σ H1 { s1 with heap := h' } := I1.kept (t' := s1.toks) hk
  refine ⟨s1.heap.objs.size + 1, [s1.heap.objs.size + 1, s1.heap.objs.size], _, _, H1, rfl, I2, turn_enumT a (s1.heap.objs.size + 1) s1.heap.objs.size, ⟨⟨.none, he⟩, hit, Nat.succ_ne_self _, Nat.ne_of_lt lta, Nat.ne_of_lt (Nat.lt_succ_of_lt lta)⟩, fun b hb => ?_, q⟩
  have hle : s1.heap.objs.size ≤ b := by rcases (show b = s1.heap.objs.size + 1 ∨ b = s1.heap.objs.size by simpa using hb) with z | z <;> rw [z]; exact Nat.le_succ _; exact Nat.le_refl _
  exact I1.fpOk hle (I1.hok.fresh hle)
def enumD (xs : List D) : List D := xs.zipIdx.map fun p => .tuple [.int ((p.2 : Nat) : Int), p.1]
theorem enumD_len (xs : List D) : (enumD xs).length = xs.length := by simp [enumD]
theorem enumD_get {xs : List D} {i : Nat} {d : D} (h : xs[i]? = some d) : (enumD xs)[i]? = some (.tuple [.int (i : Int), d]) := by
  unfold enumD
  rw [List.getElem?_map, List.getElem?_zipIdx, h]; simp
def iEnumT (t : TD) : TDs := fun E Q => t E fun d E1 => match d with
  | .tuple ds => Q (enumD ds) E1
  | _ => False
def iEnumL (t : TD) : TDs := fun E Q => t E fun d E1 => match d with
  | .list ds => Q (enumD ds) E1
  | _ => False
theorem walkD_enumT {K : PySem.W.Frag} {H : Hp} {a : Addr} {vs : List V} {ds : List D} (h : SqT K H a vs) (l : RpL K H ds vs) : WalkD true K (IteT K a) H (enumD ds) where
  goes := fun i H' x hi => by
    rw [enumD_len, l.length] at hi
    exact ⟨vs, vs[i], SqT.ext x h, List.getElem?_eq_getElem hi⟩
  yld := fun i H' v H2 x hi hy => by
    obtain ⟨T, v1, rfl, hT, rfl, e1⟩ := hy
    obtain ⟨d, hd, p⟩ := l.getV (e1 vs (SqT.ext x h))
    have px := PExt.new (o := .tup [.int (i : Nat), v1]) hT
    exact ⟨px, _, enumD_get hd, .pair (SqT.of upd_same) (.cons (.int _) (.cons ((p.ext x).ext px.ext) .nil))⟩
  stops := fun H' x => ⟨vs, SqT.ext x h, by rw [enumD_len, l.length]⟩
theorem id_enumT {t : TD} (h : ED X G e t) (hg : Gl X "enumerate") (hm : X.mg "enumerate" = none) (hs : starEach [e] X.env = [(false, eval e X.env)] := by rfl) : ID X G true (.Tuple elts kk tpos) (.Call (.Name "enumerate" p) [e] [] pos) (iEnumT t) :=
  ⟨PI.weak (pi_enumT hg hm (pa_cons h.pe pa_nil hs) hs) fun σ H R ⟨E, QE, r, q, k⟩ => ⟨E, _, r, q, fun d E1 v H1 q1 x1 r1 p1 => by
    cases p1 with
    | tup hs l => exact ⟨_, _, rfl, hs.1, k _ _ _ _ q1 x1 r1 (walkD_enumT hs.1 l)⟩
    | _ => exact q1.elim⟩⟩
end
end DL
set_option Elab.async false
set_option linter.all false
set_option maxRecDepth 100000
set_option maxHeartbeats 1000000
/-! DL17: count, index; x or y, not x by truth; sorted(.., reverse=True). -/
namespace DL
open PySem PySem.Spec PyProof.Rows L2
section
variable {X : Cx} {G : Gh} {a b e o : Expr} {es : List Expr} {pos p apos cpos : Pos}
/-! ### methods of tuples -/
theorem SqD.is {pins : List (Addr × Obj)} {s : Shared} {σ : St} {H : Hp} {p : Addr} {xs : List V} (I : Inv X pins σ H s) (h : SqD X.K H p xs) : s.TypeIs (.ref p) "tuple" ∧ ∃ ob, s.heap.get? p = some ob ∧ ob.dict = none := by
  obtain ⟨its, r, ⟨o, ho, hc, _⟩, hz⟩ := I.tuple h.1
  refine ⟨⟨o, ho, hc⟩, ?_⟩
  rcases h.2 with ⟨o2, u, e2, d2⟩ | ⟨o2, e2, d2⟩
  · exact ⟨o2, (I.hok _ _ e2).1, d2⟩
  · exact ⟨o2, I.kIn _ _ e2, d2⟩
theorem pe_bmT {name : Str} {id : String} {r : V → List V → Hp → VK → Prop} {to : TE} {t : TA} (slot : Slot "tuple" name id) (hty : typeOf (.builtin id) = pure (.type "method_descriptor")) (hm : MtR X id r) (ho : PE X o to) (ha : PA X [e] t)
    (hbase : attributeBase o name X.env (eval o X.env) = eval o X.env := by rfl)
    (hfew : ((backTo cpos (starEach [e] X.env)).all (fun x => !x.1) && (backToKw cpos (keywordEach [] X.env)).all (fun x => x.1.isSome) && decide (([e] : List Expr).length + ([] : List Keyword).length + (if ([] : List Keyword).isEmpty then 0 else 1) < 30)) = true := by rfl)
    (hline : (apos.endLine == cpos.line) = true := by rfl) (hs : starEach [e] X.env = (false, eval e X.env) :: starEach [] X.env := by rfl) (hplain : (backTo cpos (starEach [] X.env)).any (·.1) = false := by rfl) :
    PE X (.Call (.Attribute o name apos) [e] [] cpos) (fun σ H Q => to σ H fun x H1 => (∃ p xs, x = .ref p ∧ SqD X.K H1 p xs) ∧ t σ H1 fun xs H2 => r x xs H2 Q) := by
  refine ⟨fun pins s σ H Q I h => wpAny_Call_method_late hbase hfew hline rfl (thn (ho.run pins s σ H _ I h) fun v s1 ⟨x, H1, I1, r1, ty, q1⟩ => ?_)⟩
  obtain ⟨p0, xs0, rfl, hd⟩ := ty
  obtain rfl : v = Value.ref p0 := r1
  obtain ⟨h1, h2⟩ := hd.is I1
  refine ⟨"tuple", id, PySem.F.plainAttrs_tuple, slot, hty, h1, fun a ea => by cases ea; exact h2, ?_⟩
  have hA := ha.run cpos pins s1 σ H1 _ I1 q1
  rw [hs] at hA ⊢
  exact Calls.callWith_builtin (by show (false || (backTo cpos (starEach [] X.env)).any (·.1)) = false; rw [hplain] <;> rfl) (Calls.evalArgs_plain (thn hA fun us s2 ⟨vs, H2, I2, r2, q2⟩ => hm pins s2 σ H2 (.ref p0) vs _ us Q I2 rfl r2 q2))
def okAll (xs : List D) (y : D) : Prop := xs.all (shOk 60) = true ∧ shOk 60 y = true
theorem okAll.sp {xs : List D} {y : D} (h : okAll xs y) (hu : X.A.units + 65 < cLine) : PyData.canLayAll0 xs = true ∧ y.canLay0 = true ∧ X.A.units + 1 + min (PyData.depthAll xs) y.depth < cLine := by
  have ⟨a, b⟩ := shOk_spec 60 y h.2
  have c := (shOk_all (shOk_spec 60) xs h.1).1
  have : min (PyData.depthAll xs) y.depth ≤ y.depth := Nat.min_le_right _ _
  exact ⟨c, a, by omega⟩
def cntD (xs : List D) (y : D) : Nat := xs.countP fun z => PyData.eqv z y
def rCnt (S : PySem.W.Frag → Hp → Addr → List V → Prop) (K : PySem.W.Frag) : V → List V → Hp → VK → Prop := fun x xs H Q => ∃ (p : Addr) (us : List V) (ds : List D) (y : V) (d : D), x = .ref p ∧ xs = [y] ∧ S K H p us ∧ RpL K H ds us ∧ Rp K H d y ∧ okAll ds d ∧ Q (.int (cntD ds d : Nat)) H
theorem mt_countT (hu : X.A.units + 65 < cLine) : MtR X "tuple.count" (rCnt SqT X.K) := by
  intro pins s σ H x xs v us Q I rx rxs h
  obtain ⟨p, ws, ds, y, d, rfl, rfl, hs, l, hy, ok, q⟩ := h
  obtain rfl : v = Value.ref p := rx
  obtain ⟨u, rfl, ru⟩ := rxs.one
  obtain ⟨its, rv, pl, hz⟩ := I.tuple hs
  obtain ⟨c1, c2, c3⟩ := ok.sp hu
  obtain ⟨as, r1⟩ := Dp.readsAll I ds _ its (l.dp c1) rv
  obtain ⟨bs, r2⟩ := Dp.reads I d y u (hy.dp c2) ru
  exact SeqAt.count_tuple_data pl (by simpa using r1) r2 (PyData.plainAll_of_canLay0 _ c1) (PyData.plain_of_canLay0 _ c2) c3 ⟨.int _, H, I.tok _, ⟨_, rfl⟩, q⟩
/-- xs.index(y): the first place of an equal one -/
def idxOk (xs : List D) (y : D) (j : Nat) : Prop := (∃ z, xs[j]? = some z ∧ PyData.eqv z y = true) ∧ ∀ m z, m < j → xs[m]? = some z → PyData.eqv z y = false
def tCountT (ta tb : TD) : TD := fun E Q => ta E fun x E1 => match x with
  | .tuple xs => tb E1 fun y E2 => okAll xs y ∧ Q (.int (cntD xs y : Nat)) E2
  | _ => False
def tCountL (ta tb : TD) : TD := fun E Q => ta E fun x E1 => match x with
  | .list xs => tb E1 fun y E2 => okAll xs y ∧ Q (.int (cntD xs y : Nat)) E2
  | _ => False
def tIndexT (ta tb : TD) : TD := fun E Q => ta E fun x E1 => match x with
  | .tuple xs => tb E1 fun y E2 => ∃ j, okAll xs y ∧ idxOk xs y j ∧ Q (.int (j : Nat)) E2
  | _ => False
def tIndexL (ta tb : TD) : TD := fun E Q => ta E fun x E1 => match x with
  | .list xs => tb E1 fun y E2 => ∃ j, okAll xs y ∧ idxOk xs y j ∧ Q (.int (j : Nat)) E2
  | _ => False
section
variable {ta tb : TD}
theorem ed_countT (hu : X.A.units + 65 < cLine) (ho : ED X G o ta) (he : ED X G e tb) (hbase : attributeBase o "count" X.env (eval o X.env) = eval o X.env := by rfl)
    (hfew : ((backTo cpos (starEach [e] X.env)).all (fun x => !x.1) && (backToKw cpos (keywordEach [] X.env)).all (fun x => x.1.isSome) && decide (([e] : List Expr).length + ([] : List Keyword).length + (if ([] : List Keyword).isEmpty then 0 else 1) < 30)) = true := by rfl)
    (hline : (apos.endLine == cpos.line) = true := by rfl) (hs : starEach [e] X.env = (false, eval e X.env) :: starEach [] X.env := by rfl) (hplain : (backTo cpos (starEach [] X.env)).any (·.1) = false := by rfl) :
    ED X G (.Call (.Attribute o "count" apos) [e] [] cpos) (tCountT ta tb) :=
  ⟨PE.weak (pe_bmT PySem.F.slot_tuple_count PySem.F.type_tuple_count (mt_countT hu) ho.pe (pa_cons he.pe pa_nil hs) hbase hfew hline hs hplain) fun σ H Q ⟨E, QE, r, q, k⟩ => ⟨E, _, r, q, fun x E1 v H1 q1 x1 r1 p1 => by
    cases p1 with
    | tup hd l => exact ⟨⟨_, _, rfl, hd⟩, E1, _, r1, q1, fun y E2 w H2 q2 x2 r2 p2 => ⟨_, _, _, w, y, rfl, rfl, (hd.ext x2).1, l.ext x2, p2, q2.1, k _ _ _ _ q2.2 (x1.trans x2) r2 (.int _)⟩⟩
    | _ => exact q1.elim⟩⟩
end
/-! ### truth -/
def tOrT (t u : TD) : TD := fun E Q => t E fun x E1 => match truD x with
  | some c => okLen x ∧ if c = true then Q x E1 else u E1 Q
  | none => False
def tAndT (t u : TD) : TD := fun E Q => t E fun x E1 => match truD x with
  | some c => okLen x ∧ if c = true then u E1 Q else Q x E1
  | none => False
def tNotT (t : TD) : TD := fun E Q => t E fun x E1 => match truD x with
  | some c => okLen x ∧ Q (.bool (!c)) E1
  | none => False
/-! ### sorted(xs, reverse=True) -/
def tSortRev (ta : TD) : TLd := fun E Q => ta E fun x E1 => match x with
  | .list xs => sortOk xs ∧ Q (sortD true xs) E1
  | .tuple xs => sortOk xs ∧ Q (sortD true xs) E1
  | _ => False
end
end DL
set_option Elab.async false
set_option linter.all false
set_option maxRecDepth 100000
set_option maxHeartbeats 1000000
/-! DL18: a list of one's own is frozen where it is handed on; calls without arguments. -/
namespace DL
open PySem PySem.Spec PyProof.Rows L2
section
variable {K : PySem.W.Frag} {G : Gh} {H : Hp} {E : Env} {σ : St}
theorem RelX.freezeM {i : Nat} {s0 : S} {a : Addr} {u' : HO} {d : D} (r : RelE K G H E σ) (e : E[i]? = some s0) (m0 : s0.isMut = true) (hs : σ[i]? = some (some (.ref a))) (p : Rp K (upd H a u') d (.ref a)) :
    RelE K G (upd H a u') (E.set i (.d d)) σ := by
  obtain ⟨l, k, pn, dm, x0, A, h1, h2, h3⟩ := r
  obtain ⟨b, e1, e2, e3⟩ := (h3 i _ e).mut m0
  rw [hs] at e2
  have e2' : a = b := by injection e2 with z; injection z with z; injection z
  subst e2'
  obtain ⟨u0, g1, g2, g3⟩ := e3.soft
  have x : Ext H (upd H a u') := Ext.putS g1 g2 g3
  have own := h2 i a (by rw [e1]; simp)
  have hl : i < E.length := (List.getElem?_eq_some_iff.mp e).1
  refine ⟨by simpa using l, fun q u he ne => ?_, pn, fun q hq => ?_, x0.trans x, fun j => if j = i then [] else A j, fun j m b q1 q2 => ?_, fun j b q1 => ?_, fun j s he => ?_⟩
  · have : q ≠ a := by
      rintro rfl
      rcases own.1 with z | z
      · exact ne z
      · rw [z] at he; cases he
    rw [upd_ne this]; exact k q u he ne
  · by_cases z : q = a
    · subst z; rw [upd_same]; simp
    · rw [upd_ne z]; exact dm q hq
  · dsimp only at q1 q2
    split at q1
    · cases q1
    · split at q2
      · cases q2
      · exact h1 j m b q1 q2
  · dsimp only at q1
    split at q1
    · cases q1
    · exact h2 j b q1
  · by_cases z : j = i
    · subst z
      rw [List.getElem?_set_self hl] at he
      cases he
      simp only [if_true]
      exact ⟨rfl, _, hs, p⟩
    · rw [List.getElem?_set_ne (Ne.symm z)] at he
      simp only [z, if_false]
      exact (h3 j s he).move x fun c hc => upd_ne fun zz => z (h1 j i c hc (by rw [e1, zz]; simp))
theorem RelX.freezeV {i : Nat} {xs : List D} {a : Addr} {vs : List V} {o : Obj} (r : RelE K G H E σ) (e : E[i]? = some (.ol xs)) (hs : σ[i]? = some (some (.ref a))) (ha : H a = some (.lst vs)) (p : RpL K H xs vs) :
    RelE K G (upd H a (.frz o (.lst vs))) (E.set i (.d (.list xs))) σ :=
  r.freezeM e rfl hs (.lst (.of upd_same) (p.ext (Ext.put ha)))
end
section
variable {X : Cx} {G : Gh} {e : Expr} {pos p0 : Pos} {x : Str}
theorem PE.fzIf {t : TE} (h : PE X e t) : PE X e (fun σ H Q => t σ H fun v H1 => Q v H1 ∨ ∃ a u, v = .ref a ∧ H1 a = some u ∧ Mut (some u) ∧ ∀ o, Q v (upd H1 a (.frz o u))) :=
  ⟨fun pins s σ H Q I q => thn (h.run pins s σ H _ I q) fun u s1 ⟨v, H1, I1, r1, q1⟩ => by
    rcases q1 with q1 | ⟨a, xs, e1, e2, mu, q1⟩
    · exact ⟨v, _, I1, r1, q1⟩
    · obtain ⟨o, I2⟩ := I1.lock e2 mu
      exact ⟨v, _, I2, r1, q1 o⟩⟩
def tFzV (i : Nat) : TD := fun E Q => match E[i]? with
  | some (.d x) => Q x E
  | some (.ol xs) => Q (.list xs) (E.set i (.d (.list xs)))
  | some (.dt kvs) => Q (.dict kvs) (E.set i (.d (.dict kvs)))
  | _ => False
theorem ed_fzv (i : Nat) (hN : X.N[i]? = some x := by rfl) (hv : Vis X.env.scope x := by first | exact Or.inl rfl | exact Or.inr (Or.inl rfl) | exact Or.inr (Or.inr rfl)) (hd : (x == ("__debug__" : Str)) = false := by decide)
    (hcd : (x == ("__classdict__" : Str)) = false := by decide) : ED X G (.Name x p0) (tFzV i) :=
  ⟨PE.weak (PE.fzIf (pe_var hN hv hd hcd)) fun σ H Q ⟨E, QE, r, q, k⟩ => by
    unfold tFzV at q
    split at q
    · rename_i d0 he
      obtain ⟨v, e1, e2⟩ := r.data he
      exact ⟨v, e1, .inl (k _ _ _ _ q (Ext.refl _) r e2)⟩
    · rename_i xs he
      obtain ⟨a, vs, e1, e2, e3⟩ := r.ol he
      exact ⟨_, e1, .inr ⟨a, _, rfl, e2, trivial, fun o => k _ _ _ _ q (Ext.put e2) (r.freezeV he e1 e2 e3) (.lst (.of upd_same) (e3.ext (Ext.put e2)))⟩⟩
    · rename_i kvs he
      obtain ⟨a, e1, es, e2, l, nd, sm⟩ := r.mutAt he rfl
      refine ⟨_, e1, .inr ⟨a, _, rfl, e2, trivial, fun o => ?_⟩⟩
      have x : Ext H (upd H a (.frz o (dO a es))) := Ext.putS e2 (fun _ z => by cases z) (fun _ _ z => by cases z)
      have p : Rp X.K (upd H a (.frz o (dO a es))) (.dict kvs) (.ref a) := .dct upd_same (l.ext x) nd sm
      exact k _ _ _ _ q x (r.freezeM he rfl e1 p) p
    · exact q.elim⟩
end
end DL
set_option Elab.async false
set_option linter.all false
set_option maxRecDepth 100000
set_option maxHeartbeats 1000000
/-! DL19: x > y of any data that is alike. -/
namespace DL
open PySem PySem.Spec PyProof.Rows L2
section
variable {X : Cx}
def opGtD : OpT := fun x y Q => (PySem.W.alike x y = true ∧ x ≠ .none ∧ x.depth ≤ 60 ∧ x.canLay0 = true ∧ y.canLay0 = true) ∧ Q (.bool (PySem.W.dataLt y x))
end
end DL
set_option Elab.async false
set_option linter.all false
set_option maxRecDepth 100000
set_option maxHeartbeats 1000000
/-! DL20: sum, min, max of a tuple of ints. -/
namespace DL
open PySem PySem.Spec PyProof.Rows L2
section
variable {X : Cx}
def caSumT : CaT := fun ds Q => match ds with
  | [.tuple xs] => ∃ ns : List Int, xs = ns.map PyData.int ∧ Q (.int ns.sum)
  | _ => False
def caMaxT : CaT := fun ds Q => match ds with
  | [.tuple xs] => ∃ ns : List Int, xs = ns.map PyData.int ∧ 0 < ns.length ∧ ∀ m, m ∈ ns → (∀ y, y ∈ ns → y ≤ m) → Q (.int m)
  | _ => False
def caMinT : CaT := fun ds Q => match ds with
  | [.tuple xs] => ∃ ns : List Int, xs = ns.map PyData.int ∧ 0 < ns.length ∧ ∀ m, m ∈ ns → (∀ y, y ∈ ns → m ≤ y) → Q (.int m)
  | _ => False
end
end DL
set_option Elab.async false
set_option linter.all false
set_option maxRecDepth 100000
set_option maxHeartbeats 1000000
/-! DL21: zip of a list and a tuple. -/
namespace DL
open PySem PySem.Spec PyProof.Rows L2
section
variable {X : Cx} {G : Gh} {a b : Expr} {p pos tpos : Pos} {elts : List Expr} {kk : Nat}
def iZipM (ta tb : TD) : TDs := fun E Q => ta E fun x E1 => tb E1 fun y E2 => match x, y with
  | .list xs, .tuple ys => Q (zipD xs ys) E2
  | _, _ => False
end
end DL
set_option Elab.async false
set_option linter.all false
set_option maxRecDepth 100000
set_option maxHeartbeats 1000000
/-! DL22: t[::-1] of a tuple, str of an int, tuple * int, a chain of three comparisons, zip of three tuples, a comprehension with effects. -/
namespace DL
open PySem PySem.Spec PyProof.Rows L2
section
variable {X : Cx} {G : Gh} {a b c d e : Expr} {pos p p1 p2 p3 : Pos}
/-- t[::-1] of a tuple -/
def tRevT (ta : TD) : TD := fun E Q => ta E fun x E1 => match x with
  | .tuple xs => Q (.tuple xs.reverse) E1
  | _ => False
/-! ### str of an int -/
def caStr : CaT := fun ds Q => match ds with
  | [.int i] => i.natAbs.log2 < 1920 ∧ Q (.str (toString i))
  | _ => False
/-! ### tuple * int -/
def opRepT : OpT := fun x y Q => match x, y with
  | .tuple xs, .int k => (xs ≠ [] ∧ 2 ≤ k ∧ k ≤ 1000 ∧ xs.length ≤ 1000) ∧ Q (.tuple (List.replicate k.toNat xs).flatten)
  | _, _ => False
/-! ### a op b op' c op'' d -/
def tChain3D (o o' o'' : OpT) (ta tb tc td : TD) : TD := fun E Q => ta E fun x E1 => tb E1 fun y E2 => o x y fun z => match z with
  | .bool true => tc E2 fun w E3 => o' y w fun z' => match z' with
    | .bool true => td E3 fun u E4 => o'' w u fun r => Q r E4
    | .bool false => Q (.bool false) E3
    | _ => False
  | .bool false => Q (.bool false) E2
  | _ => False
end
/-! ### a comprehension with effects: an invariant of what was found and the environment -/
theorem compD_inv {g : TGd} {tt : TTd} {te : TD} {ms : List Nat} (I : Nat → List D → Env → Prop) : ∀ (ds : List D) (k : Nat) (acc : List D) (E : Env) (Q : List D → Env → Prop), acc.length ≤ k → k + ds.length ≤ sizeLine → I k acc E →
    (∀ (i : Nat) (d : D) (acc : List D) (E : Env), ds[i]? = some d → I (k + i) acc E → ∀ R : Option D → Env → Prop, (∀ E', I (k + i + 1) acc E' → R none E') → (∀ y E', I (k + i + 1) (acc ++ [y]) E' → R (some y) E') → turnD g tt te d (wipeE E ms) R) →
    (∀ acc E, I (k + ds.length) acc E → Q acc E) → compD g tt te ms ds acc E Q
  | [], k, acc, E, Q, _, _, h0, _, hd => hd _ _ h0
  | d :: ds, k, acc, E, Q, hl, hz, h0, hs, hd => by
    show turnD g tt te d (wipeE E ms) _
    rw [List.length_cons] at hz
    have hs' : ∀ (i : Nat) (d : D) (acc : List D) (E : Env), ds[i]? = some d → I (k + 1 + i) acc E → ∀ R : Option D → Env → Prop, (∀ E', I (k + 1 + i + 1) acc E' → R none E') → (∀ y E', I (k + 1 + i + 1) (acc ++ [y]) E' → R (some y) E') → turnD g tt te d (wipeE E ms) R := fun i d acc E e h => by
      have := hs (i + 1) d acc E (by simpa using e) (by rw [show k + (i + 1) = k + 1 + i by omega]; exact h)
      rw [show k + (i + 1) = k + 1 + i by omega] at this
      exact this
    have hd' : ∀ acc E, I (k + 1 + ds.length) acc E → Q acc E := fun acc E h => hd acc E (by rw [List.length_cons, show k + (ds.length + 1) = k + 1 + ds.length by omega]; exact h)
    refine hs 0 d acc E rfl h0 _ (fun E' h => compD_inv I ds (k + 1) acc E' Q (by omega) (by omega) h hs' hd') fun y E' h => ⟨by omega, compD_inv I ds (k + 1) (acc ++ [y]) E' Q (by rw [List.length_append, List.length_cons, List.length_nil]; omega) (by omega) h hs' hd'⟩
theorem compD_inv0 {g : TGd} {tt : TTd} {te : TD} {ms : List Nat} {E : Env} {Q : List D → Env → Prop} {ds : List D} (I : Nat → List D → Env → Prop) (hz : ds.length ≤ sizeLine) (h0 : I 0 [] E)
    (hs : ∀ (i : Nat) (d : D) (acc : List D) (E : Env), ds[i]? = some d → I i acc E → ∀ R : Option D → Env → Prop, (∀ E', I (i + 1) acc E' → R none E') → (∀ y E', I (i + 1) (acc ++ [y]) E' → R (some y) E') → turnD g tt te d (wipeE E ms) R)
    (hd : ∀ acc E2, I ds.length acc E2 → Q acc E2) : compD g tt te ms ds [] E Q :=
  compD_inv I ds 0 [] E _ (Nat.le_refl _) (by omega) h0 (fun i d acc E e h => by rw [Nat.zero_add] at h ⊢; exact hs i d acc E e h) fun acc E2 h => hd acc E2 (by rw [Nat.zero_add] at h; exact h)
theorem comp_inv {ti : TDs} {g : TGd} {tt : TTd} {te : TD} {ms : List Nat} {E E1 : Env} {Q : List D → Env → Prop} (ds : List D) (I : Nat → List D → Env → Prop) (hi : ∀ R : List D → Env → Prop, R ds E1 → ti E R) (hz : ds.length ≤ sizeLine) (h0 : I 0 [] E1)
    (hs : ∀ (i : Nat) (d : D) (acc : List D) (E : Env), ds[i]? = some d → I i acc E → ∀ R : Option D → Env → Prop, (∀ E', I (i + 1) acc E' → R none E') → (∀ y E', I (i + 1) (acc ++ [y]) E' → R (some y) E') → turnD g tt te d (wipeE E ms) R)
    (hd : ∀ acc E2, I ds.length acc E2 → Q acc (restE E1 E2 ms)) : tComp ti g tt te ms E Q :=
  hi _ (compD_inv I ds 0 [] E1 _ (Nat.le_refl _) (by omega) h0 (fun i d acc E e h => by rw [Nat.zero_add] at h ⊢; exact hs i d acc E e h) fun acc E2 h => hd acc E2 (by rw [Nat.zero_add] at h; exact h))
end DL
set_option Elab.async false
set_option linter.all false
set_option maxRecDepth 100000
set_option maxHeartbeats 1000000
/-! DL23: zip of three tuples. -/
namespace DL
open PySem PySem.Spec PyProof.Rows L2
end DL
set_option Elab.async false
set_option linter.all false
set_option maxRecDepth 100000
set_option maxHeartbeats 1000000
/-! DL24: the module's own constants. -/
namespace DL
open PySem PySem.Spec PyProof.Rows L2
def intsV : List Value → List Int → Bool
  | [], [] => true
  | .int i _ :: us, n :: ns => i == n && intsV us ns
  | _, _ => false
theorem intsV_vals : ∀ {us : List Value} {ns : List Int}, intsV us ns = true → Vals (ns.map V.int) us
  | [], [], _ => .nil
  | .int i t :: us, n :: ns, h => by
    have h : (i == n && intsV us ns) = true := h
    rw [Bool.and_eq_true] at h
    have e : i = n := by simpa using h.1
    subst e
    exact .cons ⟨t, rfl⟩ (intsV_vals h.2)
  | [], _ :: _, h => by cases h
  | .int _ _ :: _, [], h => by cases h
theorem const_tup {K : PySem.W.Frag} {a : Addr} {its : Array Value} {n : Nat} {sl : Array (Option Value)} {ns : List Int} (l : K.lookup a = some ⟨.type "tuple", none, .seq its n, sl⟩) (hv : intsV its.toList ns = true) (hz : ns.length ≤ 1000) : ∀ H, Rp K H (.tuple (ns.map PyData.int)) (.ref a) := fun H => by
  have v := intsV_vals hv
  have hl := v.length
  refine .tup ⟨.inr ⟨_, its, n, l, rfl, rfl, ?_, v⟩, .inr ⟨_, l, rfl⟩⟩ (RpL.ofInts ns)
  have hl2 : ns.length = its.size := by simpa using hl
  rw [← hl2, sizeLine_eq]; omega
end DL
set_option Elab.async false
set_option linter.all false
set_option maxRecDepth 100000
set_option maxHeartbeats 1000000
/-! DL25: max of a list of alike data, x < y of alike data. -/
namespace DL
open PySem PySem.Spec PyProof.Rows L2
section
variable {X : Cx}
def opLtD : OpT := fun x y Q => (PySem.W.alike x y = true ∧ x ≠ .none ∧ x.depth ≤ 60 ∧ x.canLay0 = true ∧ y.canLay0 = true) ∧ Q (.bool (PySem.W.dataLt x y))
end
end DL
set_option Elab.async false
set_option linter.all false
set_option maxRecDepth 100000
set_option maxHeartbeats 3200000
/-! DL26: set(t) of a tuple of pairs of ints, len and sorted of it. -/
namespace DL
open PySem PySem.Spec PyProof.Rows L2
end DL
set_option Elab.async false
set_option linter.all false
set_option maxRecDepth 100000
set_option maxHeartbeats 3200000
/-! DL27: len(set(t)), sorted(set(t)) of a tuple of pairs of ints. -/
namespace DL
open PySem PySem.Spec PyProof.Rows L2
def pE (c : Int × Int) : D := .tuple [.int c.1, .int c.2]
def ltC (a b : Int × Int) : Prop := a.1 < b.1 ∨ (a.1 = b.1 ∧ a.2 < b.2)
section
variable {X : Cx} {G : Gh} {a : Expr} {pos p p1 p2 p3 : Pos}
def tLenSetP (ta : TD) : TD := fun E Q => ta E fun x E1 => match x with
  | .tuple xs => ∃ cs : List (Int × Int), xs = cs.map pE ∧ cs.length < 64 ∧ ∀ zs : List (Int × Int), zs.Nodup → (∀ c, c ∈ zs ↔ c ∈ cs) → Q (.int (zs.length : Nat)) E1
  | _ => False
def tSortSetP (ta : TD) : TLd := fun E Q => ta E fun x E1 => match x with
  | .tuple xs => ∃ cs : List (Int × Int), xs = cs.map pE ∧ cs.length < 64 ∧ (∀ c ∈ cs, (0 ≤ c.1 ∧ c.1 < 64) ∧ (0 ≤ c.2 ∧ c.2 < 64)) ∧ ∀ zs : List (Int × Int), zs.Pairwise ltC → (∀ c, c ∈ zs ↔ c ∈ cs) → Q (zs.map pE) E1
  | _ => False
end
end DL
set_option Elab.async false
set_option linter.all false
set_option maxRecDepth 100000
set_option maxHeartbeats 1000000
/-! DL28: chains of comparisons as tests. -/
namespace DL
open PySem PySem.Spec PyProof.Rows L2
end DL
set_option Elab.async false
set_option linter.all false
set_option maxRecDepth 100000
set_option maxHeartbeats 1000000
/-! DL29: dicts whose keys are tuples of ints (nested): look-up, store, in. -/
namespace DL
open PySem PySem.Spec PyProof.Rows L2
def valN (kvs : List (D × D)) (k : D) : Option D := (kvs.find? fun p => decide (nkOf p.1 = nkOf k)).map (·.2)
def putN (kvs : List (D × D)) (k v : D) : List (D × D) := if (valN kvs k).isSome then kvs.map (fun p => if nkOf p.1 = nkOf k then (p.1, v) else p) else kvs ++ [(k, v)]
theorem valN_cons (p : D × D) (kvs : List (D × D)) (k : D) : valN (p :: kvs) k = if nkOf p.1 = nkOf k then some p.2 else valN kvs k := by
  unfold valN
  rw [List.find?_cons]
  by_cases h : nkOf p.1 = nkOf k
  · simp [h]
  · simp [h]
theorem paired_app {α β : Type} {F : α → β → Prop} : ∀ {a c : List α} {b d : List β}, Paired F a b → Paired F c d → Paired F (a ++ c) (b ++ d)
  | _, _, _, _, .nil, h => h
  | _, _, _, _, .cons r t, h => .cons r (paired_app t h)
abbrev TR (K : PySem.W.Frag) (H : Hp) : List (D × D) → List (NestedKey × Addr × Value) → Prop :=
  Paired fun p x => (∃ l, p.1 = .tuple l) ∧ nkOf p.1 = some x.1 ∧ x.1.depth ≤ 8 ∧ Rp K H p.1 (.ref x.2.1) ∧ ∃ v, Rp K H p.2 v ∧ RelV v x.2.2
section
variable {K : PySem.W.Frag} {H : Hp} {P : Program} {w : World}
theorem RpD.tr (P : Program) (w : World) : ∀ {kvs : List (D × D)} {es : List DictEntry}, RpD K H kvs es → ∃ xs, TR K H kvs xs ∧ es = xs.map (entryOfKey (nestedKind P w))
  | _, _, .nil => ⟨[], .nil, rfl⟩
  | _, _, .cons (nk := nk) (b := b) (v := v) (e := e) t n1 n2 n3 e1 h g r l => by
    obtain ⟨xs, h1, rfl⟩ := RpD.tr P w l
    refine ⟨(nk, b, e.val) :: xs, .cons ⟨t, n1, n2, h, v, g, r⟩ h1, ?_⟩
    rw [List.map_cons]
    congr 1
    obtain ⟨eh, ek, ev⟩ := e
    have hh : eh = nk.hash w := n3 w
    have hk : ek = Value.ref b := e1
    subst hh hk
    rfl
theorem TR.ext {H' : Hp} (x : Ext H H') {kvs : List (D × D)} {xs : List (NestedKey × Addr × Value)} (h : TR K H kvs xs) : TR K H' kvs xs :=
  Paired.mapP h fun _ _ ⟨h1, h2, h3, h4, v, h5, h6⟩ => ⟨h1, h2, h3, h4.ext x, v, h5.ext x, h6⟩
theorem TR.keys {kvs : List (D × D)} {xs : List (NestedKey × Addr × Value)} (h : TR K H kvs xs) (nd : (kvs.map fun p => nkOf p.1).Nodup) : (xs.map (·.1)).Nodup := by
  have e : kvs.map (fun p => nkOf p.1) = (xs.map (·.1)).map some := by
    unfold TR at h
    induction h with
    | nil => rfl
    | cons q t ih => 
      rw [List.map_cons, List.map_cons, List.map_cons, q.2.1, ih (List.nodup_cons.mp (by simpa using nd)).2]
  rw [e] at nd
  exact (List.pairwise_map.mp nd).imp fun h z => h (by rw [z])
/-- what stands at a key -/
theorem TR.val {kvs : List (D × D)} {xs : List (NestedKey × Addr × Value)} (h : TR K H kvs xs) {k : D} {nk : NestedKey} (e : nkOf k = some nk) :
    (∀ d, valN kvs k = some d → ∃ p v, atKey xs nk = some p ∧ Rp K H d v ∧ RelV v p.2) ∧ (valN kvs k = none → atKey xs nk = none) := by
  unfold TR at h
  induction h with
  | nil => exact ⟨fun d hd => by simp [valN] at hd, fun _ => rfl⟩
  | @cons p x ps xs q t ih =>
    obtain ⟨h1, h2, h3, h4, v, h5, h6⟩ := q
    rw [valN_cons]
    by_cases hk : nkOf p.1 = nkOf k
    · have hx : x.1 = nk := by rw [h2, e] at hk; exact Option.some.inj hk
      rw [if_pos hk]
      refine ⟨fun d hd => ?_, fun z => nomatch z⟩
      cases hd
      exact ⟨x.2, v, by simp [atKey, hx], h5, h6⟩
    · have hx : ¬ x.1 = nk := fun z => hk (by rw [h2, e, z])
      rw [if_neg hk]
      have : atKey (x :: xs) nk = atKey xs nk := by simp [atKey, hx]
      rw [this]; exact ih
theorem TR.isSome {kvs : List (D × D)} {xs : List (NestedKey × Addr × Value)} (h : TR K H kvs xs) {k : D} {nk : NestedKey} (e : nkOf k = some nk) : (atKey xs nk).isSome = (valN kvs k).isSome := by
  obtain ⟨h1, h2⟩ := h.val e
  cases q : valN kvs k with
  | none => rw [h2 q]; rfl
  | some d => obtain ⟨p, v, hp, _⟩ := h1 d q; rw [hp]; rfl
theorem TR.put {kvs : List (D × D)} {xs : List (NestedKey × Addr × Value)} (h : TR K H kvs xs) {k d : D} {nk : NestedKey} {b : Addr} {v : V} {u : Value} (t : ∃ l, k = .tuple l) (e : nkOf k = some nk) (dp : nk.depth ≤ 8) (hk : Rp K H k (.ref b)) (hd : Rp K H d v) (r : RelV v u) :
    TR K H (putN kvs k d) (storedH xs nk b u) := by
  unfold putN storedH
  rw [h.isSome e]
  split
  · rename_i hs
    clear hs
    unfold TR at h ⊢
    induction h with
    | nil => exact .nil
    | @cons p x ps xs q tt ih =>
      obtain ⟨h1, h2, h3, h4, v', h5, h6⟩ := q
      rw [List.map_cons, List.map_cons]
      refine .cons ?_ ih
      by_cases hk' : nkOf p.1 = nkOf k
      · have hx : x.1 = nk := by rw [h2, e] at hk'; exact Option.some.inj hk'
        rw [if_pos hk', putAt, if_pos hx]
        exact ⟨h1, h2, h3, h4, v, hd, r⟩
      · have hx : ¬ x.1 = nk := fun z => hk' (by rw [h2, e, z])
        rw [if_neg hk', putAt, if_neg hx]
        exact ⟨h1, h2, h3, h4, v', h5, h6⟩
  · exact paired_app h (.cons ⟨t, e, dp, hk, v, hd, r⟩ .nil)
end
end DL
set_option Elab.async false
set_option linter.all false
set_option maxRecDepth 100000
set_option maxHeartbeats 1000000
/-! DL30: rules for dicts whose keys are tuples of ints. -/
namespace DL
open PySem PySem.Spec PyProof.Rows L2
section
variable {X : Cx} {G : Gh} {pins : List (Addr × Obj)} {σ : St} {H : Hp} {s : Shared}
mutual
theorem nested_of (I : Inv X pins σ H s) : ∀ {d : D} {v : V} {u : Value} {k : NestedKey}, nkOf d = some k → Rp X.K H d v → RelV v u → NestedIs s.heap k u
  | .int i, v, u, k, h, r, q => by
    unfold nkOf at h; cases h; cases r
    obtain ⟨t, rfl⟩ := (show ∃ t, u = Value.int i t from q)
    exact .int i t
  | .tuple xs, v, u, k, h, r, q => by
    unfold nkOf at h
    obtain ⟨ks, h1, rfl⟩ := Option.map_eq_some_iff.mp h
    cases r with
    | tup hs l =>
      rename_i a vs
      obtain rfl : u = Value.ref a := q
      obtain ⟨its, rv, ⟨o, ho, hc, n, hd⟩, hz⟩ := I.tuple hs.1
      exact .tup ho hc hd (by simpa using nested_all I h1 l rv)
  | .none, _, _, k, h, _, _ => by simp [nkOf] at h
  | .bool _, _, _, k, h, _, _ => by simp [nkOf] at h
  | .str _, _, _, k, h, _, _ => by simp [nkOf] at h
  | .list _, _, _, k, h, _, _ => by simp [nkOf] at h
  | .dict _, _, _, k, h, _, _ => by simp [nkOf] at h
theorem nested_all (I : Inv X pins σ H s) : ∀ {ds : List D} {vs : List V} {us : List Value} {ks : List NestedKey}, nksOf ds = some ks → RpL X.K H ds vs → Vals vs us → NestedAll s.heap ks us
  | [], _, _, ks, h, r, q => by unfold nksOf at h; cases h; cases r; cases q; exact .nil
  | d :: ds, _, _, ks, h, r, q => by
    unfold nksOf at h
    split at h
    · rename_i k ks' h1 h2
      cases h
      cases r with
      | cons r1 r2 =>
        cases q with
        | cons q1 q2 => exact .cons (nested_of I h1 r1 q1) (nested_all I h2 r2 q2)
    · cases h
end
/-- a key -/
def keyB (d : D) : Bool := match d with
  | .tuple xs => match nksOf xs with
    | some ks => decide (NestedKey.depthAll ks ≤ 7)
    | none => false
  | _ => false
/-- a dict that is read -/
def DN (K : PySem.W.Frag) (H : Hp) (a : Addr) (kvs : List (D × D)) : Prop := ∃ es, Rd H a (dO a es) ∧ RpD K H kvs es ∧ (kvs.map fun p => nkOf p.1).Nodup ∧ (a == sysModules) = false
theorem DN.at (I : Inv X pins σ H s) {a : Addr} {kvs : List (D × D)} (h : DN X.K H a kvs) : ∃ xs, TR X.K H kvs xs ∧ s.heap.DictOfH (nestedKind X.prog X.w) a xs ∧ (a == sysModules) = false := by
  obtain ⟨es, e, l, nd, sm⟩ := h
  obtain ⟨xs, tr, rfl⟩ := l.tr X.prog X.w
  obtain ⟨⟨o, ep, h1, h2, h3⟩, _⟩ := e.ok I.hok
  refine ⟨xs, tr, ⟨o, _, ep, h1, h2, h3, by simp, ?_, tr.keys nd⟩, sm⟩
  intro x hx
  have : ∀ (kvs : List (D × D)) (xs : List (NestedKey × Addr × Value)), TR X.K H kvs xs → ∀ x ∈ xs, (nestedKind X.prog X.w).is s.heap x.1 x.2.1 := by
    intro kvs xs t
    unfold TR at t
    induction t with
    | nil => intro x hx; cases hx
    | cons q t ih =>
      intro x hx
      rcases List.mem_cons.mp hx with rfl | hx
      · exact ⟨nested_of I q.2.1 q.2.2.2.1 rfl, q.2.2.1⟩
      · exact ih x hx
  exact this kvs xs tr x hx
/-! ### expressions -/
variable {o i e f value : Expr} {pos pos' tpos apos cpos : Pos} {td ty tv tx : TE}
end
end DL
set_option Elab.async false
set_option linter.all false
set_option maxRecDepth 100000
set_option maxHeartbeats 1000000
/-! DL31: dicts over data. -/
namespace DL
open PySem PySem.Spec PyProof.Rows L2
theorem keyB_2 (a b : Int) : keyB (.tuple [.int a, .int b]) = true := rfl
theorem keyB_3 (a b c : Int) : keyB (.tuple [.int a, .int b, .int c]) = true := rfl
theorem keyB_4 (a b c d : Int) : keyB (.tuple [.int a, .int b, .int c, .int d]) = true := rfl
def dictAt (E : Env) (i : Nat) : Option (List (D × D)) := match E[i]? with
  | some (.dt kvs) => some kvs
  | some (.d (.dict kvs)) => some kvs
  | _ => none
def tupKeys (kvs : List (D × D)) : Bool := kvs.all fun p => match p.1 with
  | .tuple _ => true
  | _ => false
def optQ {α : Type} (o : Option α) (Q : α → Prop) : Prop := match o with
  | some d => Q d
  | none => False
section
variable {K : PySem.W.Frag} {G : Gh} {H : Hp} {E : Env} {σ : St} {ex : List Addr}
theorem Rd.pext {H' : Hp} (p : PExt H H') {a : Addr} {u : HO} (h : Rd H a u) : Rd H' a u := by
  rcases h with h | ⟨o, h⟩
  · exact .inl (p _ _ h)
  · exact .inr ⟨o, p _ _ h⟩
end
section
variable {X : Cx} {G : Gh} {a b c e f : Expr} {es : List Expr} {pos pos' p0 apos cpos : Pos} {x : Str} {tk tv tx ta : TD}
/-- d[k], d a name -/
def tDGetV (i : Nat) (tk : TD) : TD := fun E Q => match dictAt E i with
  | some _ => tk E fun k E1 => match dictAt E1 i with
    | some kvs => keyB k = true ∧ optQ (valN kvs k) fun d => Q d E1
    | none => False
  | none => False
/-- d[k], d data -/
def tDGetD (ta tk : TD) : TD := fun E Q => ta E fun x E1 => tk E1 fun k E2 => match x with
  | .dict kvs => keyB k = true ∧ optQ (valN kvs k) fun d => Q d E2
  | _ => False
/-- d.get(k, x), d a name -/
def tDGet2V (i : Nat) (tk tx : TD) : TD := fun E Q => match dictAt E i with
  | some kvs0 => tupKeys kvs0 = true ∧ tk E fun k E1 => tx E1 fun z E2 => match dictAt E2 i with
    | some kvs => keyB k = true ∧ tupKeys kvs = true ∧ Q ((valN kvs k).getD z) E2
    | none => False
  | none => False
/-- k in d, d a name of a dict of one's own -/
def tInN (tk : TD) (i : Nat) : TTd := fun E Q => tk E fun k E1 => match E1[i]? with
  | some (.dt kvs) => keyB k = true ∧ Q (valN kvs k).isSome E1
  | _ => False
def tNotInN (tk : TD) (i : Nat) : TTd := fun E Q => tk E fun k E1 => match E1[i]? with
  | some (.dt kvs) => keyB k = true ∧ Q (!(valN kvs k).isSome) E1
  | _ => False
/-- d[k] = v -/
def sDPutV (i : Nat) (tk tv : TD) : TSd := fun DE E => tv E fun d E1 => match E1[i]? with
  | some (.dt _) => tk E1 fun k E2 => match E2[i]? with
    | some (.dt kvs) => keyB k = true ∧ kvs.length < sizeLine ∧ DE.nx (E2.set i (.dt (putN kvs k d)))
    | _ => False
  | _ => False
/-! ### new mutable things -/
abbrev TM := Env → (S → Env → Prop) → Prop
def liftM (K : PySem.W.Frag) (G : Gh) (t : TM) : TE := fun σ H Q => ∃ (E : Env) (QE : S → Env → Prop), RelE K G H E σ ∧ t E QE ∧
  ∀ s E' a H', QE s E' → Ext H H' → RelX K G [a] H' E' σ → G.H0 a = none → a ∉ G.addrs → RelM K H' s a → Q (.ref a) H'
structure EM (X : Cx) (G : Gh) (e : Expr) (t : TM) : Prop where
  pe : PE X e (liftM X.K G t)
def mDt : TM := fun E Q => Q (.dt []) E
def mDk : TM := fun E Q => Q (.dk []) E
theorem em_dk : EM X G (.Dict [] [] pos) mDk := ⟨PE.weak pe_dnewK fun σ H Q ⟨E, QE, r, q, k⟩ p hp => by
  obtain ⟨r2, h0, na⟩ := r.fresh (o := .dK []) hp
  exact k _ _ _ _ q (PExt.new hp).ext r2 h0 na ⟨[], upd_same, rfl, .nil⟩⟩
def sSetM (i : Nat) (t : TM) : TSd := fun DE E => t E fun s E1 => DE.nx (E1.set i s)
theorem sd_setM {i : Nat} {t : TM} (hi : i ∉ G.slots) (hN : X.N.Nodup) (hx : X.N[i]? = some x) (hl : Loc X.env.scope x) (h : EM X G e t) (hs : swapsWith e (some (.Name x pos')) pos.line X.env = pure false := by rfl)
    (hf : X.fn x = true ∨ X.env.scope.names.lookup x = some .local := by first | exact .inl rfl | exact .inr rfl | assumption) : SD X G (.Assign [.Name x pos'] e pos) (sSetM i t) :=
  ⟨PS.weak (ps_set hN hx hl h.pe hs hf) fun F σ H ⟨E, DE, r, q, k1, k2, k3, k4⟩ => ⟨E, _, r, q, fun d E1 a H1 q1 x1 r1 h0 na p1 => k1 _ _ _ q1 x1 (r1.setM (by simp) hi h0 p1)⟩⟩
def pM (t : TM) (u : TPs) : TPs := fun E Q => t E fun s E1 => u E1 fun ss E2 => Q (s :: ss) E2
end
end DL
set_option Elab.async false
set_option linter.all false
set_option maxRecDepth 100000
set_option maxHeartbeats 1000000
/-! DL32: defs that may raise: raise X(), calls of such defs, try .. except X. -/
namespace DL
open PySem PySem.Spec PyProof.Rows L2
/-- what is wished of an exception, over data -/
abbrev WDt := Value → Env → Prop
section
variable {X : Cx} {G : Gh} {e : Expr} {pos : Pos}
def sRaise (WD : WDt) (c : Value) : TSd := fun _ E => WD c E
theorem SDs.nox {st : List Stmt} {t : TSd} (h : SDs X.nox G st t) : SDs X G st t := ⟨PSs.nox h.pss⟩
theorem SD.nox {st : Stmt} {t : TSd} (h : SD X.nox G st t) : SDs X G [st] t := SDs.nox (sds_one h)
end
/-! ### a call of such a def -/
/-! ### try .. except X -/
end DL
set_option Elab.async false
set_option linter.all false
set_option maxRecDepth 100000
set_option maxHeartbeats 1000000
/-! DL33: a call without arguments. -/
namespace DL
open PySem PySem.Spec PyProof.Rows L2
def tCall0D (sp : SpD) : TD := fun E Q => sp [] fun r _ => Q r E
end DL
set_option Elab.async false
set_option linter.all false
set_option maxRecDepth 100000
set_option maxHeartbeats 1000000
/-! DL34: a call whose last argument is a new mutable thing; list(range(n)). -/
namespace DL
open PySem PySem.Spec PyProof.Rows L2
abbrev TAm := Env → (List D → S → Env → Prop) → Prop
def amM (t : TM) : TAm := fun E Q => t E fun s E1 => s.isMut = true ∧ Q [] s E1
def amV (t : TD) (u : TAm) : TAm := fun E Q => t E fun d E1 => u E1 fun ds s E2 => Q (d :: ds) s E2
def tCallM (sp : SpD) (ta : TAm) : TD := fun E Q => ta E fun ds s E1 => sp (ds.map S.d ++ [s]) fun r _ => Q r E1
theorem AR.data {K : PySem.W.Frag} {H : Hp} {s : S} {a : Addr} (hm : s.isMut = true) (h : RelM K H s a) : ∀ {ds : List D} {vs : List V}, RpL K H ds vs → AR K H (ds.map S.d ++ [s]) (vs ++ [.ref a]) [a]
  | _, _, .nil => .o hm h .nil
  | _, _, .cons p t => .d p (AR.data hm h t)
section
variable {X : Cx} {G : Gh} {e : Expr} {es : List Expr} {pos p p1 p2 : Pos} {x : Str} {f : Addr} {fd : FuncData} {ps : List Str} {k : Nat} {sp : SpD} {ta : TAm}
/-- list(range(n)) -/
def tListRg (ta : TD) : TLd := fun E Q => ta E fun d E1 => match d with
  | .int n => (0 ≤ n ∧ n ≤ 10000000) ∧ Q (rangeD 0 n.toNat) E1
  | _ => False
end
end DL
set_option Elab.async false
set_option linter.all false
set_option maxRecDepth 100000
set_option maxHeartbeats 1000000
/-! DL35: a, b = a list -/
namespace DL
open PySem PySem.Spec PyProof.Rows L2
section
variable {X : Cx} {G : Gh} {e : Expr} {es : List Expr} {pos : Pos}
def gLstD (n : Nat) (u : TGsd) : TGd := fun d E Q => match d with
  | .list ds => ds.length = n ∧ u ds E Q
  | _ => False
end
end DL
set_option Elab.async false
set_option linter.all false
set_option maxRecDepth 100000
set_option maxHeartbeats 1000000
/-! DL36: dicts as data, walked: keys, values, pairs; list(d), list(d.values()). -/
namespace DL
open PySem PySem.Spec PyProof.Rows L2
/-- what stands in the entries -/
abbrev KVs (ps : List (V × V)) (es : List DictEntry) : Prop := Paired (fun p e => RelV p.1 e.key ∧ RelV p.2 e.val) ps es
theorem RpD.kvs {K : PySem.W.Frag} {H : Hp} : ∀ {kvs : List (D × D)} {es : List DictEntry}, RpD K H kvs es → ∃ ps, KVs ps es ∧ RpL K H (kvs.map (·.1)) (ps.map (·.1)) ∧ RpL K H (kvs.map (·.2)) (ps.map (·.2))
  | _, _, .nil => ⟨[], .nil, .nil, .nil⟩
  | _, _, .cons (b := b) (v := v) t n1 n2 n3 e1 h g r l => by
    obtain ⟨ps, h1, h2, h3⟩ := RpD.kvs l
    exact ⟨(.ref b, v) :: ps, .cons ⟨by rw [e1]; rfl, r⟩ h1, .cons h h2, .cons g h3⟩
/-! over data -/
section
variable {K : PySem.W.Frag} {H : Hp}
def pairD (p : D × D) : D := .tuple [p.1, p.2]
variable {d : Addr} {o : Obj} {es : List DictEntry} {ps : List (V × V)} {kvs : List (D × D)}
end
section
variable {X : Cx} {G : Gh} {tg e : Expr} {ta : TD} {apos cpos : Pos}
def iDk (ta : TD) : TDs := fun E Q => ta E fun x E1 => match x with
  | .dict kvs => tupKeys kvs = true ∧ Q (kvs.map (·.1)) E1
  | _ => False
def iDv (ta : TD) : TDs := fun E Q => ta E fun x E1 => match x with
  | .dict kvs => tupKeys kvs = true ∧ Q (kvs.map (·.2)) E1
  | _ => False
def iDi (ta : TD) : TDs := fun E Q => ta E fun x E1 => match x with
  | .dict kvs => tupKeys kvs = true ∧ Q (kvs.map pairD) E1
  | _ => False
end
end DL
set_option Elab.async false
set_option linter.all false
set_option maxRecDepth 100000
set_option maxHeartbeats 1000000
/-! DL37: list(d), list(d.values()), if d, {k: v} of dicts with tuple keys; new mutable things frozen. -/
namespace DL
open PySem PySem.Spec PyProof.Rows L2
/-! ### if d -/
section
variable {X : Cx} {G : Gh} {e : Expr} {ta : TD} {p p1 p2 apos cpos pos : Pos}
def tTruDk (ta : TD) : TTd := fun E Q => ta E fun x E1 => match x with
  | .dict kvs => tupKeys kvs = true ∧ kvs.length ≤ sizeLine ∧ Q (!kvs.isEmpty) E1
  | _ => False
/-! ### list(d), list(d.values()) -/
def tLDk (ta : TD) : TLd := fun E Q => ta E fun x E1 => match x with
  | .dict kvs => tupKeys kvs = true ∧ kvs.length ≤ sizeLine ∧ Q (kvs.map (·.1)) E1
  | _ => False
def tLDv (ta : TD) : TLd := fun E Q => ta E fun x E1 => match x with
  | .dict kvs => tupKeys kvs = true ∧ kvs.length ≤ sizeLine ∧ Q (kvs.map (·.2)) E1
  | _ => False
/-! ### new mutable things: one entry; frozen -/
def mDt1 (tk tv : TD) : TM := fun E Q => tk E fun k E1 => tv E1 fun d E2 => keyB k = true ∧ Q (.dt [(k, d)]) E2
def tFzM (t : TM) : TD := fun E Q => t E fun s E1 => match s with
  | .dt kvs => Q (.dict kvs) E1
  | .ol xs => Q (.list xs) E1
  | _ => False
theorem EM.ed {t : TM} (h : EM X G e t) : ED X G e (tFzM t) :=
  ⟨PE.weak (PE.fzIf h.pe) fun σ H Q ⟨E, QE, r, q, k⟩ => ⟨E, _, r, q, fun s E1 a H1 q1 x1 r1 h0 na m => by
    split at q1
    · rename_i kvs
      obtain ⟨es, e2, l, nd, sm⟩ := m
      refine .inr ⟨a, _, rfl, e2, trivial, fun o => ?_⟩
      have x2 : Ext H1 (upd H1 a (.frz o (dO a es))) := Ext.putS e2 (fun _ z => by cases z) (fun _ _ z => by cases z)
      exact k _ _ _ _ q1 (x1.trans x2) (r1.freezeS h0 na e2 (fun _ z => by cases z) (fun _ _ z => by cases z)) (.dct upd_same (l.ext x2) nd sm)
    · rename_i xs
      obtain ⟨vs, e2, l⟩ := m
      refine .inr ⟨a, _, rfl, e2, trivial, fun o => ?_⟩
      exact k _ _ _ _ q1 (x1.trans (Ext.put e2)) (r1.freeze h0 na e2) (.lst (.of upd_same) (l.ext (Ext.put e2)))
    · exact q1.elim⟩⟩
end
end DL
set_option Elab.async false
set_option linter.all false
set_option maxRecDepth 100000
set_option maxHeartbeats 1000000
/-! DL38: objects: where they stand in the environment, and how they change. -/
namespace DL
open PySem PySem.Spec PyProof.Rows L2
def obsAt (E : Env) : List Nat → Option (List S)
  | [] => some []
  | j :: js => match E[j]?, obsAt E js with
    | some (.ob a C fs), some os => some (.ob a C fs :: os)
    | _, _ => none
def putOb : List Nat → List S → Env → Env
  | j :: js, s :: os, E => putOb js os (E.set j s)
  | _, _, E => E
theorem RelOb.soft {K : PySem.W.Frag} {H : Hp} {a C : Addr} {fs : List (Str × FS)} {fp : List Addr} (h : RelOb K H a C fs fp) : ∀ p ∈ fp, Soft H p := RelS.indom (s := .ob a C fs) (o := none) h
end DL
set_option Elab.async false
set_option linter.all false
set_option maxRecDepth 100000
set_option maxHeartbeats 1000000
/-! DL39: defs and methods over objects: promises, calls. -/
namespace DL
open PySem PySem.Spec PyProof.Rows L2
/-- a promise: arguments (data), objects; what it gives, what it raises -/
abbrev SpO := List D → List S → (D → List S → Prop) → (Value → List S → Prop) → Prop
/-! ### calls -/
/-- the objects that go along: js says where they stand -/
def tObs (sp : SpO) (ds : List D) (E : Env) (Q : D → Env → Prop) (WD : WDt) : Prop := ∃ js os, js.Nodup ∧ obsAt E js = some os ∧
  sp ds os (fun d os' => os'.length = js.length ∧ Q d (putOb js os' E)) (fun cls os' => os'.length = js.length ∧ WD cls (putOb js os' E))
end DL
set_option Elab.async false
set_option linter.all false
set_option maxRecDepth 100000
set_option maxHeartbeats 1000000
/-! DL40: objects: fields read and written, their lists, methods. -/
namespace DL
open PySem PySem.Spec PyProof.Rows L2
/-- whose name it is -/
def unH : D → Option Addr
  | .dict [(.none, .int (.ofNat a))] => some a
  | _ => none
theorem unH_hdl (a : Addr) : unH (hdl a) = some a := rfl
def obGet (a : Addr) : Env → Option (Addr × List (Str × FS))
  | [] => none
  | .ob b C fs :: E => if b = a then some (C, fs) else obGet a E
  | _ :: E => obGet a E
def setOb (a : Addr) (fs : List (Str × FS)) : Env → Env
  | [] => []
  | .ob b C gs :: E => if b = a then .ob b C fs :: E else .ob b C gs :: setOb a fs E
  | s :: E => s :: setOb a fs E
/-- the fields of the object that d names, of the class at C -/
def obD (C : Addr) (d : D) (E : Env) : Option (List (Str × FS)) := match unH d with
  | some a => match obGet a E with
    | some (C', fs) => if C' = C then some fs else none
    | none => none
  | none => none
def putOD (d : D) (fs : List (Str × FS)) (E : Env) : Env := match unH d with
  | some a => setOb a fs E
  | none => E
def putFS (f : Str) (x : FS) : List (Str × FS) → List (Str × FS)
  | [] => [(f, x)]
  | (g, y) :: r => if g = f then (g, x) :: r else (g, y) :: putFS f x r
section
variable {K : PySem.W.Frag} {H H' : Hp}
theorem lk_cons {α : Type} {f g : Str} {x : α} {r : List (Str × α)} : ((g, x) :: r).lookup f = if f = g then some x else r.lookup f := by
  by_cases h : f = g
  · subst h; simp [List.lookup]
  · have hb : (f == g) = false := beq_eq_false_iff_ne.mpr h
    rw [if_neg h]; simp only [List.lookup, hb]
theorem FsR.getD {f : Str} {x : D} : ∀ {fs : List (Str × FS)} {vs : List (Str × V)} {ls : List Addr}, FsR K H fs vs ls → fs.lookup f = some (.d x) → ∃ v, vs.lookup f = some v ∧ Rp K H x v
  | _, _, _, .nil, h => by cases h
  | _, _, _, FsR.d r t, h => by
    rw [lk_cons] at h ⊢
    split at h
    · rename_i e; cases h; rw [if_pos e]; exact ⟨_, rfl, r⟩
    · rename_i e; rw [if_neg e]; exact FsR.getD t h
  | _, _, _, FsR.l r q t, h => by
    rw [lk_cons] at h ⊢
    split at h
    · cases h
    · rename_i e; rw [if_neg e]; exact FsR.getD t h
theorem FsR.putL {f : Str} {xs : List D} {l : Addr} {us : List V} (hl : H l = some (.lst us)) (p : RpL K H xs us) : ∀ {fs : List (Str × FS)} {vs : List (Str × V)} {ls : List Addr}, FsR K H fs vs ls → ls.Nodup → l ∉ ls → ∃ ls', FsR K H (putFS f (.l xs) fs) (putF f (.ref l) vs) ls' ∧ ls'.Nodup ∧ ∀ b ∈ ls', b ∈ ls ∨ b = l
  | _, _, _, .nil, _, _ => ⟨[l], FsR.l hl p .nil, by simp, by simp⟩
  | _, _, _, FsR.d (f := g) r t, nd, ni => by
    unfold putFS putF
    by_cases e : g = f
    · rw [if_pos e, if_pos e]; exact ⟨_, FsR.l hl p t, List.nodup_cons.mpr ⟨ni, nd⟩, fun b hb => (List.mem_cons.mp hb).elim .inr .inl⟩
    · rw [if_neg e, if_neg e]
      obtain ⟨ls', h1, h2, h3⟩ := FsR.putL (f := f) hl p t nd ni
      exact ⟨_, FsR.d r h1, h2, h3⟩
  | _, _, _, FsR.l (f := g) (a := b0) r q t, nd, ni => by
    obtain ⟨n1, n2⟩ := List.nodup_cons.mp nd
    have ni2 : l ∉ _ := fun z => ni (List.mem_cons_of_mem _ z)
    unfold putFS putF
    by_cases e : g = f
    · rw [if_pos e, if_pos e]; exact ⟨_, FsR.l hl p t, List.nodup_cons.mpr ⟨ni2, n2⟩, fun b hb => (List.mem_cons.mp hb).elim .inr fun z => .inl (List.mem_cons_of_mem _ z)⟩
    · rw [if_neg e, if_neg e]
      obtain ⟨ls', h1, h2, h3⟩ := FsR.putL (f := f) hl p t n2 ni2
      refine ⟨_, FsR.l r q h1, List.nodup_cons.mpr ⟨fun z => ?_, h2⟩, fun b hb => ?_⟩
      · rcases h3 _ z with w | w
        · exact n1 w
        · exact ni (by rw [w]; exact List.mem_cons_self ..)
      · rcases List.mem_cons.mp hb with w | w
        · exact .inl (by rw [w]; exact List.mem_cons_self ..)
        · exact (h3 b w).elim (fun z => .inl (List.mem_cons_of_mem _ z)) .inr
end
/-! ### rules -/
def fldD (C : Addr) (f : Str) (d : D) (E : Env) : Option D := match obD C d E with
  | some fs => match fs.lookup f with
    | some (.d x) => some x
    | _ => none
  | none => none
def fldL (C : Addr) (f : Str) (d : D) (E : Env) : Option (List D) := match obD C d E with
  | some fs => match fs.lookup f with
    | some (.l x) => some x
    | _ => none
  | none => none
/-- x.f, data -/
def tFldD (C : Addr) (f : Str) (i : Nat) : TD := fun E Q => match E[i]? with
  | some (.d d) => match fldD C f d E with
    | some x => Q x E
    | none => False
  | _ => False
/-- x.f, a list of its own, read now -/
def tFldR (C : Addr) (f : Str) (i : Nat) : TD := fun E Q => match E[i]? with
  | some (.d d) => match fldL C f d E with
    | some xs => Q (.list xs) E
    | none => False
  | _ => False
/-- x.f = e -/
def sFldD (C : Addr) (f : Str) (i : Nat) (tv : TD) : TSd := fun DE E => tv E fun x E1 => match E1[i]? with
  | some (.d d) => match obD C d E1 with
    | some fs => fs.length < 1000 ∧ DE.nx (putOD d (putFS f (.d x) fs) E1)
    | none => False
  | _ => False
/-- x.f = a new list -/
def sFldL (C : Addr) (f : Str) (i : Nat) (tv : TLd) : TSd := fun DE E => tv E fun xs E1 => match E1[i]? with
  | some (.d d) => match obD C d E1 with
    | some fs => fs.length < 1000 ∧ DE.nx (putOD d (putFS f (.l xs) fs) E1)
    | none => False
  | _ => False
/-- x.f.append((x.g, y)) -/
def tAppF (C : Addr) (f g : Str) (i k : Nat) : TD := fun E Q => match E[i]? with
  | some (.d d) => match obD C d E, fldL C f d E, fldD C g d E, E[k]? with
    | some fs, some xs, some x, some (.d y) => xs.length < sizeLine ∧ Q .none (putOD d (putFS f (.l (xs ++ [.tuple [x, y]])) fs) E)
    | _, _, _, _ => False
  | _ => False
/-- x.f.pop() -/
def tPopF (C : Addr) (f : Str) (i : Nat) : TD := fun E Q => match E[i]? with
  | some (.d d) => match obD C d E, fldL C f d E with
    | some fs, some xs => match xs.getLast? with
      | some y => Q y (putOD d (putFS f (.l xs.dropLast) fs) E)
      | none => False
    | _, _ => False
  | _ => False
/-- o.m(..) -/
def tMethO (C : Addr) (m : Str) (sp : SpO) (to : TD) (ta : TDs) (WD : WDt) : TD := fun E Q => to E fun d E1 => (match obD C d E1 with
  | some fs => fs.lookup m = none
  | none => False) ∧ ta E1 fun ds E2 => tObs sp (d :: ds) E2 Q WD
/-! ### methods -/
end DL
set_option Elab.async false
set_option linter.all false
set_option maxRecDepth 100000
set_option maxHeartbeats 1000000
/-! DL41: objects are made; a def with defaults; a comprehension over a field's list. -/
namespace DL
open PySem PySem.Spec PyProof.Rows L2
/-! ### a new object -/
/-! ### a comprehension over a list that stands in the heap and may change later -/
end DL
set_option Elab.async false
set_option linter.all false
set_option maxRecDepth 100000
set_option maxHeartbeats 1000000
/-! DL42: except X as e: got = word(e); a def that tells an exception's class by a text. -/
namespace DL
open PySem PySem.Spec PyProof.Rows L2
/-! ### isinstance of it -/
/-! ### try .. except X as e: got = word(e) -/
end DL
set_option Elab.async false
set_option linter.all false
set_option maxRecDepth 100000
/-! DL43: small things for defs over objects. -/
namespace DL
open PySem PySem.Spec PyProof.Rows L2
end DL
set_option Elab.async false
set_option linter.all false
set_option maxRecDepth 100000
set_option maxHeartbeats 3200000
/-! DL44: tuple * int, any int from 0 on. -/
namespace DL
open PySem PySem.Spec PyProof.Rows L2
end DL
set_option Elab.async false
set_option linter.all false
set_option maxRecDepth 100000
set_option maxHeartbeats 3200000
/-! DL45: len(o), str(o) by own __len__, __str__; f-strings. -/
namespace DL
open PySem PySem.Spec PyProof.Rows L2
section
variable {X : Cx} {C f : Addr} {fd : FuncData} {ps : List Str} {n : Nat} {sp : SpO} {spv : Sp} {pins : List (Addr × Obj)} {σ : St} {H : Hp} {s : Shared}
theorem sub_self (h : Room n X.A) : Sub X n X.A := ⟨h, rfl⟩
end
/-! ### f-strings -/
end DL
set_option Elab.async false
set_option linter.all false
set_option maxRecDepth 100000
set_option maxHeartbeats 3200000
/-! DL46: own dicts with int and text keys: d[k]. -/
namespace DL
open PySem PySem.Spec PyProof.Rows L2
def keyOf : D → Option Key
  | .int i => some (.inl i)
  | .str x => some (.inr x)
  | _ => none
def valK (kvs : List (Key × D)) (k : Key) : Option D := (kvs.find? fun kv => decide (kv.1 = k)).map (·.2)
theorem valK_rel {K : PySem.W.Frag} {H : Hp} {k : Key} : ∀ {kvs : List (Key × D)} {us : List (Key × V)} {d : D}, us.map (·.1) = kvs.map (·.1) → RpL K H (kvs.map (·.2)) (us.map (·.2)) → valK kvs k = some d → ∃ v, valV us k = some v ∧ Rp K H d v
  | [], us, d, _, _, h => by simp [valK] at h
  | p :: kvs, [], d, h1, _, _ => by simp at h1
  | p :: kvs, u :: us, d, h1, h2, h3 => by
    simp only [List.map_cons, List.cons.injEq] at h1
    simp only [List.map_cons] at h2
    cases h2 with
    | cons r rs =>
      by_cases e : p.1 = k
      · have : valK (p :: kvs) k = some p.2 := by simp [valK, List.find?_cons, e]
        rw [this] at h3
        cases h3
        exact ⟨u.2, valV_pos (h1.1.trans e), r⟩
      · have : valK (p :: kvs) k = valK kvs k := by simp [valK, List.find?_cons, e]
        rw [this] at h3
        obtain ⟨v, a, b⟩ := valK_rel h1.2 rs h3
        exact ⟨v, (valV_neg (by rw [h1.1]; exact e)).trans a, b⟩
theorem keyOf_rel {K : PySem.W.Frag} {H : Hp} {d : D} {v : V} {k : Key} (h : keyOf d = some k) (r : Rp K H d v) : v = kV k := by
  cases d with
  | int i => cases h; cases r; rfl
  | str x => cases h; cases r; rfl
  | _ => cases h
def tDkGet (i : Nat) (tk : TD) : TD := fun E Q => match E[i]? with
  | some (.dk _) => tk E fun k E1 => match E1[i]?, keyOf k with
    | some (.dk kvs), some ky => optQ (valK kvs ky) fun d => Q d E1
    | _, _ => False
  | _ => False
end DL
set_option Elab.async false
set_option linter.all false
set_option maxRecDepth 100000
set_option maxHeartbeats 3200000
/-! DL47: {k: v, ..}: a new dict with int and text keys. -/
namespace DL
open PySem PySem.Spec PyProof.Rows L2
def putD2 (kvs : List (Key × D)) (k : Key) (v : D) : List (Key × D) :=
  if (kvs.any fun kv => decide (kv.1 = k)) = true then kvs.map (fun kv => if kv.1 = k then (kv.1, v) else kv) else kvs ++ [(k, v)]
def mergeD (kvs more : List (Key × D)) : List (Key × D) := more.foldl (fun acc kv => putD2 acc kv.1 kv.2) kvs
/-- keys alike, values stand for data -/
def KR (K : PySem.W.Frag) (H : Hp) (kvs : List (Key × D)) (us : List (Key × V)) : Prop := us.map (·.1) = kvs.map (·.1) ∧ RpL K H (kvs.map (·.2)) (us.map (·.2))
theorem KR.nil {K : PySem.W.Frag} {H : Hp} : KR K H [] [] := ⟨rfl, .nil⟩
theorem KR.cons {K : PySem.W.Frag} {H : Hp} {k : Key} {d : D} {v : V} {kvs : List (Key × D)} {us : List (Key × V)} (h : Rp K H d v) (r : KR K H kvs us) : KR K H ((k, d) :: kvs) ((k, v) :: us) := ⟨by simp [r.1], .cons h r.2⟩
theorem KR.ext {K : PySem.W.Frag} {H H' : Hp} {kvs : List (Key × D)} {us : List (Key × V)} (r : KR K H kvs us) (x : Ext H H') : KR K H' kvs us := ⟨r.1, r.2.ext x⟩
theorem KR.any {K : PySem.W.Frag} {H : Hp} {kvs : List (Key × D)} {us : List (Key × V)} (r : KR K H kvs us) (k : Key) : (us.any fun kv => decide (kv.1 = k)) = kvs.any fun kv => decide (kv.1 = k) := by
  have e1 : (us.any fun kv => decide (kv.1 = k)) = (us.map (·.1)).any fun j => decide (j = k) := by rw [List.any_map]; rfl
  have e2 : (kvs.any fun kv => decide (kv.1 = k)) = (kvs.map (·.1)).any fun j => decide (j = k) := by rw [List.any_map]; rfl
  rw [e1, e2, r.1]
theorem KR.mapPut {K : PySem.W.Frag} {H : Hp} {k : Key} {d : D} {v : V} (h : Rp K H d v) : ∀ {kvs : List (Key × D)} {us : List (Key × V)}, KR K H kvs us → KR K H (kvs.map fun kv => if kv.1 = k then (kv.1, d) else kv) (us.map fun kv => if kv.1 = k then (kv.1, v) else kv)
  | [], [], _ => .nil
  | [], u :: us, r => by have := r.1; simp at this
  | p :: kvs, [], r => by have := r.1; simp at this
  | (a, x) :: kvs, (b, y) :: us, r => by
    obtain ⟨r1, r2⟩ := r
    simp only [List.map_cons, List.cons.injEq] at r1
    obtain ⟨e, r1⟩ := r1
    have e : b = a := e
    subst e
    cases r2 with
    | cons q qs =>
      have ih := KR.mapPut (k := k) h (kvs := kvs) (us := us) ⟨r1, qs⟩
      simp only [List.map_cons]
      split
      · exact .cons h ih
      · exact .cons q ih
theorem KR.put {K : PySem.W.Frag} {H : Hp} {k : Key} {d : D} {v : V} {kvs : List (Key × D)} {us : List (Key × V)} (r : KR K H kvs us) (h : Rp K H d v) : KR K H (putD2 kvs k d) (putK us k v) := by
  unfold putD2 putK
  rw [r.any k]
  split
  · exact r.mapPut h
  · exact ⟨by simp [r.1], by rw [List.map_append, List.map_append]; exact r.2.append (.cons h .nil)⟩
end DL
set_option Elab.async false
set_option linter.all false
set_option maxRecDepth 100000
set_option maxHeartbeats 3200000
/-! DL48: {k: v, ..} as a new dict of one's own; d.update({..}); d[k] = v; d.get(k, x). -/
namespace DL
open PySem PySem.Spec PyProof.Rows L2
abbrev TDP := Env → (List (D × D) → Env → Prop) → Prop
/-- the keys of pairs -/
def keysOf : List (D × D) → Option (List (Key × D))
  | [] => some []
  | (k, d) :: r => match keyOf k, keysOf r with
    | some y, some l => some ((y, d) :: l)
    | _, _ => none
theorem KR.length {K : PySem.W.Frag} {H : Hp} {l : List (Key × D)} {us : List (Key × V)} (r : KR K H l us) : us.length = l.length := by
  have := congrArg List.length r.1
  simpa using this
def mDkD (t : TDP) : TM := fun E Q => t E fun kds E1 => optQ (keysOf kds) fun l => l.length ≤ 15 ∧ Q (.dk (mergeD [] l)) E1
end DL
set_option Elab.async false
set_option linter.all false
set_option maxRecDepth 100000
set_option maxHeartbeats 3200000
/-! DL49: sets of things on the heap that are alike by a key of any kind; up to 76 of them. -/
namespace DL
open PySem PySem.Spec PyProof.Rows L2
section
variable {P : Program} {w : World} {κ : Type} [DecidableEq κ] {kd : HeapKind P w κ} {A : Around} {E : Value → Shared → Prop} {s : Shared}
abbrev Ent (κ : Type) := Addr × κ
def ents (kd : HeapKind P w κ) (M : List (Ent κ)) : List (Int × Value) := M.map fun q => (kd.hash q.2, Value.ref q.1)
def hshs (kd : HeapKind P w κ) (M : List (Ent κ)) : List Int := M.map fun q => kd.hash q.2
/-- at a stands a set with these members -/
structure SetG (kd : HeapKind P w κ) (h : Heap) (a : Addr) (M : List (Ent κ)) (ws : Array (Int × Value)) (g : Nat) (T : SetTable) : Prop where
  at_ : ∃ o, h.get? a = some o ∧ o.ExactSet ∧ o.data = .set ws g T
  ent : ws.toList = ents kd M
  tb : TabOk T (hshs kd M)
  nd : (M.map (·.2)).Nodup
  mem : ∀ q ∈ M, kd.is h q.2 q.1
  pl : T.plain = true
  ld : w.params.followText "set-order" = true ∨ T.led = true
  rm : M.length * 5 < T.mask * 3
variable {a : Addr} {M : List (Ent κ)} {ws : Array (Int × Value)} {g : Nat} {T : SetTable}
theorem SetG.get {h : Heap} (R : SetG kd h a M ws g T) {i : Nat} {q : Ent κ} (z : M[i]? = some q) : ws[i]? = some (kd.hash q.2, Value.ref q.1) := by
  rw [← Array.getElem?_toList, R.ent]
  unfold ents
  rw [List.getElem?_map, z]; rfl
end
end DL
set_option Elab.async false
set_option linter.all false
set_option maxRecDepth 100000
set_option maxHeartbeats 3200000
/-! DL50: adding to sets of any keys; set(xs). -/
namespace DL
open PySem PySem.Spec PyProof.Rows L2
end DL
set_option Elab.async false
set_option linter.all false
set_option maxRecDepth 100000
set_option maxHeartbeats 3200000
/-! DL51: set(xs) of lists and tuples of things that are alike by keys. -/
namespace DL
open PySem PySem.Spec PyProof.Rows L2
section
variable {P : Program} {w : World} {κ : Type} [DecidableEq κ] {kd : HeapKind P w κ} {A : Around} {E : Value → Shared → Prop} {s : Shared}
/-- what the first i things made -/
structure GotG (ks : List (Ent κ)) (i : Nat) (M : List (Ent κ)) : Prop where
  sub : ∀ q ∈ M, q ∈ ks.take i
  all : ∀ q ∈ ks.take i, q.2 ∈ M.map (·.2)
theorem GotG.next {ks M M' : List (Ent κ)} {i : Nat} {q : Ent κ} (y : GotG ks i M) (z : ks[i]? = some q) (c1 : q.2 ∈ M.map (·.2) → M' = M) (c2 : q.2 ∉ M.map (·.2) → M'.Perm (q :: M)) : GotG ks (i + 1) M' := by
  have tk : ks.take (i + 1) = ks.take i ++ [q] := by rw [List.take_add_one, z]; rfl
  by_cases c : q.2 ∈ M.map (·.2)
  · rw [c1 c]
    refine ⟨fun r hr => by rw [tk]; exact List.mem_append_left _ (y.sub r hr), fun r hr => ?_⟩
    rw [tk] at hr
    rcases List.mem_append.mp hr with hr | hr
    · exact y.all r hr
    · rw [List.mem_singleton.mp hr]; exact c
  · have pm := c2 c
    refine ⟨fun r hr => ?_, fun r hr => ?_⟩
    · rw [tk]
      rcases List.mem_cons.mp (pm.mem_iff.mp hr) with e | hr
      · rw [e]; exact List.mem_append_right _ (List.mem_singleton.mpr rfl)
      · exact List.mem_append_left _ (y.sub r hr)
    · rw [(pm.map (·.2)).mem_iff, List.map_cons]
      rw [tk] at hr
      rcases List.mem_append.mp hr with hr | hr
      · exact List.mem_cons_of_mem _ (y.all r hr)
      · rw [List.mem_singleton.mp hr]; exact List.mem_cons_self
end
end DL
set_option Elab.async false
set_option linter.all false
set_option maxRecDepth 100000
set_option maxHeartbeats 3200000
/-! DL52: set(xs) as a call, sets as objects. -/
namespace DL
open PySem PySem.Spec PyProof.Rows L2
end DL
set_option Elab.async false
set_option linter.all false
set_option maxRecDepth 100000
set_option maxHeartbeats 3200000
/-! DL53: len(set(xs)), sorted(set(xs)) of things that are alike by keys. -/
namespace DL
open PySem PySem.Spec PyProof.Rows L2
end DL
set_option Elab.async false
set_option linter.all false
set_option maxRecDepth 100000
set_option maxHeartbeats 3200000
/-! DL54: len(set(xs)), sorted(set(xs)): lists and tuples of tuples of ints, up to 75 unlike ones. -/
namespace DL
open PySem PySem.Spec PyProof.Rows L2
end DL
set_option Elab.async false
set_option linter.all false
set_option maxRecDepth 100000
set_option maxHeartbeats 3200000
/-! DL55: len(set(xs)) of nested tuples of ints, truths and None, up to 75. -/
namespace DL
open PySem PySem.Spec PyProof.Rows L2
end DL
set_option Elab.async false
set_option linter.all false
set_option maxRecDepth 100000
set_option maxHeartbeats 3200000
/-! DL56: xs[a:c] = ys, ys any list. -/
namespace DL
open PySem PySem.Spec PyProof.Rows L2
end DL
set_option Elab.async false
set_option linter.all false
set_option maxRecDepth 100000
set_option maxHeartbeats 1600000
/-! DL57: lists that other things hold: by their handle. -/
namespace DL
open PySem PySem.Spec PyProof.Rows L2
end DL
set_option Elab.async false
set_option linter.all false
set_option maxRecDepth 100000
set_option maxHeartbeats 3200000
/-! DL58: == and != of own objects by their __eq__, isinstance of an own class. -/
namespace DL
open PySem PySem.Spec PyProof.Rows L2
/-- data whose type is told, no object -/
def plainTy : D → Option Value
  | .none => some (.type "NoneType")
  | .bool _ => some (.type "bool")
  | .int _ => some (.type "int")
  | .str _ => some (.type "str")
  | .tuple _ => some (.type "tuple")
  | _ => none
theorem TyX.of {K : PySem.W.Frag} {H : Hp} {d : D} {v : V} {t : Value} (h : plainTy d = some t) (r : Rp K H d v) : TyX K H v t := by
  cases d with
  | none => cases h; cases r; exact .base .non
  | bool b => cases h; cases r; exact .base (.bl b)
  | int b => cases h; cases r; exact .base (.int b)
  | str b => cases h; cases r; exact .base (.str b)
  | tuple xs =>
    cases h
    cases r with
    | tup hs l =>
      rcases hs.1 with (e | ⟨o, e⟩) | ⟨o, its, n, e, c, _⟩
      · exact .base (.tup e)
      · exact .fTuple e
      · exact .kTuple e c
  | list _ => cases h
  | dict _ => cases h
end DL
set_option Elab.async false
set_option linter.all false
set_option maxRecDepth 100000
set_option maxHeartbeats 3200000
/-! DL59: making by keywords; functions of one object or more. -/
namespace DL
open PySem PySem.Spec PyProof.Rows L2
/-- where a parameter's value comes from -/
inductive Src where
  | p : Nat → Src
  | d : Nat → Src
  | k : Nat → Src
def Src.get {α : Type} (vs ds zs : List α) : Src → Option α
  | .p i => vs[i]?
  | .d i => ds[i]?
  | .k i => zs[i]?
end DL
set_option Elab.async false
set_option linter.all false
set_option maxRecDepth 100000
set_option maxHeartbeats 3200000
/-! DL60: sets of texts: set(xs), sorted(set(xs)). -/
namespace DL
open PySem PySem.Spec PyProof.Rows L2
def txtOf (e : Int × Value) : Str := match e.2 with
  | .str k _ => k
  | _ => Str.empty
def TxtE (P : Program) (w : World) (e : Int × Value) : Prop := ∃ k tk, e.2 = Value.str k tk ∧ e.1 = (PySem.strKind P w).hash k
/-- at a stands a set of these texts -/
def SetS (P : Program) (w : World) (h : Heap) (a : Addr) (ks : List Str) : Prop :=
  ∃ o ws g T, h.get? a = some o ∧ o.ExactSet ∧ o.data = .set ws g T ∧ (∀ e ∈ ws.toList, TxtE P w e) ∧ ws.toList.map txtOf = ks ∧ ks.Nodup ∧
    ws.size < scanBound ∧ T.fits ws.size = true ∧ Ris T.place.toList ∧ (w.params.followText "set-order" = true ∨ T.led = true)
section
variable {P : Program} {w : World} {h h' : Heap} {a : Addr} {ks : List Str}
theorem SetS.at (R : SetS P w h a ks) (k : ∀ o, h.get? a = some o → h'.get? a = some o) : SetS P w h' a ks := by
  obtain ⟨o, ws, g, T, ho, r⟩ := R
  exact ⟨o, ws, g, T, k o ho, r⟩
theorem txt_elems {l : List (Int × Value)} (g : ∀ e ∈ l, TxtE P w e) : ElemsOf (PySem.strKind P w) l := fun e he => by
  obtain ⟨k, tk, h1, h2⟩ := g e he
  exact ⟨⟨k, by rw [h1]; exact PySem.strKind_is P w k tk, h2⟩, by rw [h1] <;> rfl⟩
theorem txt_is {e : Int × Value} (g : TxtE P w e) (k : Str) : (PySem.strKind P w).is k e.2 = true ↔ txtOf e = k := by
  obtain ⟨k0, tk, h1, _⟩ := g
  unfold txtOf
  rw [h1]
  constructor
  · intro z
    exact (PySem.strKind P w).inj (.str k0 tk) k0 k (PySem.strKind_is P w k0 tk) z
  · intro z
    have z : k0 = k := z
    rw [← z]; exact PySem.strKind_is P w k0 tk
theorem txt_mem {l : List (Int × Value)} (g : ∀ e ∈ l, TxtE P w e) (k : Str) : k ∈ l.map txtOf ↔ ∃ e ∈ l, (PySem.strKind P w).is k e.2 = true := by
  rw [List.mem_map]
  constructor
  · rintro ⟨e, he, q⟩
    exact ⟨e, he, (txt_is (g e he) k).2 q⟩
  · rintro ⟨e, he, q⟩
    exact ⟨e, he, (txt_is (g e he) k).1 q⟩
theorem SetS.size (R : SetS P w h a ks) : ∃ o ws g T, h.get? a = some o ∧ o.data = .set ws g T ∧ ws.size = ks.length := by
  obtain ⟨o, ws, g, T, ho, _, hd, _, e, _⟩ := R
  exact ⟨o, ws, g, T, ho, hd, by rw [← e, List.length_map, Array.length_toList]⟩
end
section
variable {P : Program} {w : World} {A : Around} {E : Value → Shared → Prop} {s : Shared} {a : Addr} {ks : List Str}
theorem setS_tail {f : Bool → Sem Unit} (hg : ∀ (b : Bool) (u : Shared) (Q' : Unit → Shared → Prop), Q' () u → wpAny (model P w) A (f b) Q' E u)
    {o : Obj} {ws : Array (Int × Value)} {g : Nat} {T : SetTable} (ho : s.heap.get? a = some o) (hex : o.ExactSet) (hd : o.data = .set ws g T)
    {vs : Array (Int × Value)} {T2 : SetTable} (g1 : ∀ e ∈ vs.toList, TxtE P w e) (e1 : vs.toList.map txtOf = ks) (nd1 : ks.Nodup)
    (hb1 : vs.size < scanBound) (hf2 : T2.fits vs.size = true) (hr : Ris T2.place.toList) (hl : w.params.followText "set-order" = true ∨ T2.led = true) {wasDummy : Bool} {R : Option Bool → Shared → Prop}
    (hR : ∀ h' ks', Heap.SameBut a s.heap h' → SetS P w h' a ks' → ks'.Perm ks → R (some true) { s with heap := h' }) :
    wpAny (model P w) A (do
        storeSet a vs T2
        if (!wasDummy && T2.tooFull) = true then do
            f (relayAll T2 vs (SetTable.grown vs.size)).2.2
            storeSet a (relayAll T2 vs (SetTable.grown vs.size)).1 (relayAll T2 vs (SetTable.grown vs.size)).2.1
            pure (some true)
          else pure (some true)) R E s := by
  refine wpAny_bind (wpAny_storeSet_of ho hd ?_ (fits_of_scanBound hb1))
  have ho1 := store_at (es' := vs) (t' := T2) ho hd
  have sb1 := Heap.SameBut.update s.heap a (Obj.putSet vs T2)
  split
  · have pm := relayAll_perm T2 vs (SetTable.grown vs.size)
    have hf3 := relayAll_fits T2 vs (SetTable.grown vs.size)
    have hr3 := relayAll_ris T2 vs (SetTable.grown vs.size)
    have hl3 := relayAll_led T2 vs (SetTable.grown vs.size)
    generalize relayAll T2 vs (SetTable.grown vs.size) = Z at pm hf3 hr3 hl3 ⊢
    obtain ⟨us, T3, gave⟩ := Z
    dsimp only at pm hf3 hr3 hl3 ⊢
    have hsz : us.size = vs.size := by rw [← Array.length_toList, pm.length_eq, Array.length_toList]
    have hb2 : us.size < scanBound := by rw [hsz]; exact hb1
    refine wpAny_bind (hg _ _ _ ?_)
    refine wpAny_bind (wpAny_storeSet_of ho1 rfl ?_ (fits_of_scanBound hb2))
    have ho2 := store_at (es' := us) (t' := T3) ho1 rfl
    have pk : (us.toList.map txtOf).Perm ks := by rw [← e1]; exact pm.map txtOf
    refine wpAny_pure (hR _ (us.toList.map txtOf) (sb1.trans (Heap.SameBut.update _ a _)) ?_ pk)
    exact ⟨_, us, _, T3, ho2, hex, rfl, fun e he => g1 e (pm.mem_iff.mp he), rfl, pk.nodup_iff.mpr nd1, hb2, hf3, hr3, hl.imp id fun z => by rw [hl3]; exact z⟩
  · exact wpAny_pure (hR _ ks sb1 ⟨_, vs, _, T2, ho1, hex, rfl, g1, e1, nd1, hb1, hf2, hr, hl⟩ (List.Perm.refl _))
theorem setS_add {k : Str} {tk : Tok} {Q : Bool → Shared → Prop} (R : SetS P w s.heap a ks) (room : ks.length + 1 < scanBound)
    (hQ : ∀ b h' ks', Heap.SameBut a s.heap h' → SetS P w h' a ks' → (k ∈ ks → ks' = ks) → (k ∉ ks → ks'.Perm (k :: ks)) → Q b { s with heap := h' }) :
    wpAny (model P w) A (setAddHashed a (.str k tk) ((PySem.strKind P w).hash k)) Q E s := by
  obtain ⟨o, ws, g0, T, ho, hex, hd, g, ek, nd, hb, hf, hr, hl⟩ := R
  have hkey : (PySem.strKind P w).is k (.str k tk) = true := PySem.strKind_is P w k tk
  have hsc : (Value.str k tk).scannable = true := rfl
  have hel : ElemsOf (PySem.strKind P w) ws.toList := txt_elems g
  have hn : ws.size = ks.length := by rw [← ek, List.length_map, Array.length_toList]
  unfold setAddHashed setAddHashedIn
  refine wpAny_holding (wpAny_bind (wpAny_setState_of ho hd hf ?_))
  dsimp only
  rw [byScan_of hsc hb hel]
  simp only [↓reduceIte]
  unfold setAddByScan
  refine wpAny_bind ?_
  refine wpAny_bind (wpAny_rule ?_)
  refine wpAny_bind (wpAny_setScan_of hkey ho hd hf hel ?_)
  cases hfi : List.findIdx? (fun e => (PySem.strKind P w).is k e.2) ws.toList with
  | some j =>
    dsimp only
    obtain ⟨hj, pj, _⟩ := List.findIdx?_eq_some_iff_getElem.mp hfi
    have hk : k ∈ ks := by rw [← ek]; exact (txt_mem (P := P) (w := w) g k).2 ⟨ws.toList[j], List.getElem_mem hj, pj⟩
    refine wpAny_pure (wpAny_pure ?_)
    exact hQ _ s.heap ks (Heap.SameBut.refl a s.heap) ⟨o, ws, g0, T, ho, hex, hd, g, ek, nd, hb, hf, hr, hl⟩ (fun _ => rfl) fun z => absurd hk z
  | none =>
    dsimp only
    have hnk : k ∉ ks := fun z => by
      rw [← ek] at z
      obtain ⟨e, he, q⟩ := (txt_mem (P := P) (w := w) g k).1 z
      have c := List.findIdx?_eq_none_iff.mp hfi e he
      rw [q] at c
      cases c
    have hgw : ∀ (b : Bool) {u : Shared} {Q' : Unit → Shared → Prop}, Q' () u → wpAny (model P w) A (match b with | true => rule "set.scan.the-table-gave-way" | false => pure ()) Q' E u :=
      fun b u Q' q => by cases b <;> first | exact wpAny_pure q | exact wpAny_rule q
    have pm := layNew_perm T ws ((PySem.strKind P w).hash k) (.str k tk)
    have hf1 := layNew_fits T ws ((PySem.strKind P w).hash k) (.str k tk)
    have hr1 := layNew_ris T ws ((PySem.strKind P w).hash k) (.str k tk) hr
    have hl1 := layNew_led T ws ((PySem.strKind P w).hash k) (.str k tk)
    generalize layNew T ws ((PySem.strKind P w).hash k) (.str k tk) = Z at pm hf1 hr1 hl1 ⊢
    obtain ⟨vs, T1, wasDummy, gave⟩ := Z
    dsimp only at pm hf1 hr1 hl1 ⊢
    rw [Array.toList_push] at pm
    have pc : vs.toList.Perm (((PySem.strKind P w).hash k, Value.str k tk) :: ws.toList) := pm.trans (List.perm_append_singleton _ _)
    have pk : (vs.toList.map txtOf).Perm (k :: ks) := by
      have z := pc.map txtOf
      rw [List.map_cons, ek] at z
      exact z
    have g1 : ∀ e ∈ vs.toList, TxtE P w e := fun e he => by
      rcases List.mem_cons.mp (pc.mem_iff.mp he) with z | z
      · rw [z]; exact ⟨k, tk, rfl, rfl⟩
      · exact g e z
    have nd1 : (vs.toList.map txtOf).Nodup := pk.nodup_iff.mpr (List.nodup_cons.mpr ⟨hnk, nd⟩)
    have hsz : vs.size = ks.length + 1 := by rw [← Array.length_toList, pc.length_eq, List.length_cons, Array.length_toList, hn]
    have hb1 : vs.size < scanBound := by rw [hsz]; exact room
    have hled : w.params.followText "set-order" = true ∨ T1.led = true := hl.imp id fun z => by rw [hl1]; exact z
    have fin : ∀ h' ks', Heap.SameBut a s.heap h' → SetS P w h' a ks' → ks'.Perm (vs.toList.map txtOf) → Q true { s with heap := h' } := fun h' ks' sb r p =>
      hQ true h' ks' sb r (fun z => absurd z hnk) fun _ => p.trans pk
    refine wpAny_bind (hgw _ ?_)
    split
    · refine wpAny_bind ?_
      rw [hashByValue_scannable 8 hsc]
      refine wpAny_pure ?_
      refine setS_tail ?_ ho hex hd g1 rfl nd1 hb1 ?_ ?_ ?_ ?_
      · intro b u Q' q; cases b <;> first | exact wpAny_pure q | exact wpAny_rule q
      · first | (split <;> first | exact hf1 | exact SetTable.fits_plain_off hf1) | exact hf1
      · first | (split <;> exact hr1) | exact hr1
      · first | (split <;> exact hled) | exact hled
      · intro h' ks' sb r p; dsimp only; exact wpAny_pure (fin h' ks' sb r p)
    · refine wpAny_bind (wpAny_pure ?_)
      simp only [↓reduceIte]
      refine setS_tail ?_ ho hex hd g1 rfl nd1 hb1 hf1 hr1 hled ?_
      · intro b u Q' q; cases b <;> first | exact wpAny_pure q | exact wpAny_rule q
      · intro h' ks' sb r p; dsimp only; exact wpAny_pure (fin h' ks' sb r p)
theorem strs_atS : ∀ {us : List Value} {xs : List Str}, StrsAre us xs → ∀ (i : Nat) (v : Value), us[i]? = some v → ∃ t, v = .str (xs.getD i Str.empty) t
  | _, _, .nil, i, v, e => by simp at e
  | _, _, .cons x t _, 0, v, e => by simp at e; exact ⟨t, by rw [← e]; rfl⟩
  | _, _, .cons x t h, i + 1, v, e => by
    obtain ⟨t', e'⟩ := strs_atS h i v (by simpa using e)
    exact ⟨t', by rw [e']; rfl⟩
/-- what the first i texts made -/
def GotS (ns : List Str) (i : Nat) (ks : List Str) : Prop := (∀ k, k ∈ ks ↔ k ∈ ns.take i) ∧ ks.length ≤ i
theorem GotS.next {ns ks ks' : List Str} {i : Nat} {z : Str} (y : GotS ns i ks) (hz : ns[i]? = some z) (c1 : z ∈ ks → ks' = ks) (c2 : z ∉ ks → ks'.Perm (z :: ks)) : GotS ns (i + 1) ks' := by
  have tk : ns.take (i + 1) = ns.take i ++ [z] := by rw [List.take_add_one, hz]; rfl
  unfold GotS
  rw [tk]
  by_cases c : z ∈ ks
  · rw [c1 c]
    refine ⟨fun k => ?_, Nat.le_succ_of_le y.2⟩
    rw [List.mem_append, y.1 k, List.mem_singleton]
    exact ⟨.inl, fun q => q.elim id fun e => by rw [e]; exact (y.1 z).mp c⟩
  · have pm := c2 c
    refine ⟨fun k => ?_, by rw [pm.length_eq, List.length_cons]; have := y.2; omega⟩
    rw [pm.mem_iff, List.mem_cons, List.mem_append, y.1 k, List.mem_singleton]
    exact Or.comm
theorem set_loopS {J : Addr} {fp wr : List Addr} {Gn : Array GenState → Array GenState → Prop} {n : Nat} {Pv : Nat → Value → Prop} {St : Nat → Shared → Prop} {R : Result → Shared → Prop}
    (W : WalksS P w A.in1 J fp wr Gn n Pv St) (S : Addr) (hSf : S ∉ fp) (ns : List Str) (hn : n = ns.length) (hb : ns.length + 1 < scanBound) (val : ∀ i v, Pv i v → ∃ k t, ns[i]? = some k ∧ v = .str k t) :
    ∀ (m i : Nat) (s : Shared), n - i = m → i ≤ n → St i s → (∃ ks, SetS P w s.heap S ks ∧ GotS ns i ks) →
      (∀ s' ks, Moved (S :: wr) Gn s s' → SetS P w s'.heap S ks → GotS ns n ks → R (.ok (.ret .none)) s') →
      codeAny (model P w) A (.builtin "set.update.loop" ⟨[.ref S, .ref J], []⟩) R s := by
  have hSw : S ∉ wr := fun z => hSf (W.sub _ z)
  have wider : ∀ b ∈ wr, b ∈ S :: wr := fun b z => List.mem_cons_of_mem _ z
  intro m
  induction m with
  | zero =>
    intro i s e le st ⟨ks, R0, got⟩ fin
    obtain rfl : i = n := by omega
    refine codeAny_builtin F.entry_set_update_loop ?_
    rw [Around.under_plainId F.plain_set_update_loop _]
    show wpAny _ A.in1 (pyNext (.ref J) >>= _) _ _ s
    refine wpAny_bind (W.done s _ _ st fun s' mv => ?_)
    show wpAny _ A.in1 (ret Value.none) _ _ s'
    exact wpAny_pure (fin s' ks (mv.mono wider) (R0.at fun o e => mv.heap S o hSw e) got)
  | succ m ih =>
    intro i s e le st ⟨ks, R0, got⟩ fin
    have lt : i < n := by omega
    refine codeAny_builtin F.entry_set_update_loop ?_
    rw [Around.under_plainId F.plain_set_update_loop _]
    show wpAny _ A.in1 (pyNext (.ref J) >>= _) _ _ s
    refine wpAny_bind (W.item i s _ _ lt st fun v s' pv st' mv => ?_)
    obtain ⟨z, t, hz, rfl⟩ := val i v pv
    have R1 : SetS P w s'.heap S ks := R0.at fun o e => mv.heap S o hSw e
    have hl := got.2
    show wpAny _ A.in1 (holding [Value.str z t] (setAdd S (.str z t)) >>= _) _ _ s'
    refine wpAny_bind (wpAny_holding ?_)
    unfold setAdd
    refine wpAny_holding (wpAny_bind ((PySem.strKind P w).pyHash (PySem.strKind_is P w z t) ?_))
    refine setS_add (s := { s' with toks := s'.toks + 1 }) R1 (by omega) fun b h' ks' sb R2 c1 c2 => ?_
    refine wpAny_pure ⟨plainId_quiet F.plain_set_update_loop _, ih (i + 1) _ (by omega) lt (W.frame _ s' _ _ st' (Nat.le_succ _) fun b hb o z => ?_) ⟨ks', R2, got.next hz c1 c2⟩ fun s'' ks2 mv2 R3 got2 => ?_⟩
    · rw [sb.2 b (fun y : b = S => hSf (by rw [← y]; exact hb))]; exact z
    · refine fin s'' ks2 (Moved.trans W.gtrans ((mv.mono wider).then_heap (Nat.le_succ _) fun b o hb z => ?_) mv2) R3 got2
      rw [sb.2 b (fun y : b = S => hb (by rw [y]; exact List.mem_cons_self))]; exact z
theorem setS_new {h : Heap} {a : Addr} (ho : h.get? a = some (nSet w)) : SetS P w h a [] :=
  ⟨_, #[], 0, _, ho, ⟨rfl, rfl, rfl⟩, rfl, (fun e he => by simp at he), rfl, List.nodup_nil, by decide, rfl, List.Pairwise.nil, by
    show _ ∨ (!w.params.followText "set-order") = true
    cases w.params.followText "set-order"
    · exact .inr rfl
    · exact .inl rfl⟩
theorem setS_list {l : Addr} {items : Array Value} (ns : List Str) {Q : Value → Shared → Prop} (hh : A.handled = none) (hl : s.heap.IsList l items) (hit : StrsAre items.toList ns) (hb : ns.length + 1 < scanBound)
    (fin : ∀ (h' : Heap) (tk : Nat) ks, SetS P w h' s.heap.objs.size ks → (∀ k, k ∈ ks ↔ k ∈ ns) → ks.length ≤ ns.length → (∀ b o, s.heap.get? b = some o → h'.get? b = some o) → Q (.ref s.heap.objs.size) { s with heap := h', toks := tk }) :
    wpAny (model P w) A (call (.type "set") [.ref l]) Q E s := by
  have sz : items.size = ns.length := by have q := hit.length; rw [Array.length_toList] at q; exact q
  obtain ⟨cm, tlm, _⟩ := F.called_set.mro
  have made := F.called_set.made; have subs := F.called_set.sub
  refine wpAny_call (codeAny_of_tree ?_); show wpAny _ _ (callAny (.type "set") _) _ _ _
  refine wpAny_pure ⟨Code.quiet_builtin _ (by decide +kernel), codeAny_builtin F.entry_type_call ?_⟩; rw [Around.under_plain (weight_type_call_type "set" [.ref l] []) rfl]
  have n1 := F.called_set.notType; have n2 := F.called_set.canCreate; have n3 := F.typeCall_set_1 (.ref l)
  repeat (any_goals (first | assumption | wp_step))
  refine codeAny_mono (code_set_led1 (.ref l) (E := E) (Q₁ := fun ob s₁ => ob = .ref s.heap.objs.size ∧ s₁ = { s with heap := s.heap.push (nSet w) }) ⟨rfl, rfl⟩) fun res s₁ hres => ?_
  cases res with
  | error e => exact hres
  | ok fl =>
    cases fl with
    | ret ob =>
      obtain ⟨rfl, rfl⟩ := hres
      have there : (s.heap.push (nSet w)).get? s.heap.objs.size = some (nSet w) := Heap.get?_push_size _ rfl
      have isS : Shared.TypeIs { s with heap := s.heap.push (nSet w) } (.ref s.heap.objs.size) "set" := ⟨_, there, rfl⟩
      have i1 := F.called_set.init.lookup; have i2 := F.called_set.init.bind (.ref s.heap.objs.size)
      repeat (any_goals (first | assumption | wp_step))
      refine codeAny_mono (codeAny_call_builtin (R := wants (fun r s₂ => r = .none ∧ ∃ h' tk ks, s₂ = { s with heap := h', toks := tk } ∧ SetS P w h' s.heap.objs.size ks ∧ GotS ns ns.length ks ∧ (∀ b o, s.heap.get? b = some o → h'.get? b = some o)) E) F.called_set.init.plain F.entry_set_init (check_set_init_1 isS ?_)) fun r₂ s₂ hr₂ => ?_
      · obtain ⟨⟨ocls, odict, odata, oslots⟩, hol, hcl, nl, hdl⟩ := hl
        simp only at hcl hdl; subst hcl; subst hdl
        have lthere : (s.heap.push (nSet w)).get? l = some { cls := .type "list", dict := odict, data := .seq items nl, slots := oslots } := Heap.get?_push_of_some _ hol
        have s1 := F.sub_list_set; have s2 := F.sub_list_frozenset; have s3 : (Value.type "list" == Value.type "dict") = false := by decide
        have isL : (s.heap.push (nSet w)).IsList l items := ⟨_, lthere, rfl, nl, rfl⟩
        unfold Builtin.«set.__init__» noKeywords Builtin.Frozenset.updateFrom; generalize ePI : pyIter = PI
        wp_walk
        subst ePI
        refine wpAny_pyIter_list isL ?_; refine wpAny_bind (wpAny_runValue ?_)
        have lt : l < s.heap.objs.size := Heap.lt_size hol
        have calm3 : A.in1.in1.in1.handled = none := by simp [hh]
        have neI : l ≠ (s.heap.push (nSet w)).objs.size := by rw [Heap.size_push]; exact Nat.ne_of_lt (Nat.lt_succ_of_lt lt)
        have notin : s.heap.objs.size ∉ [(s.heap.push (nSet w)).objs.size, l] := by
          rw [Heap.size_push]; simp only [List.mem_cons, List.mem_singleton, List.not_mem_nil, or_false, not_or]; exact ⟨Nat.ne_of_lt (Nat.lt_succ_self _), Nat.ne_of_gt lt⟩
        have vals : ∀ (i : Nat) (v : Value), items[i]? = some v → ∃ k t, ns[i]? = some k ∧ v = .str k t := fun i v hv => by
          have hi : i < ns.length := by rw [← sz]; exact (Array.getElem?_eq_some_iff.mp hv).1
          obtain ⟨t, e⟩ := strs_atS hit i v (by rw [Array.getElem?_toList]; exact hv)
          refine ⟨ns[i], t, List.getElem?_eq_getElem hi, ?_⟩; rw [e, List.getD_eq_getElem?_getD, List.getElem?_eq_getElem hi] <;> rfl
        refine set_loopS ((Walks.list calm3 _ l neI items).toS) s.heap.objs.size notin ns sz hb vals (items.size - 0) 0 _ (by omega) (Nat.zero_le _) ⟨⟨_, Heap.get?_push_size _ rfl, rfl, rfl⟩, (isL.push _)⟩ ⟨[], setS_new (Heap.get?_push_of_some _ there), fun k => by simp, Nat.le_refl _⟩ fun s' ks hm hS' got => ?_
        obtain ⟨h', g2, d', tk', os'⟩ := s'
        have eg : g2 = s.gens := hm.gens; have ed : d' = s.drawn := hm.drawn; have eo : os' = s.os := hm.os
        subst eg; subst ed; subst eo
        show wpAny _ _ _ _ _ _
        refine wpAny_pure ?_; show wpAny _ _ (ret Value.none) _ _ _
        rw [sz] at got; refine wpAny_pure ⟨rfl, h', tk', ks, rfl, hS', got, fun b o e => ?_⟩
        have hb0 : b < s.heap.objs.size := Heap.lt_size e
        have hb2 : b ≠ (s.heap.push (nSet w)).objs.size := by rw [Heap.size_push]; exact Nat.ne_of_lt (Nat.lt_succ_of_lt hb0)
        exact hm.heap b o (by simp only [List.mem_cons, List.mem_singleton, List.not_mem_nil, or_false, not_or]; exact ⟨Nat.ne_of_lt hb0, hb2⟩) (Heap.get?_push_of_some _ (Heap.get?_push_of_some _ e))
      · cases r₂ with
        | error e => exact hr₂
        | ok fl₂ =>
          cases fl₂ with
          | ret r =>
            obtain ⟨rfl, h', tk, ks, rfl, hS', got, hk'⟩ := hr₂
            repeat (any_goals (first | assumption | wp_step))
            exact fin _ _ _ hS' (fun k => by rw [got.1 k, List.take_length]) got.2 hk'
          | _ => exact hr₂.elim
    | _ => exact hres.elim
/-- sorted of a set of texts -/
theorem sorted_setS {Q : Value → Shared → Prop} (R : SetS P w s.heap a ks) (hh : A.handled = none) (h64 : ks.length < 64)
    (hQ : ∀ s' p (out : List Value) (c : Nat) (ys : List Str), (∀ b o, s.heap.get? b = some o → s'.heap.get? b = some o) → s'.gens = s.gens → s'.os = s.os → s.heap.objs.size ≤ p →
      s'.heap.get? p = some (seqObj "list" out.toArray c) → StrsAre out ys → ys.Perm ks → sortedS ys = true → Q (.ref p) s') :
    wpAny (model P w) A (call (.builtin "sorted") [.ref a]) Q E s := by
  obtain ⟨o, ws, g0, T, ho, hex, hd, g, ek, nd, hb, hf, hr, hl⟩ := R
  have hn : ws.size = ks.length := by rw [← ek, List.length_map, Array.length_toList]
  refine Calls.call_function_entry kind_sorted plain_sorted entry_sorted (args_sorted1 _) ?_
  unfold Builtin.«sorted»
  refine wpAny_bind (m := checkCount "sorted" 1 1 _) (wpAny_pure ?_)
  refine wpAny_bind (collect_set (A := A.in1) hh ⟨o, ho, hex.1, hd⟩ hf hb hr hl fun s1 vs k1 hz g1 o1 pm => ?_)
  have hvl : vs.length = ks.length := by rw [pm.length_eq, List.length_map, Array.length_toList]; exact hn
  have pk : ∃ xs, StrsAre vs xs ∧ xs.Perm ks := by
    have all : ∀ l : List Value, (∀ v ∈ l, ∃ k tk, v = Value.str k tk) → StrsAre l (l.map fun v => txtOf (0, v)) := by
      intro l
      induction l with
      | nil => exact fun _ => .nil
      | cons v l ih =>
        intro z
        obtain ⟨k, tk, rfl⟩ := z v List.mem_cons_self
        exact .cons k tk (ih fun u hu => z u (List.mem_cons_of_mem _ hu))
    refine ⟨vs.map fun v => txtOf (0, v), all vs fun v hv => ?_, ?_⟩
    · obtain ⟨e, he, q⟩ := List.mem_map.mp (pm.mem_iff.mp hv)
      obtain ⟨k, tk, h1, _⟩ := g e he
      exact ⟨k, tk, by rw [← q]; exact h1⟩
    · have z := pm.map fun v => txtOf (0, v)
      rw [List.map_map] at z
      rw [← ek]
      exact z
  obtain ⟨xs, hS, pk⟩ := pk
  refine wpAny_bind (wpAny_newList ?_ (by rw [hvl, sizeLine_eq]; omega))
  have hoL : (s1.heap.push (seqObj "list" vs.toArray 0)).get? s1.heap.objs.size = some (seqObj "list" vs.toArray 0) := Heap.get?_push_size _ rfl
  refine wpAny_bind (wpAny_holding (wpAny_call_entry slot_list_sort ⟨_, hoL, rfl⟩ entry_list_sort
    (list_sort_treeK strKind_oneLt hoL hS.keysOf (fun v₁ v₂ rest e => keyKind_strs (by rw [← e]; exact hS)) (by rw [hvl]; exact h64) fun st' hp hs => ⟨_, rfl, ?_⟩) (args_list_sort _)))
  obtain ⟨ys, y1, y2, y3⟩ := sorted_out_str hS hp hs
  obtain ⟨c, hc⟩ := sortedHeap_at (vs := vs) (out := (arrOf st').map (·.2)) hoL
  refine wpAny_pure ⟨_, rfl, hQ _ s1.heap.objs.size ((arrOf st').map (·.2)).toList c ys (fun b u e => ?_) g1 o1 hz (by rw [Array.toArray_toList]; exact hc) y1 (y2.trans pk) y3⟩
  have q := k1 b u e
  have hlt := Heap.lt_size q
  show (sortedHeap (s1.heap.push (seqObj "list" vs.toArray 0)) s1.heap.objs.size vs ((arrOf st').map (·.2))).get? b = some u
  rw [sortedHeap_old (Nat.ne_of_lt hlt) (by rw [size_push']; exact Nat.lt_succ_of_lt hlt)]
  exact Heap.get?_push_of_some _ q
end
/-! ### the rules -/
def SetSO (P : Program) (w : World) (a : Addr) (ks : List Str) : HO := .ext fun h => SetS P w h a ks
theorem setSO_new {P : Program} {w : World} {H : Hp} {h : Heap} {a : Addr} {ks : List Str} (R : SetS P w h a ks) : ObjOk P w H h a (SetSO P w a ks) := by
  have ⟨o, _, _, _, ho, _⟩ := R
  refine ⟨R, ⟨o, ho⟩, fun h1 h2 r k => r.at k⟩
section
variable {X : Cx} {G : Gh} {a : Expr} {pos p p1 p2 : Pos}
theorem cr_setS (hc : X.calm = true) : CallR X (.type "set") (fun vs H Q => ∃ (l : Addr) (ns : List Str), vs = [.ref l] ∧ SqL X.K H l (ns.map V.str) ∧ ns.length ≤ 4000 ∧ ∀ q ks, H q = none → (∀ k, k ∈ ks ↔ k ∈ ns) → ks.Nodup → ks.length ≤ ns.length → Q (.ref q) (upd H q (SetSO X.prog X.w q ks))) := by
  intro pins s σ H vs us Q I r h
  obtain ⟨l, ns, rfl, hS, hl, q⟩ := h
  rw [Vals.ref1 r]
  obtain ⟨its, rv, pl, hz⟩ := I.list hS
  refine setS_list ns (I.ok.hd hc) pl.isList (by simpa using rv.strs) (by unfold scanBound; omega) fun h' tk ks R hk hn k => ?_
  have nd : ks.Nodup := by obtain ⟨_, _, _, _, _, _, _, _, _, nd, _⟩ := R; exact nd
  exact ⟨.ref _, upd H s.heap.objs.size (SetSO X.prog X.w s.heap.objs.size ks), I.laid (t' := tk) k (Nat.le_refl _) (setSO_new R), rfl, q _ _ (I.hok.fresh (Nat.le_refl _)) hk nd hn⟩
theorem cr_sortedS (hc : X.calm = true) : CallR X (.builtin "sorted") (fun vs H Q => ∃ (a : Addr) (ks : List Str), vs = [V.ref a] ∧ H a = some (SetSO X.prog X.w a ks) ∧ ks.length < 64 ∧ ∀ ys p, ys.Perm ks → sortedS ys = true → H p = none → Q (.ref p) (upd H p (.lst (ys.map V.str)))) := by
  intro pins s σ H vs us Q I r h
  obtain ⟨a, ks, rfl, ha, h64, q⟩ := h
  have R : SetS X.prog X.w s.heap a ks := (I.hok a _ ha).1
  rw [Vals.ref1 r]
  refine sorted_setS R (I.ok.hd hc) h64 fun s' pp out c ys k1 g1 o1 hp hp2 hS pm so => ?_
  have hn : H pp = none := I.hok.fresh hp
  have hlen : (ys.map V.str).length ≤ sizeLine := by
    rw [List.length_map, pm.length_eq]
    exact Nat.le_trans (Nat.le_of_lt h64) (by decide)
  have all : s' = { s with heap := s'.heap, gens := s'.gens, drawn := s'.drawn, toks := s'.toks } := by
    cases s' with | mk _ _ _ _ _ => cases s with | mk _ _ _ _ _ => cases o1; rfl
  have J : Inv X pins σ (upd H pp (.lst (ys.map V.str))) { s with heap := s'.heap, gens := s'.gens, drawn := s'.drawn, toks := s'.toks } :=
    I.call (ch := []) (Un.laid k1 hp hn) (I.hok.laid k1 hp ⟨hlen, out, c, vals_of_strs hS, hp2⟩) (by rw [g1]; exact I.bare) (fun _ z => nomatch z)
  rw [all]
  exact ⟨.ref pp, _, J, rfl, q ys pp pm so hn⟩
theorem RpL.strs {K : PySem.W.Frag} {H : Hp} : ∀ {ns : List Str} {vs : List V}, RpL K H (ns.map PyData.str) vs → vs = ns.map V.str
  | [], _, .nil => rfl
  | _ :: _, _, .cons (.str _) t => by rw [RpL.strs t]; rfl
theorem RpL.ofStrs {K : PySem.W.Frag} {H : Hp} : ∀ (ns : List Str), RpL K H (ns.map PyData.str) (ns.map V.str)
  | [] => .nil
  | n :: ns => .cons (.str n) (RpL.ofStrs ns)
/-- sorted(set(xs)), xs a list of fewer than 64 texts -/
def tSortSetS (ta : TD) : TLd := fun E Q => ta E fun x E1 => match x with
  | .list xs => ∃ ns : List Str, xs = ns.map PyData.str ∧ ns.length < 64 ∧ ∀ ys : List Str, ys.Nodup → (∀ k, k ∈ ys ↔ k ∈ ns) → sortedS ys = true → Q (ys.map PyData.str) E1
  | _ => False
theorem el_sortSetS {ta : TD} (ha : ER X G a ta) (hg : Gl X "sorted") (hm : X.mg "sorted" = none) (hg2 : Gl X "set") (hm2 : X.mg "set" = none) (hc : X.calm = true := by rfl)
    (hs : starEach [a] X.env = (false, eval a X.env) :: starEach [] X.env := by rfl) : EL X G (.Call (.Name "sorted" p) [.Call (.Name "set" p1) [a] [] p2] [] pos) (tSortSetS ta) := by
  refine ⟨PE.weak (pe_callB (cr_sortedS hc) hg hm bb_sorted (pa_cons (pe_callTy (cr_setS hc) hg2 hm2 PyProof.Rows.boot_set (pa_cons ha.pe pa_nil hs) (by decide) (by decide) hs) pa_nil)) fun σ H Q ⟨E, QE, rel, q, k⟩ => ⟨E, _, rel, q, fun x E1 v H1 q1 x1 r1 p1 => ?_⟩⟩
  cases x with
  | list xs =>
    obtain ⟨ns, rfl, hl, q1⟩ := q1
    obtain ⟨b, us, rfl, hs, l⟩ := p1.list
    rw [l.strs] at hs
    refine ⟨b, ns, rfl, hs, by omega, fun q ks hq hk nd hn => ⟨q, ks, rfl, upd_same, by omega, fun ys p' pm so hp => ?_⟩⟩
    obtain ⟨r3, h30, n3⟩ := (r1.pext (PExt.new (o := SetSO X.prog X.w q ks) hq)).fresh (o := .lst (ys.map V.str)) hp
    exact k _ _ _ _ _ (q1 ys (pm.nodup_iff.mpr nd) (fun z => by rw [pm.mem_iff, hk z]) so) ((x1.trans (PExt.new hq).ext).trans (PExt.new hp).ext) r3 h30 n3 upd_same (RpL.ofStrs ys)
  | _ => exact q1.elim
end
end DL
set_option Elab.async false
set_option linter.all false
set_option maxRecDepth 100000
set_option maxHeartbeats 3200000
/-! DL61: dicts with int and text keys: d.get(k, x), d[k] = v, k in d, sorted(d), frozen ones as data. -/
namespace DL
open PySem PySem.Spec PyProof.Rows L2
/-- as data -/
def dkD (kvs : List (Key × D)) : D := .dict (kvs.map fun p => (keyDt p.1, p.2))
theorem keyOf_keyDt (k : Key) : keyOf (keyDt k) = some k := by cases k <;> rfl
theorem keysOf_dk : ∀ kvs : List (Key × D), keysOf (kvs.map fun p => (keyDt p.1, p.2)) = some kvs
  | [] => rfl
  | (k, d) :: kvs => by
    rw [List.map_cons]
    unfold keysOf
    rw [keyOf_keyDt, keysOf_dk kvs]
theorem keysOf_back : ∀ {kds : List (D × D)} {l : List (Key × D)}, keysOf kds = some l → kds = l.map fun p => (keyDt p.1, p.2)
  | [], l, h => by cases h; rfl
  | (k, d) :: r, l, h => by
    unfold keysOf at h
    split at h
    · rename_i y l' hk hl
      cases h
      rw [List.map_cons, ← keysOf_back hl]
      cases k with
      | int i => cases hk; rfl
      | str x => cases hk; rfl
      | _ => cases hk
    · cases h
section
variable {K : PySem.W.Frag} {G : Gh} {H : Hp} {E : Env} {σ : St}
theorem rp_dk {a : Addr} {o : Obj} {us : List (Key × V)} {kvs : List (Key × D)} (h : H a = some (.frz o (.dK us))) (r : KR K H kvs us) (ne : kvs ≠ []) : Rp K H (dkD kvs) (.ref a) := by
  refine .dck h ?_ ?_ ?_
  · rw [List.map_map]
    have e : (us.map fun u => keyDt u.1) = (us.map (·.1)).map keyDt := by rw [List.map_map]; rfl
    rw [e, r.1, List.map_map]; rfl
  · rw [List.map_map]; exact r.2
  · intro z; exact ne (List.map_eq_nil_iff.mp z)
theorem dict_txt {kds : List (D × D)} {v : V} {l : List (Key × D)} (p : Rp K H (.dict kds) v) (e : keysOf kds = some l) (ne : l ≠ []) : ∃ a o us, v = .ref a ∧ H a = some (.frz o (.dK us)) ∧ KR K H l us := by
  obtain rfl := keysOf_back e
  generalize ez : PyData.dict (l.map fun p => (keyDt p.1, p.2)) = d at p
  cases l with
  | nil => exact absurd rfl ne
  | cons q l =>
    cases p with
    | dct h l' n m =>
      cases ez
      cases l' with
      | cons t _ _ _ _ _ _ _ _ =>
        obtain ⟨xs, hx⟩ := t
        cases hq : q.1 <;> rw [hq] at hx <;> cases hx
    | hdl a =>
      injection ez with ez
      rw [List.map_cons] at ez
      injection ez with e1 _
      injection e1 with e1 _
      cases hq : q.1 <;> rw [hq] at e1 <;> cases e1
    | dck h e1 l2 n =>
      cases ez
      rename_i us
      refine ⟨_, _, us, rfl, h, ?_, ?_⟩
      · rw [List.map_map] at e1
        have inj : ∀ (x y : List Key), x.map keyDt = y.map keyDt → x = y := by
          intro x
          induction x with
          | nil => intro y z; cases y with
            | nil => rfl
            | cons _ _ => cases z
          | cons a x ih => intro y z; cases y with
            | nil => cases z
            | cons b y =>
              rw [List.map_cons, List.map_cons] at z
              injection z with z1 z2
              rw [ih y z2]
              have : some a = some b := by rw [← keyOf_keyDt, ← keyOf_keyDt, z1]
              injection this with this
              rw [this]
        refine inj _ _ ?_
        rw [List.map_map, List.map_map]
        exact e1.symm
      · rw [List.map_map] at l2; exact l2
    | _ => cases ez
theorem valK_none : ∀ {kvs : List (Key × D)} {us : List (Key × V)} {k : Key}, us.map (·.1) = kvs.map (·.1) → valK kvs k = none → valV us k = none
  | [], [], k, _, _ => rfl
  | [], u :: us, k, h, _ => by cases h
  | p :: kvs, [], k, h, _ => by cases h
  | p :: kvs, u :: us, k, h, h3 => by
    simp only [List.map_cons, List.cons.injEq] at h
    by_cases e : p.1 = k
    · have : valK (p :: kvs) k = some p.2 := by simp [valK, List.find?_cons, e]
      rw [this] at h3; cases h3
    · have : valK (p :: kvs) k = valK kvs k := by simp [valK, List.find?_cons, e]
      rw [this] at h3
      exact (valV_neg (by rw [h.1]; exact e)).trans (valK_none h.2 h3)
end
section
variable {X : Cx} {G : Gh} {e f a : Expr} {pos pos' p p0 apos cpos : Pos} {x : Str} {tk tv tx ta : TD} {tg : Expr}
/-- d as data: frozen -/
def tFzK (i : Nat) : TD := fun E Q => match E[i]? with
  | some (.d x) => Q x E
  | some (.dk kvs) => kvs ≠ [] ∧ Q (dkD kvs) (E.set i (.d (dkD kvs)))
  | _ => False
theorem ed_fzk (i : Nat) (hN : X.N[i]? = some x := by rfl) (hv : Vis X.env.scope x := by first | exact Or.inl rfl | exact Or.inr (Or.inl rfl) | exact Or.inr (Or.inr rfl)) (hd : (x == ("__debug__" : Str)) = false := by decide)
    (hcd : (x == ("__classdict__" : Str)) = false := by decide) : ED X G (.Name x p0) (tFzK i) :=
  ⟨PE.weak (PE.fzIf (pe_var hN hv hd hcd)) fun σ H Q ⟨E, QE, r, q, k⟩ => by
    unfold tFzK at q
    split at q
    · rename_i d0 he
      obtain ⟨v, e1, e2⟩ := r.data he
      exact ⟨v, e1, .inl (k _ _ _ _ q (Ext.refl _) r e2)⟩
    · rename_i kvs he
      obtain ⟨b, e1, us, e2, e3, e4⟩ := r.mutAt he rfl
      refine ⟨_, e1, .inr ⟨b, _, rfl, e2, trivial, fun o => ?_⟩⟩
      have x : Ext H (upd H b (.frz o (.dK us))) := Ext.putS e2 (fun _ z => by cases z) (fun _ _ z => by cases z)
      have kr : KR X.K (upd H b (.frz o (.dK us))) kvs us := KR.ext (H := H) ⟨e3, e4⟩ x
      have p := rp_dk (K := X.K) (H := upd H b (.frz o (.dK us))) upd_same kr q.1
      exact k _ _ _ _ q.2 x (r.freezeM he rfl e1 p) p
    · exact q.elim⟩
/-- a new dict as data -/
def tFzKM (t : TM) : TD := fun E Q => t E fun s E1 => match s with
  | .dk kvs => kvs ≠ [] ∧ Q (dkD kvs) E1
  | _ => False
/-- d[k], d data -/
def tDkGetD (ta tk : TD) : TD := fun E Q => ta E fun x E1 => tk E1 fun k E2 => match x with
  | .dict kds => optQ (keysOf kds) fun l => l ≠ [] ∧ optQ (keyOf k) fun ky => optQ (valK l ky) fun d => Q d E2
  | _ => False
theorem ed_dkGetD (hu : X.A.units + 65 < cLine) (ha : ED X G a ta) (hk : ED X G e tk) (hs : NoSl e := by intro _ _; rfl) : ED X G (.Subscript a e pos) (tDkGetD ta tk) :=
  ⟨PE.weak (pe_dget (by omega) ha.pe hk.pe hs) fun σ H Q ⟨E, QE, r, q, k⟩ => ⟨E, _, r, q, fun x E1 v H1 q1 x1 r1 p1 => ⟨E1, _, r1, q1, fun kd E2 w H2 q2 x2 r2 p2 => by
    split at q2
    · rename_i kds
      cases h1 : keysOf kds with
      | none => rw [h1] at q2; exact q2.elim
      | some l =>
        rw [h1] at q2
        obtain ⟨ne, q2⟩ := q2
        cases h2 : keyOf kd with
        | none => rw [h2] at q2; exact q2.elim
        | some ky =>
          rw [h2] at q2
          cases h3 : valK l ky with
          | none => exact (show optQ (valK l ky) _ from q2) |> fun z => by rw [h3] at z; exact z.elim
          | some d =>
            have q3 : optQ (valK l ky) (fun d => QE d E2) := q2
            rw [h3] at q3
            obtain ⟨b, o, us, rfl, hd, kr⟩ := dict_txt (p1.ext x2) h1 ne
            obtain ⟨v', g1, g2⟩ := valK_rel kr.1 kr.2 h3
            rw [keyOf_rel h2 p2]
            exact ⟨b, v', rfl, .inl ⟨us, ky, .inr ⟨o, hd⟩, rfl, g1.symm⟩, k _ _ _ _ q3 (x1.trans x2) r2 g2⟩
    · exact q2.elim⟩⟩⟩
/-- d.values() walked, d data -/
def iDvK (ta : TD) : TDs := fun E Q => ta E fun x E1 => match x with
  | .dict kds => optQ (keysOf kds) fun l => l ≠ [] ∧ Q (l.map (·.2)) E1
  | _ => False
theorem walk_dvk {K : PySem.W.Frag} {H : Hp} {d : Addr} {o : Obj} {us : List (Key × V)} {l : List (Key × D)} (h : H d = some (.frz o (.dK us))) (kr : KR K H l us) : WalkD false K (Itd d o us) H (l.map (·.2)) where
  goes := fun i H' x hi => ⟨x.frz _ _ _ h, by rw [kr.length]; simpa using hi⟩
  yld := fun i H' v H2 x hi hy => by
    obtain ⟨rfl, ky, hp⟩ := hy
    obtain ⟨d, h1, h2⟩ := kr.2.getV (i := i) (v := v) (by rw [List.getElem?_map, hp]; rfl)
    exact ⟨PExt.refl _, d, h1, h2.ext x⟩
  stops := fun H' x => ⟨x.frz _ _ _ h, by rw [kr.length]; simp⟩
theorem id_dvk (h : ED X G e ta) (hbase : attributeBase e "values" X.env (eval e X.env) = eval e X.env := by rfl) (hline : (apos.endLine == cpos.line) = true := by rfl) : ID X G false tg (.Call (.Attribute e "values" apos) [] [] cpos) (iDvK ta) :=
  ⟨PI.weak (pi_values h.pe hbase hline) fun σ H R ⟨E, QE, r, q, k⟩ => ⟨E, _, r, q, fun x E1 v H1 q1 x1 r1 p1 => by
    split at q1
    · rename_i kds
      cases h1 : keysOf kds with
      | none => rw [h1] at q1; exact q1.elim
      | some l =>
        rw [h1] at q1
        obtain ⟨b, o, us, rfl, hd, kr⟩ := dict_txt p1 h1 q1.1
        exact ⟨b, o, us, rfl, hd, k _ _ _ _ q1.2 x1 r1 (walk_dvk hd kr)⟩
    · exact q1.elim⟩⟩
/-- d.get(k, x), d a name of one's own -/
def tDkGet2 (i : Nat) (tk tx : TD) : TD := fun E Q => match E[i]? with
  | some (.dk _) => tk E fun k E1 => tx E1 fun z E2 => match E2[i]?, keyOf k with
    | some (.dk kvs), some ky => Q ((valK kvs ky).getD z) E2
    | _, _ => False
  | _ => False
theorem ed_dkGet2 (i : Nat) (hu : X.A.units + 65 < cLine) (hk : ED X G e tk) (hx : ED X G f tx) (hN : X.N[i]? = some x := by rfl) (hv : Vis X.env.scope x := by first | exact Or.inl rfl | exact Or.inr (Or.inl rfl) | exact Or.inr (Or.inr rfl)) (hd : (x == ("__debug__" : Str)) = false := by decide)
    (hcd : (x == ("__classdict__" : Str)) = false := by decide) (m : M2 X (.Name x p0) "get" apos e f cpos := by exact ⟨rfl, rfl, rfl, rfl⟩) : ED X G (.Call (.Attribute (.Name x p0) "get" apos) [e, f] [] cpos) (tDkGet2 i tk tx) :=
  ⟨PE.weak (pe_dget2 (by omega) (pe_var hN hv hd hcd) hk.pe hx.pe m) fun σ H Q ⟨E, QE, r, q, k⟩ => by
    unfold tDkGet2 at q
    split at q
    · rename_i kvs0 he0
      obtain ⟨b, e1, us0, e2, _⟩ := r.mutAt he0 rfl
      refine ⟨_, e1, b, rfl, .inl ⟨us0, .inl e2⟩, E, _, r, q, fun kd E1 v H1 q1 x1 r1 p1 => ⟨E1, _, r1, q1, fun z E2 w H2 q2 x2 r2 p2 => ?_⟩⟩
      split at q2
      · rename_i kvs ky he hky
        obtain ⟨b', f1, us, f2, f3, f4⟩ := r2.mutAt he rfl
        rw [e1] at f1; cases f1
        rw [keyOf_rel hky p1]
        refine ⟨valV us ky, .inl ⟨us, ky, .inl f2, rfl, rfl⟩, ?_⟩
        cases h3 : valK kvs ky with
        | none =>
          rw [h3] at q2
          rw [valK_none f3 h3]
          exact k _ _ _ _ q2 (x1.trans x2) r2 p2
        | some d =>
          rw [h3] at q2
          obtain ⟨v', g1, g2⟩ := valK_rel f3 f4 h3
          rw [g1]
          exact k _ _ _ _ q2 (x1.trans x2) r2 g2
      · exact q2.elim
    · exact q.elim⟩
/-- k in d -/
def tInDk (tk : TD) (i : Nat) : TTd := fun E Q => tk E fun k E1 => match E1[i]?, keyOf k with
  | some (.dk kvs), some ky => Q (valK kvs ky).isSome E1
  | _, _ => False
/-- d[k] = v -/
def sDkPut (i : Nat) (tk tv : TD) : TSd := fun DE E => tv E fun d E1 => match E1[i]? with
  | some (.dk _) => tk E1 fun k E2 => match E2[i]?, keyOf k with
    | some (.dk kvs), some ky => kvs.length < sizeLine ∧ DE.nx (E2.set i (.dk (putD2 kvs ky d)))
    | _, _ => False
  | _ => False
theorem sd_dkPut (i : Nat) (hu : X.A.units + 65 < cLine) (hk : ED X G e tk) (hx : ED X G f tv) (hN : X.N[i]? = some x := by rfl) (hv : Vis X.env.scope x := by first | exact Or.inl rfl | exact Or.inr (Or.inl rfl) | exact Or.inr (Or.inr rfl)) (hd : (x == ("__debug__" : Str)) = false := by decide)
    (hcd : (x == ("__classdict__" : Str)) = false := by decide) (hs : swapsWith f (some (.Subscript (.Name x p0) e pos')) pos.line X.env = pure false := by rfl) : SD X G (.Assign [.Subscript (.Name x p0) e pos'] f pos) (sDkPut i tk tv) :=
  ⟨PS.weak (ps_dput (by omega) (pe_var hN hv hd hcd) hk.pe hx.pe hs) fun F σ H ⟨E, DE, r, q, k1, k2, k3, k4⟩ => ⟨E, _, r, q, fun d E1 v H1 q1 x1 r1 p1 => by
    split at q1
    · rename_i kvs0 he0
      obtain ⟨b, e1, e2⟩ := r1.mutAt he0 rfl
      refine ⟨_, e1, E1, _, r1, q1, fun kd E2 w H2 q2 x2 r2 p2 => ?_⟩
      split at q2
      · rename_i kvs ky he hky
        obtain ⟨b', f1, us, f2, f3, f4⟩ := r2.mutAt he rfl
        rw [e1] at f1; cases f1
        have kr : KR X.K H2 kvs us := ⟨f3, f4⟩
        rw [keyOf_rel hky p2]
        refine ⟨b, upd H2 b (.dK (putK us ky v)), rfl, .k f2 (by rw [kr.length]; exact q2.1), ?_⟩
        have x3 : Ext H2 (upd H2 b (.dK (putK us ky v))) := Ext.putS f2 (fun _ z => by cases z) (fun _ _ z => by cases z)
        have kr3 := (kr.put (k := ky) (p1.ext x2)).ext x3
        exact k1 _ _ _ q2.2 ((x1.trans x2).trans x3) (r2.putM he rfl e1 (s1 := .dk _) ⟨_, upd_same, kr3.1, kr3.2⟩)
      · exact q2.elim
    · exact q1.elim⟩⟩
/-- sorted(d), all keys texts -/
def tSortDk (i : Nat) : TLd := fun E Q => match E[i]? with
  | some (.dk kvs) => ∃ ks : List Str, kvs.map (·.1) = ks.map Sum.inr ∧ ks.length < 64 ∧ ∀ ys : List Str, ys.Perm ks → sortedS ys = true → Q (ys.map PyData.str) E
  | _ => False
theorem el_sortDk (i : Nat) (hg : Gl X "sorted") (hm : X.mg "sorted" = none) (hN : X.N[i]? = some x := by rfl) (hv : Vis X.env.scope x := by first | exact Or.inl rfl | exact Or.inr (Or.inl rfl) | exact Or.inr (Or.inr rfl)) (hd : (x == ("__debug__" : Str)) = false := by decide)
    (hcd : (x == ("__classdict__" : Str)) = false := by decide) (hc : X.calm = true := by rfl) : EL X G (.Call (.Name "sorted" p) [.Name x p0] [] pos) (tSortDk i) := by
  refine ⟨PE.weak (pe_callB (call_sortedD hc) hg hm bb_sorted (pa_cons (pe_var hN hv hd hcd) pa_nil)) fun σ H Q ⟨E, QE, r, q, k⟩ => ?_⟩
  unfold tSortDk at q
  split at q
  · rename_i kvs he
    obtain ⟨ks, h1, h2, q⟩ := q
    obtain ⟨b, e1, us, e2, e3, e4⟩ := r.mutAt he rfl
    refine ⟨_, e1, b, us, ks, rfl, .inl e2, e3.trans h1, h2, fun ys p' pm so hp => ?_⟩
    obtain ⟨r2, h0, na⟩ := r.fresh (o := .lst (ys.map V.str)) hp
    exact k _ _ _ _ _ (q ys pm so) (PExt.new hp).ext r2 h0 na upd_same (RpL.ofStrs ys)
  · exact q.elim
end
/-! ### texts in their order: one row only -/
end DL
set_option Elab.async false
set_option linter.all false
set_option maxRecDepth 100000
set_option maxHeartbeats 3200000
/-! DL62: texts: order, find, split, join, turned about, repeated, int(text), walked by signs. -/
namespace DL
open PySem PySem.Spec PyProof.Rows L2
section
variable {X : Cx} {G : Gh} {a b e : Expr} {pos p p1 p2 p3 apos : Pos} {ta tb : TD} {tg : Expr}
/-! ### order -/
def opLeS : OpT := fun x y Q => match x, y with
  | .str i, .str j => Q (.bool (!decide (j.cps.toList < i.cps.toList)))
  | _, _ => False
/-! ### find -/
def tFind (ta tb : TD) : TD := fun E Q => ta E fun x E1 => match x with
  | .str i => tb E1 fun y E2 => match y with
    | .str j => Q (.int (Txt.find i j)) E2
    | _ => False
  | _ => False
/-! ### split -/
def tSplit (ta tb : TD) : TLd := fun E Q => ta E fun x E1 => match x with
  | .str i => tb E1 fun y E2 => match y with
    | .str j => (j.length == 0) = false ∧ i.length + 2 ≤ sizeLine ∧ Q ((Txt.split i j).map PyData.str) E2
    | _ => False
  | _ => False
/-! ### join -/
def tJoinS (ta tb : TD) : TD := fun E Q => ta E fun x E1 => match x with
  | .str i => tb E1 fun y E2 => match y with
    | .list ys => ∃ zs : List Str, ys = zs.map PyData.str ∧ (zs.map (·.length)).sum + zs.length * i.length ≤ 16777216 ∧ Q (.str (Txt.join i zs)) E2
    | _ => False
  | _ => False
/-! ### int(text) -/
def caIntS : CaT := fun ds Q => match ds with
  | [.str i] => ∃ n, PySem.intText? i = some n ∧ i.length ≤ 640 ∧ Q (.int n)
  | _ => False
/-! ### walked by its signs -/
def sgn (c : Nat) : Str := ⟨#[c]⟩
def signsD (x : Str) : List D := x.cps.toList.map fun c => PyData.str (sgn c)
def iStrD (ta : TD) : TDs := fun E Q => ta E fun x E1 => match x with
  | .str i => Q (signsD i) E1
  | _ => False
/-! ### text * int -/
def repS (x : Str) (n : Int) : Str := if n < 1 then Str.empty else if (n == 1 || x.length == 0) = true then x else ⟨(List.replicate n.toNat x.cps).foldl (· ++ ·) #[]⟩
def opMulS : OpT := fun x y Q => match x, y with
  | .str i, .int n => (0 ≤ n ∧ n ≤ 1000 ∧ i.length ≤ 1000) ∧ Q (.str (repS i n))
  | _, _ => False
/-! ### text[::-1] -/
def revS (x : Str) : Str := ⟨x.cps.toList.reverse.toArray⟩
def tRevS (ta : TD) : TD := fun E Q => ta E fun x E1 => match x with
  | .str i => i.length ≤ sizeLine ∧ Q (.str (revS i)) E1
  | _ => False
end
end DL
set_option Elab.async false
set_option linter.all false
set_option maxRecDepth 100000
set_option maxHeartbeats 3200000
/-! DL63: exceptions that leave a comprehension. -/
namespace DL
open PySem PySem.Spec PyProof.Rows L2
/-- fresh, or noted by whomever -/
def SkyA (B : Heap) (l : List PySem.Env) (a : Addr) (Z : Obj → Prop) (h : Heap) : Prop :=
  (B.StaysIn h ∧ B.get? a = none ∧ h.FunFrames B l ∧ ∃ oe vs, h.get? a = some oe ∧ Z oe ∧ oe.data = .fields vs ∧ vs[1]? = some .none) ∨
  (B.StaysIn h ∧ B.get? a = none ∧ h.FunFrames B l ∧ ∃ fl, HandSPX.TracedZ h B a Z fl)
theorem SkyA.of {B : Heap} {l : List PySem.Env} {a L : Addr} {Z : Obj → Prop} {h : Heap} (x : Sky B l a Z L h) : SkyA B l a Z h := by
  rcases x with x | ⟨x1, x2, x3, x4⟩ | ⟨x1, x2, x3, x4⟩
  · exact .inl x
  · exact .inr ⟨x1, x2, x3, _, x4⟩
  · exact .inr ⟨x1, x2, x3, _, x4⟩
/-! ### the block -/
end DL
set_option Elab.async false
set_option linter.all false
set_option maxRecDepth 100000
set_option maxHeartbeats 3200000
/-! DL64: comprehensions that may raise, over data; defs that have such; small things for texts. -/
namespace DL
open PySem PySem.Spec PyProof.Rows L2
/-! ### slices of a list of one's own -/
section
variable {X : Cx} {G : Gh} {a b e f : Expr} {pos p p0 p2 apos cpos tpos : Pos} {x : Str} {elts : List Expr} {kk : Nat} {keys : List (Option Expr)} {values : List Expr}
def tSlO (i : Nat) (tl th : TOd) : TLd := fun E Q => match E[i]? with
  | some (.ol _) => tl E fun l E1 => th E1 fun u E2 => match E2[i]? with
    | some (.ol xs) => Q (cutD xs l u) E2
    | _ => False
  | _ => False
/-! ### {..}.get(k, x) -/
def tDkGet2M (t : TM) (tk tx : TD) : TD := fun E Q => t E fun s E1 => match s with
  | .dk kvs => kvs ≠ [] ∧ tk E1 fun k E2 => tx E2 fun z E3 => optQ (keyOf k) fun ky => Q ((valK kvs ky).getD z) E3
  | _ => False
end
end DL
set_option Elab.async false
set_option linter.all false
set_option maxRecDepth 100000
set_option maxHeartbeats 1000000
/-! DL65: zip of a tuple and a list. -/
namespace DL
open PySem PySem.Spec PyProof.Rows L2
section
variable {X : Cx} {G : Gh} {a b : Expr} {p pos tpos : Pos} {elts : List Expr} {kk : Nat}
def iZipN (ta tb : TD) : TDs := fun E Q => ta E fun x E1 => tb E1 fun y E2 => match x, y with
  | .tuple xs, .list ys => Q (zipD xs ys) E2
  | _, _ => False
end
end DL
set_option Elab.async false
set_option linter.all false
set_option maxRecDepth 100000
set_option maxHeartbeats 4000000
/-! FnBase: _law_draw, _law_pick, _law_same -/
namespace DL
open PySem PySem.Spec PyProof.Rows L2
local macro_rules | `(tactic| walk_at "dl") => `(tactic| simp only [tV, tVr, tFzV, turnD, DL.wipeE, tK, tOpD, tUnD, tBo, tAndD, tOrD, tNotD, tIfE, DL.tAndV, DL.tOrV, DL.tNotV, tTru, truD, okLen, sSet, sSetL, sExpr, sRet, sIf, sNx, tTupD, dNil, dCons, tLstD, tFzD, tApp, tExtd, tPopAt, sSetIx, tIxO, tChainD, tChain3D, tRevT, caStr, opRepT, opAdd, opSub, opMul, opDiv, opMod, opPow, DL.opI, DL.opI0, opB0, opLt, opLe, opGt, opGtD, opLtD, opGe, opEq, opNe, opIs, opIsN, isNone, opIn, opNotIn, opIx, atD_0, atD_1, atD_2, atD_3, putD_0, unNeg, tCa1, tCa2, tCaL1, caLen, caAbs, caMax2, caMin2, caSum, caMax, caMin, caSumT, caMaxT, caMinT, caAll, caTuple, caList, caInt, tIsi, isInt, isBool, isStr, isTuple, isList, notDict, sAsg, gSet, gTupD, gsNil, gsCons, sPar, pNil, pD, pL, setAll, tCallD, aNil, aV, aO, argS, oixs, ndp, putO, tOpL, opCat, opRep, tSlD, slD, tSlL, oNo, oE, tRevD, iLstD, iTupD, iRange1, iRange2, iZipD, iZipM, finO, tTrue, Option.map, eqv_int, eqv_bool, eqv_none, shaped_int, shaped_bool, shaped_none, tLenRange, tSortSet, tLenSet, tLenSetP, tSortSetP, tCountL, tCountT, tIndexL, tIndexT, DL.tOrT, DL.tAndT, DL.tNotT, tSortRev, caSorted, iEnumL, iEnumT, decide_eq_true_eq, and_self, List.cons_append, List.nil_append, List.replicate, List.getElem?_cons_zero, List.getElem?_cons_succ, List.set_cons_zero, List.set_cons_succ, List.length_cons, List.length_nil, true_and, and_true, if_true, if_false, Bool.false_eq_true, List.contains_nil, Bool.not_false, Bool.not_true, Bool.and_self, Bool.and_true, Bool.true_and, decide_true, decide_false, beq_self_eq_true])
def tb_law_draw : TSd :=
  sSeq (sIf (tNotD (tTru (tVr 1))) (sExpr (tApp 1 (tCa1 caMax (tFzD (tOpL opCat (tFzD (tComp (iLstD (tV 0)) (gSet 4) (tTrue) (tCa1 caAbs (tV 4)) [4])) (tFzD (tLstD (dCons (tK (.int 0)) (dNil))))))))) (sNx))
      (sSeq (sExpr (tApp 1 (tK (.int 0))))
      (sSeq (sSet 3 (tCa1 caLen (tVr 1)))
      (sSeq (sSet 4 (tIfE (tTru (tV 0)) (tOpD opIx (tV 0) (tOpD opMod (tV 3) (tCa1 caLen (tV 0)))) (tK (.int 0))))
      (sSeq (sSet 5 (tOpD opMod (tIxO 1 (tK (.int 0))) (tK (.int 65536))))
      (sSeq (sSetIx 1 (tK (.int 0)) (tOpD opDiv (tIxO 1 (tK (.int 0))) (tK (.int 65536))))
      (sSeq (sSet 6 (tOpD opMod (tOpD opAdd (tOpD opAdd (tV 4) (tOpD opMul (tK (.int 40503)) (tV 5))) (tOpD opMul (tK (.int 104729)) (tV 3))) (tK (.int 4294967291))))
      (sSeq (sSet 6 (tOpD opMod (tOpD opMul (tOpD opMod (tOpD opMul (tV 6) (tV 6)) (tK (.int 4294967279))) (tK (.int 48271))) (tK (.int 4294967291))))
      (sSeq (sSet 7 (tOpD opMod (tOpD opMul (tOpD opMod (tOpD opMul (tV 6) (tV 6)) (tK (.int 4294967279))) (tK (.int 69621))) (tK (.int 4294967291))))
      (sRet (tOpD opMod (tOpD opAdd (tOpD opMul (tOpD opDiv (tV 6) (tK (.int 64))) (tK (.int 67108864))) (tOpD opDiv (tV 7) (tK (.int 64)))) (tV 2)))))))))))
def tb_law_pick (sp_law_draw : SpD) : TSd :=
  sRet (tOpD opIx (tV 2) (tCallD sp_law_draw (aV (tV 0) (aO 1 (aV (tCa1 caLen (tV 2)) (aNil))))))
def tb_law_same (sp_law_same : SpD) : TSd :=
  sSeq (sIf (tBo (tOpD opIs (tV 1) (tK .none))) (sRet (tOpD opIs (tV 0) (tK .none))) (sNx))
      (sSeq (sIf (tTru (tIsi isBool (tV 1))) (sRet (tAndV (tIsi isBool (tV 0)) (tOpD opEq (tV 0) (tV 1)))) (sNx))
      (sSeq (sIf (tTru (tIsi isTuple (tV 1))) (sSeq (sIf (tOrD (tNotD (tTru (tIsi isTuple (tV 0)))) (tBo (tOpD opNe (tCa1 caLen (tV 0)) (tCa1 caLen (tV 1))))) (sRet (tK (.bool false))) (sNx))
      (sRet (tCa1 caAll (tFzD (tComp (iZipD (tV 0) (tV 1)) (gTupD 2 (gsCons (gSet 2) (gsCons (gSet 3) (gsNil)))) (tTrue) (tCallD sp_law_same (aV (tV 2) (aV (tV 3) (aNil)))) [2, 3]))))) (sNx))
      (sSeq (sIf (tTru (tIsi isStr (tV 1))) (sRet (tAndV (tIsi isStr (tV 0)) (tOpD opEq (tV 0) (tV 1)))) (sNx))
      (sRet (tAndV (tIsi isInt (tV 0)) (tAndV (tNotV (tIsi isBool (tV 0))) (tOpD opEq (tV 0) (tV 1))))))))
def TownOk (t : List D) (b : Nat) : Prop := t.length ≤ b ∧ (t = [] ∨ ∃ (h : Int) (r : List D), t = .int h :: r)
theorem TownOk.mono {t : List D} {b b' : Nat} (h : TownOk t b) (hb : b ≤ b') : TownOk t b' := ⟨Nat.le_trans h.1 hb, h.2⟩
def spDraw : SpD := fun ss Q => ∃ (ns : List Int) (t : List D) (m : Int) (b : Nat), ss = [.d (.list (ns.map PyData.int)), .ol t, .d (.int m)] ∧ 0 < m ∧ ns.length ≤ 63 ∧ TownOk t b ∧ b ≤ 10000000 ∧
  ∀ r t', 0 ≤ r → r < m → TownOk t' (b + 2) → Q (.int r) [.ol t']
theorem small_line {n : Nat} (h : n ≤ 10000010) : n ≤ sizeLine := by rw [sizeLine_eq]; omega
theorem cmul_small {i j : Int} (h1 : i.natAbs < 2 ^ 64) (h2 : j.natAbs < 2 ^ 64) : CMulW i j := wide_mul (a := 64) (b := 64) h1 h2 (by decide) (by decide) (by decide)
theorem cdiv_small {i j : Int} (h0 : 0 < j) (h1 : j < 2 ^ 64) : CDivW i j := wide_div (b := 64) h0 (by omega) (by decide) (by decide)
theorem rd_law_draw : ∀ ss QD, spDraw ss QD → tb_law_draw { nx := fun E' => finO [1] E' (QD .none), rt := fun d E' => finO [1] E' (QD d) } (ss ++ List.replicate 5 .un) := by
  rintro ss QD ⟨ns, t, m, b, rfl, hm, hn, ht, hb, k⟩
  unfold tb_law_draw
  refine seq_step fun R hR => ?_
  have main : ∀ (h : Int) (r : List D), (h' : (PyData.int h :: r).length ≤ b + 1) → R [.d (.list (ns.map PyData.int)), .ol (.int h :: r), .d (.int m), .un, .un, .un, .un, .un] := by
    intro h r h'
    refine hR _ ?_
    rw [List.length_cons] at h'
    refine seq_step fun R hR => ?_
    walk_at "dl"
    refine ⟨Nat.lt_of_lt_of_le (show r.length + 1 < 10000002 by omega) (small_line (by omega)), hR _ ?_⟩
    refine seq_step fun R hR => ?_
    walk_at "dl"
    refine hR _ ?_
    generalize hk : (((r ++ [PyData.int 0]).length + 1 : Nat) : Int) = kk
    have hkk : 0 ≤ kk ∧ kk ≤ 10000003 := by rw [List.length_append, List.length_cons, List.length_nil] at hk; omega
    refine seq_step fun R hR => ?_
    have c4 : ∀ c : Int, R [.d (.list (ns.map PyData.int)), .ol (.int h :: (r ++ [.int 0])), .d (.int m), .d (.int kk), .d (.int c), .un, .un, .un] := by
      intro c
      refine hR _ ?_
      refine seq_step fun R hR => ?_
      walk_at "dl"
      refine ⟨by decide, hR _ ?_⟩
      have hd0 : 0 ≤ h % 65536 := Int.emod_nonneg _ (by decide)
      have hd1 : h % 65536 < 65536 := Int.emod_lt_of_pos _ (by decide)
      generalize h % 65536 = dg at hd0 hd1 ⊢
      refine seq_step fun R hR => ?_
      walk_at "dl"
      refine ⟨cdiv_small (by decide) (by decide), hR _ ?_⟩
      generalize h / 65536 = h2
      refine seq_step fun R hR => ?_
      walk_at "dl"
      refine ⟨cmul_small (by omega) (by omega), cmul_small (by omega) (by omega), by decide, hR _ ?_⟩
      generalize hn1 : (c + 40503 * dg + 104729 * kk) % 4294967291 = n1
      have h10 : 0 ≤ n1 := by rw [← hn1]; exact Int.emod_nonneg _ (by decide)
      have h11 : n1 < 4294967291 := by rw [← hn1]; exact Int.emod_lt_of_pos _ (by decide)
      refine seq_step fun R hR => ?_
      walk_at "dl"
      have g0 : 0 ≤ n1 * n1 % 4294967279 := Int.emod_nonneg _ (by decide)
      have g1 : n1 * n1 % 4294967279 < 4294967279 := Int.emod_lt_of_pos _ (by decide)
      generalize n1 * n1 % 4294967279 = n2 at g0 g1 ⊢
      refine ⟨cmul_small (by omega) (by omega), by decide, cmul_small (by omega) (by omega), by decide, hR _ ?_⟩
      generalize hn3 : n2 * 48271 % 4294967291 = n3
      have h30 : 0 ≤ n3 := by rw [← hn3]; exact Int.emod_nonneg _ (by decide)
      have h31 : n3 < 4294967291 := by rw [← hn3]; exact Int.emod_lt_of_pos _ (by decide)
      refine seq_step fun R hR => ?_
      walk_at "dl"
      have g0 : 0 ≤ n3 * n3 % 4294967279 := Int.emod_nonneg _ (by decide)
      have g1 : n3 * n3 % 4294967279 < 4294967279 := Int.emod_lt_of_pos _ (by decide)
      generalize n3 * n3 % 4294967279 = n4 at g0 g1 ⊢
      refine ⟨cmul_small (by omega) (by omega), by decide, cmul_small (by omega) (by omega), by decide, hR _ ?_⟩
      generalize n4 * 69621 % 4294967291 = n5
      walk_at "dl"
      refine ⟨cdiv_small (by decide) (by decide), cmul_small (by omega) (by omega), cdiv_small (by decide) (by decide), hm, ?_⟩
      refine k _ _ (Int.emod_nonneg _ (by omega)) (Int.emod_lt_of_pos _ hm) ⟨?_, .inr ⟨_, _, rfl⟩⟩
      rw [List.length_cons, List.length_append, List.length_cons, List.length_nil]; omega
    walk_at "dl"
    refine ifB (fun e => ?_) (fun e => c4 0)
    have hp : 0 < ns.length := by
      cases ns with
      | nil => simp at e
      | cons a l => simp
    rw [List.length_map]
    refine ⟨by omega, ?_⟩
    have i0 : 0 ≤ kk % (ns.length : Int) := Int.emod_nonneg _ (by omega)
    have i1 : kk % (ns.length : Int) < ns.length := Int.emod_lt_of_pos _ (by omega)
    exact atD_at i0 (getElem_map_int (by omega)) (c4 _)
  walk_at "dl"
  refine ifB (fun e => ?_) (fun e => ?_)
  · have e0 : t = [] := by
      cases t with
      | nil => rfl
      | cons a l => simp at e
    subst e0
    refine comp_map (E1 := [.d (.list (ns.map PyData.int)), .ol [], .d (.int m), .un, .un, .un, .un, .un]) ns PyData.int (fun i => .int (if i < 0 then -i else i)) (fun R h => h) (un1 rfl) (small_line (by omega)) (fun i _ R hq => hq _ rfl) ?_
    · refine ⟨small_line (by omega), ?_, (ns.map fun i => if i < 0 then -i else i) ++ [0], ?_, ?_, fun mm _ _ => ?_⟩
      · rw [List.length_map]; exact small_line (by omega)
      · rw [List.map_append, List.map_map]; rfl
      · simp
      · refine ⟨small_line (by decide), ?_⟩
        exact main mm [] (by rw [List.length_cons, List.length_nil]; omega)
  · rcases ht.2 with e0 | ⟨h, r, e0⟩
    · subst e0; simp at e
    · subst e0
      exact main h r (by have := ht.1; omega)
theorem sh_law_draw : ∀ ss QD, spDraw ss QD → ss.length = 3 ∧ mpos 0 ss = [1] := by
  rintro ss QD ⟨ns, t, m, b, rfl, _⟩
  exact ⟨rfl, rfl⟩
/-- some[..]: any item -/
def spPick : SpD := fun ss Q => ∃ (ns : List Int) (t : List D) (sm : D) (xs : List D) (b : Nat), ss = [.d (.list (ns.map PyData.int)), .ol t, .d sm] ∧ (sm = .list xs ∨ sm = .tuple xs) ∧ xs ≠ [] ∧ ns.length ≤ 63 ∧ TownOk t b ∧ b ≤ 10000000 ∧
  ∀ x t', x ∈ xs → TownOk t' (b + 2) → Q x [.ol t']
theorem sh_law_pick : ∀ ss QD, spPick ss QD → ss.length = 3 ∧ mpos 0 ss = [1] := by
  rintro ss QD ⟨ns, t, sm, xs, b, rfl, _⟩
  exact ⟨rfl, rfl⟩
theorem rd_law_pick : ∀ ss QD, spPick ss QD → tb_law_pick spDraw { nx := fun E' => finO [1] E' (QD .none), rt := fun d E' => finO [1] E' (QD d) } (ss ++ List.replicate 0 .un) := by
  rintro ss QD ⟨ns, t, sm, xs, b, rfl, hs, hx, hn, ht, hb, k⟩
  unfold tb_law_pick
  have hp : 0 < xs.length := by
    cases xs with
    | nil => exact absurd rfl hx
    | cons a l => simp
  have mem : ∀ (r : Int) (t' : List D), 0 ≤ r → r < xs.length → TownOk t' (b + 2) → atD xs r fun x => QD x [.ol t'] := fun r t' h0 h1 h2 =>
    atD_at (d := xs[r.toNat]) h0 (List.getElem?_eq_getElem (by omega)) (k _ _ (List.getElem_mem _) h2)
  rcases hs with rfl | rfl
  · walk_at "dl"
    exact ⟨ns, t, _, b, rfl, by omega, hn, ht, hb, mem⟩
  · walk_at "dl"
    exact ⟨ns, t, _, b, rfl, by omega, hn, ht, hb, mem⟩
/-- data without lists, n tuples deep at most -/
def sameOk : Nat → D → Bool
  | _, .none => true
  | _, .bool _ => true
  | _, .int _ => true
  | _, .str x => PyData.strOk x
  | n + 1, .tuple ds => ds.all (sameOk n) && decide (ds.length ≤ 10000000)
  | _, _ => false
def spSame (n : Nat) : SpD := fun ss Q => ∃ d, ss = [.d d, .d d] ∧ sameOk n d = true ∧ Q (.bool true) []
theorem sh_law_same (n : Nat) : ∀ ss QD, spSame n ss QD → ss.length = 2 ∧ mpos 0 ss = [] := by
  rintro ss QD ⟨d, rfl, _⟩
  exact ⟨rfl, rfl⟩
def spNo : SpD := fun _ _ => False
theorem eqv_scal {d : D} (h : (match d with | .tuple _ => False | .list _ => False | .dict _ => False | _ => True)) : PyData.eqv d d = true := by
  cases d <;> first | exact h.elim | simp [PyData.eqv]
theorem zip_self {α : Type} : ∀ l : List α, l.zip l = l.map fun x => (x, x)
  | [] => rfl
  | a :: l => by rw [List.zip_cons_cons, zip_self l]; rfl
theorem rd_law_same (n : Nat) (sp : SpD) (hsp : ∀ m, n = m + 1 → sp = spSame m) : ∀ ss QD, spSame n ss QD → tb_law_same sp { nx := fun E' => finO [] E' (QD .none), rt := fun d E' => finO [] E' (QD d) } (ss ++ List.replicate 2 .un) := by
  rintro ss QD ⟨d, rfl, hd, q⟩
  unfold tb_law_same
  cases d with
  | none => exact q
  | bool b =>
    refine seq_step fun R hR => ?_
    walk_at "dl"
    refine hR _ ?_
    refine seq_step fun R hR => ?_
    walk_at "dl"
    exact q
  | int i =>
    refine seq_step fun R hR => ?_
    walk_at "dl"
    refine hR _ ?_
    refine seq_step fun R hR => ?_
    walk_at "dl"
    refine hR _ ?_
    refine seq_step fun R hR => ?_
    walk_at "dl"
    refine hR _ ?_
    refine seq_step fun R hR => ?_
    walk_at "dl"
    refine hR _ ?_
    walk_at "dl"
    exact q
  | str x =>
    refine seq_step fun R hR => ?_
    walk_at "dl"
    refine hR _ ?_
    refine seq_step fun R hR => ?_
    walk_at "dl"
    refine hR _ ?_
    refine seq_step fun R hR => ?_
    walk_at "dl"
    refine hR _ ?_
    refine seq_step fun R hR => ?_
    have hs : SeqAt.shaped (.str x) = true := by
      have : PyData.strOk x = true := by cases n <;> exact hd
      show (PyData.strOk x && decide ((0 : Nat) ≤ 64)) = true
      rw [this]; rfl
    walk_at "dl"
    refine ⟨hs, ?_⟩
    rw [eqv_scal trivial]; exact q
  | list _ => cases n <;> cases hd
  | dict _ => cases n <;> cases hd
  | tuple ds =>
    cases n with
    | zero => cases hd
    | succ m =>
      have hsp := hsp m rfl
      subst hsp
      have hd : (ds.all (sameOk m) && decide (ds.length ≤ 10000000)) = true := hd
      rw [Bool.and_eq_true] at hd
      have hl : ds.length ≤ 10000000 := of_decide_eq_true hd.2
      have ha := List.all_eq_true.mp hd.1
      refine seq_step fun R hR => ?_
      walk_at "dl"
      refine hR _ ?_
      refine seq_step fun R hR => ?_
      walk_at "dl"
      refine hR _ ?_
      refine seq_step fun R hR => ?_
      refine ⟨trivial, trivial, ifT (b := isTuple (.tuple ds)) rfl ?_⟩
      refine seq_step fun R2 hR2 => ?_
      walk_at "dl"
      refine hR2 _ ?_
      show tComp _ _ _ _ _ _ _
      refine comp_map (E1 := [.d (.tuple ds), .d (.tuple ds), .un, .un]) ds (fun x => PyData.tuple [x, x]) (fun _ => PyData.bool true) (fun R h => ?_) (un2 rfl rfl) (small_line (by omega)) (fun x hx R hq => ?_) ?_
      · show R (zipD ds ds) _
        unfold zipD
        rw [zip_self, List.map_map]
        exact h
      · exact ⟨rfl, rfl, x, rfl, ha x hx, hq _ rfl⟩
      · refine ⟨ds.map fun _ => true, by rw [List.map_map]; rfl, ?_⟩
        have : (ds.map fun _ => true).all id = true := by simp
        rw [this]; exact q
end DL
set_option Elab.async false
set_option linter.all false
set_option maxRecDepth 100000
set_option maxHeartbeats 4000000
/-! FnBoardsT: scores compared (plain). -/
namespace DL
open PySem PySem.Spec PyProof.Rows L2
/-- all of f s o, o one of the scores -/
def sumF (f : Int → Int → Int) (sc : List Int) (s : Int) : Int := (sc.map (f s)).sum
def hF (s o : Int) : Int := if o < s then 2 else if o = s then 1 else 0
def steps : List Int := [20, 50, 90, 130, 170, 220, 270, 320, 370, 430, 500, 600, 750, 900, 1100, 1300, 1500, 1750, 2000, 2250, 2500, 3000, 3500, 4000]
def c_STEPS : D := .tuple (steps.map PyData.int)
def absI (d : Int) : Int := if d < 0 then -d else d
def manyS (d : Int) : Nat := (steps.filter fun x => decide (x ≤ absI d)).length
def scF (d : Int) : Int := if 0 < d then manyS d else -(manyS d : Int)
def xF (s o : Int) : Int := scF (s - o)
def halvesF (sc : List Int) : List Int := sc.map fun s => sumF hF sc s - 1
def crossF (sc : List Int) : List Int := sc.map fun s => sumF xF sc s
theorem sumF_perm (f : Int → Int → Int) {a b : List Int} (h : a.Perm b) (s : Int) : sumF f a s = sumF f b s := by
  have sp : ∀ {a b : List Int}, a.Perm b → a.sum = b.sum := by
    intro a b h
    induction h with
    | nil => rfl
    | cons x _ ih => rw [List.sum_cons, List.sum_cons, ih]
    | swap x y l => rw [List.sum_cons, List.sum_cons, List.sum_cons, List.sum_cons]; omega
    | trans _ _ h1 h2 => rw [h1, h2]
  exact sp (h.map _)
theorem hF_self (s : Int) : hF s s = 1 := by unfold hF; rw [if_neg (by omega), if_pos rfl]
theorem many_0 : manyS 0 = 0 := by decide
theorem halves_len (sc : List Int) : (halvesF sc).length = sc.length := by simp [halvesF]
theorem cross_len (sc : List Int) : (crossF sc).length = sc.length := by simp [crossF]
/-- 2 for each less, 1 for each like one -/
theorem half_count (sc : List Int) (s : Int) : sumF hF sc s = 2 * ((sc.filter fun o => decide (o < s)).length : Int) + (sc.count s : Int) := by
  unfold sumF
  induction sc with
  | nil => rfl
  | cons a l ih =>
    rw [List.map_cons, List.sum_cons, ih, List.filter_cons, List.count_cons]
    unfold hF
    by_cases h1 : a < s
    · rw [if_pos h1, decide_eq_true h1, if_pos rfl, List.length_cons, if_neg (by simp; omega)]; omega
    · rw [if_neg h1, decide_eq_false h1, if_neg Bool.false_ne_true]
      by_cases h2 : a = s
      · rw [if_pos h2, if_pos (by simp [h2])]; omega
      · rw [if_neg h2, if_neg (by simp [h2])]; omega
end DL
set_option Elab.async false
set_option linter.all false
set_option maxRecDepth 100000
set_option maxHeartbeats 4000000
namespace DL
open PySem PySem.Spec PyProof.Rows L2
local macro_rules | `(tactic| walk_at "dl") => `(tactic| simp only [tV, tVr, tFzV, turnD, DL.wipeE, tK, tOpD, tUnD, tBo, tAndD, tOrD, tNotD, tIfE, DL.tAndV, DL.tOrV, DL.tNotV, tTru, truD, okLen, sSet, sSetL, sExpr, sRet, sIf, sNx, tTupD, dNil, dCons, tLstD, tFzD, tApp, tExtd, tPopAt, sSetIx, tIxO, tChainD, tChain3D, tRevT, caStr, opRepT, opAdd, opSub, opMul, opDiv, opMod, opPow, DL.opI, DL.opI0, opB0, opLt, opLe, opGt, opGtD, opLtD, opGe, opEq, opNe, opIs, opIsN, isNone, opIn, opNotIn, opIx, atD_0, atD_1, atD_2, atD_3, putD_0, unNeg, tCa1, tCa2, tCaL1, caLen, caAbs, caMax2, caMin2, caSum, caMax, caMin, caSumT, caMaxT, caMinT, caAll, caTuple, caList, caInt, tIsi, isInt, isBool, isStr, isTuple, isList, notDict, sAsg, gSet, gTupD, gsNil, gsCons, sPar, pNil, pD, pL, setAll, tCallD, aNil, aV, aO, argS, oixs, ndp, putO, tOpL, opCat, opRep, tSlD, slD, tSlL, oNo, oE, tRevD, iLstD, iTupD, iRange1, iRange2, iZipD, iZipM, finO, tTrue, Option.map, eqv_int, eqv_bool, eqv_none, shaped_int, shaped_bool, shaped_none, tLenRange, tSortSet, tLenSet, tCountL, tCountT, tIndexL, tIndexT, DL.tOrT, DL.tAndT, DL.tNotT, tSortRev, caSorted, iEnumL, iEnumT, decide_eq_true_eq, and_self, List.cons_append, List.nil_append, List.replicate, List.getElem?_cons_zero, List.getElem?_cons_succ, List.set_cons_zero, List.set_cons_succ, List.length_cons, List.length_nil, true_and, and_true, if_true, if_false, Bool.false_eq_true, List.contains_nil, Bool.not_false, Bool.not_true, Bool.and_self, Bool.and_true, Bool.true_and, decide_true, decide_false, beq_self_eq_true])
def tb_halves : TSd :=
  sSeq (sSetL 1 (tLstD (dNil)))
      (sSeq (sFor (iTupD (tV 0)) (gSet 2) (sSeq (sSet 3 (tCa1 caLen (tFzD (tComp (iTupD (tV 0)) (gSet 4) (tBo (tOpD opLt (tV 4) (tV 2))) (tK (.int 1)) [4]))))
      (sExpr (tApp 1 (tOpD opSub (tOpD opAdd (tOpD opMul (tK (.int 2)) (tV 3)) (tCountT (tV 0) (tV 2))) (tK (.int 1)))))))
      (sRet (tCa1 caTuple (tVr 1))))
def tb_scaled : TSd :=
  sSeq (sSet 1 (tCa1 caLen (tFzD (tComp (iTupD (tK c_STEPS)) (gSet 2) (tBo (tOpD opLe (tV 2) (tCa1 caAbs (tV 0)))) (tV 2) [2]))))
      (sRet (tIfE (tBo (tOpD opGt (tV 0) (tK (.int 0)))) (tV 1) (tUnD unNeg (tV 1))))
def tb_cross (sp_scaled : SpD) : TSd :=
  sRet (tCa1 caTuple (tFzD (tComp (iTupD (tV 0)) (gSet 1) (tTrue) (tCa1 caSum (tFzD (tComp (iTupD (tV 0)) (gSet 2) (tTrue) (tCallD sp_scaled (aV (tOpD opSub (tV 1) (tV 2)) (aNil))) [2]))) [1])))
theorem cntI (ns : List Int) (k : Int) : cntD (ns.map PyData.int) (.int k) = ns.count k := by
  unfold cntD
  rw [List.countP_map, List.count_eq_countP]
  refine List.countP_congr fun a _ => ?_
  show (PyData.eqv (.int a) (.int k) = true) ↔ (a == k) = true
  rw [eqv_int]; simp
theorem okAllI (ns : List Int) (k : Int) : okAll (ns.map PyData.int) (.int k) := ⟨all_ints ns, rfl⟩
theorem getI {ns : List Int} {i : Nat} {d : D} (h : (ns.map PyData.int)[i]? = some d) : ∃ s, d = .int s ∧ ns[i]? = some s ∧ s ∈ ns := by
  rw [List.getElem?_map] at h
  cases e : ns[i]? with
  | none => rw [e] at h; cases h
  | some s => rw [e] at h; cases h; exact ⟨s, rfl, rfl, List.mem_of_getElem? e⟩
theorem take_snoc {α : Type} {l : List α} {i : Nat} {a : α} (h : l[i]? = some a) : l.take (i + 1) = l.take i ++ [a] := by
  rw [List.take_succ, h]; rfl
def spHalves : SpD := fun ss Q => ∃ sc : List Int, ss = [.d (.tuple (sc.map PyData.int))] ∧ sc.length ≤ 1000 ∧ Q (.tuple ((halvesF sc).map PyData.int)) []
theorem sh_halves : ∀ ss QD, spHalves ss QD → ss.length = 1 ∧ mpos 0 ss = [] := by rintro ss QD ⟨sc, rfl, _⟩; exact ⟨rfl, rfl⟩
theorem rd_halves : ∀ ss QD, spHalves ss QD → tb_halves { nx := fun E' => finO [] E' (QD .none), rt := fun d E' => finO [] E' (QD d) } (ss ++ List.replicate 4 .un) := by
  rintro ss QD ⟨sc, rfl, hl, q⟩
  unfold tb_halves
  refine seq_step fun R hR => ?_
  walk_at "dl"
  refine ⟨small_line (by decide), hR _ ?_⟩
  refine seq_step fun R hR => ?_
  refine for_inv (ds := sc.map PyData.int) (E1 := [.d (.tuple (sc.map PyData.int)), .ol [], .un, .un, .un]) (fun Q hq => hq)
    (fun i E => ∃ a2 a3, E = [.d (.tuple (sc.map PyData.int)), .ol (((halvesF sc).take i).map PyData.int), a2, a3, .un]) ⟨_, _, rfl⟩ (fun i d E hd hE R2 hR2 => ?_) (fun E hE => ?_)
  · obtain ⟨a2, a3, rfl⟩ := hE
    obtain ⟨s, rfl, hs, hm⟩ := getI hd
    have hi := (List.getElem?_eq_some_iff.mp hs).1
    refine seq_step fun R3 hR3 => ?_
    refine comp_filter (E1 := [.d (.tuple (sc.map PyData.int)), .ol (((halvesF sc).take i).map PyData.int), .d (.int s), a3, .un]) sc PyData.int (fun o => decide (o < s)) (fun _ => .int 1) (fun Q h => h) (un1 rfl) (small_line (by omega)) (fun x hx R4 hq => ?_) ?_
    · show if decide (x < s) = true then R4 (some (.int 1)) _ else R4 none _
      refine ifB (fun g => ?_) (fun g => ?_)
      · rw [g] at hq; exact hq _ rfl
      · rw [g] at hq; exact hq _ rfl
    refine hR3 _ ?_
    walk_at "dl"
    have hfl : (sc.filter fun o => decide (o < s)).length ≤ sc.length := List.length_filter_le _ _
    rw [List.length_map]
    refine ⟨cmul_small (by decide) (by omega), okAllI _ _, ?_⟩
    refine ⟨Nat.lt_of_lt_of_le (show _ < 10000 by rw [List.length_map, List.length_take, halves_len]; omega) (small_line (by decide)), hR2 _ ⟨.d (.int s), .d (.int ((sc.filter fun o => decide (o < s)).length : Int)), ?_⟩⟩
    rw [cntI]
    have hh : (halvesF sc)[i]? = some (2 * ((sc.filter fun o => decide (o < s)).length : Int) + (sc.count s : Int) - 1) := by
      unfold halvesF
      rw [List.getElem?_map, hs, ← half_count]; rfl
    rw [take_snoc hh, List.map_append]
    rfl
  · obtain ⟨a2, a3, rfl⟩ := hE
    refine hR _ ?_
    rw [List.length_map, List.take_of_length_le (by rw [halves_len]; exact Nat.le_refl _)]
    exact q
def spScaled : SpD := fun ss Q => ∃ d : Int, ss = [.d (.int d)] ∧ Q (.int (scF d)) []
theorem sh_scaled : ∀ ss QD, spScaled ss QD → ss.length = 1 ∧ mpos 0 ss = [] := by rintro ss QD ⟨d, rfl, _⟩; exact ⟨rfl, rfl⟩
theorem scaled_go (st : List Int) (d ab : Int) (hst : st.length ≤ 1000) (hab : (if d < 0 then -d else d) = ab) (R : Env → Prop) (rt : D → Env → Prop) (hR : R [.d (.int d), .d (.int ((st.filter fun x => decide (x ≤ ab)).length : Nat)), .un]) :
    sSet 1 (tCa1 caLen (tFzD (tComp (iTupD (tK (PyData.tuple (List.map PyData.int st)))) (gSet 2) (tBo (tOpD opLe (tV 2) (tCa1 caAbs (tV 0)))) (tV 2) [2]))) { nx := R, rt := rt } ([S.d (PyData.int d)] ++ List.replicate 2 S.un) := by
  refine comp_filter (E1 := [.d (.int d), .un, .un]) st PyData.int (fun x => decide (x ≤ ab)) PyData.int (fun Q h => h) (un1 rfl) (small_line (by omega)) (fun x hx R4 hq => ?_) ?_
  · walk_at "dl"
    rw [hab]
    by_cases g : x ≤ ab
    · rw [if_pos g]; rw [decide_eq_true g] at hq; exact hq _ rfl
    · rw [if_neg g]; rw [decide_eq_false g] at hq; exact hq _ rfl
  · have hl : ((st.filter fun x => decide (x ≤ ab)).map PyData.int).length = (st.filter fun x => decide (x ≤ ab)).length := List.length_map _
    rw [← hl] at hR
    exact hR
theorem scF_eq (d : Int) : scF d = if 0 < d then (((steps.filter fun x => decide (x ≤ absI d)).length : Nat) : Int) else -(((steps.filter fun x => decide (x ≤ absI d)).length : Nat) : Int) := rfl
theorem scaled_end (d : Int) (m : Nat) (QD : D → List S → Prop) (q : QD (.int (if 0 < d then (m : Int) else -(m : Int))) []) : sRet (tIfE (tBo (tOpD opGt (tV 0) (tK (.int 0)))) (tV 1) (tUnD unNeg (tV 1))) { nx := fun E' => finO [] E' (QD .none), rt := fun d E' => finO [] E' (QD d) } [.d (.int d), .d (.int (m : Int)), .un] := by
  walk_at "dl"
  by_cases g : 0 < d
  · rw [if_pos g] at q
    rw [if_pos g]; exact q
  · rw [if_neg g] at q
    rw [if_neg g]; exact q
theorem rd_scaled : ∀ ss QD, spScaled ss QD → tb_scaled { nx := fun E' => finO [] E' (QD .none), rt := fun d E' => finO [] E' (QD d) } (ss ++ List.replicate 2 .un) := by
  rintro ss QD ⟨d, rfl, q⟩
  rw [scF_eq] at q
  unfold tb_scaled c_STEPS
  refine seq_step fun R hR => ?_
  exact scaled_go steps d (absI d) (by decide) rfl R _ (hR _ (scaled_end d _ QD q))
def spCross : SpD := fun ss Q => ∃ sc : List Int, ss = [.d (.tuple (sc.map PyData.int))] ∧ sc.length ≤ 1000 ∧ Q (.tuple ((crossF sc).map PyData.int)) []
theorem sh_cross : ∀ ss QD, spCross ss QD → ss.length = 1 ∧ mpos 0 ss = [] := by rintro ss QD ⟨sc, rfl, _⟩; exact ⟨rfl, rfl⟩
theorem rd_cross : ∀ ss QD, spCross ss QD → tb_cross spScaled { nx := fun E' => finO [] E' (QD .none), rt := fun d E' => finO [] E' (QD d) } (ss ++ List.replicate 2 .un) := by
  rintro ss QD ⟨sc, rfl, hl, q⟩
  unfold tb_cross
  refine comp_map (E1 := [.d (.tuple (sc.map PyData.int)), .un, .un]) sc PyData.int (fun s => .int (sumF xF sc s)) (fun Q h => h) (un1 rfl) (small_line (by omega)) (fun s hs R2 hq => ?_) ?_
  · refine comp_map (E1 := [.d (.tuple (sc.map PyData.int)), .d (.int s), .un]) sc PyData.int (fun o => .int (xF s o)) (fun Q h => h) (un1 rfl) (small_line (by omega)) (fun o ho R3 hq3 => ?_) ?_
    · exact ⟨rfl, s - o, rfl, hq3 _ rfl⟩
    · exact ⟨sc.map (xF s), by rw [List.map_map]; rfl, hq _ rfl⟩
  · rw [show sc.map (fun s => PyData.int (sumF xF sc s)) = (crossF sc).map PyData.int by unfold crossF; rw [List.map_map]; rfl]
    exact q
theorem same_ints (n : Nat) (ns : List Int) (h : ns.length ≤ 1000) : sameOk (n + 1) (.tuple (ns.map PyData.int)) = true := by
  show ((ns.map PyData.int).all (sameOk n) && decide ((ns.map PyData.int).length ≤ 10000000)) = true
  rw [List.length_map, decide_eq_true (by omega), Bool.and_true, List.all_map]
  exact List.all_eq_true.mpr fun _ _ => by cases n <;> rfl
theorem same_pair (n : Nat) {a b : D} (ha : sameOk n a = true) (hb : sameOk n b = true) : sameOk (n + 1) (.tuple [a, b]) = true := by
  show ([a, b].all (sameOk n) && decide (2 ≤ 10000000)) = true
  simp [ha, hb]
end DL
set_option Elab.async false
set_option linter.all false
set_option maxRecDepth 100000
set_option maxHeartbeats 4000000
/-! FnStandT: standings (plain). -/
namespace DL
open PySem PySem.Spec PyProof.Rows L2
abbrev Row := Str × Int
def rowD (r : Row) : D := .tuple [.str r.1, .int r.2]
def totF (rs : List Row) (n : Str) : Int := ((rs.filter fun r => decide (r.1 = n)).map (·.2)).sum
def addKey (ks : List Str) (n : Str) : List Str := if n ∈ ks then ks else ks ++ [n]
def keysR (rs : List Row) : List Str := rs.foldl (fun ks r => addKey ks r.1) []
def totK (rs : List Row) : List (Key × D) := (keysR rs).map fun n => (Sum.inr n, PyData.int (totF rs n))
theorem keysR_snoc (rs : List Row) (r : Row) : keysR (rs ++ [r]) = addKey (keysR rs) r.1 := by unfold keysR; rw [List.foldl_append]; rfl
theorem sum_append_int (a b : List Int) : (a ++ b).sum = a.sum + b.sum := by
  induction a with
  | nil => simp
  | cons x l ih => rw [List.cons_append, List.sum_cons, List.sum_cons, ih]; omega
theorem totF_snoc (rs : List Row) (r : Row) (n : Str) : totF (rs ++ [r]) n = totF rs n + if r.1 = n then r.2 else 0 := by
  unfold totF
  rw [List.filter_append, List.map_append, sum_append_int]
  congr 1
  by_cases h : r.1 = n
  · rw [if_pos h, List.filter_cons_of_pos (by simp [h])]; simp
  · rw [if_neg h, List.filter_cons_of_neg (by simp [h])]; rfl
theorem mem_addKey {ks : List Str} {n k : Str} : k ∈ addKey ks n ↔ k ∈ ks ∨ k = n := by
  unfold addKey
  split
  · rename_i h
    exact ⟨.inl, fun z => z.elim id fun e => by rw [e]; exact h⟩
  · rw [List.mem_append, List.mem_singleton]
theorem nodup_addKey {ks : List Str} {n : Str} (h : ks.Nodup) : (addKey ks n).Nodup := by
  unfold addKey
  split
  · exact h
  · rename_i hn
    refine List.nodup_append.mpr ⟨h, by simp, fun a ha b hb => ?_⟩
    rw [List.mem_singleton.mp hb]
    exact fun e => hn (by rw [← e]; exact ha)
/-- by the last one -/
theorem snoc_ind {α : Type} {P : List α → Prop} (h0 : P []) (h1 : ∀ l a, P l → P (l ++ [a])) : ∀ l, P l := fun l => by
  have : ∀ (n : Nat) (l : List α), l.length = n → P l := by
    intro n
    induction n with
    | zero => intro l e; rw [List.eq_nil_of_length_eq_zero e]; exact h0
    | succ n ih =>
      intro l e
      have hl : l ≠ [] := by intro z; rw [z] at e; cases e
      rw [← List.dropLast_concat_getLast hl]
      exact h1 _ _ (ih _ (by rw [List.length_dropLast]; omega))
  exact this _ l rfl
theorem mem_keysR : ∀ (rs : List Row) (k : Str), k ∈ keysR rs ↔ k ∈ rs.map (·.1) := by
  intro rs
  refine snoc_ind (P := fun rs => ∀ k, k ∈ keysR rs ↔ k ∈ rs.map (·.1)) (fun k => by simp [keysR]) (fun l a ih k => ?_) rs
  rw [keysR_snoc, mem_addKey, ih k, List.map_append, List.mem_append, List.map_singleton, List.mem_singleton]
theorem nodup_keysR (rs : List Row) : (keysR rs).Nodup := snoc_ind (P := fun rs => (keysR rs).Nodup) List.nodup_nil (fun l a ih => by rw [keysR_snoc]; exact nodup_addKey ih) rs
theorem len_keysR (rs : List Row) : (keysR rs).length ≤ rs.length := snoc_ind (P := fun rs => (keysR rs).length ≤ rs.length) (Nat.le_refl _) (fun l a ih => by
  rw [keysR_snoc, List.length_append]
  unfold addKey
  split
  · show _ ≤ l.length + 1; omega
  · rw [List.length_append]; show _ + 1 ≤ l.length + 1; omega) rs
theorem totF_none {rs : List Row} {n : Str} (h : n ∉ rs.map (·.1)) : totF rs n = 0 := by
  unfold totF
  rw [List.filter_eq_nil_iff.mpr fun r hr => ?_]
  · rfl
  · have : r.1 ≠ n := fun e => h (by rw [← e]; exact List.mem_map_of_mem hr)
    simp [this]
theorem find_keys (f : Str → D) : ∀ (ks : List Str) (n : Str), ((ks.map fun k => ((Sum.inr k : Key), f k)).find? fun kv => decide (kv.1 = Sum.inr n)) = if n ∈ ks then some (Sum.inr n, f n) else none
  | [], n => by simp
  | k :: ks, n => by
    rw [List.map_cons, List.find?_cons]
    by_cases h : k = n
    · subst h; simp
    · have e : decide ((Sum.inr k : Key) = Sum.inr n) = false := decide_eq_false (fun z => h (by injection z))
      rw [e, find_keys f ks n]
      have : (n ∈ k :: ks) ↔ n ∈ ks := by
        rw [List.mem_cons]
        exact ⟨fun z => z.elim (fun z => absurd z.symm h) id, .inr⟩
      by_cases hm : n ∈ ks
      · rw [if_pos hm, if_pos (this.mpr hm)]
      · rw [if_neg hm, if_neg fun z => hm (this.mp z)]
theorem valK_keys (f : Str → D) (ks : List Str) (n : Str) : valK (ks.map fun k => ((Sum.inr k : Key), f k)) (Sum.inr n) = if n ∈ ks then some (f n) else none := by
  unfold valK
  rw [find_keys]
  split <;> rfl
theorem tot_val {rs : List Row} {n : Str} (h : n ∈ keysR rs) : valK (totK rs) (.inr n) = some (.int (totF rs n)) := by
  unfold totK
  rw [valK_keys (fun n => PyData.int (totF rs n)), if_pos h]
theorem tot_get (rs : List Row) (n : Str) : (valK (totK rs) (.inr n)).getD (.int 0) = .int (totF rs n) := by
  unfold totK
  rw [valK_keys (fun n => PyData.int (totF rs n))]
  split
  · rfl
  · rename_i h
    rw [totF_none (fun z => h ((mem_keysR rs n).mpr z))]; rfl
theorem tot_put (rs : List Row) (n : Str) (x : Int) : putD2 (totK rs) (.inr n) (.int (totF rs n + x)) = totK (rs ++ [(n, x)]) := by
  have hany : ((totK rs).any fun kv => decide (kv.1 = Sum.inr n)) = decide (n ∈ keysR rs) := by
    unfold totK
    rw [List.any_map]
    by_cases h : n ∈ keysR rs
    · rw [decide_eq_true h]
      exact List.any_eq_true.mpr ⟨n, h, by simp⟩
    · rw [decide_eq_false h]
      refine List.any_eq_false.mpr fun k hk => ?_
      have : k ≠ n := fun e => h (by rw [← e]; exact hk)
      simp [this]
  unfold putD2
  rw [hany]
  unfold totK
  rw [keysR_snoc]
  unfold addKey
  by_cases h : n ∈ keysR rs
  · rw [if_pos (decide_eq_true h), if_pos h, List.map_map]
    refine List.map_congr_left fun k hk => ?_
    show (if (Sum.inr k : Key) = Sum.inr n then ((Sum.inr k : Key), PyData.int (totF rs n + x)) else (Sum.inr k, PyData.int (totF rs k))) = (Sum.inr k, PyData.int (totF (rs ++ [(n, x)]) k))
    rw [totF_snoc]
    by_cases e : k = n
    · subst e; simp
    · rw [if_neg (fun z => e (by injection z)), if_neg (fun z => e z.symm)]; simp
  · rw [if_neg (by simp [h]), if_neg h, List.map_append]
    congr 1
    · refine List.map_congr_left fun k hk => ?_
      rw [totF_snoc, if_neg (fun e => h (by rw [show n = k from e]; exact hk))]; simp
    · rw [List.map_singleton, totF_snoc]; simp
/-- the names in order -/
def Names (rs : List Row) (ys : List Str) : Prop := ys.Nodup ∧ (∀ k, k ∈ ys ↔ k ∈ rs.map (·.1)) ∧ sortedS ys = true
theorem names_perm {rs : List Row} {ys : List Str} (p : ys.Perm (keysR rs)) (s : sortedS ys = true) : Names rs ys := ⟨p.nodup_iff.mpr (nodup_keysR rs), fun k => by rw [p.mem_iff, mem_keysR], s⟩
def leS (a b : Str) : Prop := ¬ b.cps.toList < a.cps.toList
theorem leS_trans {a b c : Str} (h1 : leS a b) (h2 : leS b c) : leS a c := by
  unfold leS at *
  rw [List.not_lt] at *
  exact List.le_trans h1 h2
theorem leS_antisymm {a b : Str} (h1 : leS a b) (h2 : leS b a) : a = b := by
  unfold leS at *
  rw [List.not_lt] at *
  exact Str.ext' (Array.toList_inj.mp (List.le_antisymm h1 h2))
theorem rising_pw : ∀ (l : List Str) (x : Str), risingS x l = true → (x :: l).Pairwise leS
  | [], x, _ => List.pairwise_singleton _ _
  | y :: l, x, h => by
    unfold risingS at h
    rw [Bool.and_eq_true] at h
    have ih := rising_pw l y h.2
    have hxy : leS x y := by
      have z := h.1
      rw [ltCps_eq] at z
      unfold leS
      simpa using z
    refine List.pairwise_cons.mpr ⟨fun z hz => ?_, ih⟩
    rcases List.mem_cons.mp hz with rfl | hz
    · exact hxy
    · exact leS_trans hxy ((List.pairwise_cons.mp ih).1 z hz)
theorem sorted_pw {l : List Str} (h : sortedS l = true) : l.Pairwise leS := by
  cases l with
  | nil => exact .nil
  | cons x l => exact rising_pw l x h
theorem nodup_perm {a b : List Str} (ha : a.Nodup) (hb : b.Nodup) (h : ∀ k, k ∈ a ↔ k ∈ b) : a.Perm b := by
  induction a generalizing b with
  | nil =>
    cases b with
    | nil => exact .refl _
    | cons y b => exact absurd ((h y).mpr List.mem_cons_self) (by simp)
  | cons x a ih =>
    have hx : x ∈ b := (h x).mp List.mem_cons_self
    obtain ⟨n1, n2⟩ := List.nodup_cons.mp ha
    have := ih (b := b.erase x) n2 (hb.erase x) fun k => by
      rw [List.Nodup.mem_erase_iff hb]
      constructor
      · intro hk
        exact ⟨fun e => n1 (by rw [← e]; exact hk), (h k).mp (List.mem_cons_of_mem _ hk)⟩
      · intro ⟨ne, hk⟩
        exact (List.mem_cons.mp ((h k).mpr hk)).elim (fun e => absurd e ne) id
    exact (this.cons x).trans (List.perm_cons_erase hx).symm
theorem names_one {rs : List Row} {ys zs : List Str} (h1 : Names rs ys) (h2 : Names rs zs) : ys = zs :=
  List.Perm.eq_of_pairwise (le := leS) (fun a b _ _ => leS_antisymm) (sorted_pw h1.2.2) (sorted_pw h2.2.2) (nodup_perm h1.1 h2.1 fun k => by rw [h1.2.1, h2.2.1])
def placeF (rs : List Row) (ys : List Str) (n : Str) : Int := 1 + ((ys.filter fun m => decide (totF rs n < totF rs m)).length : Nat)
def standD (rs : List Row) (ys : List Str) (n : Str) : D := .tuple [.int (placeF rs ys n), .str n, .int (totF rs n)]
theorem place_perm {rs : List Row} {ys ks : List Str} (p : ks.Perm ys) (n : Str) : placeF rs ks n = placeF rs ys n := by
  unfold placeF
  rw [(p.filter _).length_eq]
theorem sortOk_stand (rs : List Row) (ys : List Str) {zs : List Str} (hz : ∀ z ∈ zs, PyData.strOk z = true) : sortOk (zs.map (standD rs ys)) := by
  refine ⟨fun d hd d' hd' => ?_, .inl fun d hd => ?_, fun d hd => ?_⟩
  · obtain ⟨a, _, rfl⟩ := List.mem_map.mp hd
    obtain ⟨b, _, rfl⟩ := List.mem_map.mp hd'
    simp [standD, PySem.W.alike, PySem.W.alikeAll]
  · obtain ⟨a, _, rfl⟩ := List.mem_map.mp hd
    exact ⟨_, _, rfl⟩
  · obtain ⟨a, ha, rfl⟩ := List.mem_map.mp hd
    exact ⟨by simp [standD, PyData.depth, PyData.depthAll], by simp [standD, PyData.canLay0, PyData.canLayAll0, hz a ha]⟩
end DL
set_option Elab.async false
set_option linter.all false
set_option maxRecDepth 100000
set_option maxHeartbeats 4000000
namespace DL
open PySem PySem.Spec PyProof.Rows L2
local macro_rules | `(tactic| walk_at "dl") => `(tactic| simp only [tV, tVr, tFzV, turnD, DL.wipeE, tK, tOpD, tUnD, tBo, tAndD, tOrD, tNotD, tIfE, DL.tAndV, DL.tOrV, DL.tNotV, tTru, truD, okLen, sSet, sSetL, sExpr, sRet, sIf, sNx, tTupD, dNil, dCons, tLstD, tFzD, tApp, tExtd, tPopAt, sSetIx, tIxO, tChainD, tChain3D, tRevT, caStr, opRepT, opAdd, opSub, opMul, opDiv, opMod, opPow, DL.opI, DL.opI0, opB0, opLt, opLe, opGt, opGtD, opLtD, opGe, opEq, opNe, opIs, opIsN, isNone, opIn, opNotIn, opIx, atD_0, atD_1, atD_2, atD_3, putD_0, unNeg, tCa1, tCa2, tCaL1, caLen, caAbs, caMax2, caMin2, caSum, caMax, caMin, caSumT, caMaxT, caMinT, caAll, caTuple, caList, caInt, tIsi, isInt, isBool, isStr, isTuple, isList, notDict, sAsg, gSet, gTupD, gLstD, gsNil, gsCons, sPar, pNil, pD, pL, setAll, tCallD, aNil, aV, aO, argS, oixs, ndp, putO, tOpL, opCat, opRep, tSlD, slD, tSlL, oNo, oE, tRevD, iLstD, iTupD, iRange1, iRange2, iZipD, iZipM, finO, tTrue, Option.map, eqv_int, eqv_bool, eqv_none, shaped_int, shaped_bool, shaped_none, tLenRange, tSortSet, tSortSetS, tSortDk, tDkGet2, tDkGetD, tDkGet2M, sDkPut, tInDk, tDkGet, iDvK, keyOf, optQ, mDkD, tFzKM, opLeS, tFind, tSplit, tJoinS, caIntS, iStrD, opMulS, tRevS, tSlO, iZipN, tLenSet, tLenSetP, tSortSetP, tCountL, tCountT, tIndexL, tIndexT, DL.tOrT, DL.tAndT, DL.tNotT, tSortRev, caSorted, iEnumL, iEnumT, tDGetV, tDGetD, tDGet2V, dictAt, sDPutV, sSetM, mDt, mDk, pM, tInN, tNotInN, tCallM, amM, amV, tListRg, iDk, iDv, iDi, tLDk, tLDv, tTruDk, mDt1, tFzM, tCall0D, tFldD, tFldR, fldD, fldL, obD, unH_hdl, obGet, setOb, putOD, sFldD, sFldL, tMethO, tAppF, tPopF, sRaise, keyB_2, keyB_3, keyB_4, decide_eq_true_eq, and_self, List.cons_append, List.nil_append, List.replicate, List.getElem?_cons_zero, List.getElem?_cons_succ, List.set_cons_zero, List.set_cons_succ, List.length_cons, List.length_nil, true_and, and_true, if_true, if_false, Bool.false_eq_true, List.contains_nil, Bool.not_false, Bool.not_true, Bool.and_self, Bool.and_true, Bool.true_and, decide_true, decide_false, beq_self_eq_true])
def tb_standings : TSd :=
  sSeq (sSetM 1 (mDk))
      (sSeq (sFor (iTupD (tV 0)) (gTupD 2 (gsCons (gSet 2) (gsCons (gSet 3) (gsNil)))) (sDkPut 1 (tV 2) (tOpD opAdd (tDkGet2 1 (tV 2) (tK (.int 0))) (tV 3))))
      (sSeq (sSetL 4 (tLstD (dNil)))
      (sSeq (sFor (iLstD (tFzD (tSortDk 1))) (gSet 2) (sSeq (sSet 5 (tOpD opAdd (tK (.int 1)) (tCa1 caLen (tFzD (tComp (iDvK (tFzK 1)) (gSet 6) (tBo (tOpD opGt (tV 6) (tDkGetD (tFzK 1) (tV 2)))) (tK (.int 1)) [6])))))
      (sExpr (tApp 4 (tTupD (dCons (tV 5) (dCons (tV 2) (dCons (tDkGetD (tFzK 1) (tV 2)) (dNil)))))))))
      (sRet (tCa1 caTuple (tFzD (tCaL1 caSorted (tVr 4))))))))
theorem fzK_step {i : Nat} {E : Env} {Q : D → Env → Prop} {kvs : List (Key × D)} {s1 : S} (e : E[i]? = some s1) (hs : s1 = .dk kvs ∨ s1 = .d (dkD kvs)) (ne : kvs ≠ []) (q : Q (dkD kvs) (E.set i (.d (dkD kvs)))) : tFzK i E Q := by
  unfold tFzK
  rw [e]
  rcases hs with rfl | rfl
  · exact ⟨ne, q⟩
  · show Q (dkD kvs) E
    have : E.set i (.d (dkD kvs)) = E := by
      refine List.ext_getElem? fun j => ?_
      by_cases h : i = j
      · subst h; rw [List.getElem?_set_self (List.getElem?_eq_some_iff.mp e).1, e]
      · rw [List.getElem?_set_ne h]
    rw [this] at q; exact q
def spStand : SpD := fun ss Q => ∃ rs : List Row, ss = [.d (.tuple (rs.map rowD))] ∧ rs.length ≤ 50 ∧ (∀ r ∈ rs, PyData.strOk r.1 = true) ∧ ∀ ys, Names rs ys → Q (.tuple (sortD false (ys.map (standD rs ys)))) []
theorem sh_standings : ∀ ss QD, spStand ss QD → ss.length = 1 ∧ mpos 0 ss = [] := by rintro ss QD ⟨sc, rfl, _⟩; exact ⟨rfl, rfl⟩
theorem rd_standings : ∀ ss QD, spStand ss QD → tb_standings { nx := fun E' => finO [] E' (QD .none), rt := fun d E' => finO [] E' (QD d) } (ss ++ List.replicate 6 .un) := by
  rintro ss QD ⟨rs, rfl, hl, hok, q⟩
  unfold tb_standings
  refine seq_step fun R hR => ?_
  walk_at "dl"
  refine hR _ ?_
  refine seq_step fun R hR => ?_
  refine for_inv (ds := rs.map rowD) (E1 := [.d (.tuple (rs.map rowD)), .dk [], .un, .un, .un, .un, .un]) (fun Q h => h)
    (fun i E => ∃ a2 a3, E = [.d (.tuple (rs.map rowD)), .dk (totK (rs.take i)), a2, a3, .un, .un, .un]) ⟨_, _, rfl⟩ (fun i d E hd hE R2 hR2 => ?_) (fun E hE => ?_)
  · obtain ⟨a2, a3, rfl⟩ := hE
    rw [List.getElem?_map, Option.map_eq_some_iff] at hd
    obtain ⟨⟨n, x⟩, hr, rfl⟩ := hd
    have hi := (List.getElem?_eq_some_iff.mp hr).1
    show gTupD 2 _ (PyData.tuple [.str n, .int x]) _ _
    walk_at "dl"
    rw [tot_get]
    have hlen : (totK (rs.take i)).length ≤ 50 := by
      have := len_keysR (rs.take i)
      unfold totK
      rw [List.length_map]
      rw [List.length_take] at this
      omega
    refine ⟨Nat.lt_of_le_of_lt hlen (Nat.lt_of_lt_of_le (show 50 < 100 by decide) (small_line (by decide))), hR2 _ ⟨.d (.str n), .d (.int x), ?_⟩⟩
    have ht : rs.take (i + 1) = rs.take i ++ [(n, x)] := by rw [List.take_succ, hr]; rfl
    rw [tot_put, ht]
  · obtain ⟨a2, a3, rfl⟩ := hE
    rw [List.length_map, List.take_of_length_le (Nat.le_refl _)]
    refine hR _ ?_
    clear hR R
    refine seq_step fun R hR => ?_
    walk_at "dl"
    refine ⟨small_line (by decide), hR _ ?_⟩
    clear hR R
    refine seq_step fun R hR => ?_
    unfold sFor
    walk_at "dl"
    have hkl := len_keysR rs
    refine ⟨keysR rs, by unfold totK; rw [List.map_map]; rfl, by omega, fun ys hp hs => ?_⟩
    have nm := names_perm hp hs
    have hyl : ys.length ≤ 50 := by rw [hp.length_eq]; omega
    have hyo : ∀ z ∈ ys, PyData.strOk z = true := fun z hz => by
      obtain ⟨r, h1, rfl⟩ := List.mem_map.mp ((nm.2.1 z).mp hz)
      exact hok r h1
    have q := q ys nm
    refine forD_inv (fun i E => ∃ s1 a2 a5, E = [.d (.tuple (rs.map rowD)), s1, a2, a3, .ol ((ys.take i).map (standD rs ys)), a5, .un] ∧ (s1 = .dk (totK rs) ∨ s1 = .d (dkD (totK rs)))) ⟨_, _, _, rfl, .inl rfl⟩ (fun i d E hd hE R2 hR2 => ?_) (fun E hE => ?_)
    · obtain ⟨s1, b2, b5, rfl, hs1⟩ := hE
      rw [List.getElem?_map, Option.map_eq_some_iff] at hd
      obtain ⟨n, hn, rfl⟩ := hd
      have hm : n ∈ ys := List.mem_of_getElem? hn
      have hk : n ∈ keysR rs := hp.mem_iff.mp hm
      have ne : totK rs ≠ [] := by
        unfold totK
        intro z
        rw [List.map_eq_nil_iff] at z
        rw [z] at hk; cases hk
      have hdk : keysOf ((totK rs).map fun p => (keyDt p.1, p.2)) = some (totK rs) := keysOf_dk _
      walk_at "dl"
      refine seq_step fun R3 hR3 => ?_
      refine comp_filter (E1 := [.d (.tuple (rs.map rowD)), .d (dkD (totK rs)), .d (.str n), a3, .ol ((ys.take i).map (standD rs ys)), b5, .un]) (keysR rs) (fun m => .int (totF rs m)) (fun m => decide (totF rs n < totF rs m)) (fun _ => .int 1) (fun Q h => ?_) (un1 rfl) (small_line (by omega)) (fun m hm2 R4 hq => ?_) ?_
      · refine fzK_step (s1 := s1) rfl hs1 ne ?_
        show optQ (keysOf _) _
        rw [hdk]
        refine ⟨ne, ?_⟩
        unfold totK
        rw [List.map_map]
        exact h
      · walk_at "dl"
        refine fzK_step (kvs := totK rs) (s1 := .d (dkD (totK rs))) rfl (.inr rfl) ne ?_
        show optQ (keysOf _) _
        rw [hdk]
        refine ⟨ne, ?_⟩
        show optQ (valK (totK rs) (.inr n)) _
        rw [tot_val hk]
        walk_at "dl"
        by_cases g : totF rs n < totF rs m
        · rw [if_pos g]; rw [decide_eq_true g] at hq; exact hq _ rfl
        · rw [if_neg g]; rw [decide_eq_false g] at hq; exact hq _ rfl
      · have hfl : ((keysR rs).filter fun m => decide (totF rs n < totF rs m)).length ≤ (keysR rs).length := List.length_filter_le _ _
        walk_at "dl"
        refine hR3 _ ?_
        have pl := place_perm (rs := rs) hp.symm n
        walk_at "dl"
        refine fzK_step (kvs := totK rs) (s1 := .d (dkD (totK rs))) rfl (.inr rfl) ne ?_
        show optQ (keysOf _) _
        rw [hdk]
        refine ⟨ne, ?_⟩
        show optQ (valK (totK rs) (.inr n)) _
        rw [tot_val hk]
        walk_at "dl"
        generalize hpn : (1 + ((((keysR rs).filter fun m => decide (totF rs n < totF rs m)).map fun _ => PyData.int 1).length : Int)) = pn
        refine ⟨small_line (by decide), Nat.lt_of_le_of_lt (m := 50) (by rw [List.length_map, List.length_take]; omega) (Nat.lt_of_lt_of_le (show 50 < 100 by decide) (small_line (by decide))), hR2 _ ⟨.d (dkD (totK rs)), .d (.str n), .d (.int pn), ?_, .inr rfl⟩⟩
        have ht : ys.take (i + 1) = ys.take i ++ [n] := by rw [List.take_succ, hn]; rfl
        rw [ht, List.map_append]
        have e : standD rs ys n = .tuple [.int pn, .str n, .int (totF rs n)] := by
          unfold standD
          rw [← pl, ← hpn]
          unfold placeF
          rw [List.length_map]
        rw [List.map_singleton, e]
    · obtain ⟨s1, b2, b5, rfl, hs1⟩ := hE
      rw [List.length_map, List.take_of_length_le (Nat.le_refl _)]
      refine hR _ ?_
      walk_at "dl"
      exact ⟨sortOk_stand rs ys hyo, q⟩
end DL
set_option Elab.async false
set_option linter.all false
set_option maxRecDepth 100000
set_option maxHeartbeats 4000000
/-! FnK21T: halves and cross by the others (plain). -/
namespace DL
open PySem PySem.Spec PyProof.Rows L2
def othersF (sc : List Int) (i : Nat) : List Int := sc.take i ++ sc.drop (i + 1)
theorem others_perm {sc : List Int} {i : Nat} {s : Int} (h : sc[i]? = some s) : sc.Perm (s :: othersF sc i) := by
  obtain ⟨hi, e⟩ := List.getElem?_eq_some_iff.mp h
  have : sc = sc.take i ++ s :: sc.drop (i + 1) := by
    rw [← e]
    rw [← List.drop_eq_getElem_cons hi, List.take_append_drop]
  have z : (sc.take i ++ s :: sc.drop (i + 1)).Perm (s :: (sc.take i ++ sc.drop (i + 1))) := List.perm_middle
  rw [← this] at z
  exact z
theorem sum_filter (p : Int → Bool) (f : Int → Int) : ∀ l : List Int, ((l.filter p).map f).sum = (l.map fun o => if p o = true then f o else 0).sum
  | [] => rfl
  | a :: l => by
    rw [List.map_cons, List.sum_cons, ← sum_filter p f l, List.filter_cons]
    by_cases h : p a = true
    · rw [if_pos h, if_pos h, List.map_cons, List.sum_cons]
    · rw [if_neg h, if_neg h]; omega
theorem half_others {sc : List Int} {i : Nat} {s : Int} (h : sc[i]? = some s) : (((othersF sc i).filter fun o => decide (o ≤ s)).map fun o => 1 + (if o < s then (1 : Int) else 0)).sum = sumF hF sc s - 1 := by
  rw [sum_filter, sumF_perm hF (others_perm h)]
  unfold sumF
  rw [List.map_cons, List.sum_cons, hF_self]
  have : ((othersF sc i).map fun o => if decide (o ≤ s) = true then 1 + (if o < s then (1 : Int) else 0) else 0) = (othersF sc i).map (hF s) := List.map_congr_left fun o _ => by
    unfold hF
    by_cases h1 : o < s
    · rw [if_pos (decide_eq_true (by omega)), if_pos h1, if_pos h1]; rfl
    · by_cases h2 : o = s
      · rw [if_pos (decide_eq_true (by omega)), if_neg h1, if_neg h1, if_pos h2]; rfl
      · rw [if_neg (by rw [decide_eq_false (by omega)]; exact Bool.false_ne_true), if_neg h1, if_neg h2]
  rw [this]; omega
theorem cross_others {sc : List Int} {i : Nat} {s : Int} (h : sc[i]? = some s) : ((othersF sc i).map fun o => scF (s - o)).sum = sumF xF sc s := by
  rw [sumF_perm xF (others_perm h)]
  unfold sumF
  rw [List.map_cons, List.sum_cons]
  have : xF s s = 0 := by unfold xF; rw [Int.sub_self]; unfold scF; rw [if_neg (by omega), many_0]; rfl
  rw [this, Int.zero_add]
  rfl
theorem half_snoc {sc : List Int} {i : Nat} {s : Int} (h : sc[i]? = some s) : ((halvesF sc).take (i + 1)).map PyData.int = ((halvesF sc).take i).map PyData.int ++ [.int (sumF hF sc s - 1)] := by
  have : (halvesF sc)[i]? = some (sumF hF sc s - 1) := by unfold halvesF; rw [List.getElem?_map, h]; rfl
  rw [take_snoc this, List.map_append]; rfl
theorem cross_snoc {sc : List Int} {i : Nat} {s : Int} (h : sc[i]? = some s) : ((crossF sc).take (i + 1)).map PyData.int = ((crossF sc).take i).map PyData.int ++ [.int (sumF xF sc s)] := by
  have : (crossF sc)[i]? = some (sumF xF sc s) := by unfold crossF; rw [List.getElem?_map, h]; rfl
  rw [take_snoc this, List.map_append]; rfl
def stepsD : List Int := steps ++ [0, 10, 9000]
theorem steps_small : ∀ x ∈ stepsD, 0 ≤ x ∧ x ≤ 9000 := by decide
def nameL : List Str := ["a", "bo", "cy", "d"]
theorem names_ok : ∀ n ∈ nameL, PyData.strOk n = true := by decide +kernel
end DL
set_option Elab.async false
set_option linter.all false
set_option maxRecDepth 100000
set_option maxHeartbeats 4000000
namespace DL
open PySem PySem.Spec PyProof.Rows L2
local macro_rules | `(tactic| walk_at "dl") => `(tactic| simp only [tV, tVr, tFzV, turnD, DL.wipeE, tK, tOpD, tUnD, tBo, tAndD, tOrD, tNotD, tIfE, DL.tAndV, DL.tOrV, DL.tNotV, tTru, truD, okLen, sSet, sSetL, sExpr, sRet, sIf, sNx, tTupD, dNil, dCons, tLstD, tFzD, tApp, tExtd, tPopAt, sSetIx, tIxO, tChainD, tChain3D, tRevT, caStr, opRepT, opAdd, opSub, opMul, opDiv, opMod, opPow, DL.opI, DL.opI0, opB0, opLt, opLe, opGt, opGtD, opLtD, opGe, opEq, opNe, opIs, opIsN, isNone, opIn, opNotIn, opIx, atD_0, atD_1, atD_2, atD_3, putD_0, unNeg, tCa1, tCa2, tCaL1, caLen, caAbs, caMax2, caMin2, caSum, caMax, caMin, caSumT, caMaxT, caMinT, caAll, caTuple, caList, caInt, tIsi, isInt, isBool, isStr, isTuple, isList, notDict, sAsg, gSet, gTupD, gLstD, gsNil, gsCons, sPar, pNil, pD, pL, setAll, tCallD, aNil, aV, aO, argS, oixs, ndp, putO, tOpL, opCat, opRep, tSlD, slD, tSlL, oNo, oE, tRevD, iLstD, iTupD, iRange1, iRange2, iZipD, iZipM, finO, tTrue, Option.map, eqv_int, eqv_bool, eqv_none, shaped_int, shaped_bool, shaped_none, tLenRange, tSortSet, tSortSetS, tSortDk, tDkGet2, tDkGetD, tDkGet2M, sDkPut, tInDk, tDkGet, iDvK, keyOf, optQ, mDkD, tFzKM, opLeS, tFind, tSplit, tJoinS, caIntS, iStrD, opMulS, tRevS, tSlO, iZipN, tLenSet, tLenSetP, tSortSetP, tCountL, tCountT, tIndexL, tIndexT, DL.tOrT, DL.tAndT, DL.tNotT, tSortRev, caSorted, iEnumL, iEnumT, tDGetV, tDGetD, tDGet2V, dictAt, sDPutV, sSetM, mDt, mDk, pM, tInN, tNotInN, tCallM, amM, amV, tListRg, iDk, iDv, iDi, tLDk, tLDv, tTruDk, mDt1, tFzM, tCall0D, tFldD, tFldR, fldD, fldL, obD, unH_hdl, obGet, setOb, putOD, sFldD, sFldL, tMethO, tAppF, tPopF, sRaise, keyB_2, keyB_3, keyB_4, decide_eq_true_eq, and_self, List.cons_append, List.nil_append, List.replicate, List.getElem?_cons_zero, List.getElem?_cons_succ, List.set_cons_zero, List.set_cons_succ, List.length_cons, List.length_nil, true_and, and_true, if_true, if_false, Bool.false_eq_true, List.contains_nil, Bool.not_false, Bool.not_true, Bool.and_self, Bool.and_true, Bool.true_and, decide_true, decide_false, beq_self_eq_true])
def tb_law_scaled_k21 : TSd :=
  sSeq (sSet 1 (tFzD (tLstD (dCons (tK (.int 20)) (dCons (tK (.int 50)) (dCons (tK (.int 90)) (dCons (tK (.int 130)) (dCons (tK (.int 170)) (dCons (tK (.int 220)) (dCons (tK (.int 270)) (dCons (tK (.int 320)) (dCons (tK (.int 370)) (dCons (tK (.int 430)) (dCons (tK (.int 500)) (dCons (tK (.int 600)) (dCons (tK (.int 750)) (dCons (tK (.int 900)) (dCons (tK (.int 1100)) (dCons (tK (.int 1300)) (dCons (tK (.int 1500)) (dCons (tK (.int 1750)) (dCons (tK (.int 2000)) (dNil)))))))))))))))))))))))
      (sSeq (sSet 1 (tFzD (tOpL opCat (tV 1) (tFzD (tLstD (dCons (tK (.int 2250)) (dCons (tK (.int 2500)) (dCons (tK (.int 3000)) (dCons (tK (.int 3500)) (dCons (tK (.int 4000)) (dNil)))))))))))
      (sSeq (sSet 2 (tCa1 caLen (tFzD (tComp (iLstD (tV 1)) (gSet 3) (tNotD (tBo (tOpD opLt (tCa1 caAbs (tV 0)) (tV 3)))) (tV 3) [3]))))
      (sRet (tIfE (tBo (tOpD opGt (tV 0) (tK (.int 0)))) (tV 2) (tOpD opSub (tK (.int 0)) (tV 2))))))
def tb_law_k21 (sp_standings : SpD) (sp_law_same : SpD) (sp_law_draw : SpD) (sp_law_pick : SpD) (sp_cross : SpD) (sp_halves : SpD) (sp_law_scaled : SpD) (sp_scaled : SpD) : TSd :=
  sSeq (sSetL 1 (tLstD (dNil)))
      (sSeq (sSet 2 (tFzD (tLstD (dCons (tK (.int 20)) (dCons (tK (.int 50)) (dCons (tK (.int 90)) (dCons (tK (.int 130)) (dCons (tK (.int 170)) (dCons (tK (.int 220)) (dCons (tK (.int 270)) (dCons (tK (.int 320)) (dCons (tK (.int 370)) (dCons (tK (.int 430)) (dCons (tK (.int 500)) (dCons (tK (.int 600)) (dCons (tK (.int 750)) (dCons (tK (.int 900)) (dCons (tK (.int 1100)) (dCons (tK (.int 1300)) (dCons (tK (.int 1500)) (dCons (tK (.int 1750)) (dCons (tK (.int 2000)) (dNil)))))))))))))))))))))))
      (sSeq (sSet 2 (tFzD (tOpL opCat (tV 2) (tFzD (tLstD (dCons (tK (.int 2250)) (dCons (tK (.int 2500)) (dCons (tK (.int 3000)) (dCons (tK (.int 3500)) (dCons (tK (.int 4000)) (dCons (tK (.int 0)) (dCons (tK (.int 10)) (dCons (tK (.int 9000)) (dNil))))))))))))))
      (sSeq (sFor (iRange1 (tK (.int 6))) (gSet 3) (sSeq (sFor (iLstD (tV 2)) (gSet 4) (sSeq (sSet 5 (tOpD opMul (tOpD opSub (tOpD opAdd (tV 4) (tCallD sp_law_draw (aV (tV 0) (aO 1 (aV (tK (.int 3)) (aNil)))))) (tK (.int 1))) (tCallD sp_law_pick (aV (tV 0) (aO 1 (aV (tFzD (tLstD (dCons (tK (.int 1)) (dCons (tUnD unNeg (tK (.int 1))) (dNil))))) (aNil)))))))
      (sIf (tNotD (tTru (tCallD sp_law_same (aV (tCallD sp_scaled (aV (tV 5) (aNil))) (aV (tCallD sp_law_scaled (aV (tV 5) (aNil))) (aNil)))))) (sRet (tK (.bool false))) (sNx))))
      (sSeq (sSet 6 (tFzD (tOpL opCat (tFzD (tComp (iRange1 (tK (.int 4))) (gSet 14) (tTrue) (tOpD opSub (tOpD opMul (tCallD sp_law_draw (aV (tV 0) (aO 1 (aV (tK (.int 400)) (aNil))))) (tK (.int 10))) (tK (.int 2000))) [14])) (tFzD (tLstD (dCons (tK (.int 50)) (dCons (tK (.int 420)) (dCons (tUnD unNeg (tK (.int 100))) (dNil)))))))))
      (sSeq (sSet 7 (tCa1 caTuple (tFzD (tComp (iRange1 (tCallD sp_law_draw (aV (tV 0) (aO 1 (aV (tK (.int 9)) (aNil)))))) (gSet 14) (tTrue) (tCallD sp_law_pick (aV (tV 0) (aO 1 (aV (tV 6) (aNil))))) [14]))))
      (sSeq (sPar [8, 9] (pL (tLstD (dNil)) (pL (tLstD (dNil)) (pNil))))
      (sSeq (sFor (iEnumT (tV 7)) (gTupD 2 (gsCons (gSet 10) (gsCons (gSet 11) (gsNil)))) (sSeq (sSet 12 (tOpD opAdd (tSlD (tV 7) (oNo) (oE (tV 10))) (tSlD (tV 7) (oE (tOpD opAdd (tV 10) (tK (.int 1)))) (oNo))))
      (sSeq (sExpr (tApp 8 (tCa1 caSum (tFzD (tComp (iTupD (tV 12)) (gSet 18) (tBo (tOpD opGe (tV 11) (tV 18))) (tOpD opAdd (tK (.int 1)) (tCa1 caInt (tOpD opGt (tV 11) (tV 18)))) [18])))))
      (sExpr (tApp 9 (tCa1 caSum (tFzD (tComp (iTupD (tV 12)) (gSet 18) (tTrue) (tCallD sp_law_scaled (aV (tOpD opSub (tV 11) (tV 18)) (aNil))) [18]))))))))
      (sSeq (sIf (tNotD (tTru (tCallD sp_law_same (aV (tTupD (dCons (tCallD sp_halves (aV (tV 7) (aNil))) (dCons (tCallD sp_cross (aV (tV 7) (aNil))) (dNil)))) (aV (tTupD (dCons (tCa1 caTuple (tVr 8)) (dCons (tCa1 caTuple (tVr 9)) (dNil)))) (aNil)))))) (sRet (tK (.bool false))) (sNx))
      (sSeq (sSetL 13 (tLstD (dNil)))
      (sSeq (sFor (iRange1 (tCallD sp_law_draw (aV (tV 0) (aO 1 (aV (tK (.int 10)) (aNil)))))) (gSet 14) (sExpr (tApp 13 (tTupD (dCons (tCallD sp_law_pick (aV (tV 0) (aO 1 (aV (tFzD (tLstD (dCons (tK (.str "a")) (dCons (tK (.str "bo")) (dCons (tK (.str "cy")) (dCons (tK (.str "d")) (dNil))))))) (aNil))))) (dCons (tOpD opSub (tCallD sp_law_draw (aV (tV 0) (aO 1 (aV (tK (.int 9)) (aNil))))) (tK (.int 2))) (dNil)))))))
      (sSeq (sSetL 15 (tLstD (dNil)))
      (sSeq (sFor (iLstD (tFzD (tSortSetS (tFzD (tComp (iLstD (tFzV 13)) (gTupD 2 (gsCons (gSet 16) (gsCons (gSet 19) (gsNil)))) (tTrue) (tV 16) [16, 19]))))) (gSet 16) (sExpr (tApp 15 (tTupD (dCons (tCa1 caSum (tFzD (tComp (iLstD (tFzV 13)) (gTupD 2 (gsCons (gSet 18) (gsCons (gSet 19) (gsNil)))) (tBo (tOpD opEq (tV 18) (tV 16))) (tV 19) [18, 19]))) (dCons (tV 16) (dNil)))))))
      (sSeq (sSetL 8 (tLstD (dNil)))
      (sSeq (sFor (iLstD (tFzV 15)) (gTupD 2 (gsCons (gSet 17) (gsCons (gSet 16) (gsNil)))) (sExpr (tApp 8 (tTupD (dCons (tOpD opAdd (tK (.int 1)) (tCa1 caLen (tFzD (tComp (iLstD (tFzV 15)) (gTupD 2 (gsCons (gSet 18) (gsCons (gSet 20) (gsNil)))) (tBo (tOpD opGt (tV 18) (tV 17))) (tK (.int 1)) [18, 20])))) (dCons (tV 16) (dCons (tV 17) (dNil))))))))
      (sIf (tNotD (tTru (tCallD sp_law_same (aV (tCallD sp_standings (aV (tCa1 caTuple (tVr 13)) (aNil))) (aV (tCa1 caTuple (tFzD (tCaL1 caSorted (tVr 8)))) (aNil)))))) (sRet (tK (.bool false))) (sNx)))))))))))))))
      (sRet (tK (.bool true))))))
def spLScaled : SpD := fun ss Q => ∃ d : Int, ss = [.d (.int d)] ∧ Q (.int (scF d)) []
theorem sh_law_scaled : ∀ ss QD, spLScaled ss QD → ss.length = 1 ∧ mpos 0 ss = [] := by rintro ss QD ⟨d, rfl, _⟩; exact ⟨rfl, rfl⟩
theorem lscaled_go (st : List Int) (d : Int) (hst : st.length ≤ 1000) (R : Env → Prop) (rt : D → Env → Prop) (hR : R [.d (.int d), .d (.list (st.map PyData.int)), .d (.int ((st.filter fun x => decide (x ≤ absI d)).length : Nat)), .un]) :
    sSet 2 (tCa1 caLen (tFzD (tComp (iLstD (tV 1)) (gSet 3) (tNotD (tBo (tOpD opLt (tCa1 caAbs (tV 0)) (tV 3)))) (tV 3) [3]))) { nx := R, rt := rt } [.d (.int d), .d (.list (st.map PyData.int)), .un, .un] := by
  refine comp_filter (E1 := [.d (.int d), .d (.list (st.map PyData.int)), .un, .un]) st PyData.int (fun x => decide (x ≤ absI d)) PyData.int (fun Q h => h) (un1 rfl) (small_line (by omega)) (fun x hx R4 hq => ?_) ?_
  · walk_at "dl"
    have e : (if d < 0 then -d else d) = absI d := rfl
    rw [e]
    by_cases g : x ≤ absI d
    · rw [decide_eq_true g] at hq
      exact ifT (by rw [decide_eq_false (show ¬ absI d < x by omega)]; rfl) (hq _ rfl)
    · rw [decide_eq_false g] at hq
      exact ifF (by rw [decide_eq_true (show absI d < x by omega)]; rfl) (hq _ rfl)
  · have hl : ((st.filter fun x => decide (x ≤ absI d)).map PyData.int).length = (st.filter fun x => decide (x ≤ absI d)).length := List.length_map _
    rw [← hl] at hR
    exact hR
theorem lscaled_end (d : Int) (m : Nat) (y : D) (QD : D → List S → Prop) (q : QD (.int (if 0 < d then (m : Int) else -(m : Int))) []) : sRet (tIfE (tBo (tOpD opGt (tV 0) (tK (.int 0)))) (tV 2) (tOpD opSub (tK (.int 0)) (tV 2))) { nx := fun E' => finO [] E' (QD .none), rt := fun d E' => finO [] E' (QD d) } [.d (.int d), .d y, .d (.int (m : Int)), .un] := by
  walk_at "dl"
  by_cases g : 0 < d
  · rw [if_pos g] at q
    rw [if_pos g]; exact q
  · rw [if_neg g] at q
    rw [if_neg g, Int.zero_sub]; exact q
theorem rd_law_scaled : ∀ ss QD, spLScaled ss QD → tb_law_scaled_k21 { nx := fun E' => finO [] E' (QD .none), rt := fun d E' => finO [] E' (QD d) } (ss ++ List.replicate 3 .un) := by
  rintro ss QD ⟨d, rfl, q⟩
  rw [scF_eq] at q
  unfold tb_law_scaled_k21
  refine seq_step fun R hR => ?_
  walk_at "dl"
  refine ⟨small_line (by decide), hR _ ?_⟩
  refine seq_step fun R hR => ?_
  walk_at "dl"
  refine ⟨small_line (by decide), small_line (by decide), hR _ ?_⟩
  refine seq_step fun R hR => ?_
  exact lscaled_go steps d (by decide) R _ (hR _ (lscaled_end d _ _ QD q))
theorem same_stand (rs : List Row) (ys : List Str) (h : ys.length ≤ 1000) (hy : ∀ z ∈ ys, PyData.strOk z = true) : sameOk 2 (.tuple (sortD false (ys.map (standD rs ys)))) = true := by
  have hp : (sortD false (ys.map (standD rs ys))).Perm (ys.map (standD rs ys)) := List.mergeSort_perm _ _
  show ((sortD false (ys.map (standD rs ys))).all (sameOk 1) && decide ((sortD false (ys.map (standD rs ys))).length ≤ 10000000)) = true
  rw [hp.length_eq, List.length_map, decide_eq_true (by omega), Bool.and_true]
  refine List.all_eq_true.mpr fun d hd => ?_
  obtain ⟨n, hn, rfl⟩ := List.mem_map.mp (hp.mem_iff.mp hd)
  show ([PyData.int (placeF rs ys n), .str n, .int (totF rs n)].all (sameOk 0) && decide (3 ≤ 10000000)) = true
  simp [sameOk, hy n hn]
def spLaw : SpD := fun ss Q => ∃ ns : List Int, ss = [.d (.list (ns.map PyData.int))] ∧ ns.length ≤ 63 ∧ Q (.bool true) []
theorem sh_law : ∀ ss QD, spLaw ss QD → ss.length = 1 ∧ mpos 0 ss = [] := by rintro ss QD ⟨ns, rfl, _⟩; exact ⟨rfl, rfl⟩
def okS (s : S) : Prop := s = .un ∨ ∃ x, s = .d x
theorem okS1 {E : Env} {i : Nat} {s : S} (h : okS s) (e : E[i]? = some s) : ∀ j ∈ [i], E[j]? = some .un ∨ (∃ x, E[j]? = some (.d x)) := fun j hj => by
  cases List.mem_singleton.mp hj
  rcases h with h | ⟨x, h⟩
  · exact .inl (by rw [e, h])
  · exact .inr ⟨x, by rw [e, h]⟩
theorem okS2 {E : Env} {i k : Nat} {s : S} (h : okS s) (e : E[i]? = some s) (e2 : E[k]? = some .un) : ∀ j ∈ [i, k], E[j]? = some .un ∨ (∃ x, E[j]? = some (.d x)) := fun j hj => by
  rcases List.mem_cons.mp hj with rfl | hj
  · exact okS1 h e _ (List.mem_singleton.mpr rfl)
  · exact un1 e2 j hj
theorem datOk {s : S} (h : okS s) : datOf (some s) = s := by
  rcases h with rfl | ⟨x, rfl⟩ <;> rfl
theorem allI {xs : List D} (h : ∀ x ∈ xs, ∃ i : Int, x = .int i) : ∃ ns : List Int, xs = ns.map PyData.int := by
  induction xs with
  | nil => exact ⟨[], rfl⟩
  | cons a l ih =>
    obtain ⟨i, rfl⟩ := h a (List.mem_cons_self ..)
    obtain ⟨ns, rfl⟩ := ih fun x hx => h x (List.mem_cons_of_mem _ hx)
    exact ⟨i :: ns, rfl⟩
theorem enum_inv {xs : List D} {i : Nat} {d : D} (h : (enumD xs)[i]? = some d) : ∃ x, xs[i]? = some x ∧ d = .tuple [.int (i : Int), x] := by
  have hi := (List.getElem?_eq_some_iff.mp h).1
  rw [enumD_len] at hi
  have := enumD_get (xs := xs) (i := i) (List.getElem?_eq_getElem hi)
  rw [h] at this
  exact ⟨_, List.getElem?_eq_getElem hi, Option.some.inj this⟩
def totD (rs : List Row) (n : Str) : D := .tuple [.int (totF rs n), .str n]
theorem rd_law_k21 : ∀ ss QD, spLaw ss QD → tb_law_k21 spStand (spSame 2) spDraw spPick spCross spHalves spLScaled spScaled { nx := fun E' => finO [] E' (QD .none), rt := fun d E' => finO [] E' (QD d) } (ss ++ List.replicate 20 .un) := by
  rintro ss QD ⟨ns, rfl, hn, q⟩
  unfold tb_law_k21
  refine seq_step fun R hR => ?_
  walk_at "dl"
  refine ⟨small_line (by decide), hR _ ?_⟩
  refine seq_step fun R hR => ?_
  walk_at "dl"
  refine ⟨small_line (by decide), hR _ ?_⟩
  refine seq_step fun R hR => ?_
  walk_at "dl"
  refine ⟨small_line (by decide), small_line (by decide), hR _ ?_⟩
  refine seq_step fun R hR => ?_
  have est : ([PyData.int 20, PyData.int 50, PyData.int 90, PyData.int 130, PyData.int 170, PyData.int 220, PyData.int 270, PyData.int 320, PyData.int 370, PyData.int 430, PyData.int 500, PyData.int 600, PyData.int 750, PyData.int 900, PyData.int 1100, PyData.int 1300, PyData.int 1500, PyData.int 1750, PyData.int 2000, PyData.int 2250, PyData.int 2500, PyData.int 3000, PyData.int 3500, PyData.int 4000, PyData.int 0, PyData.int 10, PyData.int 9000] : List D) = stepsD.map PyData.int := rfl
  rw [est]
  refine for_inv (ds := rangeD 0 6) (E1 := [.d (.list (ns.map PyData.int)), .ol [], .d (.list (stepsD.map PyData.int)), .un, .un, .un, .un, .un, .un, .un, .un, .un, .un, .un, .un, .un, .un, .un, .un, .un, .un]) (fun Q h => ⟨⟨by decide, by decide⟩, h⟩)
    (fun i E => ∃ t a3 a4 a5 a6 a7 a8 a9 a10 a11 a12 a13 a14 a15 a16 a17, E = [.d (.list (ns.map PyData.int)), .ol t, .d (.list (stepsD.map PyData.int)), a3, a4, a5, a6, a7, a8, a9, a10, a11, a12, a13, a14, a15, a16, a17, .un, .un, .un] ∧ okS a14 ∧ okS a16 ∧ TownOk t (1000 * i))
    ⟨_, _, _, _, _, _, _, _, _, _, _, _, _, _, _, _, rfl, .inl rfl, .inl rfl, Nat.zero_le _, .inl rfl⟩ (fun i d E hd hE R2 hR2 => ?_) (fun E hE => ?_)
  · obtain ⟨t, a3, a4, a5, a6, a7, a8, a9, a10, a11, a12, a13, a14, a15, a16, a17, rfl, ok14, ok16, ht⟩ := hE
    have hi : i < 6 := by have := (List.getElem?_eq_some_iff.mp hd).1; rwa [rangeD_length] at this
    refine seq_step fun R3 hR3 => ?_
    -- steps
    refine for_inv (ds := stepsD.map PyData.int) (E1 := [.d (.list (ns.map PyData.int)), .ol t, .d (.list (stepsD.map PyData.int)), .d d, a4, a5, a6, a7, a8, a9, a10, a11, a12, a13, a14, a15, a16, a17, .un, .un, .un]) (fun Q h => h)
      (fun j E => ∃ t a4 a5, E = [.d (.list (ns.map PyData.int)), .ol t, .d (.list (stepsD.map PyData.int)), .d d, a4, a5, a6, a7, a8, a9, a10, a11, a12, a13, a14, a15, a16, a17, .un, .un, .un] ∧ TownOk t (1000 * i + 4 * j))
      ⟨t, a4, a5, rfl, ht⟩ (fun j d2 E hd2 hE R4 hR4 => ?_) (fun E hE => ?_)
    · obtain ⟨t, b4, b5, rfl, ht⟩ := hE
      have hj : j < 27 := (List.getElem?_eq_some_iff.mp hd2).1
      obtain ⟨st, rfl, _, hst⟩ := getI hd2
      have hs := steps_small st hst
      refine seq_step fun R5 hR5 => ?_
      walk_at "dl"
      refine ⟨ns, t, 3, _, rfl, by decide, hn, ht, by omega, fun r t2 h0 h1 ht2 => ?_⟩
      walk_at "dl"
      refine ⟨small_line (by decide), ns, t2, _, [.int 1, .int (-1)], _, rfl, .inl rfl, by simp, hn, ht2, by omega, fun x t3 hx ht3 => ?_⟩
      obtain ⟨e, rfl, he⟩ : ∃ e : Int, x = .int e ∧ e.natAbs ≤ 1 := by
        rcases List.mem_cons.mp hx with h | h
        · exact ⟨_, h, by decide⟩
        · exact ⟨_, List.mem_singleton.mp h, by decide⟩
      walk_at "dl"
      refine ⟨cmul_small (by omega) (by omega), hR5 _ ?_⟩
      generalize (st + r - 1) * e = y
      walk_at "dl"
      refine ⟨y, rfl, ?_⟩
      walk_at "dl"
      refine ⟨y, rfl, ?_⟩
      walk_at "dl"
      refine ⟨_, rfl, rfl, ?_⟩
      walk_at "dl"
      exact hR4 _ ⟨_, _, _, rfl, ht3.mono (by omega)⟩
    obtain ⟨t1, b4, b5, rfl, ht1⟩ := hE
    have ht1 : TownOk t1 (1000 * i + 108) := ht1
    refine hR3 _ ?_
    clear hR3 ht t a4 a5
    -- base
    refine seq_step fun R3 hR3 => ?_
    refine comp_inv (E1 := [.d (.list (ns.map PyData.int)), .ol t1, .d (.list (stepsD.map PyData.int)), .d d, b4, b5, a6, a7, a8, a9, a10, a11, a12, a13, a14, a15, a16, a17, .un, .un, .un]) (rangeD 0 4)
      (fun j acc E => ∃ t c14, E = [.d (.list (ns.map PyData.int)), .ol t, .d (.list (stepsD.map PyData.int)), .d d, b4, b5, a6, a7, a8, a9, a10, a11, a12, a13, c14, a15, a16, a17, .un, .un, .un] ∧ TownOk t (1000 * i + 108 + 2 * j) ∧ acc.length ≤ j ∧ ∀ x ∈ acc, ∃ k : Int, x = .int k)
      (fun Q h => ⟨⟨by decide, by decide⟩, h⟩) (small_line (by decide)) ⟨_, _, rfl, ht1, Nat.le_refl _, fun x hx => nomatch hx⟩ (fun j d2 acc E hd2 hE R5 hn5 hs5 => ?_) (fun acc E hE => ?_)
    · obtain ⟨t, c14, rfl, ht, hla, hall⟩ := hE
      have hj : j < 4 := by have := (List.getElem?_eq_some_iff.mp hd2).1; rwa [rangeD_length] at this
      walk_at "dl"
      refine ⟨ns, t, 400, _, rfl, by decide, hn, ht, by omega, fun r t' h0 h1 ht' => ?_⟩
      walk_at "dl"
      refine ⟨cmul_small (by omega) (by decide), hs5 _ _ ⟨_, _, rfl, ht'.mono (by omega), ?_, ?_⟩⟩
      · rw [List.length_append, List.length_cons, List.length_nil]; omega
      · intro x hx
        rcases List.mem_append.mp hx with hx | hx
        · exact hall x hx
        · exact ⟨_, List.mem_singleton.mp hx⟩
    obtain ⟨t2, c14, rfl, ht2, hla, hall⟩ := hE
    rw [rangeD_length] at ht2 hla
    obtain ⟨bs0, rfl⟩ := allI hall
    rw [List.length_map] at hla
    have e14 : datOf (([.d (.list (ns.map PyData.int)), .ol t1, .d (.list (stepsD.map PyData.int)), .d d, b4, b5, a6, a7, a8, a9, a10, a11, a12, a13, a14, a15, a16, a17, .un, .un, .un] : Env)[14]?) = a14 := datOk ok14
    have eE : (restE [.d (.list (ns.map PyData.int)), .ol t1, .d (.list (stepsD.map PyData.int)), .d d, b4, b5, a6, a7, a8, a9, a10, a11, a12, a13, a14, a15, a16, a17, .un, .un, .un] [.d (.list (ns.map PyData.int)), .ol t2, .d (.list (stepsD.map PyData.int)), .d d, b4, b5, a6, a7, a8, a9, a10, a11, a12, a13, c14, a15, a16, a17, .un, .un, .un] [14]) = [.d (.list (ns.map PyData.int)), .ol t2, .d (.list (stepsD.map PyData.int)), .d d, b4, b5, a6, a7, a8, a9, a10, a11, a12, a13, a14, a15, a16, a17, .un, .un, .un] := by
      unfold restE
      rw [e14]; rfl
    rw [eE]
    walk_at "dl"
    refine ⟨small_line (by decide), small_line (by rw [List.length_map]; omega), hR3 _ ?_⟩
    clear hR3
    -- scores
    obtain ⟨bs, hbs, hne⟩ : ∃ bs : List Int, (bs0.map PyData.int ++ [.int 50, .int 420, .int (-100)]) = bs.map PyData.int ∧ bs ≠ [] := ⟨bs0 ++ [50, 420, -100], by rw [List.map_append]; rfl, by simp⟩
    rw [hbs]
    refine seq_step fun R4 hR4 => ?_
    simp only [tComp]
    walk_at "dl"
    refine ⟨rfl, ns, t2, 9, _, rfl, by decide, hn, ht2, by omega, fun m t3 hm0 hm1 ht3 => ?_⟩
    walk_at "dl"
    refine ⟨⟨by omega, by omega⟩, ?_⟩
    refine compD_inv0 (fun j acc E => ∃ t c14, E = [.d (.list (ns.map PyData.int)), .ol t, .d (.list (stepsD.map PyData.int)), .d d, b4, b5, .d (.list (bs.map PyData.int)), a7, a8, a9, a10, a11, a12, a13, c14, a15, a16, a17, .un, .un, .un] ∧ TownOk t (1000 * i + 120 + 2 * j) ∧ acc.length ≤ j ∧ ∀ x ∈ acc, ∃ k : Int, x = .int k)
      (by rw [rangeD_length]; exact small_line (by omega)) ⟨_, _, rfl, ht3.mono (by omega), Nat.le_refl _, fun x hx => nomatch hx⟩ (fun j d2 acc E hd2 hE R5 hn5 hs5 => ?_) (fun acc E hE => ?_)
    · obtain ⟨t, c14, rfl, ht, hla, hall⟩ := hE
      have hj : j < 9 := by have := (List.getElem?_eq_some_iff.mp hd2).1; rw [rangeD_length] at this; omega
      walk_at "dl"
      refine ⟨ns, t, _, bs.map PyData.int, _, rfl, .inl rfl, fun e => hne (by simpa using e), hn, ht, by omega, fun x t' hx ht' => ?_⟩
      walk_at "dl"
      obtain ⟨k, _, rfl⟩ := List.mem_map.mp hx
      refine hs5 _ _ ⟨_, _, rfl, ht'.mono (by omega), ?_, ?_⟩
      · rw [List.length_append, List.length_cons, List.length_nil]; omega
      · intro x hx
        rcases List.mem_append.mp hx with hx | hx
        · exact hall x hx
        · exact ⟨_, List.mem_singleton.mp hx⟩
    obtain ⟨t4, c14b, rfl, ht4, hla, hall⟩ := hE
    rw [rangeD_length] at ht4 hla
    obtain ⟨sc, rfl⟩ := allI hall
    rw [List.length_map] at hla
    have hl2 : sc.length ≤ 9 := by omega
    have e14 : datOf (([.d (.list (ns.map PyData.int)), .ol t3, .d (.list (stepsD.map PyData.int)), .d d, b4, b5, .d (.list (bs.map PyData.int)), a7, a8, a9, a10, a11, a12, a13, a14, a15, a16, a17, .un, .un, .un] : Env)[14]?) = a14 := datOk ok14
    have eE : (restE [.d (.list (ns.map PyData.int)), .ol t3, .d (.list (stepsD.map PyData.int)), .d d, b4, b5, .d (.list (bs.map PyData.int)), a7, a8, a9, a10, a11, a12, a13, a14, a15, a16, a17, .un, .un, .un] [.d (.list (ns.map PyData.int)), .ol t4, .d (.list (stepsD.map PyData.int)), .d d, b4, b5, .d (.list (bs.map PyData.int)), a7, a8, a9, a10, a11, a12, a13, c14b, a15, a16, a17, .un, .un, .un] [14]) = [.d (.list (ns.map PyData.int)), .ol t4, .d (.list (stepsD.map PyData.int)), .d d, b4, b5, .d (.list (bs.map PyData.int)), a7, a8, a9, a10, a11, a12, a13, a14, a15, a16, a17, .un, .un, .un] := by
      unfold restE
      rw [e14]; rfl
    have hR4 := hR4 [.d (.list (ns.map PyData.int)), .ol t4, .d (.list (stepsD.map PyData.int)), .d d, b4, b5, .d (.list (bs.map PyData.int)), .d (.tuple (sc.map PyData.int)), a8, a9, a10, a11, a12, a13, a14, a15, a16, a17, .un, .un, .un]
    rw [eE]
    walk_at "dl"
    refine hR4 ?_
    have ht4 : TownOk t4 (1000 * i + 160) := ht4.mono (by omega)
    clear hR4 eE e14
    generalize PyData.list (bs.map PyData.int) = bsD
    -- due, some
    refine seq_step fun R5 hR5 => ?_
    walk_at "dl"
    refine ⟨small_line (by decide), small_line (by decide), hR5 _ ?_⟩
    clear hR5
    refine seq_step fun R5 hR5 => ?_
    refine for_inv (ds := enumD (sc.map PyData.int)) (E1 := [.d (.list (ns.map PyData.int)), .ol t4, .d (.list (stepsD.map PyData.int)), .d d, b4, b5, .d bsD, .d (.tuple (sc.map PyData.int)), .ol [], .ol [], a10, a11, a12, a13, a14, a15, a16, a17, .un, .un, .un]) (fun Q h => h)
      (fun j E => ∃ a10 a11 a12, E = [.d (.list (ns.map PyData.int)), .ol t4, .d (.list (stepsD.map PyData.int)), .d d, b4, b5, .d bsD, .d (.tuple (sc.map PyData.int)), .ol (((halvesF sc).take j).map PyData.int), .ol (((crossF sc).take j).map PyData.int), a10, a11, a12, a13, a14, a15, a16, a17, .un, .un, .un])
      ⟨_, _, _, rfl⟩ (fun j d2 E hd2 hE R6 hR6 => ?_) (fun E hE => ?_)
    · obtain ⟨c10, c11, c12, rfl⟩ := hE
      obtain ⟨x, hx, rfl⟩ := enum_inv hd2
      obtain ⟨s, rfl, hs, _⟩ := getI hx
      have hj := (List.getElem?_eq_some_iff.mp hs).1
      walk_at "dl"
      refine seq_step fun R7 hR7 => ?_
      walk_at "dl"
      rw [cut_to (by omega), cut_from (by omega)]
      have eo : (sc.map PyData.int).take ((j : Int)).toNat ++ (sc.map PyData.int).drop ((j : Int) + 1).toNat = (othersF sc j).map PyData.int := by
        unfold othersF
        rw [List.map_append, List.map_take, List.map_drop]
        congr 1
      rw [eo]
      refine ⟨small_line (by rw [List.length_take, List.length_drop, List.length_map]; omega), hR7 _ ?_⟩
      have hol : (othersF sc j).length ≤ 9 := by unfold othersF; rw [List.length_append, List.length_take, List.length_drop]; omega
      refine seq_step fun R8 hR8 => ?_
      simp only [sExpr, tApp]
      refine comp_filter (E1 := [.d (.list (ns.map PyData.int)), .ol t4, .d (.list (stepsD.map PyData.int)), .d d, b4, b5, .d bsD, .d (.tuple (sc.map PyData.int)), .ol (((halvesF sc).take j).map PyData.int), .ol (((crossF sc).take j).map PyData.int), .d (.int (j : Int)), .d (.int s), .d (.tuple ((othersF sc j).map PyData.int)), a13, a14, a15, a16, a17, .un, .un, .un]) (othersF sc j) PyData.int (fun o => decide (o ≤ s)) (fun o => .int (1 + (if o < s then (1 : Int) else 0))) (fun Q h => h) (un1 rfl) (small_line (by omega)) (fun o ho R9 hq => ?_) ?_
      · walk_at "dl"
        by_cases g : o ≤ s
        · rw [decide_eq_true g] at hq
          rw [if_pos g]
          exact hq _ rfl
        · rw [decide_eq_false g] at hq
          rw [if_neg g]
          exact hq _ rfl
      refine ⟨((othersF sc j).filter fun o => decide (o ≤ s)).map fun o => 1 + (if o < s then (1 : Int) else 0), by rw [List.map_map]; rfl, ?_⟩
      rw [half_others hs]
      walk_at "dl"
      refine ⟨Nat.lt_of_lt_of_le (show _ < 10000 by rw [List.length_map, List.length_take, halves_len]; omega) (small_line (by decide)), hR8 _ ?_⟩
      simp only [sExpr, tApp]
      refine comp_map (E1 := [.d (.list (ns.map PyData.int)), .ol t4, .d (.list (stepsD.map PyData.int)), .d d, b4, b5, .d bsD, .d (.tuple (sc.map PyData.int)), .ol (((halvesF sc).take j).map PyData.int ++ [PyData.int (sumF hF sc s - 1)]), .ol (((crossF sc).take j).map PyData.int), .d (.int (j : Int)), .d (.int s), .d (.tuple ((othersF sc j).map PyData.int)), a13, a14, a15, a16, a17, .un, .un, .un]) (othersF sc j) PyData.int (fun o => .int (scF (s - o))) (fun Q h => h) (un1 rfl) (small_line (by omega)) (fun o ho R9 hq => ?_) ?_
      · walk_at "dl"
        exact ⟨s - o, rfl, hq _ rfl⟩
      refine ⟨(othersF sc j).map fun o => scF (s - o), by rw [List.map_map]; rfl, ?_⟩
      rw [cross_others hs]
      walk_at "dl"
      refine ⟨Nat.lt_of_lt_of_le (show _ < 10000 by rw [List.length_map, List.length_take, cross_len]; omega) (small_line (by decide)), hR6 _ ⟨.d (.int (j : Int)), .d (.int s), .d (.tuple ((othersF sc j).map PyData.int)), ?_⟩⟩
      rw [half_snoc hs, cross_snoc hs]
    obtain ⟨c10, c11, c12, rfl⟩ := hE
    rw [enumD_len, List.length_map, List.take_of_length_le (by rw [halves_len]; exact Nat.le_refl _), List.take_of_length_le (by rw [cross_len]; exact Nat.le_refl _)]
    refine hR5 _ ?_
    clear hR5
    refine seq_step fun R5 hR5 => ?_
    walk_at "dl"
    refine ⟨sc, rfl, by omega, ?_⟩
    walk_at "dl"
    refine ⟨sc, rfl, by omega, ?_⟩
    walk_at "dl"
    refine ⟨small_line (by decide), small_line (by decide), _, rfl, same_pair 1 (same_ints 0 _ (by rw [halves_len]; omega)) (same_ints 0 _ (by rw [cross_len]; omega)), ?_⟩
    walk_at "dl"
    refine hR5 _ ?_
    clear hR5
    generalize S.ol ((halvesF sc).map PyData.int) = e8
    generalize S.ol ((crossF sc).map PyData.int) = e9
    generalize PyData.tuple (sc.map PyData.int) = scD
    -- rows
    refine seq_step fun R5 hR5 => ?_
    walk_at "dl"
    refine ⟨small_line (by decide), hR5 _ ?_⟩
    clear hR5
    refine seq_step fun R5 hR5 => ?_
    unfold sFor
    walk_at "dl"
    refine ⟨ns, t4, 10, _, rfl, by decide, hn, ht4, by omega, fun m t5 hm0 hm1 ht5 => ?_⟩
    walk_at "dl"
    refine ⟨⟨by omega, by omega⟩, ?_⟩
    refine forD_inv (fun j E => ∃ t a14 rs, E = [.d (.list (ns.map PyData.int)), .ol t, .d (.list (stepsD.map PyData.int)), .d d, b4, b5, .d bsD, .d scD, e8, e9, c10, c11, c12, .ol (rs.map rowD), a14, a15, a16, a17, .un, .un, .un] ∧ okS a14 ∧ TownOk t (1000 * i + 180 + 4 * j) ∧ rs.length = j ∧ ∀ r ∈ rs, r.1 ∈ nameL)
      ⟨t5, a14, [], rfl, ok14, ht5.mono (by omega), rfl, fun r hr => nomatch hr⟩ (fun j d2 E hd2 hE R6 hR6 => ?_) (fun E hE => ?_)
    · obtain ⟨t, c14, rs, rfl, ok, ht, hrl, hrn⟩ := hE
      have hj : j < 10 := by have := (List.getElem?_eq_some_iff.mp hd2).1; rw [rangeD_length] at this; omega
      walk_at "dl"
      refine ⟨small_line (by decide), ns, t, _, nameL.map PyData.str, _, rfl, .inl rfl, by decide, hn, ht, by omega, fun x t' hx ht' => ?_⟩
      obtain ⟨nm, hnm, rfl⟩ := List.mem_map.mp hx
      walk_at "dl"
      refine ⟨ns, t', 9, _, rfl, by decide, hn, ht', by omega, fun r t'' h0 h1 ht'' => ?_⟩
      walk_at "dl"
      refine ⟨small_line (by decide), Nat.lt_of_lt_of_le (show _ < 10000 by rw [List.length_map]; omega) (small_line (by decide)), hR6 _ ⟨t'', .d d2, rs ++ [(nm, r - 2)], ?_, .inr ⟨_, rfl⟩, ht''.mono (by omega), by rw [List.length_append, hrl]; rfl, fun r' hr' => ?_⟩⟩
      · rw [List.map_append]; rfl
      · rcases List.mem_append.mp hr' with h | h
        · exact hrn r' h
        · rw [List.mem_singleton.mp h]; exact hnm
    obtain ⟨t6, c14, rs, rfl, okc, ht6, hrl, hrn⟩ := hE
    rw [rangeD_length] at ht6 hrl
    have hrl : rs.length ≤ 10 := by omega
    have hro : ∀ r ∈ rs, PyData.strOk r.1 = true := fun r hr => names_ok _ (hrn r hr)
    refine hR5 _ ?_
    clear hR5
    -- totals
    refine seq_step fun R5 hR5 => ?_
    walk_at "dl"
    refine ⟨small_line (by decide), hR5 _ ?_⟩
    clear hR5
    refine seq_step fun R5 hR5 => ?_
    unfold sFor
    simp only [iLstD, tFzD, tSortSetS]
    refine comp_map (E1 := [.d (.list (ns.map PyData.int)), .ol t6, .d (.list (stepsD.map PyData.int)), .d d, b4, b5, .d bsD, .d scD, e8, e9, c10, c11, c12, .d (.list (rs.map rowD)), c14, .ol [], a16, a17, .un, .un, .un]) rs rowD (fun r => .str r.1) (fun Q h => h) (okS2 ok16 rfl rfl) (small_line (by omega)) (fun r hr R6 hq => ?_) ?_
    · show gTupD 2 _ (PyData.tuple [.str r.1, .int r.2]) _ _
      walk_at "dl"
      exact hq _ rfl
    refine ⟨rs.map (·.1), by rw [List.map_map]; rfl, by rw [List.length_map]; omega, fun ys y1 y2 y3 => ?_⟩
    have nm : Names rs ys := ⟨y1, y2, y3⟩
    have hyl : ys.length ≤ 10 := by
      have := (nodup_perm y1 (nodup_keysR rs) fun k => by rw [y2, mem_keysR]).length_eq
      have := len_keysR rs
      omega
    have hyo : ∀ z ∈ ys, PyData.strOk z = true := fun z hz => by
      obtain ⟨r, h1, rfl⟩ := List.mem_map.mp ((y2 z).mp hz)
      exact hro r h1
    refine forD_inv (fun j E => ∃ a16, E = [.d (.list (ns.map PyData.int)), .ol t6, .d (.list (stepsD.map PyData.int)), .d d, b4, b5, .d bsD, .d scD, e8, e9, c10, c11, c12, .d (.list (rs.map rowD)), c14, .ol ((ys.take j).map (totD rs)), a16, a17, .un, .un, .un] ∧ okS a16)
      ⟨a16, rfl, ok16⟩ (fun j d2 E hd2 hE R6 hR6 => ?_) (fun E hE => ?_)
    · obtain ⟨c16, rfl, okk⟩ := hE
      rw [List.getElem?_map, Option.map_eq_some_iff] at hd2
      obtain ⟨n, hn2, rfl⟩ := hd2
      have hnm := List.mem_of_getElem? hn2
      walk_at "dl"
      refine comp_filter (E1 := [.d (.list (ns.map PyData.int)), .ol t6, .d (.list (stepsD.map PyData.int)), .d d, b4, b5, .d bsD, .d scD, e8, e9, c10, c11, c12, .d (.list (rs.map rowD)), c14, .ol ((ys.take j).map (totD rs)), .d (.str n), a17, .un, .un, .un]) rs rowD (fun r => decide (r.1 = n)) (fun r => .int r.2) (fun Q h => h) (un2 rfl rfl) (small_line (by omega)) (fun r hr R7 hq => ?_) ?_
      · show gTupD 2 _ (PyData.tuple [.str r.1, .int r.2]) _ _
        have s1 : SeqAt.shaped (.str r.1) = true := by
          show (PyData.strOk r.1 && decide ((0 : Nat) ≤ 64)) = true
          rw [hro r hr]; rfl
        have s2 : SeqAt.shaped (.str n) = true := by
          show (PyData.strOk n && decide ((0 : Nat) ≤ 64)) = true
          rw [hyo n hnm]; rfl
        walk_at "dl"
        refine ⟨⟨s1, s2⟩, ?_⟩
        rw [eqv_str]
        by_cases g : r.1 = n
        · rw [decide_eq_true g] at hq
          rw [show (r.1 == n) = true by simp [g]]
          exact hq _ rfl
        · rw [decide_eq_false g] at hq
          rw [show (r.1 == n) = false by simp [g]]
          exact hq _ rfl
      refine ⟨(rs.filter fun r => decide (r.1 = n)).map (·.2), by rw [List.map_map]; rfl, ?_⟩
      walk_at "dl"
      refine ⟨small_line (by decide), Nat.lt_of_lt_of_le (show _ < 10000 by rw [List.length_map, List.length_take]; omega) (small_line (by decide)), hR6 _ ⟨.d (.str n), ?_, .inr ⟨_, rfl⟩⟩⟩
      have ht : ys.take (j + 1) = ys.take j ++ [n] := by rw [List.take_succ, hn2]; rfl
      rw [ht, List.map_append]
      rfl
    obtain ⟨c16, rfl, okk⟩ := hE
    rw [List.length_map, List.take_of_length_le (Nat.le_refl _)]
    refine hR5 _ ?_
    clear hR5
    refine seq_step fun R5 hR5 => ?_
    walk_at "dl"
    refine ⟨small_line (by decide), hR5 _ ?_⟩
    clear hR5
    refine seq_step fun R5 hR5 => ?_
    refine for_inv (ds := ys.map (totD rs)) (E1 := [.d (.list (ns.map PyData.int)), .ol t6, .d (.list (stepsD.map PyData.int)), .d d, b4, b5, .d bsD, .d scD, .ol [], e9, c10, c11, c12, .d (.list (rs.map rowD)), c14, .d (.list (ys.map (totD rs))), c16, a17, .un, .un, .un]) (fun Q h => h)
      (fun j E => ∃ a16 a17, E = [.d (.list (ns.map PyData.int)), .ol t6, .d (.list (stepsD.map PyData.int)), .d d, b4, b5, .d bsD, .d scD, .ol ((ys.take j).map (standD rs ys)), e9, c10, c11, c12, .d (.list (rs.map rowD)), c14, .d (.list (ys.map (totD rs))), a16, a17, .un, .un, .un] ∧ okS a16)
      ⟨c16, a17, rfl, okk⟩ (fun j d2 E hd2 hE R6 hR6 => ?_) (fun E hE => ?_)
    · obtain ⟨c16, c17, rfl, okk⟩ := hE
      rw [List.getElem?_map, Option.map_eq_some_iff] at hd2
      obtain ⟨n, hn2, rfl⟩ := hd2
      show gTupD 2 _ (PyData.tuple [.int (totF rs n), .str n]) _ _
      walk_at "dl"
      refine comp_filter (E1 := [.d (.list (ns.map PyData.int)), .ol t6, .d (.list (stepsD.map PyData.int)), .d d, b4, b5, .d bsD, .d scD, .ol ((ys.take j).map (standD rs ys)), e9, c10, c11, c12, .d (.list (rs.map rowD)), c14, .d (.list (ys.map (totD rs))), .d (.str n), .d (.int (totF rs n)), .un, .un, .un]) ys (totD rs) (fun m => decide (totF rs n < totF rs m)) (fun _ => .int 1) (fun Q h => h) (un2 rfl rfl) (small_line (by omega)) (fun m hm R7 hq => ?_) ?_
      · show gTupD 2 _ (PyData.tuple [.int (totF rs m), .str m]) _ _
        walk_at "dl"
        by_cases g : totF rs n < totF rs m
        · rw [if_pos g]; rw [decide_eq_true g] at hq; exact hq _ rfl
        · rw [if_neg g]; rw [decide_eq_false g] at hq; exact hq _ rfl
      walk_at "dl"
      refine ⟨small_line (by decide), Nat.lt_of_lt_of_le (show _ < 10000 by rw [List.length_map, List.length_take]; omega) (small_line (by decide)), hR6 _ ⟨.d (.str n), .d (.int (totF rs n)), ?_, .inr ⟨_, rfl⟩⟩⟩
      have ht : ys.take (j + 1) = ys.take j ++ [n] := by rw [List.take_succ, hn2]; rfl
      rw [ht, List.map_append, List.length_map]
      rfl
    obtain ⟨c16, c17, rfl, okk⟩ := hE
    rw [List.length_map, List.take_of_length_le (Nat.le_refl _)]
    refine hR5 _ ?_
    clear hR5
    walk_at "dl"
    refine ⟨rs, rfl, by omega, hro, fun ys' nm' => ?_⟩
    obtain rfl := names_one nm nm'
    refine ⟨sortOk_stand rs ys hyo, ?_⟩
    refine ⟨_, rfl, same_stand rs ys (by omega) hyo, ?_⟩
    walk_at "dl"
    exact hR2 _ ⟨_, _, _, _, _, _, _, _, _, _, _, _, _, _, _, _, rfl, okc, okk, ht6.mono (by omega)⟩
  · obtain ⟨t, a3, a4, a5, a6, a7, a8, a9, a10, a11, a12, a13, a14, a15, a16, a17, rfl, ok14, ok16, ht⟩ := hE
    exact hR _ q
end DL
set_option Elab.async false
set_option linter.all false
set_option maxRecDepth 100000
set_option maxHeartbeats 4000000
namespace LW
open PySem PySem.Spec PyProof.Rows L2 DL
def topS (i : Nat) : Stmt := PySem.Challenge.pw_boardcalls_k21_whole_scores_compared.main.body.getD i (.Pass ⟨0, 0, 0, 0⟩)
section
variable {P : Program} {w : World} {K : PySem.W.Frag} {mg : Str → Option Value} {base : Heap}
abbrev s_standings : Stmt := topS 5
abbrev N_standings : List Str := ["rows", "totals", "name", "number", "found", "place", "other"]
theorem sc_standings : FnScope N_standings ["rows"] (defScope s_standings) := ⟨rfl, rfl, rfl, by decide +kernel, rfl, by decide +kernel, by decide +kernel⟩
theorem dv_standings {f : Addr} {k : Nat} (b_sorted : mg "sorted" = none) (b_tuple : mg "tuple" = none) (b_len : mg "len" = none) (cdv : Value) (A : Around) (outer : List PySem.Env) (s : Shared) (H : Hp) (E : XK) (hr : Room k (A.deeper (envOfC "standings" (defScope s_standings) s.heap.objs.size f cdv))) (G : Gh) (hG : G.slots = []) :
    SDs (cxOf CX0 P w K mg base N_standings "standings" (defScope s_standings) f cdv A outer s H E).nox G (defBody s_standings) (tb_standings) := by
  unfold tb_standings
  exact sds_cons (sd_setM (ns hG (by decide)) sc_standings.nd rfl (by first | exact Or.inl rfl | exact Or.inr rfl) (em_dk))
      (sds_cons (sd_for (ms := [2, 3]) PassesOwn.never rfl (id_tup (ed_var 0)) (gd_tup rfl (gds_cons (gd_name (ns hG (by decide)) (by decide) sc_standings.nd rfl (by first | exact Or.inl rfl | exact Or.inr rfl)) (gds_cons (gd_name (ns hG (by decide)) (by decide) sc_standings.nd rfl (by first | exact Or.inl rfl | exact Or.inr rfl)) (gds_nil)))) (sds_one (sd_dkPut 1 (u65 hr) (ed_var 2) (ed_op od_add (ed_dkGet2 1 (u65 hr) (ed_var 2) (ed_int)) (ED.er (ed_var 3))))))
      (sds_cons (sd_setL (ns hG (by decide)) sc_standings.nd rfl (by first | exact Or.inl rfl | exact Or.inr rfl) (el_lst (eds_nil)))
      (sds_cons (sd_for (ms := [2]) PassesOwn.never rfl (id_lst (EL.ed (el_sortDk 1 rfl b_sorted))) (gd_name (ns hG (by decide)) (by decide) sc_standings.nd rfl (by first | exact Or.inl rfl | exact Or.inr rfl)) (sds_cons (sd_set (ns hG (by decide)) sc_standings.nd rfl (by first | exact Or.inl rfl | exact Or.inr rfl) (ed_op od_add (ed_int) (ED.er (ed_ca1 cd_len (ED.er (EL.ed (el_comp [("other", 6)] rfl sc_standings.nd rfl (nsA hG (by decide)) (id_dvk (ed_fzk 1)) (blkOk_by (N := N_standings) (sc := defScope s_standings) (by decide +kernel)) (fun _ q1 _ _ _ _ _ => gd_name (ns (q1.trans hG) (by decide)) (by decide) sc_standings.nd rfl (by first | exact Or.inl rfl | exact Or.inr rfl)) (fun _ q1 _ _ _ _ _ => ebs_one (eb_cmp od_gt (ed_var 6) (ED.er (ed_dkGetD (u65 hr) (ed_fzk 1) (ed_var 2))) (nomark _))) (fun _ q1 _ _ _ _ _ => ed_int)))) rfl b_len bb_len))))
      (sds_one (sd_expr (ed_app 4 (ed_tup (eds_cons (ed_var 5) (eds_cons (ed_var 2) (eds_cons (ed_dkGetD (u65 hr) (ed_fzk 1) (ed_var 2)) (eds_nil))))))))))
      (sds_one (sd_ret (ed_caT1 cd_tuple (ED.er (EL.ed (el_ca1 (cd_sorted (u65 hr)) (er_var 4) rfl b_sorted bb_sorted))) rfl b_tuple bb_tuple))))))
abbrev s_law_same : Stmt := topS 7
abbrev N_law_same : List Str := ["got", "due", "one", "other"]
theorem sc_law_same : FnScope N_law_same ["got", "due"] (defScope s_law_same) := ⟨rfl, rfl, rfl, by decide +kernel, rfl, by decide +kernel, by decide +kernel⟩
theorem dv_law_same {f : Addr} {k : Nat} (b_isinstance : mg "isinstance" = none) (b_int : mg "int" = none) (b_bool : mg "bool" = none) (b_str : mg "str" = none) (b_tuple : mg "tuple" = none) (b_zip : mg "zip" = none) (b_all : mg "all" = none) (b_len : mg "len" = none) {sp_law_same : SpD} {f_law_same : Addr} {fd_law_same : FuncData} {k_law_same : Nat} (C_law_same : FnOk P w K mg base CX0 k_law_same f_law_same fd_law_same ["got", "due"] (spL K sp_law_same)) (h_law_same : k_law_same ≤ k) (C_law_same_g : mg "_law_same" = some (.ref f_law_same)) (C_law_same_k : PySem.W.keepIn K (.ref f_law_same) = true) (C_law_same_b : Binds K fd_law_same ["got", "due"] []) (cdv : Value) (A : Around) (outer : List PySem.Env) (s : Shared) (H : Hp) (E : XK) (hr : Room k (A.deeper (envOfC "_law_same" (defScope s_law_same) s.heap.objs.size f cdv))) (G : Gh) (hG : G.slots = []) :
    SDs (cxOf CX0 P w K mg base N_law_same "_law_same" (defScope s_law_same) f cdv A outer s H E).nox G (defBody s_law_same) (tb_law_same sp_law_same) := by
  unfold tb_law_same
  exact sds_cons (sd_if (eb_cmp od_is (ed_var 1) (ED.er (ed_non)) (nomark _)) (sds_one (sd_ret (ed_cmp od_is (ed_var 0) (ED.er (ed_non)) (nomark _)))) (sds_nil))
      (sds_cons (sd_if (eb_tru (ED.er (ed_isi isi_bool (ed_var 1) rfl b_isinstance rfl b_bool bb_bool))) (sds_one (sd_ret (ed_and (ed_isi isi_bool (ed_var 0) rfl b_isinstance rfl b_bool bb_bool) (ed_one (ed_cmp (od_eq hr.units) (ed_var 0) (ED.er (ed_var 1)) (nomark _)))))) (sds_nil))
      (sds_cons (sd_if (eb_tru (ED.er (ed_isi isi_tuple (ed_var 1) rfl b_isinstance rfl b_tuple bb_tuple))) (sds_cons (sd_if (EW.eb (ew_or (eb_not (eb_tru (ED.er (ed_isi isi_tuple (ed_var 0) rfl b_isinstance rfl b_tuple bb_tuple)))) (ew_or1 (eb_cmp (od_ne hr.units) (ed_ca1 cd_len (ED.er (ed_var 0)) rfl b_len bb_len) (ED.er (ed_ca1 cd_len (ED.er (ed_var 1)) rfl b_len bb_len)) (nomark _))))) (sds_one (sd_ret (ed_bl))) (sds_nil))
      (sds_one (sd_ret (ed_ca1 (cd_all rfl) (ED.er (EL.ed (el_comp [("one", 2), ("other", 3)] rfl sc_law_same.nd rfl (nsA hG (by decide)) (id_zip (ed_var 0) (ed_var 1) rfl b_zip) (blkOk_by (N := N_law_same) (sc := defScope s_law_same) (by decide +kernel)) (fun _ q1 _ _ _ _ _ => gd_tup rfl (gds_cons (gd_name (ns (q1.trans hG) (by decide)) (by decide) sc_law_same.nd rfl (by first | exact Or.inl rfl | exact Or.inr rfl)) (gds_cons (gd_name (ns (q1.trans hG) (by decide)) (by decide) sc_law_same.nd rfl (by first | exact Or.inl rfl | exact Or.inr rfl)) (gds_nil)))) (fun _ q1 _ _ _ _ _ => ebs_nil) (fun _ q1 _ _ _ _ _ => ed_call C_law_same (hr.mono h_law_same) rfl C_law_same_g C_law_same_k C_law_same_b (ea_v (ed_var 2) (ea_v (ed_var 3) (ea_nil))))))) rfl b_all bb_all)))) (sds_nil))
      (sds_cons (sd_if (eb_tru (ED.er (ed_isi isi_str (ed_var 1) rfl b_isinstance rfl b_str bb_str))) (sds_one (sd_ret (ed_and (ed_isi isi_str (ed_var 0) rfl b_isinstance rfl b_str bb_str) (ed_one (ed_cmp (od_eq hr.units) (ed_var 0) (ED.er (ed_var 1)) (nomark _)))))) (sds_nil))
      (sds_one (sd_ret (ed_and (ed_isi isi_int (ed_var 0) rfl b_isinstance rfl b_int bb_int) (ed_and (ed_not (ed_isi isi_bool (ed_var 0) rfl b_isinstance rfl b_bool bb_bool)) (ed_one (ed_cmp (od_eq hr.units) (ed_var 0) (ED.er (ed_var 1)) (nomark _))))))))))
abbrev s_law_draw : Stmt := topS 8
abbrev N_law_draw : List Str := ["script", "town", "many", "k", "cell", "digits", "number", "more"]
theorem sc_law_draw : FnScope N_law_draw ["script", "town", "many"] (defScope s_law_draw) := ⟨rfl, rfl, rfl, by decide +kernel, rfl, by decide +kernel, by decide +kernel⟩
theorem dv_law_draw {f : Addr} {k : Nat} (b_len : mg "len" = none) (b_abs : mg "abs" = none) (b_max : mg "max" = none) (cdv : Value) (A : Around) (outer : List PySem.Env) (s : Shared) (H : Hp) (E : XK) (hr : Room k (A.deeper (envOfC "_law_draw" (defScope s_law_draw) s.heap.objs.size f cdv))) (G : Gh) (hG : G.slots = [1]) :
    SDs (cxOf CX0 P w K mg base N_law_draw "_law_draw" (defScope s_law_draw) f cdv A outer s H E).nox G (defBody s_law_draw) (tb_law_draw) := by
  unfold tb_law_draw
  exact sds_cons (sd_if (eb_not (eb_tru (er_var 1))) (sds_one (sd_expr (ed_app 1 (ed_ca1 (cd_max rfl) (ED.er (EL.ed (el_op od_cat (EL.ed (el_comp [("cell", 4)] rfl sc_law_draw.nd rfl (nsA hG (by decide)) (id_lst (ed_var 0)) (blkOk_by (N := N_law_draw) (sc := defScope s_law_draw) (by decide +kernel)) (fun _ q1 _ _ _ _ _ => gd_name (ns (q1.trans hG) (by decide)) (by decide) sc_law_draw.nd rfl (by first | exact Or.inl rfl | exact Or.inr rfl)) (fun _ q1 _ _ _ _ _ => ebs_nil) (fun _ q1 _ _ _ _ _ => ed_ca1 cd_abs (ED.er (ed_var 4)) rfl b_abs bb_abs))) (ED.er (EL.ed (el_lst (eds_cons (ed_int) (eds_nil)))))))) rfl b_max bb_max)))) (sds_nil))
      (sds_cons (sd_expr (ed_app 1 (ed_int)))
      (sds_cons (sd_set (ns hG (by decide)) sc_law_draw.nd rfl (by first | exact Or.inl rfl | exact Or.inr rfl) (ed_ca1 cd_len (er_var 1) rfl b_len bb_len))
      (sds_cons (sd_set (ns hG (by decide)) sc_law_draw.nd rfl (by first | exact Or.inl rfl | exact Or.inr rfl) (ed_if (eb_tru (ED.er (ed_var 0))) (ed_ix (ed_var 0) (ed_op od_mod (ed_var 3) (ED.er (ed_ca1 cd_len (ED.er (ed_var 0)) rfl b_len bb_len)))) (ed_int)))
      (sds_cons (sd_set (ns hG (by decide)) sc_law_draw.nd rfl (by first | exact Or.inl rfl | exact Or.inr rfl) (ed_op od_mod (ed_ixO 1 (ed_int)) (ED.er (ed_int))))
      (sds_cons (sd_setIx 1 (ed_int) (ed_op od_div (ed_ixO 1 (ed_int)) (ED.er (ed_int))))
      (sds_cons (sd_set (ns hG (by decide)) sc_law_draw.nd rfl (by first | exact Or.inl rfl | exact Or.inr rfl) (ed_op od_mod (ed_op od_add (ed_op od_add (ed_var 4) (ED.er (ed_op od_mul (ed_int) (ED.er (ed_var 5))))) (ED.er (ed_op od_mul (ed_int) (ED.er (ed_var 3))))) (ED.er (ed_int))))
      (sds_cons (sd_set (ns hG (by decide)) sc_law_draw.nd rfl (by first | exact Or.inl rfl | exact Or.inr rfl) (ed_op od_mod (ed_op od_mul (ed_op od_mod (ed_op od_mul (ed_var 6) (ED.er (ed_var 6))) (ED.er (ed_int))) (ED.er (ed_int))) (ED.er (ed_int))))
      (sds_cons (sd_set (ns hG (by decide)) sc_law_draw.nd rfl (by first | exact Or.inl rfl | exact Or.inr rfl) (ed_op od_mod (ed_op od_mul (ed_op od_mod (ed_op od_mul (ed_var 6) (ED.er (ed_var 6))) (ED.er (ed_int))) (ED.er (ed_int))) (ED.er (ed_int))))
      (sds_one (sd_ret (ed_op od_mod (ed_op od_add (ed_op od_mul (ed_op od_div (ed_var 6) (ED.er (ed_int))) (ED.er (ed_int))) (ED.er (ed_op od_div (ed_var 7) (ED.er (ed_int))))) (ED.er (ed_var 2)))))))))))))
abbrev s_law_pick : Stmt := topS 9
abbrev N_law_pick : List Str := ["script", "town", "some"]
theorem sc_law_pick : FnScope N_law_pick ["script", "town", "some"] (defScope s_law_pick) := ⟨rfl, rfl, rfl, by decide +kernel, rfl, by decide +kernel, by decide +kernel⟩
theorem dv_law_pick {f : Addr} {k : Nat} (b_len : mg "len" = none) {sp_law_draw : SpD} {f_law_draw : Addr} {fd_law_draw : FuncData} {k_law_draw : Nat} (C_law_draw : FnOk P w K mg base CX0 k_law_draw f_law_draw fd_law_draw ["script", "town", "many"] (spL K sp_law_draw)) (h_law_draw : k_law_draw ≤ k) (C_law_draw_g : mg "_law_draw" = some (.ref f_law_draw)) (C_law_draw_k : PySem.W.keepIn K (.ref f_law_draw) = true) (C_law_draw_b : Binds K fd_law_draw ["script", "town", "many"] []) (cdv : Value) (A : Around) (outer : List PySem.Env) (s : Shared) (H : Hp) (E : XK) (hr : Room k (A.deeper (envOfC "_law_pick" (defScope s_law_pick) s.heap.objs.size f cdv))) (G : Gh) (hG : G.slots = [1]) :
    SDs (cxOf CX0 P w K mg base N_law_pick "_law_pick" (defScope s_law_pick) f cdv A outer s H E).nox G (defBody s_law_pick) (tb_law_pick sp_law_draw) := by
  unfold tb_law_pick
  exact sds_one (sd_ret (ed_ix (ed_var 2) (ed_call C_law_draw (hr.mono h_law_draw) rfl C_law_draw_g C_law_draw_k C_law_draw_b (ea_v (ed_var 0) (ea_o 1 (ea_v (ed_ca1 cd_len (ED.er (ed_var 2)) rfl b_len bb_len) (ea_nil)))))))
abbrev s_scaled : Stmt := topS 3
abbrev N_scaled : List Str := ["difference", "many", "step"]
theorem sc_scaled : FnScope N_scaled ["difference"] (defScope s_scaled) := ⟨rfl, rfl, rfl, by decide +kernel, rfl, by decide +kernel, by decide +kernel⟩
theorem dv_scaled {f : Addr} {k : Nat} (b_abs : mg "abs" = none) (b_len : mg "len" = none) {u_STEPS : Value} {v_STEPS : V} (g_STEPS : mg "STEPS" = some u_STEPS) (r_STEPS : RelV v_STEPS u_STEPS) (d_STEPS : ∀ H, Rp K H c_STEPS v_STEPS) (cdv : Value) (A : Around) (outer : List PySem.Env) (s : Shared) (H : Hp) (E : XK) (hr : Room k (A.deeper (envOfC "scaled" (defScope s_scaled) s.heap.objs.size f cdv))) (G : Gh) (hG : G.slots = []) :
    SDs (cxOf CX0 P w K mg base N_scaled "scaled" (defScope s_scaled) f cdv A outer s H E).nox G (defBody s_scaled) (tb_scaled) := by
  unfold tb_scaled
  exact sds_cons (sd_set (ns hG (by decide)) sc_scaled.nd rfl (by first | exact Or.inl rfl | exact Or.inr rfl) (ed_ca1 cd_len (ED.er (EL.ed (el_comp [("step", 2)] rfl sc_scaled.nd rfl (nsA hG (by decide)) (id_tup (ed_glob rfl g_STEPS r_STEPS d_STEPS)) (blkOk_by (N := N_scaled) (sc := defScope s_scaled) (by decide +kernel)) (fun _ q1 _ _ _ _ _ => gd_name (ns (q1.trans hG) (by decide)) (by decide) sc_scaled.nd rfl (by first | exact Or.inl rfl | exact Or.inr rfl)) (fun _ q1 _ _ _ _ _ => ebs_one (eb_cmp od_le (ed_var 2) (ED.er (ed_ca1 cd_abs (ED.er (ed_var 0)) rfl b_abs bb_abs)) (nomark _))) (fun _ q1 _ _ _ _ _ => ed_var 2)))) rfl b_len bb_len))
      (sds_one (sd_ret (ed_if (eb_cmp od_gt (ed_var 0) (ED.er (ed_int)) (nomark _)) (ed_var 1) (ed_un ud_neg (ED.er (ed_var 1))))))
abbrev s_cross : Stmt := topS 4
abbrev N_cross : List Str := ["scores", "score", "other"]
theorem sc_cross : FnScope N_cross ["scores"] (defScope s_cross) := ⟨rfl, rfl, rfl, by decide +kernel, rfl, by decide +kernel, by decide +kernel⟩
theorem dv_cross {f : Addr} {k : Nat} (b_sum : mg "sum" = none) (b_tuple : mg "tuple" = none) {sp_scaled : SpD} {f_scaled : Addr} {fd_scaled : FuncData} {k_scaled : Nat} (C_scaled : FnOk P w K mg base CX0 k_scaled f_scaled fd_scaled ["difference"] (spL K sp_scaled)) (h_scaled : k_scaled ≤ k) (C_scaled_g : mg "scaled" = some (.ref f_scaled)) (C_scaled_k : PySem.W.keepIn K (.ref f_scaled) = true) (C_scaled_b : Binds K fd_scaled ["difference"] []) (cdv : Value) (A : Around) (outer : List PySem.Env) (s : Shared) (H : Hp) (E : XK) (hr : Room k (A.deeper (envOfC "cross" (defScope s_cross) s.heap.objs.size f cdv))) (G : Gh) (hG : G.slots = []) :
    SDs (cxOf CX0 P w K mg base N_cross "cross" (defScope s_cross) f cdv A outer s H E).nox G (defBody s_cross) (tb_cross sp_scaled) := by
  unfold tb_cross
  exact sds_one (sd_ret (ed_caT1 cd_tuple (ED.er (EL.ed (el_comp [("score", 1)] rfl sc_cross.nd rfl (nsA hG (by decide)) (id_tup (ed_var 0)) (blkOk_by (N := N_cross) (sc := defScope s_cross) (by decide +kernel)) (fun _ q1 _ _ _ _ _ => gd_name (ns (q1.trans hG) (by decide)) (by decide) sc_cross.nd rfl (by first | exact Or.inl rfl | exact Or.inr rfl)) (fun _ q1 _ _ _ _ _ => ebs_nil) (fun _ q1 _ _ _ _ _ => ed_ca1 (cd_sum rfl) (ED.er (EL.ed (el_comp [("other", 2)] rfl sc_cross.nd rfl (nsA (q1.trans hG) (by decide)) (id_tup (ed_var 0)) (blkOk_by rfl) (fun _ q2 _ _ _ _ _ => gd_name (ns (q2.trans (q1.trans hG)) (by decide)) (by decide) sc_cross.nd rfl (by first | exact Or.inl rfl | exact Or.inr rfl)) (fun _ q2 _ _ _ _ _ => ebs_nil) (fun _ q2 _ _ _ _ _ => ed_call C_scaled (hr.mono h_scaled) rfl C_scaled_g C_scaled_k C_scaled_b (ea_v (ed_op od_sub (ed_var 1) (ED.er (ed_var 2))) (ea_nil)))))) rfl b_sum bb_sum)))) rfl b_tuple bb_tuple))
abbrev s_halves : Stmt := topS 2
abbrev N_halves : List Str := ["scores", "found", "score", "less", "other"]
theorem sc_halves : FnScope N_halves ["scores"] (defScope s_halves) := ⟨rfl, rfl, rfl, by decide +kernel, rfl, by decide +kernel, by decide +kernel⟩
theorem dv_halves {f : Addr} {k : Nat} (b_tuple : mg "tuple" = none) (b_len : mg "len" = none) (cdv : Value) (A : Around) (outer : List PySem.Env) (s : Shared) (H : Hp) (E : XK) (hr : Room k (A.deeper (envOfC "halves" (defScope s_halves) s.heap.objs.size f cdv))) (G : Gh) (hG : G.slots = []) :
    SDs (cxOf CX0 P w K mg base N_halves "halves" (defScope s_halves) f cdv A outer s H E).nox G (defBody s_halves) (tb_halves) := by
  unfold tb_halves
  exact sds_cons (sd_setL (ns hG (by decide)) sc_halves.nd rfl (by first | exact Or.inl rfl | exact Or.inr rfl) (el_lst (eds_nil)))
      (sds_cons (sd_for (ms := [2]) PassesOwn.never rfl (id_tup (ed_var 0)) (gd_name (ns hG (by decide)) (by decide) sc_halves.nd rfl (by first | exact Or.inl rfl | exact Or.inr rfl)) (sds_cons (sd_set (ns hG (by decide)) sc_halves.nd rfl (by first | exact Or.inl rfl | exact Or.inr rfl) (ed_ca1 cd_len (ED.er (EL.ed (el_comp [("other", 4)] rfl sc_halves.nd rfl (nsA hG (by decide)) (id_tup (ed_var 0)) (blkOk_by (N := N_halves) (sc := defScope s_halves) (by decide +kernel)) (fun _ q1 _ _ _ _ _ => gd_name (ns (q1.trans hG) (by decide)) (by decide) sc_halves.nd rfl (by first | exact Or.inl rfl | exact Or.inr rfl)) (fun _ q1 _ _ _ _ _ => ebs_one (eb_cmp od_lt (ed_var 4) (ED.er (ed_var 2)) (nomark _))) (fun _ q1 _ _ _ _ _ => ed_int)))) rfl b_len bb_len))
      (sds_one (sd_expr (ed_app 1 (ed_op od_sub (ed_op od_add (ed_op od_mul (ed_int) (ED.er (ed_var 3))) (ED.er (ed_countT (u65 hr) (ed_var 0) (ed_var 2)))) (ED.er (ed_int))))))))
      (sds_one (sd_ret (ed_caT1 cd_tuple (er_var 1) rfl b_tuple bb_tuple))))
abbrev s_law_scaled : Stmt := topS 10
abbrev N_law_scaled : List Str := ["difference", "steps", "many", "step"]
theorem sc_law_scaled : FnScope N_law_scaled ["difference"] (defScope s_law_scaled) := ⟨rfl, rfl, rfl, by decide +kernel, rfl, by decide +kernel, by decide +kernel⟩
theorem dv_law_scaled {f : Addr} {k : Nat} (b_abs : mg "abs" = none) (b_len : mg "len" = none) (cdv : Value) (A : Around) (outer : List PySem.Env) (s : Shared) (H : Hp) (E : XK) (hr : Room k (A.deeper (envOfC "_law_scaled" (defScope s_law_scaled) s.heap.objs.size f cdv))) (G : Gh) (hG : G.slots = []) :
    SDs (cxOf CX0 P w K mg base N_law_scaled "_law_scaled" (defScope s_law_scaled) f cdv A outer s H E).nox G (defBody s_law_scaled) (tb_law_scaled_k21) := by
  unfold tb_law_scaled_k21
  exact sds_cons (sd_set (ns hG (by decide)) sc_law_scaled.nd rfl (by first | exact Or.inl rfl | exact Or.inr rfl) (EL.ed (el_lst (eds_cons (ed_int) (eds_cons (ed_int) (eds_cons (ed_int) (eds_cons (ed_int) (eds_cons (ed_int) (eds_cons (ed_int) (eds_cons (ed_int) (eds_cons (ed_int) (eds_cons (ed_int) (eds_cons (ed_int) (eds_cons (ed_int) (eds_cons (ed_int) (eds_cons (ed_int) (eds_cons (ed_int) (eds_cons (ed_int) (eds_cons (ed_int) (eds_cons (ed_int) (eds_cons (ed_int) (eds_cons (ed_int) (eds_nil)))))))))))))))))))))))
      (sds_cons (sd_set (ns hG (by decide)) sc_law_scaled.nd rfl (by first | exact Or.inl rfl | exact Or.inr rfl) (EL.ed (el_op od_cat (ed_var 1) (ED.er (EL.ed (el_lst (eds_cons (ed_int) (eds_cons (ed_int) (eds_cons (ed_int) (eds_cons (ed_int) (eds_cons (ed_int) (eds_nil))))))))))))
      (sds_cons (sd_set (ns hG (by decide)) sc_law_scaled.nd rfl (by first | exact Or.inl rfl | exact Or.inr rfl) (ed_ca1 cd_len (ED.er (EL.ed (el_comp [("step", 3)] rfl sc_law_scaled.nd rfl (nsA hG (by decide)) (id_lst (ed_var 1)) (blkOk_by (N := N_law_scaled) (sc := defScope s_law_scaled) (by decide +kernel)) (fun _ q1 _ _ _ _ _ => gd_name (ns (q1.trans hG) (by decide)) (by decide) sc_law_scaled.nd rfl (by first | exact Or.inl rfl | exact Or.inr rfl)) (fun _ q1 _ _ _ _ _ => ebs_one (eb_not (eb_cmp od_lt (ed_ca1 cd_abs (ED.er (ed_var 0)) rfl b_abs bb_abs) (ED.er (ed_var 3)) (nomark _)))) (fun _ q1 _ _ _ _ _ => ed_var 3)))) rfl b_len bb_len))
      (sds_one (sd_ret (ed_if (eb_cmp od_gt (ed_var 0) (ED.er (ed_int)) (nomark _)) (ed_var 2) (ed_op od_sub (ed_int) (ED.er (ed_var 2))))))))
abbrev s_law : Stmt := topS 11
abbrev N_law : List Str := ["script", "town", "steps", "k", "step", "one", "base", "scores", "due", "some", "at", "score", "others", "rows", "j", "totals", "name", "total", "other", "number", "word"]
theorem sc_law : FnScope N_law ["script"] (defScope s_law) := ⟨rfl, rfl, rfl, by decide +kernel, rfl, by decide +kernel, by decide +kernel⟩
theorem dv_law {f : Addr} {k : Nat} (b_range : mg "range" = none) (b_sorted : mg "sorted" = none) (b_tuple : mg "tuple" = none) (b_len : mg "len" = none) (b_set : mg "set" = none) (b_sum : mg "sum" = none) (b_enumerate : mg "enumerate" = none) (b_int : mg "int" = none) {sp_standings : SpD} {f_standings : Addr} {fd_standings : FuncData} {k_standings : Nat} (C_standings : FnOk P w K mg base CX0 k_standings f_standings fd_standings ["rows"] (spL K sp_standings)) (h_standings : k_standings ≤ k) (C_standings_g : mg "standings" = some (.ref f_standings)) (C_standings_k : PySem.W.keepIn K (.ref f_standings) = true) (C_standings_b : Binds K fd_standings ["rows"] []) {sp_law_same : SpD} {f_law_same : Addr} {fd_law_same : FuncData} {k_law_same : Nat} (C_law_same : FnOk P w K mg base CX0 k_law_same f_law_same fd_law_same ["got", "due"] (spL K sp_law_same)) (h_law_same : k_law_same ≤ k) (C_law_same_g : mg "_law_same" = some (.ref f_law_same)) (C_law_same_k : PySem.W.keepIn K (.ref f_law_same) = true) (C_law_same_b : Binds K fd_law_same ["got", "due"] []) {sp_law_draw : SpD} {f_law_draw : Addr} {fd_law_draw : FuncData} {k_law_draw : Nat} (C_law_draw : FnOk P w K mg base CX0 k_law_draw f_law_draw fd_law_draw ["script", "town", "many"] (spL K sp_law_draw)) (h_law_draw : k_law_draw ≤ k) (C_law_draw_g : mg "_law_draw" = some (.ref f_law_draw)) (C_law_draw_k : PySem.W.keepIn K (.ref f_law_draw) = true) (C_law_draw_b : Binds K fd_law_draw ["script", "town", "many"] []) {sp_law_pick : SpD} {f_law_pick : Addr} {fd_law_pick : FuncData} {k_law_pick : Nat} (C_law_pick : FnOk P w K mg base CX0 k_law_pick f_law_pick fd_law_pick ["script", "town", "some"] (spL K sp_law_pick)) (h_law_pick : k_law_pick ≤ k) (C_law_pick_g : mg "_law_pick" = some (.ref f_law_pick)) (C_law_pick_k : PySem.W.keepIn K (.ref f_law_pick) = true) (C_law_pick_b : Binds K fd_law_pick ["script", "town", "some"] []) {sp_cross : SpD} {f_cross : Addr} {fd_cross : FuncData} {k_cross : Nat} (C_cross : FnOk P w K mg base CX0 k_cross f_cross fd_cross ["scores"] (spL K sp_cross)) (h_cross : k_cross ≤ k) (C_cross_g : mg "cross" = some (.ref f_cross)) (C_cross_k : PySem.W.keepIn K (.ref f_cross) = true) (C_cross_b : Binds K fd_cross ["scores"] []) {sp_halves : SpD} {f_halves : Addr} {fd_halves : FuncData} {k_halves : Nat} (C_halves : FnOk P w K mg base CX0 k_halves f_halves fd_halves ["scores"] (spL K sp_halves)) (h_halves : k_halves ≤ k) (C_halves_g : mg "halves" = some (.ref f_halves)) (C_halves_k : PySem.W.keepIn K (.ref f_halves) = true) (C_halves_b : Binds K fd_halves ["scores"] []) {sp_law_scaled : SpD} {f_law_scaled : Addr} {fd_law_scaled : FuncData} {k_law_scaled : Nat} (C_law_scaled : FnOk P w K mg base CX0 k_law_scaled f_law_scaled fd_law_scaled ["difference"] (spL K sp_law_scaled)) (h_law_scaled : k_law_scaled ≤ k) (C_law_scaled_g : mg "_law_scaled" = some (.ref f_law_scaled)) (C_law_scaled_k : PySem.W.keepIn K (.ref f_law_scaled) = true) (C_law_scaled_b : Binds K fd_law_scaled ["difference"] []) {sp_scaled : SpD} {f_scaled : Addr} {fd_scaled : FuncData} {k_scaled : Nat} (C_scaled : FnOk P w K mg base CX0 k_scaled f_scaled fd_scaled ["difference"] (spL K sp_scaled)) (h_scaled : k_scaled ≤ k) (C_scaled_g : mg "scaled" = some (.ref f_scaled)) (C_scaled_k : PySem.W.keepIn K (.ref f_scaled) = true) (C_scaled_b : Binds K fd_scaled ["difference"] []) (cdv : Value) (A : Around) (outer : List PySem.Env) (s : Shared) (H : Hp) (E : XK) (hr : Room k (A.deeper (envOfC "law" (defScope s_law) s.heap.objs.size f cdv))) (G : Gh) (hG : G.slots = []) :
    SDs (cxOf CX0 P w K mg base N_law "law" (defScope s_law) f cdv A outer s H E).nox G (defBody s_law) (tb_law_k21 sp_standings sp_law_same sp_law_draw sp_law_pick sp_cross sp_halves sp_law_scaled sp_scaled) := by
  unfold tb_law_k21
  exact sds_cons (sd_setL (ns hG (by decide)) sc_law.nd rfl (by first | exact Or.inl rfl | exact Or.inr rfl) (el_lst (eds_nil)))
      (sds_cons (sd_set (ns hG (by decide)) sc_law.nd rfl (by first | exact Or.inl rfl | exact Or.inr rfl) (EL.ed (el_lst (eds_cons (ed_int) (eds_cons (ed_int) (eds_cons (ed_int) (eds_cons (ed_int) (eds_cons (ed_int) (eds_cons (ed_int) (eds_cons (ed_int) (eds_cons (ed_int) (eds_cons (ed_int) (eds_cons (ed_int) (eds_cons (ed_int) (eds_cons (ed_int) (eds_cons (ed_int) (eds_cons (ed_int) (eds_cons (ed_int) (eds_cons (ed_int) (eds_cons (ed_int) (eds_cons (ed_int) (eds_cons (ed_int) (eds_nil)))))))))))))))))))))))
      (sds_cons (sd_set (ns hG (by decide)) sc_law.nd rfl (by first | exact Or.inl rfl | exact Or.inr rfl) (EL.ed (el_op od_cat (ed_var 2) (ED.er (EL.ed (el_lst (eds_cons (ed_int) (eds_cons (ed_int) (eds_cons (ed_int) (eds_cons (ed_int) (eds_cons (ed_int) (eds_cons (ed_int) (eds_cons (ed_int) (eds_cons (ed_int) (eds_nil)))))))))))))))
      (sds_cons (sd_for (ms := [3]) PassesOwn.never rfl (id_range1 rfl b_range (ed_int)) (gd_name (ns hG (by decide)) (by decide) sc_law.nd rfl (by first | exact Or.inl rfl | exact Or.inr rfl)) (sds_cons (sd_for (ms := [4]) PassesOwn.never rfl (id_lst (ed_var 2)) (gd_name (ns hG (by decide)) (by decide) sc_law.nd rfl (by first | exact Or.inl rfl | exact Or.inr rfl)) (sds_cons (sd_set (ns hG (by decide)) sc_law.nd rfl (by first | exact Or.inl rfl | exact Or.inr rfl) (ed_op od_mul (ed_op od_sub (ed_op od_add (ed_var 4) (ED.er (ed_call C_law_draw (hr.mono h_law_draw) rfl C_law_draw_g C_law_draw_k C_law_draw_b (ea_v (ed_var 0) (ea_o 1 (ea_v (ed_int) (ea_nil))))))) (ED.er (ed_int))) (ED.er (ed_call C_law_pick (hr.mono h_law_pick) rfl C_law_pick_g C_law_pick_k C_law_pick_b (ea_v (ed_var 0) (ea_o 1 (ea_v (EL.ed (el_lst (eds_cons (ed_int) (eds_cons (ed_un ud_neg (ED.er (ed_int))) (eds_nil))))) (ea_nil))))))))
      (sds_one (sd_if (eb_not (eb_tru (ED.er (ed_call C_law_same (hr.mono h_law_same) rfl C_law_same_g C_law_same_k C_law_same_b (ea_v (ed_call C_scaled (hr.mono h_scaled) rfl C_scaled_g C_scaled_k C_scaled_b (ea_v (ed_var 5) (ea_nil))) (ea_v (ed_call C_law_scaled (hr.mono h_law_scaled) rfl C_law_scaled_g C_law_scaled_k C_law_scaled_b (ea_v (ed_var 5) (ea_nil))) (ea_nil))))))) (sds_one (sd_ret (ed_bl))) (sds_nil)))))
      (sds_cons (sd_set (ns hG (by decide)) sc_law.nd rfl (by first | exact Or.inl rfl | exact Or.inr rfl) (EL.ed (el_op od_cat (EL.ed (el_comp [("j", 14)] rfl sc_law.nd rfl (nsA hG (by decide)) (id_range1 rfl b_range (ed_int)) (blkOk_by (N := N_law) (sc := defScope s_law) (by decide +kernel)) (fun _ q9 _ _ _ _ _ => gd_name (ns (q9.trans hG) (by decide)) (by decide) sc_law.nd rfl (by first | exact Or.inl rfl | exact Or.inr rfl)) (fun _ q9 _ _ _ _ _ => ebs_nil) (fun _ q9 _ _ _ _ _ => ed_op od_sub (ed_op od_mul (ed_call C_law_draw (hr.mono h_law_draw) rfl C_law_draw_g C_law_draw_k C_law_draw_b (ea_v (ed_var 0) (ea_o 1 (ea_v (ed_int) (ea_nil))))) (ED.er (ed_int))) (ED.er (ed_int))))) (ED.er (EL.ed (el_lst (eds_cons (ed_int) (eds_cons (ed_int) (eds_cons (ed_un ud_neg (ED.er (ed_int))) (eds_nil))))))))))
      (sds_cons (sd_set (ns hG (by decide)) sc_law.nd rfl (by first | exact Or.inl rfl | exact Or.inr rfl) (ed_caT1 cd_tuple (ED.er (EL.ed (el_comp [("j", 14)] rfl sc_law.nd rfl (nsA hG (by decide)) (id_range1 rfl b_range (ed_call C_law_draw (hr.mono h_law_draw) rfl C_law_draw_g C_law_draw_k C_law_draw_b (ea_v (ed_var 0) (ea_o 1 (ea_v (ed_int) (ea_nil)))))) (blkOk_by (N := N_law) (sc := defScope s_law) (by decide +kernel)) (fun _ q8 _ _ _ _ _ => gd_name (ns (q8.trans hG) (by decide)) (by decide) sc_law.nd rfl (by first | exact Or.inl rfl | exact Or.inr rfl)) (fun _ q8 _ _ _ _ _ => ebs_nil) (fun _ q8 _ _ _ _ _ => ed_call C_law_pick (hr.mono h_law_pick) rfl C_law_pick_g C_law_pick_k C_law_pick_b (ea_v (ed_var 0) (ea_o 1 (ea_v (ed_var 6) (ea_nil)))))))) rfl b_tuple bb_tuple))
      (sds_cons (sd_par2 (nsA hG (by decide)) rfl sc_law.nd rfl rfl (by decide) rfl rfl (eps_l (el_lst (eds_nil)) (fun _ q6 => eps_l (el_lst (eds_nil)) (fun _ q7 => eps_nil))))
      (sds_cons (sd_for (ms := [10, 11]) PassesOwn.never rfl (id_enumT (ed_var 7) rfl b_enumerate) (gd_tup rfl (gds_cons (gd_name (ns hG (by decide)) (by decide) sc_law.nd rfl (by first | exact Or.inl rfl | exact Or.inr rfl)) (gds_cons (gd_name (ns hG (by decide)) (by decide) sc_law.nd rfl (by first | exact Or.inl rfl | exact Or.inr rfl)) (gds_nil)))) (sds_cons (sd_set (ns hG (by decide)) sc_law.nd rfl (by first | exact Or.inl rfl | exact Or.inr rfl) (ed_op od_add (ed_sl (ed_var 7) (eo_no) (eo_e (ed_var 10))) (ED.er (ed_sl (ed_var 7) (eo_e (ed_op od_add (ed_var 10) (ED.er (ed_int)))) (eo_no)))))
      (sds_cons (sd_expr (ed_app 8 (ed_ca1 (cd_sum rfl) (ED.er (EL.ed (el_comp [("other", 18)] rfl sc_law.nd rfl (nsA hG (by decide)) (id_tup (ed_var 12)) (blkOk_by (N := N_law) (sc := defScope s_law) (by decide +kernel)) (fun _ q5 _ _ _ _ _ => gd_name (ns (q5.trans hG) (by decide)) (by decide) sc_law.nd rfl (by first | exact Or.inl rfl | exact Or.inr rfl)) (fun _ q5 _ _ _ _ _ => ebs_one (eb_cmp od_ge (ed_var 11) (ED.er (ed_var 18)) (nomark _))) (fun _ q5 _ _ _ _ _ => ed_op od_add (ed_int) (ED.er (ed_caT1 cd_int (ED.er (ed_cmp od_gt (ed_var 11) (ED.er (ed_var 18)) (nomark _))) rfl b_int bb_int)))))) rfl b_sum bb_sum)))
      (sds_one (sd_expr (ed_app 9 (ed_ca1 (cd_sum rfl) (ED.er (EL.ed (el_comp [("other", 18)] rfl sc_law.nd rfl (nsA hG (by decide)) (id_tup (ed_var 12)) (blkOk_by (N := N_law) (sc := defScope s_law) (by decide +kernel)) (fun _ q4 _ _ _ _ _ => gd_name (ns (q4.trans hG) (by decide)) (by decide) sc_law.nd rfl (by first | exact Or.inl rfl | exact Or.inr rfl)) (fun _ q4 _ _ _ _ _ => ebs_nil) (fun _ q4 _ _ _ _ _ => ed_call C_law_scaled (hr.mono h_law_scaled) rfl C_law_scaled_g C_law_scaled_k C_law_scaled_b (ea_v (ed_op od_sub (ed_var 11) (ED.er (ed_var 18))) (ea_nil)))))) rfl b_sum bb_sum)))))))
      (sds_cons (sd_if (eb_not (eb_tru (ED.er (ed_call C_law_same (hr.mono h_law_same) rfl C_law_same_g C_law_same_k C_law_same_b (ea_v (ed_tup (eds_cons (ed_call C_halves (hr.mono h_halves) rfl C_halves_g C_halves_k C_halves_b (ea_v (ed_var 7) (ea_nil))) (eds_cons (ed_call C_cross (hr.mono h_cross) rfl C_cross_g C_cross_k C_cross_b (ea_v (ed_var 7) (ea_nil))) (eds_nil)))) (ea_v (ed_tup (eds_cons (ed_caT1 cd_tuple (er_var 8) rfl b_tuple bb_tuple) (eds_cons (ed_caT1 cd_tuple (er_var 9) rfl b_tuple bb_tuple) (eds_nil)))) (ea_nil))))))) (sds_one (sd_ret (ed_bl))) (sds_nil))
      (sds_cons (sd_setL (ns hG (by decide)) sc_law.nd rfl (by first | exact Or.inl rfl | exact Or.inr rfl) (el_lst (eds_nil)))
      (sds_cons (sd_for (ms := [14]) PassesOwn.never rfl (id_range1 rfl b_range (ed_call C_law_draw (hr.mono h_law_draw) rfl C_law_draw_g C_law_draw_k C_law_draw_b (ea_v (ed_var 0) (ea_o 1 (ea_v (ed_int) (ea_nil)))))) (gd_name (ns hG (by decide)) (by decide) sc_law.nd rfl (by first | exact Or.inl rfl | exact Or.inr rfl)) (sds_one (sd_expr (ed_app 13 (ed_tup (eds_cons (ed_call C_law_pick (hr.mono h_law_pick) rfl C_law_pick_g C_law_pick_k C_law_pick_b (ea_v (ed_var 0) (ea_o 1 (ea_v (EL.ed (el_lst (eds_cons (ed_str) (eds_cons (ed_str) (eds_cons (ed_str) (eds_cons (ed_str) (eds_nil))))))) (ea_nil))))) (eds_cons (ed_op od_sub (ed_call C_law_draw (hr.mono h_law_draw) rfl C_law_draw_g C_law_draw_k C_law_draw_b (ea_v (ed_var 0) (ea_o 1 (ea_v (ed_int) (ea_nil))))) (ED.er (ed_int))) (eds_nil))))))))
      (sds_cons (sd_setL (ns hG (by decide)) sc_law.nd rfl (by first | exact Or.inl rfl | exact Or.inr rfl) (el_lst (eds_nil)))
      (sds_cons (sd_for (ms := [16]) PassesOwn.never rfl (id_lst (EL.ed (el_sortSetS (ED.er (EL.ed (el_comp [("name", 16), ("number", 19)] rfl sc_law.nd rfl (nsA hG (by decide)) (id_lst (ed_fzv 13)) (blkOk_by (N := N_law) (sc := defScope s_law) (by decide +kernel)) (fun _ q2 _ _ _ _ _ => gd_tup rfl (gds_cons (gd_name (ns (q2.trans hG) (by decide)) (by decide) sc_law.nd rfl (by first | exact Or.inl rfl | exact Or.inr rfl)) (gds_cons (gd_name (ns (q2.trans hG) (by decide)) (by decide) sc_law.nd rfl (by first | exact Or.inl rfl | exact Or.inr rfl)) (gds_nil)))) (fun _ q2 _ _ _ _ _ => ebs_nil) (fun _ q2 _ _ _ _ _ => ed_var 16)))) rfl b_sorted rfl b_set))) (gd_name (ns hG (by decide)) (by decide) sc_law.nd rfl (by first | exact Or.inl rfl | exact Or.inr rfl)) (sds_one (sd_expr (ed_app 15 (ed_tup (eds_cons (ed_ca1 (cd_sum rfl) (ED.er (EL.ed (el_comp [("other", 18), ("number", 19)] rfl sc_law.nd rfl (nsA hG (by decide)) (id_lst (ed_fzv 13)) (blkOk_by (N := N_law) (sc := defScope s_law) (by decide +kernel)) (fun _ q3 _ _ _ _ _ => gd_tup rfl (gds_cons (gd_name (ns (q3.trans hG) (by decide)) (by decide) sc_law.nd rfl (by first | exact Or.inl rfl | exact Or.inr rfl)) (gds_cons (gd_name (ns (q3.trans hG) (by decide)) (by decide) sc_law.nd rfl (by first | exact Or.inl rfl | exact Or.inr rfl)) (gds_nil)))) (fun _ q3 _ _ _ _ _ => ebs_one (eb_cmp (od_eq hr.units) (ed_var 18) (ED.er (ed_var 16)) (nomark _))) (fun _ q3 _ _ _ _ _ => ed_var 19)))) rfl b_sum bb_sum) (eds_cons (ed_var 16) (eds_nil))))))))
      (sds_cons (sd_setL (ns hG (by decide)) sc_law.nd rfl (by first | exact Or.inl rfl | exact Or.inr rfl) (el_lst (eds_nil)))
      (sds_cons (sd_for (ms := [17, 16]) PassesOwn.never rfl (id_lst (ed_fzv 15)) (gd_tup rfl (gds_cons (gd_name (ns hG (by decide)) (by decide) sc_law.nd rfl (by first | exact Or.inl rfl | exact Or.inr rfl)) (gds_cons (gd_name (ns hG (by decide)) (by decide) sc_law.nd rfl (by first | exact Or.inl rfl | exact Or.inr rfl)) (gds_nil)))) (sds_one (sd_expr (ed_app 8 (ed_tup (eds_cons (ed_op od_add (ed_int) (ED.er (ed_ca1 cd_len (ED.er (EL.ed (el_comp [("other", 18), ("word", 20)] rfl sc_law.nd rfl (nsA hG (by decide)) (id_lst (ed_fzv 15)) (blkOk_by (N := N_law) (sc := defScope s_law) (by decide +kernel)) (fun _ q1 _ _ _ _ _ => gd_tup rfl (gds_cons (gd_name (ns (q1.trans hG) (by decide)) (by decide) sc_law.nd rfl (by first | exact Or.inl rfl | exact Or.inr rfl)) (gds_cons (gd_name (ns (q1.trans hG) (by decide)) (by decide) sc_law.nd rfl (by first | exact Or.inl rfl | exact Or.inr rfl)) (gds_nil)))) (fun _ q1 _ _ _ _ _ => ebs_one (eb_cmp od_gt (ed_var 18) (ED.er (ed_var 17)) (nomark _))) (fun _ q1 _ _ _ _ _ => ed_int)))) rfl b_len bb_len))) (eds_cons (ed_var 16) (eds_cons (ed_var 17) (eds_nil)))))))))
      (sds_one (sd_if (eb_not (eb_tru (ED.er (ed_call C_law_same (hr.mono h_law_same) rfl C_law_same_g C_law_same_k C_law_same_b (ea_v (ed_call C_standings (hr.mono h_standings) rfl C_standings_g C_standings_k C_standings_b (ea_v (ed_caT1 cd_tuple (er_var 13) rfl b_tuple bb_tuple) (ea_nil))) (ea_v (ed_caT1 cd_tuple (ED.er (EL.ed (el_ca1 (cd_sorted (u65 hr)) (er_var 8) rfl b_sorted bb_sorted))) rfl b_tuple bb_tuple) (ea_nil))))))) (sds_one (sd_ret (ed_bl))) (sds_nil))))))))))))))))
      (sds_one (sd_ret (ed_bl))))))
end
theorem all_mk {l : PySem.W.OpenLaw} {w : World} {K : PySem.W.Frag} {h : Heap} {mg : Str → Option Value} {fa : Addr} {f_standings : Addr} {od_standings an_standings : Option Addr} {sl_standings : Array (Option Value)} {oc_standings kV_standings dc_standings pm_standings cd_standings ct_standings : Value} {f_law_same : Addr} {od_law_same an_law_same : Option Addr} {sl_law_same : Array (Option Value)} {oc_law_same kV_law_same dc_law_same pm_law_same cd_law_same ct_law_same : Value} {f_law_draw : Addr} {od_law_draw an_law_draw : Option Addr} {sl_law_draw : Array (Option Value)} {oc_law_draw kV_law_draw dc_law_draw pm_law_draw cd_law_draw ct_law_draw : Value} {f_law_pick : Addr} {od_law_pick an_law_pick : Option Addr} {sl_law_pick : Array (Option Value)} {oc_law_pick kV_law_pick dc_law_pick pm_law_pick cd_law_pick ct_law_pick : Value} {f_scaled : Addr} {od_scaled an_scaled : Option Addr} {sl_scaled : Array (Option Value)} {oc_scaled kV_scaled dc_scaled pm_scaled cd_scaled ct_scaled : Value} {f_cross : Addr} {od_cross an_cross : Option Addr} {sl_cross : Array (Option Value)} {oc_cross kV_cross dc_cross pm_cross cd_cross ct_cross : Value} {f_halves : Addr} {od_halves an_halves : Option Addr} {sl_halves : Array (Option Value)} {oc_halves kV_halves dc_halves pm_halves cd_halves ct_halves : Value} {f_law_scaled : Addr} {od_law_scaled an_law_scaled : Option Addr} {sl_law_scaled : Array (Option Value)} {oc_law_scaled kV_law_scaled dc_law_scaled pm_law_scaled cd_law_scaled ct_law_scaled : Value} {f_law : Addr} {od_law an_law : Option Addr} {sl_law : Array (Option Value)} {oc_law kV_law dc_law pm_law cd_law ct_law : Value} {u_STEPS : Addr} {its_STEPS : Array Value} {n_STEPS : Nat} {sl_STEPS : Array (Option Value)} (X : K.In h) (G : h.Ns mainGlobals mg) (hfa : mg "law" = some (.ref fa))
    (a_standings : PySem.W.nsIn K mainGlobals "standings" = some (some (.ref f_standings))) (l_standings : K.lookup f_standings = some ⟨oc_standings, od_standings, .func (PySem.W.fnOf "standings" "standings" (defArgs s_standings) (defBody s_standings) (defScope s_standings) .none kV_standings dc_standings pm_standings an_standings cd_standings ct_standings), sl_standings⟩) (c_standings : PySem.W.codeIn K cd_standings "standings" = true) (k_standings : PySem.W.keepIn K (.ref f_standings) = true)
    (a_law_same : PySem.W.nsIn K mainGlobals "_law_same" = some (some (.ref f_law_same))) (l_law_same : K.lookup f_law_same = some ⟨oc_law_same, od_law_same, .func (PySem.W.fnOf "_law_same" "_law_same" (defArgs s_law_same) (defBody s_law_same) (defScope s_law_same) .none kV_law_same dc_law_same pm_law_same an_law_same cd_law_same ct_law_same), sl_law_same⟩) (c_law_same : PySem.W.codeIn K cd_law_same "_law_same" = true) (k_law_same : PySem.W.keepIn K (.ref f_law_same) = true)
    (a_law_draw : PySem.W.nsIn K mainGlobals "_law_draw" = some (some (.ref f_law_draw))) (l_law_draw : K.lookup f_law_draw = some ⟨oc_law_draw, od_law_draw, .func (PySem.W.fnOf "_law_draw" "_law_draw" (defArgs s_law_draw) (defBody s_law_draw) (defScope s_law_draw) .none kV_law_draw dc_law_draw pm_law_draw an_law_draw cd_law_draw ct_law_draw), sl_law_draw⟩) (c_law_draw : PySem.W.codeIn K cd_law_draw "_law_draw" = true) (k_law_draw : PySem.W.keepIn K (.ref f_law_draw) = true)
    (a_law_pick : PySem.W.nsIn K mainGlobals "_law_pick" = some (some (.ref f_law_pick))) (l_law_pick : K.lookup f_law_pick = some ⟨oc_law_pick, od_law_pick, .func (PySem.W.fnOf "_law_pick" "_law_pick" (defArgs s_law_pick) (defBody s_law_pick) (defScope s_law_pick) .none kV_law_pick dc_law_pick pm_law_pick an_law_pick cd_law_pick ct_law_pick), sl_law_pick⟩) (c_law_pick : PySem.W.codeIn K cd_law_pick "_law_pick" = true) (k_law_pick : PySem.W.keepIn K (.ref f_law_pick) = true)
    (a_scaled : PySem.W.nsIn K mainGlobals "scaled" = some (some (.ref f_scaled))) (l_scaled : K.lookup f_scaled = some ⟨oc_scaled, od_scaled, .func (PySem.W.fnOf "scaled" "scaled" (defArgs s_scaled) (defBody s_scaled) (defScope s_scaled) .none kV_scaled dc_scaled pm_scaled an_scaled cd_scaled ct_scaled), sl_scaled⟩) (c_scaled : PySem.W.codeIn K cd_scaled "scaled" = true) (k_scaled : PySem.W.keepIn K (.ref f_scaled) = true)
    (a_cross : PySem.W.nsIn K mainGlobals "cross" = some (some (.ref f_cross))) (l_cross : K.lookup f_cross = some ⟨oc_cross, od_cross, .func (PySem.W.fnOf "cross" "cross" (defArgs s_cross) (defBody s_cross) (defScope s_cross) .none kV_cross dc_cross pm_cross an_cross cd_cross ct_cross), sl_cross⟩) (c_cross : PySem.W.codeIn K cd_cross "cross" = true) (k_cross : PySem.W.keepIn K (.ref f_cross) = true)
    (a_halves : PySem.W.nsIn K mainGlobals "halves" = some (some (.ref f_halves))) (l_halves : K.lookup f_halves = some ⟨oc_halves, od_halves, .func (PySem.W.fnOf "halves" "halves" (defArgs s_halves) (defBody s_halves) (defScope s_halves) .none kV_halves dc_halves pm_halves an_halves cd_halves ct_halves), sl_halves⟩) (c_halves : PySem.W.codeIn K cd_halves "halves" = true) (k_halves : PySem.W.keepIn K (.ref f_halves) = true)
    (a_law_scaled : PySem.W.nsIn K mainGlobals "_law_scaled" = some (some (.ref f_law_scaled))) (l_law_scaled : K.lookup f_law_scaled = some ⟨oc_law_scaled, od_law_scaled, .func (PySem.W.fnOf "_law_scaled" "_law_scaled" (defArgs s_law_scaled) (defBody s_law_scaled) (defScope s_law_scaled) .none kV_law_scaled dc_law_scaled pm_law_scaled an_law_scaled cd_law_scaled ct_law_scaled), sl_law_scaled⟩) (c_law_scaled : PySem.W.codeIn K cd_law_scaled "_law_scaled" = true) (k_law_scaled : PySem.W.keepIn K (.ref f_law_scaled) = true)
    (a_law : PySem.W.nsIn K mainGlobals "law" = some (some (.ref f_law))) (l_law : K.lookup f_law = some ⟨oc_law, od_law, .func (PySem.W.fnOf "law" "law" (defArgs s_law) (defBody s_law) (defScope s_law) .none kV_law dc_law pm_law an_law cd_law ct_law), sl_law⟩) (c_law : PySem.W.codeIn K cd_law "law" = true) (k_law : PySem.W.keepIn K (.ref f_law) = true)
    (a_STEPS : PySem.W.nsIn K mainGlobals "STEPS" = some (some (.ref u_STEPS))) (l_STEPS : K.lookup u_STEPS = some ⟨.type "tuple", none, .seq its_STEPS n_STEPS, sl_STEPS⟩) (v_STEPS : intsV its_STEPS.toList steps = true)
    (z_sorted : PySem.W.nsIn K mainGlobals "sorted" = some none)
    (z_tuple : PySem.W.nsIn K mainGlobals "tuple" = some none)
    (z_len : PySem.W.nsIn K mainGlobals "len" = some none)
    (z_isinstance : PySem.W.nsIn K mainGlobals "isinstance" = some none)
    (z_int : PySem.W.nsIn K mainGlobals "int" = some none)
    (z_bool : PySem.W.nsIn K mainGlobals "bool" = some none)
    (z_str : PySem.W.nsIn K mainGlobals "str" = some none)
    (z_zip : PySem.W.nsIn K mainGlobals "zip" = some none)
    (z_all : PySem.W.nsIn K mainGlobals "all" = some none)
    (z_abs : PySem.W.nsIn K mainGlobals "abs" = some none)
    (z_max : PySem.W.nsIn K mainGlobals "max" = some none)
    (z_sum : PySem.W.nsIn K mainGlobals "sum" = some none)
    (z_range : PySem.W.nsIn K mainGlobals "range" = some none)
    (z_set : PySem.W.nsIn K mainGlobals "set" = some none)
    (z_enumerate : PySem.W.nsIn K mainGlobals "enumerate" = some none) :
    ∃ fd : FuncData, (∀ (s : Shared) (v : Value), BindsTo s fd ⟨[v], []⟩ [("script", v)]) ∧ ∀ base : Heap, K.In base → base.Ns mainGlobals mg → FnOk l.prog w K mg base CX0 5 fa fd ["script"] (spL K spLaw) := by
  cases hfa.symm.trans (PySem.W.mg_of X G a_law)
  have F_standings := fun_mk (st := s_standings) l_standings c_standings k_standings
  have B_standings := F_standings.binds (ps := ["rows"]) fun _ _ _ _ _ _ us hl => match us, hl with | [_], _ => rfl
  have g_standings := PySem.W.mg_of X G a_standings
  have F_law_same := fun_mk (st := s_law_same) l_law_same c_law_same k_law_same
  have B_law_same := F_law_same.binds (ps := ["got", "due"]) fun _ _ _ _ _ _ us hl => match us, hl with | [_, _], _ => rfl
  have g_law_same := PySem.W.mg_of X G a_law_same
  have F_law_draw := fun_mk (st := s_law_draw) l_law_draw c_law_draw k_law_draw
  have B_law_draw := F_law_draw.binds (ps := ["script", "town", "many"]) fun _ _ _ _ _ _ us hl => match us, hl with | [_, _, _], _ => rfl
  have g_law_draw := PySem.W.mg_of X G a_law_draw
  have F_law_pick := fun_mk (st := s_law_pick) l_law_pick c_law_pick k_law_pick
  have B_law_pick := F_law_pick.binds (ps := ["script", "town", "some"]) fun _ _ _ _ _ _ us hl => match us, hl with | [_, _, _], _ => rfl
  have g_law_pick := PySem.W.mg_of X G a_law_pick
  have F_scaled := fun_mk (st := s_scaled) l_scaled c_scaled k_scaled
  have B_scaled := F_scaled.binds (ps := ["difference"]) fun _ _ _ _ _ _ us hl => match us, hl with | [_], _ => rfl
  have g_scaled := PySem.W.mg_of X G a_scaled
  have F_cross := fun_mk (st := s_cross) l_cross c_cross k_cross
  have B_cross := F_cross.binds (ps := ["scores"]) fun _ _ _ _ _ _ us hl => match us, hl with | [_], _ => rfl
  have g_cross := PySem.W.mg_of X G a_cross
  have F_halves := fun_mk (st := s_halves) l_halves c_halves k_halves
  have B_halves := F_halves.binds (ps := ["scores"]) fun _ _ _ _ _ _ us hl => match us, hl with | [_], _ => rfl
  have g_halves := PySem.W.mg_of X G a_halves
  have F_law_scaled := fun_mk (st := s_law_scaled) l_law_scaled c_law_scaled k_law_scaled
  have B_law_scaled := F_law_scaled.binds (ps := ["difference"]) fun _ _ _ _ _ _ us hl => match us, hl with | [_], _ => rfl
  have g_law_scaled := PySem.W.mg_of X G a_law_scaled
  have F_law := fun_mk (st := s_law) l_law c_law k_law
  have g_STEPS := PySem.W.mg_of X G a_STEPS
  have b_sorted := PySem.W.mg_none_of X G z_sorted
  have b_tuple := PySem.W.mg_none_of X G z_tuple
  have b_len := PySem.W.mg_none_of X G z_len
  have b_isinstance := PySem.W.mg_none_of X G z_isinstance
  have b_int := PySem.W.mg_none_of X G z_int
  have b_bool := PySem.W.mg_none_of X G z_bool
  have b_str := PySem.W.mg_none_of X G z_str
  have b_zip := PySem.W.mg_none_of X G z_zip
  have b_all := PySem.W.mg_none_of X G z_all
  have b_abs := PySem.W.mg_none_of X G z_abs
  have b_max := PySem.W.mg_none_of X G z_max
  have b_sum := PySem.W.mg_none_of X G z_sum
  have b_range := PySem.W.mg_none_of X G z_range
  have b_set := PySem.W.mg_none_of X G z_set
  have b_enumerate := PySem.W.mg_none_of X G z_enumerate
  refine ⟨PySem.W.fnOf "law" "law" (defArgs s_law) (defBody s_law) (defScope s_law) .none kV_law dc_law pm_law an_law cd_law ct_law, fun s v => .of_eq rfl, fun base _ _ => ?_⟩
  have ok_standings : FnOk l.prog w K mg base CX0 1 f_standings _ ["rows"] (spL K spStand) := fn_okD F_standings sc_standings sh_standings (fun cdv A outer s H E hr G hG => dv_standings b_sorted b_tuple b_len cdv A outer s H E hr G hG) rd_standings
  have ok_law_same_z : FnOk l.prog w K mg base CX0 1 f_law_same _ ["got", "due"] (spL K spNo) := no_ok F_law_same sc_law_same
  have ok_law_same_0 : FnOk l.prog w K mg base CX0 2 f_law_same _ ["got", "due"] (spL K (spSame 0)) := fn_okD F_law_same sc_law_same (sh_law_same 0) (fun cdv A outer s H E hr G hG => dv_law_same b_isinstance b_int b_bool b_str b_tuple b_zip b_all b_len ok_law_same_z (by decide) g_law_same F_law_same.kp B_law_same cdv A outer s H E hr G hG) (rd_law_same 0 spNo (fun m e => nomatch e))
  have ok_law_same_1 : FnOk l.prog w K mg base CX0 3 f_law_same _ ["got", "due"] (spL K (spSame 1)) := fn_okD F_law_same sc_law_same (sh_law_same 1) (fun cdv A outer s H E hr G hG => dv_law_same b_isinstance b_int b_bool b_str b_tuple b_zip b_all b_len ok_law_same_0 (by decide) g_law_same F_law_same.kp B_law_same cdv A outer s H E hr G hG) (rd_law_same 1 (spSame 0) (fun m e => by cases e; rfl))
  have ok_law_same : FnOk l.prog w K mg base CX0 4 f_law_same _ ["got", "due"] (spL K (spSame 2)) := fn_okD F_law_same sc_law_same (sh_law_same 2) (fun cdv A outer s H E hr G hG => dv_law_same b_isinstance b_int b_bool b_str b_tuple b_zip b_all b_len ok_law_same_1 (by decide) g_law_same F_law_same.kp B_law_same cdv A outer s H E hr G hG) (rd_law_same 2 (spSame 1) (fun m e => by cases e; rfl))
  have ok_law_draw : FnOk l.prog w K mg base CX0 1 f_law_draw _ ["script", "town", "many"] (spL K spDraw) := fn_okD F_law_draw sc_law_draw sh_law_draw (fun cdv A outer s H E hr G hG => dv_law_draw b_len b_abs b_max cdv A outer s H E hr G hG) rd_law_draw
  have ok_law_pick : FnOk l.prog w K mg base CX0 2 f_law_pick _ ["script", "town", "some"] (spL K spPick) := fn_okD F_law_pick sc_law_pick sh_law_pick (fun cdv A outer s H E hr G hG => dv_law_pick b_len ok_law_draw (by decide) g_law_draw F_law_draw.kp B_law_draw cdv A outer s H E hr G hG) rd_law_pick
  have ok_scaled : FnOk l.prog w K mg base CX0 1 f_scaled _ ["difference"] (spL K spScaled) := fn_okD F_scaled sc_scaled sh_scaled (fun cdv A outer s H E hr G hG => dv_scaled b_abs b_len (v_STEPS := .ref u_STEPS) g_STEPS rfl (const_tup l_STEPS v_STEPS (by decide)) cdv A outer s H E hr G hG) rd_scaled
  have ok_cross : FnOk l.prog w K mg base CX0 2 f_cross _ ["scores"] (spL K spCross) := fn_okD F_cross sc_cross sh_cross (fun cdv A outer s H E hr G hG => dv_cross b_sum b_tuple ok_scaled (by decide) g_scaled F_scaled.kp B_scaled cdv A outer s H E hr G hG) rd_cross
  have ok_halves : FnOk l.prog w K mg base CX0 1 f_halves _ ["scores"] (spL K spHalves) := fn_okD F_halves sc_halves sh_halves (fun cdv A outer s H E hr G hG => dv_halves b_tuple b_len cdv A outer s H E hr G hG) rd_halves
  have ok_law_scaled : FnOk l.prog w K mg base CX0 1 f_law_scaled _ ["difference"] (spL K spLScaled) := fn_okD F_law_scaled sc_law_scaled sh_law_scaled (fun cdv A outer s H E hr G hG => dv_law_scaled b_abs b_len cdv A outer s H E hr G hG) rd_law_scaled
  have ok_law : FnOk l.prog w K mg base CX0 5 _ _ ["script"] (spL K spLaw) := fn_okD F_law sc_law sh_law (fun cdv A outer s H E hr G hG => dv_law b_range b_sorted b_tuple b_len b_set b_sum b_enumerate b_int ok_standings (by decide) g_standings F_standings.kp B_standings ok_law_same (by decide) g_law_same F_law_same.kp B_law_same ok_law_draw (by decide) g_law_draw F_law_draw.kp B_law_draw ok_law_pick (by decide) g_law_pick F_law_pick.kp B_law_pick ok_cross (by decide) g_cross F_cross.kp B_cross ok_halves (by decide) g_halves F_halves.kp B_halves ok_law_scaled (by decide) g_law_scaled F_law_scaled.kp B_law_scaled ok_scaled (by decide) g_scaled F_scaled.kp B_scaled cdv A outer s H E hr G hG) rd_law_k21
  exact ok_law
end LW
open PySem PySem.W PyProof.Rows
set_option maxHeartbeats 0 in
theorem PySem.Challenge.cw_boardcalls_k21_whole_scores_compared_holds : PySem.Challenge.rw_boardcalls_k21_whole_scores_compared.Holds := by
  w_on; o_law; k_head; (case hw => w_witness2)
  k_fill
  refine DL.law_walk (l := PySem.Challenge.rw_boardcalls_k21_whole_scores_compared) (n := 63) (k := 5) (x := "script") (sp := DL.spLaw) rfl (by decide) rfl ⟨rfl, by decide, by decide⟩ (fun w h Y => PySem.W.kIn_of Y) ?F (fun ns Q hl _ q => ⟨ns, rfl, hl, q⟩)
  case F =>
    intro w mg fa h KX G hmg
    refine' LW.all_mk KX G hmg ?a_standings ?l_standings ?c_standings ?k_standings ?a_law_same ?l_law_same ?c_law_same ?k_law_same ?a_law_draw ?l_law_draw ?c_law_draw ?k_law_draw ?a_law_pick ?l_law_pick ?c_law_pick ?k_law_pick ?a_scaled ?l_scaled ?c_scaled ?k_scaled ?a_cross ?l_cross ?c_cross ?k_cross ?a_halves ?l_halves ?c_halves ?k_halves ?a_law_scaled ?l_law_scaled ?c_law_scaled ?k_law_scaled ?a_law ?l_law ?c_law ?k_law ?a_STEPS ?l_STEPS ?v_STEPS ?z_sorted ?z_tuple ?z_len ?z_isinstance ?z_int ?z_bool ?z_str ?z_zip ?z_all ?z_abs ?z_max ?z_sum ?z_range ?z_set ?z_enumerate
    (case a_standings => k_is); (case l_standings => k_is); (case c_standings => k_is); (case k_standings => k_is); (case a_law_same => k_is); (case l_law_same => k_is); (case c_law_same => k_is); (case k_law_same => k_is); (case a_law_draw => k_is); (case l_law_draw => k_is); (case c_law_draw => k_is); (case k_law_draw => k_is); (case a_law_pick => k_is); (case l_law_pick => k_is); (case c_law_pick => k_is); (case k_law_pick => k_is); (case a_scaled => k_is); (case l_scaled => k_is); (case c_scaled => k_is); (case k_scaled => k_is); (case a_cross => k_is); (case l_cross => k_is); (case c_cross => k_is); (case k_cross => k_is); (case a_halves => k_is); (case l_halves => k_is); (case c_halves => k_is); (case k_halves => k_is); (case a_law_scaled => k_is); (case l_law_scaled => k_is); (case c_law_scaled => k_is); (case k_law_scaled => k_is); (case a_law => k_is); (case l_law => k_is); (case c_law => k_is); (case k_law => k_is); (case a_STEPS => k_is); (case l_STEPS => k_is); (case z_sorted => k_is); (case z_tuple => k_is); (case z_len => k_is); (case z_isinstance => k_is); (case z_int => k_is); (case z_bool => k_is); (case z_str => k_is); (case z_zip => k_is); (case z_all => k_is); (case z_abs => k_is); (case z_max => k_is); (case z_sum => k_is); (case z_range => k_is); (case z_set => k_is); (case z_enumerate => k_is); (case v_STEPS => decide +kernel)
