import PyProof.Rows.All
import Wide.All
import OpenK.AllK
import Wide.FinOn
import HandS.ForMost
import HandS.Deep
import HandS.Flow
import HandS.IsInst
import HandS.EndBits
import KE.KDictKeyed
import HandS.DictTup
import HandS.Style
import HandS.Wide
import HandS.Zip
import HandS.Walk
import HandS.Ends
import HandS.Set
import HandS.SetFor
import HandS.Strs
import KE.SortData
import HandS.SortKw
import KE.GoesMore
import KE.DataFind
import KE.DataCmp
import KE.GoesZip
import KE.GoesEnum
import HandS.TupMul
import KE.DataMinMax
import HandS.TupSets
import KE.KDictDisplayH
import HandS.WordsExc
import HandS.TryOnly
import HandS.ExcOwn
import HandS.Conv
import HandS.NoneIn
import KE.KDictCopyH
import KE.KDictSum
import HandS.Records
import HandS.CallSlots
import HandS.Defaults
import HandS.MakeKw
import HandS.MakeKwOnly
import HandS.HotCalls
import HandS.ExcIs
import HandS.OwnEq
import HandS.FStr
import KE.KCallOwn
import HandS.Codes
import KE.KFmtOwn
import PySem.Challenge.RW_boardcalls_k24_whole_faults_of_plans
set_option Elab.async false
set_option linter.all false
set_option maxRecDepth 100000
/-! DL1: deep data over the hand layer: relations, judgements, names, constants, statements. -/
namespace DL
open PySem PySem.Spec PyProof.Rows L2

abbrev D := PyData
abbrev St := L2.St

/-- a list that nobody writes: frozen, or one of the module's own -/
def LsF (K : PySem.W.Frag) (H : Hp) (a : Addr) (vs : List V) : Prop :=
  (∃ o, H a = some (.frz o (.lst vs))) ∨ ∃ (its : Array Value) (n : Nat), K.lookup a = some { cls := .type "list", data := .seq its n } ∧ its.size ≤ sizeLine ∧ Vals vs its.toList
theorem LsF.sq {K : PySem.W.Frag} {H : Hp} {a : Addr} {vs : List V} (h : LsF K H a vs) : SqL K H a vs := by
  rcases h with h | ⟨its, n, e, z, r⟩
  · exact .inl (.inr h)
  · exact .inr ⟨_, its, n, e, rfl, rfl, rfl, z, r⟩
theorem LsF.of {K : PySem.W.Frag} {H : Hp} {a : Addr} {vs : List V} {o : Obj} (h : H a = some (.frz o (.lst vs))) : LsF K H a vs := .inl ⟨o, h⟩
/-- the object at a has no dict of its own -/
def DNo (K : PySem.W.Frag) (H : Hp) (a : Addr) : Prop := (∃ (o : Obj) (u : HO), H a = some (.frz o u) ∧ o.dict = none) ∨ ∃ o, K.lookup a = some o ∧ o.dict = none
def SqD (K : PySem.W.Frag) (H : Hp) (a : Addr) (vs : List V) : Prop := SqT K H a vs ∧ DNo K H a
/-! ### dicts whose keys are tuples (of ints, nested): the object by its entries -/
mutual
/-- the key of a dict that a tuple of ints (nested) is -/
def nkOf : D → Option NestedKey
  | .int i => some (.num i)
  | .tuple xs => (nksOf xs).map .tup
  | _ => none
def nksOf : List D → Option (List NestedKey)
  | [] => some []
  | x :: xs => match nkOf x, nksOf xs with
    | some k, some ks => some (k :: ks)
    | _, _ => none
end
/-- a key: a tuple of ints (nested) -/
def keyOk (d : D) : Prop := (∃ xs, d = .tuple xs) ∧ ∃ k, nkOf d = some k ∧ k.depth ≤ 8
/-- at a stands a dict with these entries -/
def dO (a : Addr) (es : List DictEntry) : HO := .ext fun h => ∃ (o : Obj) (ep : Nat), h.get? a = some o ∧ o.ExactDict ∧ o.data = .dict es.toArray ep
/-- a key (an int, a text) as data -/
def keyDt : Key → D
  | .inl i => .int i
  | .inr x => .str x
/-- an object's name as data -/
def hdl (a : Addr) : D := .dict [(.none, .int a)]
mutual
/-- the value v stands for the data d; lists within data are frozen -/
inductive Rp (K : PySem.W.Frag) (H : Hp) : D → V → Prop
  | non : Rp K H .none .non
  | bl (b : Bool) : Rp K H (.bool b) (.bl b)
  | int (i : Int) : Rp K H (.int i) (.int i)
  | str (x : Str) : Rp K H (.str x) (.str x)
  | tup {a : Addr} {vs : List V} {ds : List D} : SqD K H a vs → RpL K H ds vs → Rp K H (.tuple ds) (.ref a)
  | lst {a : Addr} {vs : List V} {ds : List D} : LsF K H a vs → RpL K H ds vs → Rp K H (.list ds) (.ref a)
  | dct {a : Addr} {o : Obj} {es : List DictEntry} {kvs : List (D × D)} : H a = some (.frz o (dO a es)) → RpD K H kvs es → (kvs.map fun p => nkOf p.1).Nodup → (a == sysModules) = false → Rp K H (.dict kvs) (.ref a)
  | hdl (a : Addr) : Rp K H (hdl a) (.ref a)
  | dck {a : Addr} {o : Obj} {us : List (Key × V)} {kvs : List (D × D)} : H a = some (.frz o (.dK us)) → kvs.map (·.1) = us.map (fun u => keyDt u.1) → RpL K H (kvs.map (·.2)) (us.map (·.2)) → kvs ≠ [] → Rp K H (.dict kvs) (.ref a)
inductive RpL (K : PySem.W.Frag) (H : Hp) : List D → List V → Prop
  | nil : RpL K H [] []
  | cons {d : D} {v : V} {ds : List D} {vs : List V} : Rp K H d v → RpL K H ds vs → RpL K H (d :: ds) (v :: vs)
/-- the entries of a dict -/
inductive RpD (K : PySem.W.Frag) (H : Hp) : List (D × D) → List DictEntry → Prop
  | nil : RpD K H [] []
  | cons {k d : D} {nk : NestedKey} {b : Addr} {v : V} {e : DictEntry} {kvs : List (D × D)} {es : List DictEntry} : (∃ xs, k = .tuple xs) → nkOf k = some nk → nk.depth ≤ 8 → (∀ w, e.hash = nk.hash w) → e.key = .ref b → Rp K H k (.ref b) → Rp K H d v → RelV v e.val → RpD K H kvs es → RpD K H ((k, d) :: kvs) (e :: es)
end

/-- what never changes stays -/
structure Ext (H H' : Hp) : Prop where
  tup : ∀ a xs, H a = some (.tup xs) → H' a = some (.tup xs)
  frz : ∀ a o u, H a = some (.frz o u) → H' a = some (.frz o u)
/-- all stays -/
def PExt (H H' : Hp) : Prop := ∀ a o, H a = some o → H' a = some o
theorem PExt.ext {H H' : Hp} (p : PExt H H') : Ext H H' := ⟨fun a xs h => p a _ h, fun a o u h => p a _ h⟩
theorem PExt.refl (H : Hp) : PExt H H := fun _ _ h => h
theorem PExt.trans {H H1 H2 : Hp} (a : PExt H H1) (b : PExt H1 H2) : PExt H H2 := fun p o h => b p o (a p o h)
theorem Ext.refl (H : Hp) : Ext H H := ⟨fun _ _ h => h, fun _ _ _ h => h⟩
theorem Ext.trans {H H1 H2 : Hp} (a : Ext H H1) (b : Ext H1 H2) : Ext H H2 := ⟨fun p xs h => b.tup p xs (a.tup p xs h), fun p o u h => b.frz p o u (a.frz p o u h)⟩
theorem PExt.new {H : Hp} {p : Addr} {o : HO} (h : H p = none) : PExt H (upd H p o) := fun a u e => by
  rw [upd_ne (ne_of_none e h)]; exact e
/-- something soft is changed -/
theorem Ext.putS {H : Hp} {p : Addr} {u o : HO} (h : H p = some u) (h1 : ∀ xs, u ≠ .tup xs) (h2 : ∀ q v, u ≠ .frz q v) : Ext H (upd H p o) :=
  ⟨fun a ys e => by rw [upd_ne (ne_of e h (Ne.symm (h1 ys)))]; exact e, fun a q v e => by rw [upd_ne (ne_of e h (Ne.symm (h2 q v)))]; exact e⟩
/-- a list is changed -/
theorem Ext.put {H : Hp} {p : Addr} {xs : List V} {o : HO} (h : H p = some (.lst xs)) : Ext H (upd H p o) :=
  ⟨fun a ys e => by rw [upd_ne (ne_of e h (by intro z; cases z))]; exact e, fun a q u e => by rw [upd_ne (ne_of e h (by intro z; cases z))]; exact e⟩

section
variable {K : PySem.W.Frag} {H H' : Hp}
theorem SqT.ext {a : Addr} {xs : List V} (x : Ext H H') (h : SqT K H a xs) : SqT K H' a xs := by
  rcases h with (h | ⟨o, h⟩) | h
  · exact .inl (.inl (x.tup _ _ h))
  · exact .inl (.inr ⟨o, x.frz _ _ _ h⟩)
  · exact .inr h
theorem SqD.ext {a : Addr} {xs : List V} (x : Ext H H') (h : SqD K H a xs) : SqD K H' a xs := by
  refine ⟨SqT.ext x h.1, ?_⟩
  rcases h.2 with ⟨o, u, e, d⟩ | h
  · exact .inl ⟨o, u, x.frz _ _ _ e, d⟩
  · exact .inr h
theorem SqD.new {p : Addr} {o : Obj} {vs : List V} (d : o.dict = none) : SqD K (upd H p (.frz o (.tup vs))) p vs := ⟨.inl (.inr ⟨o, upd_same⟩), .inl ⟨o, _, upd_same, d⟩⟩
theorem LsF.ext {a : Addr} {xs : List V} (x : Ext H H') (h : LsF K H a xs) : LsF K H' a xs := by
  rcases h with ⟨o, h⟩ | h
  · exact .inl ⟨o, x.frz _ _ _ h⟩
  · exact .inr h
mutual
theorem Rp.ext (x : Ext H H') : ∀ {d : D} {v : V}, Rp K H d v → Rp K H' d v
  | _, _, .non => .non
  | _, _, .bl b => .bl b
  | _, _, .int i => .int i
  | _, _, .str s => .str s
  | _, _, .tup h l => .tup (SqD.ext x h) (RpL.ext x l)
  | _, _, .lst h l => .lst (LsF.ext x h) (RpL.ext x l)
  | _, _, .dct h l n m => .dct (x.frz _ _ _ h) (RpD.ext x l) n m
  | _, _, .hdl a => .hdl a
  | _, _, .dck h e l n => .dck (x.frz _ _ _ h) e (RpL.ext x l) n
theorem RpL.ext (x : Ext H H') : ∀ {ds : List D} {vs : List V}, RpL K H ds vs → RpL K H' ds vs
  | _, _, .nil => .nil
  | _, _, .cons h l => .cons (Rp.ext x h) (RpL.ext x l)
theorem RpD.ext (x : Ext H H') : ∀ {kvs : List (D × D)} {es : List DictEntry}, RpD K H kvs es → RpD K H' kvs es
  | _, _, .nil => .nil
  | _, _, .cons t n1 n2 n3 e h g r l => .cons t n1 n2 n3 e (Rp.ext x h) (Rp.ext x g) r (RpD.ext x l)
end
theorem RpD.length : ∀ {kvs : List (D × D)} {es : List DictEntry}, RpD K H kvs es → kvs.length = es.length
  | _, _, .nil => rfl
  | _, _, .cons _ _ _ _ _ _ _ _ l => by rw [List.length_cons, List.length_cons, RpD.length l]
theorem RpL.length : ∀ {ds : List D} {vs : List V}, RpL K H ds vs → ds.length = vs.length
  | _, _, .nil => rfl
  | _, _, .cons _ l => by rw [List.length_cons, List.length_cons, RpL.length l]
theorem RpL.get : ∀ {ds : List D} {vs : List V} {i : Nat} {d : D}, RpL K H ds vs → ds[i]? = some d → ∃ v, vs[i]? = some v ∧ Rp K H d v
  | _, _, _, _, .nil, e => by simp at e
  | _, _, 0, _, .cons r _, e => by simp at e; subst e; exact ⟨_, rfl, r⟩
  | _, _, i + 1, d, .cons _ t, e => by
    obtain ⟨u, h1, h2⟩ := RpL.get (i := i) (d := d) t (by simpa using e)
    exact ⟨u, by simpa using h1, h2⟩
theorem RpL.getV : ∀ {ds : List D} {vs : List V} {i : Nat} {v : V}, RpL K H ds vs → vs[i]? = some v → ∃ d, ds[i]? = some d ∧ Rp K H d v
  | _, _, _, _, .nil, e => by simp at e
  | _, _, 0, _, .cons r _, e => by simp at e; subst e; exact ⟨_, rfl, r⟩
  | _, _, i + 1, d, .cons _ t, e => by
    obtain ⟨u, h1, h2⟩ := RpL.getV (i := i) (v := d) t (by simpa using e)
    exact ⟨u, by simpa using h1, h2⟩
theorem RpL.append : ∀ {ds es : List D} {vs us : List V}, RpL K H ds vs → RpL K H es us → RpL K H (ds ++ es) (vs ++ us)
  | _, _, _, _, .nil, s => s
  | _, _, _, _, .cons r t, s => .cons r (RpL.append t s)
theorem RpL.take : ∀ {ds : List D} {vs : List V} (n : Nat), RpL K H ds vs → RpL K H (ds.take n) (vs.take n)
  | _, _, 0, _ => .nil
  | _, _, _ + 1, .nil => .nil
  | _, _, n + 1, .cons r t => .cons r (RpL.take n t)
theorem RpL.drop : ∀ {ds : List D} {vs : List V} (n : Nat), RpL K H ds vs → RpL K H (ds.drop n) (vs.drop n)
  | _, _, 0, r => r
  | _, _, _ + 1, .nil => .nil
  | _, _, n + 1, .cons _ t => RpL.drop n t
theorem RpL.set {d : D} {v : V} (r : Rp K H d v) : ∀ {ds : List D} {vs : List V} (i : Nat), RpL K H ds vs → RpL K H (ds.set i d) (vs.set i v)
  | _, _, _, .nil => .nil
  | _, _, 0, .cons _ t => .cons r t
  | _, _, i + 1, .cons q t => .cons q (RpL.set r i t)
theorem RpL.eraseIdx : ∀ {ds : List D} {vs : List V} (i : Nat), RpL K H ds vs → RpL K H (ds.eraseIdx i) (vs.eraseIdx i)
  | _, _, _, .nil => .nil
  | _, _, 0, .cons _ t => t
  | _, _, i + 1, .cons q t => .cons q (RpL.eraseIdx i t)
theorem RpL.reverse : ∀ {ds : List D} {vs : List V}, RpL K H ds vs → RpL K H ds.reverse vs.reverse
  | _, _, .nil => .nil
  | _, _, .cons q t => by rw [List.reverse_cons, List.reverse_cons]; exact RpL.append (RpL.reverse t) (.cons q .nil)
theorem RpL.ints : ∀ {ns : List Int} {vs : List V}, RpL K H (ns.map PyData.int) vs → vs = ns.map V.int
  | [], _, .nil => rfl
  | _ :: _, _, .cons (.int _) t => by rw [RpL.ints t]; rfl
theorem RpL.ofInts : ∀ (ns : List Int), RpL K H (ns.map PyData.int) (ns.map V.int)
  | [] => .nil
  | n :: ns => .cons (.int n) (RpL.ofInts ns)
mutual
theorem Rp.dp : ∀ {d : D} {v : V}, Rp K H d v → d.canLay0 = true → Dp K H v d
  | _, _, .non, _ => .non
  | _, _, .bl b, _ => .bl b
  | _, _, .int i, _ => .int i
  | _, _, .str s, _ => .str s
  | _, _, .tup h l, z => .tup h.1 (RpL.dp l (by simpa [PyData.canLay0] using z))
  | _, _, .lst h l, z => .lst h.sq (RpL.dp l (by simpa [PyData.canLay0] using z))
  | _, _, .dct _ _ _ _, z => by simp [PyData.canLay0] at z
  | _, _, .hdl a, z => by simp [DL.hdl, PyData.canLay0] at z
  | _, _, .dck _ _ _ _, z => by simp [PyData.canLay0] at z
theorem RpL.dp : ∀ {ds : List D} {vs : List V}, RpL K H ds vs → PyData.canLayAll0 ds = true → DpAll K H vs ds
  | _, _, .nil, _ => .nil
  | _, _, .cons h l, z => by
    simp only [PyData.canLayAll0, Bool.and_eq_true] at z
    exact .cons (Rp.dp h z.1) (RpL.dp l z.2)
end
end

/-- readable now: as Rp, the outermost list may be one that can change -/
def RpR (K : PySem.W.Frag) (H : Hp) (d : D) (v : V) : Prop :=
  Rp K H d v ∨ ∃ (ds : List D) (a : Addr) (vs : List V), d = .list ds ∧ v = .ref a ∧ H a = some (.lst vs) ∧ RpL K H ds vs
theorem RpR.dp {K : PySem.W.Frag} {H : Hp} {d : D} {v : V} (h : RpR K H d v) (z : d.canLay0 = true) : Dp K H v d := by
  rcases h with h | ⟨ds, a, vs, rfl, rfl, h, l⟩
  · exact h.dp z
  · exact .lst (.inl (.inl h)) (l.dp (by simpa [PyData.canLay0] using z))
/-- what an iterator hands out: a pair of its own may be there, of which less is known -/
def RpB (W : Bool) (K : PySem.W.Frag) (H : Hp) (d : D) (v : V) : Prop :=
  if W = true then Rp K H d v ∨ ∃ (ds : List D) (a : Addr) (vs : List V), d = .tuple ds ∧ v = .ref a ∧ SqT K H a vs ∧ RpL K H ds vs else Rp K H d v
theorem RpB.of {W : Bool} {K : PySem.W.Frag} {H : Hp} {d : D} {v : V} (h : Rp K H d v) : RpB W K H d v := by unfold RpB; split; exact .inl h; exact h
theorem RpB.pair {K : PySem.W.Frag} {H : Hp} {ds : List D} {a : Addr} {vs : List V} (h : SqT K H a vs) (l : RpL K H ds vs) : RpB true K H (.tuple ds) (.ref a) := .inr ⟨_, _, _, rfl, rfl, h, l⟩
/-- a list or a tuple that is read: its items -/
theorem RpR.list {K : PySem.W.Frag} {H : Hp} {ds : List D} {v : V} (h : RpR K H (.list ds) v) : ∃ a vs, v = .ref a ∧ SqL K H a vs ∧ RpL K H ds vs := by
  rcases h with h | ⟨ds, a, vs, e, rfl, h, l⟩
  · cases h with
    | lst h l => exact ⟨_, _, rfl, h.sq, l⟩
  · cases e
    exact ⟨_, _, rfl, .inl (.inl h), l⟩
theorem RpR.tupD {K : PySem.W.Frag} {H : Hp} {ds : List D} {v : V} (h : RpR K H (.tuple ds) v) : ∃ a vs, v = .ref a ∧ SqD K H a vs ∧ RpL K H ds vs := by
  rcases h with h | ⟨ds, a, vs, e, _⟩
  · cases h with
    | tup h l => exact ⟨_, _, rfl, h, l⟩
  · cases e
theorem RpR.tuple {K : PySem.W.Frag} {H : Hp} {ds : List D} {v : V} (h : RpR K H (.tuple ds) v) : ∃ a vs, v = .ref a ∧ SqT K H a vs ∧ RpL K H ds vs := by
  rcases h with h | ⟨ds, a, vs, e, rfl, h, l⟩
  · cases h with
    | tup h l => exact ⟨_, _, rfl, h.1, l⟩
  · cases e
theorem RpR.int {K : PySem.W.Frag} {H : Hp} {i : Int} {v : V} (h : RpR K H (.int i) v) : v = .int i := by
  rcases h with h | ⟨_, _, _, e, _⟩
  · cases h; rfl
  · cases e
theorem RpR.str {K : PySem.W.Frag} {H : Hp} {i : Str} {v : V} (h : RpR K H (.str i) v) : v = .str i := by
  rcases h with h | ⟨_, _, _, e, _⟩
  · cases h; rfl
  · cases e
theorem RpR.bool {K : PySem.W.Frag} {H : Hp} {i : Bool} {v : V} (h : RpR K H (.bool i) v) : v = .bl i := by
  rcases h with h | ⟨_, _, _, e, _⟩
  · cases h; rfl
  · cases e
theorem RpR.none {K : PySem.W.Frag} {H : Hp} {v : V} (h : RpR K H .none v) : v = .non := by
  rcases h with h | ⟨_, _, _, e, _⟩
  · cases h; rfl
  · cases e
theorem RpR.pext {K : PySem.W.Frag} {H H' : Hp} {d : D} {v : V} (p : PExt H H') (h : RpR K H d v) : RpR K H' d v := by
  rcases h with h | ⟨ds, a, vs, rfl, rfl, h, l⟩
  · exact .inl (h.ext p.ext)
  · exact .inr ⟨ds, a, vs, rfl, rfl, p _ _ h, l.ext p.ext⟩

/-! ### the environment -/
inductive FS where
  | d (x : D)
  | l (xs : List D)
inductive S where
  /-- not known -/
  | un
  /-- data -/
  | d (x : D)
  /-- a list of one's own that may change -/
  | ol (xs : List D)
  /-- a dict of one's own, keys tuples of ints -/
  | dt (kvs : List (D × D))
  /-- a dict of one's own, keys ints and texts -/
  | dk (kvs : List (Key × D))
  /-- no name's: the object at a, of the class at C -/
  | ob (a C : Addr) (fs : List (Str × FS))
  /-- no name's: the list at a, that may change -/
  | gl (a : Addr) (xs : List D)
  /-- no name's: the object at a stands for data -/
  | al (a : Addr) (x : D)
abbrev Env := List S
def S.isMut : S → Bool
  | .ol _ => true
  | .dt _ => true
  | .dk _ => true
  | _ => false
structure Gh where
  H0 : Hp
  own : List (Nat × Addr)
  X0 : Hp := fun _ => none
  more : List Addr := []
def Gh.slots (G : Gh) : List Nat := G.own.map (·.1)
def Gh.addrs (G : Gh) : List Addr := G.own.map (·.2) ++ G.more

/-- a mutable thing at an address -/
def RelM (K : PySem.W.Frag) (H : Hp) : S → Addr → Prop
  | .ol xs, a => ∃ vs, H a = some (.lst vs) ∧ RpL K H xs vs
  | .dt kvs, a => ∃ es, H a = some (dO a es) ∧ RpD K H kvs es ∧ (kvs.map fun p => nkOf p.1).Nodup ∧ (a == sysModules) = false
  | .dk kvs, a => ∃ us, H a = some (.dK us) ∧ us.map (·.1) = kvs.map (·.1) ∧ RpL K H (kvs.map (·.2)) (us.map (·.2))
  | _, _ => False
/-- the fields of an object: data, lists of its own -/
inductive FsR (K : PySem.W.Frag) (H : Hp) : List (Str × FS) → List (Str × V) → List Addr → Prop
  | nil : FsR K H [] [] []
  | d {f : Str} {x : D} {v : V} {fs : List (Str × FS)} {vs : List (Str × V)} {ls : List Addr} : Rp K H x v → FsR K H fs vs ls → FsR K H ((f, .d x) :: fs) ((f, v) :: vs) ls
  | l {f : Str} {xs : List D} {a : Addr} {us : List V} {fs : List (Str × FS)} {vs : List (Str × V)} {ls : List Addr} : H a = some (.lst us) → RpL K H xs us → FsR K H fs vs ls → FsR K H ((f, .l xs) :: fs) ((f, .ref a) :: vs) (a :: ls)
def RelOb (K : PySem.W.Frag) (H : Hp) (a C : Addr) (fs : List (Str × FS)) (fp : List Addr) : Prop :=
  ∃ dx vs ls, fp = a :: dx :: ls ∧ fp.Nodup ∧ H a = some (.ins C dx vs) ∧ H dx = some (.own a) ∧ FsR K H fs vs ls
def RelS (K : PySem.W.Frag) (H : Hp) (s : S) (o : Option (Option V)) (fp : List Addr) : Prop :=
  match s with
  | .un => fp = []
  | .d x => fp = [] ∧ ∃ v, o = some (some v) ∧ Rp K H x v
  | .ob a C fs => RelOb K H a C fs fp
  | .ol xs => ∃ a, fp = [a] ∧ o = some (some (.ref a)) ∧ RelM K H (.ol xs) a
  | .dt xs => ∃ a, fp = [a] ∧ o = some (some (.ref a)) ∧ RelM K H (.dt xs) a
  | .dk xs => ∃ a, fp = [a] ∧ o = some (some (.ref a)) ∧ RelM K H (.dk xs) a
  | .gl a xs => fp = [a] ∧ RelM K H (.ol xs) a
  | .al a x => fp = [] ∧ Rp K H x (.ref a)
theorem RelS.mut {K : PySem.W.Frag} {H : Hp} {s : S} {o : Option (Option V)} {fp : List Addr} (h : RelS K H s o fp) (m : s.isMut = true) : ∃ a, fp = [a] ∧ o = some (some (.ref a)) ∧ RelM K H s a := by
  cases s with
  | ol _ => exact h
  | dt _ => exact h
  | dk _ => exact h
  | _ => cases m
theorem RelS.ofMut {K : PySem.W.Frag} {H : Hp} {s : S} {o : Option (Option V)} {a : Addr} (m : s.isMut = true) (e : o = some (some (.ref a))) (h : RelM K H s a) : RelS K H s o [a] := by
  cases s with
  | ol _ => exact ⟨a, rfl, e, h⟩
  | dt _ => exact ⟨a, rfl, e, h⟩
  | dk _ => exact ⟨a, rfl, e, h⟩
  | _ => cases m
/-- what can change: no tuple, nothing frozen -/
def Soft (H : Hp) (a : Addr) : Prop := ∃ u, H a = some u ∧ (∀ xs, u ≠ .tup xs) ∧ ∀ o v, u ≠ .frz o v
theorem RelM.soft {K : PySem.W.Frag} {H : Hp} {s : S} {a : Addr} (h : RelM K H s a) : Soft H a := by
  cases s with
  | ol xs => obtain ⟨vs, e, _⟩ := h; exact ⟨_, e, (fun _ z => by cases z), fun _ _ z => by cases z⟩
  | dt xs => obtain ⟨vs, e, _⟩ := h; exact ⟨_, e, (fun _ z => by cases z), fun _ _ z => by cases z⟩
  | dk xs => obtain ⟨vs, e, _⟩ := h; exact ⟨_, e, (fun _ z => by cases z), fun _ _ z => by cases z⟩
  | _ => exact h.elim
theorem RelM.isMut {K : PySem.W.Frag} {H : Hp} {s : S} {a : Addr} (h : RelM K H s a) : s.isMut = true := by
  cases s with
  | ol xs => rfl
  | dt xs => rfl
  | dk xs => rfl
  | _ => exact h.elim
theorem RelM.move {K : PySem.W.Frag} {H H' : Hp} {s : S} {a : Addr} (h : RelM K H s a) (x : Ext H H') (k : H' a = H a) : RelM K H' s a := by
  cases s with
  | ol xs => obtain ⟨vs, e, l⟩ := h; exact ⟨vs, by rw [k]; exact e, l.ext x⟩
  | dt xs => obtain ⟨es, e, l, n, m⟩ := h; exact ⟨es, by rw [k]; exact e, l.ext x, n, m⟩
  | dk xs => obtain ⟨us, e, n, l⟩ := h; exact ⟨us, by rw [k]; exact e, n, l.ext x⟩
  | _ => exact h.elim
theorem FsR.move {K : PySem.W.Frag} {H H' : Hp} (x : Ext H H') : ∀ {fs : List (Str × FS)} {vs : List (Str × V)} {ls : List Addr}, FsR K H fs vs ls → (∀ p ∈ ls, H' p = H p) → FsR K H' fs vs ls
  | _, _, _, .nil, _ => .nil
  | _, _, _, FsR.d h r, k => FsR.d (h.ext x) (FsR.move x r k)
  | _, _, _, FsR.l h q r, k => FsR.l (by rw [k _ (List.mem_cons_self ..)]; exact h) (q.ext x) (FsR.move x r fun p hp => k p (List.mem_cons_of_mem _ hp))
theorem FsR.soft {K : PySem.W.Frag} {H : Hp} : ∀ {fs : List (Str × FS)} {vs : List (Str × V)} {ls : List Addr}, FsR K H fs vs ls → ∀ p ∈ ls, Soft H p
  | _, _, _, .nil, p, hp => by cases hp
  | _, _, _, FsR.d h r, p, hp => FsR.soft r p hp
  | _, _, _, FsR.l h q r, p, hp => by
    rcases List.mem_cons.mp hp with z | z
    · subst z; exact ⟨_, h, (fun _ z => by cases z), fun _ _ z => by cases z⟩
    · exact FsR.soft r p z
/-- what a slot holds stays, if its footprint does -/
theorem RelS.move {K : PySem.W.Frag} {H H' : Hp} {s : S} {o : Option (Option V)} {fp : List Addr} (h : RelS K H s o fp) (x : Ext H H') (k : ∀ p ∈ fp, H' p = H p) : RelS K H' s o fp := by
  cases s with
  | un => exact h
  | d y => obtain ⟨h1, v, h2, h3⟩ := h; exact ⟨h1, v, h2, h3.ext x⟩
  | ob a C fs =>
    obtain ⟨dx, vs, ls, e, nd, h1, h2, h3⟩ := h
    subst e
    exact ⟨dx, vs, ls, rfl, nd, by rw [k a (by simp)]; exact h1, by rw [k dx (by simp)]; exact h2, h3.move x fun p hp => k p (by simp [hp])⟩
  | ol xs => obtain ⟨a, e, e2, h⟩ := h; subst e; exact ⟨a, rfl, e2, h.move x (k a (by simp))⟩
  | dt xs => obtain ⟨a, e, e2, h⟩ := h; subst e; exact ⟨a, rfl, e2, h.move x (k a (by simp))⟩
  | dk xs => obtain ⟨a, e, e2, h⟩ := h; subst e; exact ⟨a, rfl, e2, h.move x (k a (by simp))⟩
  | gl a xs => obtain ⟨e, h⟩ := h; subst e; exact ⟨rfl, h.move x (k a (by simp))⟩
  | al a y => exact ⟨h.1, h.2.ext x⟩
/-- ex: addresses apart from all footprints -/
structure RelX (K : PySem.W.Frag) (G : Gh) (ex : List Addr) (H : Hp) (E : Env) (σ : St) : Prop where
  len : E.length = σ.length
  keep : ∀ p o, G.H0 p = some o → p ∉ G.addrs → H p = some o
  pin : ∀ i a, (i, a) ∈ G.own → σ[i]? = some (some (V.ref a))
  dom : ∀ a ∈ G.addrs, H a ≠ none
  ext : Ext G.X0 H
  fp : ∃ A : Nat → List Addr, (∀ i j a, a ∈ A i → a ∈ A j → i = j) ∧ (∀ i a, a ∈ A i → (a ∈ G.addrs ∨ G.H0 a = none) ∧ a ∉ ex) ∧ ∀ i s, E[i]? = some s → RelS K H s σ[i]? (A i)
abbrev RelE (K : PySem.W.Frag) (G : Gh) (H : Hp) (E : Env) (σ : St) : Prop := RelX K G [] H E σ

section
variable {K : PySem.W.Frag} {G : Gh} {H H' : Hp} {E : Env} {σ : St} {ex : List Addr}
/-- a footprint lies in the heap -/
theorem RelS.indom {s : S} {o : Option (Option V)} {fp : List Addr} (h : RelS K H s o fp) : ∀ a ∈ fp, Soft H a := by
  cases s with
  | un => intro a ha; rw [show fp = [] from h] at ha; cases ha
  | d x => intro a ha; rw [h.1] at ha; cases ha
  | ob a C fs =>
    obtain ⟨dx, vs, ls, e, nd, h1, h2, h3⟩ := h
    subst e
    intro p hp
    rcases List.mem_cons.mp hp with z | z
    · subst z; exact ⟨_, h1, (fun _ z => by cases z), fun _ _ z => by cases z⟩
    · rcases List.mem_cons.mp z with z | z
      · subst z; exact ⟨_, h2, (fun _ z => by cases z), fun _ _ z => by cases z⟩
      · exact h3.soft p z
  | ol xs => obtain ⟨a, e, e2, h⟩ := h; subst e; intro p hp; rw [List.mem_singleton.mp hp]; exact h.soft
  | dt xs => obtain ⟨a, e, e2, h⟩ := h; subst e; intro p hp; rw [List.mem_singleton.mp hp]; exact h.soft
  | dk xs => obtain ⟨a, e, e2, h⟩ := h; subst e; intro p hp; rw [List.mem_singleton.mp hp]; exact h.soft
  | gl a xs => obtain ⟨e, h⟩ := h; subst e; intro p hp; rw [List.mem_singleton.mp hp]; exact h.soft
  | al a y => intro p hp; rw [h.1] at hp; cases hp
theorem RelS.pext {s : S} {o : Option (Option V)} {fp : List Addr} (p : PExt H H') (h : RelS K H s o fp) : RelS K H' s o fp :=
  h.move p.ext fun a ha => by
    obtain ⟨u, e, _⟩ := h.indom a ha
    rw [e, p _ _ e]
theorem RelX.pext (p : PExt H H') (h : RelX K G ex H E σ) : RelX K G ex H' E σ := by
  obtain ⟨l, k, pn, dm, x0, A, h1, h2, h3⟩ := h
  refine ⟨l, fun q o e ne => p _ _ (k q o e ne), pn, fun a ha z => ?_, x0.trans p.ext, A, h1, h2, fun i s e => (h3 i s e).pext p⟩
  cases q : H a with
  | none => exact dm a ha q
  | some o => have := p _ _ q; rw [z] at this; cases this
theorem RelX.weak (h : RelX K G ex H E σ) : RelE K G H E σ := by
  obtain ⟨l, k, pn, dm, x0, A, h1, h2, h3⟩ := h
  exact ⟨l, k, pn, dm, x0, A, h1, fun i a e => ⟨(h2 i a e).1, by simp⟩, h3⟩
end
end DL

set_option Elab.async false
set_option linter.all false
set_option maxRecDepth 100000
namespace DL
open PySem PySem.Spec PyProof.Rows L2

/-! ### judgements -/
abbrev TD := Env → (D → Env → Prop) → Prop
abbrev TLd := Env → (List D → Env → Prop) → Prop
abbrev TTd := Env → (Bool → Env → Prop) → Prop
structure EndsD where
  nx : Env → Prop
  rt : D → Env → Prop
  bk : Env → Prop := fun _ => False
  ct : Env → Prop := fun _ => False
abbrev TSd := EndsD → Env → Prop
/-- an argument: data, or a name of a mutable thing -/
inductive Arg where
  | v (x : D)
  | o (i : Nat)
abbrev TAd := Env → (List Arg → Env → Prop) → Prop

def liftE (K : PySem.W.Frag) (G : Gh) (t : TD) : TE := fun σ H Q => ∃ (E : Env) (QE : D → Env → Prop), RelE K G H E σ ∧ t E QE ∧ ∀ d E' v H', QE d E' → Ext H H' → RelE K G H' E' σ → Rp K H' d v → Q v H'
/-- a new list: nobody else has it -/
def liftL (K : PySem.W.Frag) (G : Gh) (t : TLd) : TE := fun σ H Q => ∃ (E : Env) (QE : List D → Env → Prop), RelE K G H E σ ∧ t E QE ∧
  ∀ xs E' a vs H', QE xs E' → Ext H H' → RelX K G [a] H' E' σ → G.H0 a = none → a ∉ G.addrs → H' a = some (.lst vs) → RpL K H' xs vs → Q (.ref a) H'
/-- readable now -/
def liftR (K : PySem.W.Frag) (G : Gh) (t : TD) : TE := fun σ H Q => ∃ (E : Env) (QE : D → Env → Prop), RelE K G H E σ ∧ t E QE ∧ ∀ d E' v H', QE d E' → Ext H H' → RelE K G H' E' σ → RpR K H' d v → Q v H'
def liftT (K : PySem.W.Frag) (G : Gh) (t : TTd) : TT := fun σ H Q => ∃ (E : Env) (QE : Bool → Env → Prop), RelE K G H E σ ∧ t E QE ∧ ∀ b E' H', QE b E' → Ext H H' → RelE K G H' E' σ → Q b H'
/-- the values of arguments at a heap -/
inductive RelA (K : PySem.W.Frag) (H : Hp) (σ : St) : List Arg → List V → Prop
  | nil : RelA K H σ [] []
  | v {x : D} {v : V} {as : List Arg} {vs : List V} : Rp K H x v → RelA K H σ as vs → RelA K H σ (.v x :: as) (v :: vs)
  | o {i : Nat} {v : V} {as : List Arg} {vs : List V} : σ[i]? = some (some v) → RelA K H σ as vs → RelA K H σ (.o i :: as) (v :: vs)
def liftA (K : PySem.W.Frag) (G : Gh) (t : TAd) : TA := fun σ H Q => ∃ (E : Env) (QE : List Arg → Env → Prop), RelE K G H E σ ∧ t E QE ∧ ∀ as E' vs H', QE as E' → Ext H H' → RelE K G H' E' σ → RelA K H' σ as vs → Q vs H'
def liftS (K : PySem.W.Frag) (G : Gh) (t : TSd) : TS := fun F σ H => ∃ (E : Env) (DE : EndsD), RelE K G H E σ ∧ t DE E ∧
  (∀ E' σ' H', DE.nx E' → Ext H H' → RelE K G H' E' σ' → F.nx σ' H') ∧
  (∀ d E' v σ' H', DE.rt d E' → Ext H H' → RelE K G H' E' σ' → Rp K H' d v → F.rt v H') ∧
  (∀ E' σ' H', DE.bk E' → Ext H H' → RelE K G H' E' σ' → F.bk σ' H') ∧
  (∀ E' σ' H', DE.ct E' → Ext H H' → RelE K G H' E' σ' → F.ct σ' H')

structure ED (X : Cx) (G : Gh) (e : Expr) (t : TD) : Prop where
  pe : PE X e (liftE X.K G t)
structure EL (X : Cx) (G : Gh) (e : Expr) (t : TLd) : Prop where
  pe : PE X e (liftL X.K G t)
structure ER (X : Cx) (G : Gh) (e : Expr) (t : TD) : Prop where
  pe : PE X e (liftR X.K G t)
structure EB (X : Cx) (G : Gh) (e : Expr) (t : TTd) : Prop where
  pt : PT X e (liftT X.K G t)
structure EW (X : Cx) (G : Gh) (e : Expr) (t : TTd) : Prop where
  pw : PW X e (liftT X.K G t)
structure EA (X : Cx) (G : Gh) (es : List Expr) (t : TAd) : Prop where
  pa : PA X es (liftA X.K G t)
structure SD (X : Cx) (G : Gh) (st : Stmt) (t : TSd) : Prop where
  ps : PS X st (liftS X.K G t)
structure SDs (X : Cx) (G : Gh) (st : List Stmt) (t : TSd) : Prop where
  pss : PSs X st (liftS X.K G t)

theorem PE.weak {X : Cx} {e : Expr} {t u : TE} (h : PE X e t) (w : ∀ σ H Q, u σ H Q → t σ H Q) : PE X e u := ⟨fun pins s σ H Q I q => h.run pins s σ H Q I (w σ H Q q)⟩
theorem PT.weak {X : Cx} {e : Expr} {t u : TT} (h : PT X e t) (w : ∀ σ H Q, u σ H Q → t σ H Q) : PT X e u := ⟨fun pins s σ H Q I q => h.run pins s σ H Q I (w σ H Q q)⟩
theorem PW.weak {X : Cx} {e : Expr} {t u : TT} (h : PW X e t) (w : ∀ σ H Q, u σ H Q → t σ H Q) : PW X e u := ⟨fun wh pins s σ H Q I q => h.run wh pins s σ H Q I (w σ H Q q)⟩
theorem PA.weak {X : Cx} {es : List Expr} {t u : TA} (h : PA X es t) (w : ∀ σ H Q, u σ H Q → t σ H Q) : PA X es u := ⟨fun pos pins s σ H Q I q => h.run pos pins s σ H Q I (w σ H Q q)⟩
theorem PS.weak {X : Cx} {st : Stmt} {t u : TS} (h : PS X st t) (w : ∀ F σ H, u F σ H → t F σ H) : PS X st u := ⟨fun pins s σ H F I q => h.run pins s σ H F I (w F σ H q)⟩
theorem PSs.weak {X : Cx} {st : List Stmt} {t u : TS} (h : PSs X st t) (w : ∀ F σ H, u F σ H → t F σ H) : PSs X st u := ⟨fun pins s σ H F I q => h.run pins s σ H F I (w F σ H q)⟩

section
variable {X : Cx} {G : Gh} {a b c e : Expr} {es : List Expr} {pos : Pos}

/-- data may be read -/
theorem ED.er {t : TD} (h : ED X G e t) : ER X G e t := ⟨PE.weak h.pe fun σ H Q ⟨E, QE, r, q, k⟩ => ⟨E, QE, r, q, fun d E' v H' z x r' p => k d E' v H' z x r' (.inl p)⟩⟩

/-! ### names, constants -/
def tV (i : Nat) : TD := fun E Q => match E[i]? with
  | some (.d x) => Q x E
  | _ => False
/-- a name that may hold a list that can change, read now -/
def tVr (i : Nat) : TD := fun E Q => match E[i]? with
  | some (.d x) => Q x E
  | some (.ol xs) => Q (.list xs) E
  | _ => False
def tK (d : D) : TD := fun E Q => Q d E
theorem RelX.data {K : PySem.W.Frag} {ex : List Addr} {H : Hp} {E : Env} {σ : St} {i : Nat} {x : D} (r : RelX K G ex H E σ) (e : E[i]? = some (.d x)) : ∃ v, σ[i]? = some (some v) ∧ Rp K H x v := by
  obtain ⟨l, k, pn, dm, x0, A, h1, h2, h3⟩ := r
  exact (h3 i _ e).2
theorem RelX.ol {K : PySem.W.Frag} {ex : List Addr} {H : Hp} {E : Env} {σ : St} {i : Nat} {xs : List D} (r : RelX K G ex H E σ) (e : E[i]? = some (.ol xs)) : ∃ a vs, σ[i]? = some (some (.ref a)) ∧ H a = some (.lst vs) ∧ RpL K H xs vs := by
  obtain ⟨l, k, pn, dm, x0, A, h1, h2, h3⟩ := r
  obtain ⟨a, e1, e2, vs, e3, e4⟩ := h3 i _ e
  exact ⟨a, vs, e2, e3, e4⟩
theorem RelX.mutAt {K : PySem.W.Frag} {ex : List Addr} {H : Hp} {E : Env} {σ : St} {i : Nat} {s : S} (r : RelX K G ex H E σ) (e : E[i]? = some s) (m : s.isMut = true) : ∃ a, σ[i]? = some (some (.ref a)) ∧ RelM K H s a := by
  obtain ⟨l, k, pn, dm, x0, A, h1, h2, h3⟩ := r
  obtain ⟨a, e1, e2, e3⟩ := (h3 i _ e).mut m
  exact ⟨a, e2, e3⟩
theorem ed_var (i : Nat) {x : Str} (hN : X.N[i]? = some x := by rfl) (hv : Vis X.env.scope x := by first | exact Or.inl rfl | exact Or.inr (Or.inl rfl) | exact Or.inr (Or.inr rfl)) (hd : (x == ("__debug__" : Str)) = false := by decide)
    (hcd : (x == ("__classdict__" : Str)) = false := by decide) : ED X G (.Name x pos) (tV i) := ⟨PE.weak (pe_var hN hv hd hcd) fun σ H Q ⟨E, QE, r, q, k⟩ => by
  unfold tV at q
  split at q
  · rename_i x he
    obtain ⟨v, e, p⟩ := r.data he
    exact ⟨v, e, k _ _ _ _ q (Ext.refl _) r p⟩
  · exact q.elim⟩
theorem er_var (i : Nat) {x : Str} (hN : X.N[i]? = some x := by rfl) (hv : Vis X.env.scope x := by first | exact Or.inl rfl | exact Or.inr (Or.inl rfl) | exact Or.inr (Or.inr rfl)) (hd : (x == ("__debug__" : Str)) = false := by decide)
    (hcd : (x == ("__classdict__" : Str)) = false := by decide) : ER X G (.Name x pos) (tVr i) := ⟨PE.weak (pe_var hN hv hd hcd) fun σ H Q ⟨E, QE, r, q, k⟩ => by
  unfold tVr at q
  split at q
  · rename_i x he
    obtain ⟨v, e, p⟩ := r.data he
    exact ⟨v, e, k _ _ _ _ q (Ext.refl _) r (.inl p)⟩
  · rename_i xs he
    obtain ⟨a, vs, e, h, p⟩ := r.ol he
    exact ⟨_, e, k _ _ _ _ q (Ext.refl _) r (.inr ⟨_, _, _, rfl, rfl, h, p⟩)⟩
  · exact q.elim⟩
theorem ed_int {i j} : ED X G (.Constant (.int i) j pos) (tK (.int i)) := ⟨PE.weak pe_int fun σ H Q ⟨E, QE, r, q, k⟩ => k _ _ _ _ q (Ext.refl _) r (.int i)⟩
theorem ed_bl {i j} : ED X G (.Constant (.bool i) j pos) (tK (.bool i)) := ⟨PE.weak pe_bl fun σ H Q ⟨E, QE, r, q, k⟩ => k _ _ _ _ q (Ext.refl _) r (.bl i)⟩
theorem ed_non {j} : ED X G (.Constant .none j pos) (tK .none) := ⟨PE.weak pe_non fun σ H Q ⟨E, QE, r, q, k⟩ => k _ _ _ _ q (Ext.refl _) r .non⟩
theorem ed_str {i j} : ED X G (.Constant (.str i) j pos) (tK (.str i)) := ⟨PE.weak pe_str fun σ H Q ⟨E, QE, r, q, k⟩ => k _ _ _ _ q (Ext.refl _) r (.str i)⟩
/-- a module's name -/
theorem ed_glob {x : Str} {d : D} {v : V} {u : Value} (hg : Gl X x) (hm : X.mg x = some u) (rv : RelV v u) (rd : ∀ H, Rp X.K H d v) (hd : (x == ("__debug__" : Str)) = false := by decide) : ED X G (.Name x pos) (tK d) :=
  ⟨PE.weak (pe_glob hg hm rv hd) fun σ H Q ⟨E, QE, r, q, k⟩ => k _ _ _ _ q (Ext.refl _) r (rd H)⟩

/-! ### operators -/
/-- what an operator gives of data -/
abbrev OpT := D → D → (D → Prop) → Prop
/-- by values: the heap only grows -/
def OpD (X : Cx) (f : Value → Value → Sem Value) (op : OpT) : Prop := ∃ r : R2, OpR X f r ∧
  ∀ x y v u H (QD : D → Prop) (Q : VK), RpR X.K H x v → RpR X.K H y u → op x y QD → (∀ z w H', QD z → PExt H H' → Rp X.K H' z w → Q w H') → r v u H Q
theorem OpD.or {f : Value → Value → Sem Value} {op op' : OpT} (h : OpD X f op) (h' : OpD X f op') : OpD X f (fun x y Q => op x y Q ∨ op' x y Q) := by
  obtain ⟨r, hr, hq⟩ := h
  obtain ⟨r', hr', hq'⟩ := h'
  refine ⟨_, hr.or hr', fun x y v u H QD Q hx hy q k => ?_⟩
  rcases q with q | q
  · exact .inl (hq x y v u H QD Q hx hy q k)
  · exact .inr (hq' x y v u H QD Q hx hy q k)
theorem OpD.weak {f : Value → Value → Sem Value} {op op' : OpT} (h : OpD X f op) (w : ∀ x y Q, op' x y Q → op x y Q) : OpD X f op' := by
  obtain ⟨r, hr, hq⟩ := h
  exact ⟨r, hr, fun x y v u H QD Q hx hy q k => hq x y v u H QD Q hx hy (w _ _ _ q) k⟩
def tOpD (op : OpT) (ta tb : TD) : TD := fun E Q => ta E fun x E1 => tb E1 fun y E2 => op x y fun z => Q z E2
/-- two parts: the left is data -/
theorem lift_bin {K : PySem.W.Frag} {op : OpT} {ta tb : TD} {r : R2} (hr : ∀ x y v u H (QD : D → Prop) (Q : VK), RpR K H x v → RpR K H y u → op x y QD → (∀ z w H', QD z → PExt H H' → Rp K H' z w → Q w H') → r v u H Q)
    (σ : St) (H : Hp) (Q : VK) (h : liftE K G (tOpD op ta tb) σ H Q) : tOp r (liftE K G ta) (liftR K G tb) σ H Q := by
  obtain ⟨E, QE, rel, q, k⟩ := h
  refine ⟨E, _, rel, q, fun x E1 v H1 q1 x1 rel1 p1 => ⟨E1, _, rel1, q1, fun y E2 u H2 q2 x2 rel2 p2 => ?_⟩⟩
  exact hr x y v u H2 _ Q (.inl (p1.ext x2)) p2 q2 fun z w H3 q3 p3 rz => k z E2 w H3 q3 ((x1.trans x2).trans p3.ext) (rel2.pext p3) rz
theorem ed_op {op : Operator} {o : OpT} {ta tb : TD} (ho : OpD X (binaryOp op) o) (ha : ED X G a ta) (hb : ER X G b tb) : ED X G (.BinOp a op b pos) (tOpD o ta tb) := by
  obtain ⟨r, hr, hq⟩ := ho
  exact ⟨PE.weak (pe_op hr ha.pe hb.pe) fun σ H Q h => lift_bin hq σ H Q h⟩
theorem ed_cmp {op : CmpOp} {o : OpT} {ta tb : TD} (ho : OpD X (compareOp op) o) (ha : ED X G a ta) (hb : ER X G b tb) (hm : behindInMarks op b = false) : ED X G (.Compare a [op] [b] pos) (tOpD o ta tb) := by
  obtain ⟨r, hr, hq⟩ := ho
  exact ⟨PE.weak (pe_cmpR hr ha.pe hb.pe hm) fun σ H Q h => lift_bin hq σ H Q h⟩
/-- the left a name whose list may change: looked at behind the right -/
def tOpV (op : OpT) (i : Nat) (tb : TD) : TD := fun E Q => tb E fun y E2 => tVr i E2 fun x E3 => op x y fun z => Q z E3
def UnT := D → (D → Prop) → Prop
def UnD (X : Cx) (f : Value → Sem Value) (op : UnT) : Prop := ∃ r : V → Hp → VK → Prop, UnR X f r ∧
  ∀ x v H (QD : D → Prop) (Q : VK), RpR X.K H x v → op x QD → (∀ z w H', QD z → PExt H H' → Rp X.K H' z w → Q w H') → r v H Q
def tUnD (op : UnT) (ta : TD) : TD := fun E Q => ta E fun x E1 => op x fun z => Q z E1
theorem ed_un {op : UnaryOp} {o : UnT} {ta : TD} (ho : UnD X (unaryOp op) o) (ha : ER X G a ta) : ED X G (.UnaryOp op a pos) (tUnD o ta) := by
  obtain ⟨r, hr, hq⟩ := ho
  refine ⟨PE.weak (pe_un hr ha.pe) fun σ H Q ⟨E, QE, rel, q, k⟩ => ⟨E, _, rel, q, fun x E1 v H1 q1 x1 rel1 p1 => ?_⟩⟩
  exact hq x v H1 _ Q p1 q1 fun z w H3 q3 p3 rz => k z E1 w H3 q3 (x1.trans p3.ext) (rel1.pext p3) rz

/-! ### tests -/
/-- an expression that gives a truth -/
def tBo (t : TD) : TTd := fun E Q => t E fun x E1 => match x with
  | .bool b => Q b E1
  | _ => False
theorem eb_val {t : TD} (h : ED X G e t) (he : ∀ whole, isTrue e X.env whole = (do let v ← whole; standAt e.pos; holding [v] (truthy v)) := by intro _; rfl) : EB X G e (tBo t) :=
  ⟨PT.weak (pt_val h.pe he) fun σ H Q ⟨E, QE, r, q, k⟩ => ⟨E, _, r, q, fun d E' v H' q1 x1 r1 p1 => by
    cases p1 with
    | bl b => exact ⟨b, rfl, k b E' H' q1 x1 r1⟩
    | _ => exact q1.elim⟩⟩
theorem eb_cmp {op : CmpOp} {o : OpT} {ta tb : TD} (ho : OpD X (compareOp op) o) (ha : ED X G a ta) (hb : ER X G b tb) (hm : behindInMarks op b = false) : EB X G (.Compare a [op] [b] pos) (tBo (tOpD o ta tb)) := by
  obtain ⟨r, hr, hq⟩ := ho
  refine ⟨PT.weak (pt_cmpR hr ha.pe hb.pe hm) fun σ H Q ⟨E, QE, rel, q, k⟩ => ?_⟩
  have h : liftE X.K G (tOpD o ta tb) σ H fun x H' => ∃ k, x = .bl k ∧ Q k H' := ⟨E, _, rel, q, fun d E' v H' q1 x1 r1 p1 => by
    cases p1 with
    | bl b => exact ⟨b, rfl, k b E' H' q1 x1 r1⟩
    | _ => exact q1.elim⟩
  exact lift_bin hq σ H _ h
def tAndD (t u : TTd) : TTd := fun E Q => t E fun c E1 => if c = true then u E1 Q else Q false E1
def tOrD (t u : TTd) : TTd := fun E Q => t E fun c E1 => if c = true then Q true E1 else u E1 Q
def tNotD (t : TTd) : TTd := fun E Q => t E fun c E1 => Q (!c) E1
theorem ew_and1 {t : TTd} (h : EB X G a t) : EW X G (.BoolOp .And [a] pos) t := ⟨pw_and1 h.pt⟩
theorem ew_or1 {t : TTd} (h : EB X G a t) : EW X G (.BoolOp .Or [a] pos) t := ⟨pw_or1 h.pt⟩
theorem ew_and {t u : TTd} (h : EB X G a t) (hb : EW X G (.BoolOp .And (b :: es) pos) u) : EW X G (.BoolOp .And (a :: b :: es) pos) (tAndD t u) :=
  ⟨PW.weak (pw_and h.pt hb.pw) fun σ H Q ⟨E, QE, r, q, k⟩ => ⟨E, _, r, q, fun c E1 H1 q1 x1 r1 => by
    cases c with
    | true => exact ⟨E1, QE, r1, q1, fun b E2 H2 q2 x2 r2 => k b E2 H2 q2 (x1.trans x2) r2⟩
    | false => exact k false E1 H1 q1 x1 r1⟩⟩
theorem ew_or {t u : TTd} (h : EB X G a t) (hb : EW X G (.BoolOp .Or (b :: es) pos) u) : EW X G (.BoolOp .Or (a :: b :: es) pos) (tOrD t u) :=
  ⟨PW.weak (pw_or h.pt hb.pw) fun σ H Q ⟨E, QE, r, q, k⟩ => ⟨E, _, r, q, fun c E1 H1 q1 x1 r1 => by
    cases c with
    | false => exact ⟨E1, QE, r1, q1, fun b E2 H2 q2 x2 r2 => k b E2 H2 q2 (x1.trans x2) r2⟩
    | true => exact k true E1 H1 q1 x1 r1⟩⟩
theorem EW.eb {t : TTd} (h : EW X G e t) : EB X G e t := ⟨h.pw.pt⟩
theorem eb_not {t : TTd} (h : EB X G a t) : EB X G (.UnaryOp .Not a pos) (tNotD t) :=
  ⟨PT.weak (pt_not h.pt) fun σ H Q ⟨E, QE, r, q, k⟩ => ⟨E, _, r, q, fun c E1 H1 q1 x1 r1 => k _ E1 H1 q1 x1 r1⟩⟩
/-- a if c else b -/
def tIfE (c : TTd) (t u : TD) : TD := fun E Q => c E fun k E1 => if k = true then t E1 Q else u E1 Q
theorem ed_if {tc : TTd} {t u : TD} (hc : EB X G c tc) (ha : ED X G a t) (hb : ED X G b u) : ED X G (.IfExp c a b pos) (tIfE tc t u) :=
  ⟨PE.weak (pe_ifExp hc.pt ha.pe hb.pe) fun σ H Q ⟨E, QE, r, q, k⟩ => ⟨E, _, r, q, fun c E1 H1 q1 x1 r1 => by
    cases c with
    | true => exact ⟨E1, QE, r1, q1, fun d E2 v H2 q2 x2 r2 => k d E2 v H2 q2 (x1.trans x2) r2⟩
    | false => exact ⟨E1, QE, r1, q1, fun d E2 v H2 q2 x2 r2 => k d E2 v H2 q2 (x1.trans x2) r2⟩⟩⟩
/-! as values -/
def tAndV (t u : TD) : TD := fun E Q => t E fun x E1 => match x with
  | .bool true => u E1 Q
  | .bool false => Q (.bool false) E1
  | _ => False
def tOrV (t u : TD) : TD := fun E Q => t E fun x E1 => match x with
  | .bool true => Q (.bool true) E1
  | .bool false => u E1 Q
  | _ => False
def tNotV (t : TD) : TD := fun E Q => t E fun x E1 => match x with
  | .bool b => Q (.bool (!b)) E1
  | _ => False
theorem ed_one {op} {t : TD} (h : ED X G a t) : ED X G (.BoolOp op [a] pos) t := ⟨pe_one h.pe⟩
theorem ed_and {t u : TD} (h : ED X G a t) (hb : ED X G (.BoolOp .And (b :: es) pos) u) : ED X G (.BoolOp .And (a :: b :: es) pos) (tAndV t u) :=
  ⟨PE.weak (pe_and h.pe hb.pe) fun σ H Q ⟨E, QE, r, q, k⟩ => ⟨E, _, r, q, fun d E1 v H1 q1 x1 r1 p1 => by
    cases p1 with
    | bl c =>
      refine ⟨c, rfl, ?_⟩
      cases c with
      | true => exact ⟨E1, QE, r1, q1, fun d E2 v H2 q2 x2 r2 => k d E2 v H2 q2 (x1.trans x2) r2⟩
      | false => exact k _ E1 _ H1 q1 x1 r1 (.bl false)
    | _ => exact q1.elim⟩⟩
theorem ed_or {t u : TD} (h : ED X G a t) (hb : ED X G (.BoolOp .Or (b :: es) pos) u) : ED X G (.BoolOp .Or (a :: b :: es) pos) (tOrV t u) :=
  ⟨PE.weak (pe_or h.pe hb.pe) fun σ H Q ⟨E, QE, r, q, k⟩ => ⟨E, _, r, q, fun d E1 v H1 q1 x1 r1 p1 => by
    cases p1 with
    | bl c =>
      refine ⟨c, rfl, ?_⟩
      cases c with
      | false => exact ⟨E1, QE, r1, q1, fun d E2 v H2 q2 x2 r2 => k d E2 v H2 q2 (x1.trans x2) r2⟩
      | true => exact k _ E1 _ H1 q1 x1 r1 (.bl true)
    | _ => exact q1.elim⟩⟩
theorem ed_not {t : TD} (h : ED X G a t) : ED X G (.UnaryOp .Not a pos) (tNotV t) :=
  ⟨PE.weak (pe_not h.pe) fun σ H Q ⟨E, QE, r, q, k⟩ => ⟨E, _, r, q, fun d E1 v H1 q1 x1 r1 p1 => by
    cases p1 with
    | bl c => exact ⟨c, rfl, k _ E1 _ H1 q1 x1 r1 (.bl _)⟩
    | _ => exact q1.elim⟩⟩

/-! ### truth of any data -/
def truD : D → Option Bool
  | .none => some false
  | .bool b => some b
  | .int i => some (i != 0)
  | .str x => some ((x.length : Int) != 0)
  | .list xs => some (!xs.isEmpty)
  | .tuple xs => some (!xs.isEmpty)
  | .dict _ => none
def okLen : D → Prop
  | .str x => x.length ≤ sizeLine
  | _ => True
def tTru (t : TD) : TTd := fun E Q => t E fun x E1 => match truD x with
  | some b => okLen x ∧ Q b E1
  | none => False
theorem isEmpty_RpL {K : PySem.W.Frag} {H : Hp} {ds : List D} {vs : List V} (l : RpL K H ds vs) : ds.isEmpty = vs.isEmpty := by cases l <;> rfl
theorem eb_tru {t : TD} (h : ER X G e t) (he : ∀ whole, isTrue e X.env whole = (do let v ← whole; standAt e.pos; holding [v] (truthy v)) := by intro _; rfl) : EB X G e (tTru t) :=
  ⟨PT.weak (pt_truth h.pe he) fun σ H Q ⟨E, QE, r, q, k⟩ => ⟨E, _, r, q, fun d E' v H' q1 x1 r1 p1 => by
    cases d with
    | none => rw [p1.none]; exact ⟨false, rfl, k _ _ _ q1.2 x1 r1⟩
    | bool b => rw [p1.bool]; exact ⟨b, rfl, k _ _ _ q1.2 x1 r1⟩
    | int b => rw [p1.int]; exact ⟨_, rfl, k _ _ _ q1.2 x1 r1⟩
    | str b => rw [p1.str]; exact ⟨_, ⟨q1.1, rfl⟩, k _ _ _ q1.2 x1 r1⟩
    | list b =>
      obtain ⟨a, vs, rfl, hs, l⟩ := p1.list
      exact ⟨!vs.isEmpty, .inl ⟨vs, hs, rfl⟩, by have := k _ _ _ q1.2 x1 r1; rw [isEmpty_RpL l] at this; exact this⟩
    | tuple b =>
      obtain ⟨a, vs, rfl, hs, l⟩ := p1.tuple
      exact ⟨!vs.isEmpty, .inr (.inl ⟨vs, hs, rfl⟩), by have := k _ _ _ q1.2 x1 r1; rw [isEmpty_RpL l] at this; exact this⟩
    | dict b => exact q1.elim⟩⟩

/-! ### arguments -/
def aNil : TAd := fun E Q => Q [] E
def aV (t : TD) (u : TAd) : TAd := fun E Q => t E fun x E1 => u E1 fun as E2 => Q (.v x :: as) E2
def aO (i : Nat) (u : TAd) : TAd := fun E Q => match E[i]? with
  | some (.ol _) => u E fun as E2 => Q (.o i :: as) E2
  | some (.dt _) => u E fun as E2 => Q (.o i :: as) E2
  | some (.dk _) => u E fun as E2 => Q (.o i :: as) E2
  | _ => False
theorem ea_nil : EA X G [] aNil := ⟨PA.weak pa_nil fun σ H Q ⟨E, QE, r, q, k⟩ => k _ _ _ _ q (Ext.refl _) r .nil⟩
theorem ea_v {t : TD} {u : TAd} (h : ED X G e t) (hr : EA X G es u) (hs : starEach (e :: es) X.env = (false, eval e X.env) :: starEach es X.env := by rfl) : EA X G (e :: es) (aV t u) :=
  ⟨PA.weak (pa_cons h.pe hr.pa hs) fun σ H Q ⟨E, QE, r, q, k⟩ => ⟨E, _, r, q, fun x E1 v H1 q1 x1 r1 p1 => ⟨E1, _, r1, q1, fun as E2 vs H2 q2 x2 r2 p2 => k _ _ _ _ q2 (x1.trans x2) r2 (.v (p1.ext x2) p2)⟩⟩⟩
theorem ea_o (i : Nat) {x : Str} {u : TAd} {p : Pos} (hr : EA X G es u) (hN : X.N[i]? = some x := by rfl) (hv : Vis X.env.scope x := by first | exact Or.inl rfl | exact Or.inr (Or.inl rfl) | exact Or.inr (Or.inr rfl)) (hd : (x == ("__debug__" : Str)) = false := by decide)
    (hcd : (x == ("__classdict__" : Str)) = false := by decide) (hs : starEach (Expr.Name x p :: es) X.env = (false, eval (Expr.Name x p) X.env) :: starEach es X.env := by rfl) : EA X G (Expr.Name x p :: es) (aO i u) :=
  ⟨PA.weak (pa_cons (pe_var hN hv hd hcd) hr.pa hs) fun σ H Q ⟨E, QE, r, q, k⟩ => by
    unfold aO at q
    split at q
    · rename_i xs he
      obtain ⟨a, e, _⟩ := r.mutAt he rfl
      exact ⟨_, e, E, _, r, q, fun as E2 vs H2 q2 x2 r2 p2 => k _ _ _ _ q2 x2 r2 (.o e p2)⟩
    · rename_i xs he
      obtain ⟨a, e, _⟩ := r.mutAt he rfl
      exact ⟨_, e, E, _, r, q, fun as E2 vs H2 q2 x2 r2 p2 => k _ _ _ _ q2 x2 r2 (.o e p2)⟩
    · rename_i xs he
      obtain ⟨a, e, _⟩ := r.mutAt he rfl
      exact ⟨_, e, E, _, r, q, fun as E2 vs H2 q2 x2 r2 p2 => k _ _ _ _ q2 x2 r2 (.o e p2)⟩
    · exact q.elim⟩

/-! ### statements -/
section
variable {st : Stmt} {rest : List Stmt}
def sNx : TSd := fun DE E => DE.nx E
def sSeq (t u : TSd) : TSd := fun DE E => t { DE with nx := u DE } E
theorem sds_nil : SDs X G [] sNx := ⟨PSs.weak pss_nil fun F σ H ⟨E, DE, r, q, k1, _⟩ => k1 _ _ _ q (Ext.refl _) r⟩
theorem lift_more {K : PySem.W.Frag} {F : Ends} {σ : St} {H H1 : Hp} {E E1 : Env} {DE : EndsD} {u : TSd} {σ1 : St} (x1 : Ext H H1) (r1 : RelE K G H1 E1 σ1) (q : u DE E1)
    (k1 : ∀ E' σ' H', DE.nx E' → Ext H H' → RelE K G H' E' σ' → F.nx σ' H') (k2 : ∀ d E' v σ' H', DE.rt d E' → Ext H H' → RelE K G H' E' σ' → Rp K H' d v → F.rt v H')
    (k3 : ∀ E' σ' H', DE.bk E' → Ext H H' → RelE K G H' E' σ' → F.bk σ' H') (k4 : ∀ E' σ' H', DE.ct E' → Ext H H' → RelE K G H' E' σ' → F.ct σ' H') : liftS K G u F σ1 H1 :=
  ⟨E1, DE, r1, q, fun E' σ' H' z x r => k1 E' σ' H' z (x1.trans x) r, fun d E' v σ' H' z x r => k2 d E' v σ' H' z (x1.trans x) r, fun E' σ' H' z x r => k3 E' σ' H' z (x1.trans x) r, fun E' σ' H' z x r => k4 E' σ' H' z (x1.trans x) r⟩
theorem sds_cons {t u : TSd} (h : SD X G st t) (hr : SDs X G rest u) : SDs X G (st :: rest) (sSeq t u) :=
  ⟨PSs.weak (pss_cons h.ps hr.pss) fun F σ H ⟨E, DE, r, q, k1, k2, k3, k4⟩ => ⟨E, { DE with nx := u DE }, r, q, fun E' σ' H' z x r => lift_more (σ := σ) (E := E) x r z k1 k2 k3 k4, k2, k3, k4⟩⟩
theorem sds_one {t : TSd} (h : SD X G st t) : SDs X G [st] t := ⟨pss_one h.ps⟩
theorem sd_pass : SD X G (.Pass pos) sNx := ⟨PS.weak ps_pass fun F σ H ⟨E, DE, r, q, k1, _⟩ => k1 _ _ _ q (Ext.refl _) r⟩
def sBk : TSd := fun DE E => DE.bk E
def sCt : TSd := fun DE E => DE.ct E
theorem sd_break : SD X G (.Break pos) sBk := ⟨PS.weak ps_break fun F σ H ⟨E, DE, r, q, k1, k2, k3, k4⟩ => k3 _ _ _ q (Ext.refl _) r⟩
theorem sd_continue : SD X G (.Continue pos) sCt := ⟨PS.weak ps_continue fun F σ H ⟨E, DE, r, q, k1, k2, k3, k4⟩ => k4 _ _ _ q (Ext.refl _) r⟩
def sRet (t : TD) : TSd := fun DE E => t E DE.rt
theorem sd_ret {t : TD} (h : ED X G e t) : SD X G (.Return (some e) pos) (sRet t) :=
  ⟨PS.weak (ps_ret h.pe) fun F σ H ⟨E, DE, r, q, k1, k2, k3, k4⟩ => ⟨E, _, r, q, fun d E' v H' z x r p => k2 d E' v σ H' z x r p⟩⟩
theorem sd_retN : SD X G (.Return none pos) (sRet (tK .none)) :=
  ⟨PS.weak ps_retN fun F σ H ⟨E, DE, r, q, k1, k2, k3, k4⟩ => k2 .none E .non σ H q (Ext.refl _) r .non⟩
def sIf (c : TTd) (t u : TSd) : TSd := fun DE E => c E fun b E1 => if b = true then t DE E1 else u DE E1
theorem sd_if {sa sb : List Stmt} {tc : TTd} {t u : TSd} (hc : EB X G c tc) (ha : SDs X G sa t) (hb : SDs X G sb u) : SD X G (.If c sa sb pos) (sIf tc t u) :=
  ⟨PS.weak (ps_if hc.pt ha.pss hb.pss) fun F σ H ⟨E, DE, r, q, k1, k2, k3, k4⟩ => ⟨E, _, r, q, fun c E1 H1 q1 x1 r1 => by
    cases c with
    | true => exact lift_more (σ := σ) (E := E) x1 r1 q1 k1 k2 k3 k4
    | false => exact lift_more (σ := σ) (E := E) x1 r1 q1 k1 k2 k3 k4⟩⟩
def sExpr (t : TD) : TSd := fun DE E => t E fun _ E1 => DE.nx E1
theorem sd_expr {t : TD} (h : ED X G e t) (hs : swapsWith e none pos.line X.env = pure false := by rfl) : SD X G (.Expr e pos) (sExpr t) :=
  ⟨PS.weak (ps_expr h.pe hs) fun F σ H ⟨E, DE, r, q, k1, k2, k3, k4⟩ => ⟨E, _, r, q, fun d E1 v H1 q1 x1 r1 p1 => k1 _ _ _ q1 x1 r1⟩⟩
end
end
end DL

set_option Elab.async false
set_option linter.all false
set_option maxRecDepth 100000
namespace DL
open PySem PySem.Spec PyProof.Rows L2

section
variable {K : PySem.W.Frag} {G : Gh} {H H' : Hp} {E : Env} {σ : St} {ex : List Addr}
theorem notin_slots {i : Nat} (hi : i ∉ G.slots) (a : Addr) : (i, a) ∉ G.own := fun h => hi (List.mem_map.mpr ⟨(i, a), h, rfl⟩)
/-- a slot gets data -/
theorem RelX.setD {i : Nat} {x : D} {v : V} (r : RelX K G ex H E σ) (hi : i ∉ G.slots) (p : Rp K H x v) : RelX K G ex H (E.set i (.d x)) (σ.set i (some v)) := by
  obtain ⟨l, k, pn, dm, x0, A, h1, h2, h3⟩ := r
  refine ⟨by simp [l], k, fun j a hj => ?_, dm, x0, fun j => if j = i then [] else A j, fun j m a e1 e2 => ?_, fun j a e1 => ?_, fun j s e => ?_⟩
  · have : i ≠ j := fun z => notin_slots hi a (z ▸ hj)
    rw [List.getElem?_set_ne this]; exact pn j a hj
  · by_cases z : j = i
    · simp [z] at e1
    · by_cases z2 : m = i
      · simp [z2] at e2
      · simp only [z, z2, if_false] at e1 e2; exact h1 j m a e1 e2
  · by_cases z : j = i
    · simp [z] at e1
    · simp only [z, if_false] at e1; exact h2 j a e1
  · by_cases z : j = i
    · subst z
      by_cases hl : j < E.length
      · rw [List.getElem?_set_self hl] at e
        cases e
        exact ⟨by simp, v, by rw [List.getElem?_set_self (l ▸ hl)], p⟩
      · rw [List.getElem?_eq_none (by simpa using hl)] at e; cases e
    · rw [List.getElem?_set_ne (Ne.symm z)] at e
      rw [List.getElem?_set_ne (Ne.symm z)]
      simp only [z, if_false]; exact h3 j s e
/-- a slot gets a new mutable thing of one's own -/
theorem RelX.setM {i : Nat} {s0 : S} {a : Addr} (r : RelX K G (a :: ex) H E σ) (hx : a ∉ ex) (hi : i ∉ G.slots) (h0 : G.H0 a = none) (p : RelM K H s0 a) : RelX K G ex H (E.set i s0) (σ.set i (some (.ref a))) := by
  obtain ⟨l, k, pn, dm, x0, A, h1, h2, h3⟩ := r
  refine ⟨by simp [l], k, fun j a hj => ?_, dm, x0, fun j => if j = i then [a] else A j, fun j m b e1 e2 => ?_, fun j b e1 => ?_, fun j s e => ?_⟩
  · have : i ≠ j := fun z => notin_slots hi a (z ▸ hj)
    rw [List.getElem?_set_ne this]; exact pn j a hj
  · by_cases z : j = i
    · by_cases z2 : m = i
      · rw [z, z2]
      · simp only [z, if_true, z2, if_false, List.mem_cons, List.not_mem_nil, or_false] at e1 e2
        exact absurd e1 fun z => (h2 m b e2).2 (by simp [z])
    · by_cases z2 : m = i
      · simp only [z, if_false, z2, if_true, List.mem_cons, List.not_mem_nil, or_false] at e1 e2
        exact absurd e2 fun z => (h2 j b e1).2 (by simp [z])
      · simp only [z, z2, if_false] at e1 e2; exact h1 j m b e1 e2
  · by_cases z : j = i
    · simp only [z, if_true, List.mem_cons, List.not_mem_nil, or_false] at e1
      subst e1; exact ⟨.inr h0, hx⟩
    · simp only [z, if_false] at e1; exact ⟨(h2 j b e1).1, fun q => (h2 j b e1).2 (List.mem_cons_of_mem _ q)⟩
  · by_cases z : j = i
    · subst z
      by_cases hl : j < E.length
      · rw [List.getElem?_set_self hl] at e
        cases e
        simp only [if_true]
        exact RelS.ofMut p.isMut (by rw [List.getElem?_set_self (l ▸ hl)]) p
      · rw [List.getElem?_eq_none (by simpa using hl)] at e; cases e
    · rw [List.getElem?_set_ne (Ne.symm z)] at e
      rw [List.getElem?_set_ne (Ne.symm z)]
      simp only [z, if_false]; exact h3 j s e
theorem RelX.setL {i : Nat} {xs : List D} {a : Addr} {vs : List V} (r : RelX K G (a :: ex) H E σ) (hx : a ∉ ex) (hi : i ∉ G.slots) (h0 : G.H0 a = none) (ha : H a = some (.lst vs)) (p : RpL K H xs vs) : RelX K G ex H (E.set i (.ol xs)) (σ.set i (some (.ref a))) :=
  r.setM hx hi h0 (s0 := .ol xs) ⟨vs, ha, p⟩
/-- a mutable thing of one's own changes -/
theorem RelX.putM {i : Nat} {s0 s1 : S} {a : Addr} {u : HO} (r : RelX K G ex H E σ) (e : E[i]? = some s0) (m0 : s0.isMut = true) (hs : σ[i]? = some (some (.ref a))) (p : RelM K (upd H a u) s1 a) : RelX K G ex (upd H a u) (E.set i s1) σ := by
  obtain ⟨l, k, pn, dm, x0, A, h1, h2, h3⟩ := r
  obtain ⟨b, e1, e2, e3⟩ := (h3 i _ e).mut m0
  rw [hs] at e2
  have e2' : a = b := by injection e2 with z; injection z with z; injection z
  subst e2'
  obtain ⟨u0, g1, g2, g3⟩ := e3.soft
  have x : Ext H (upd H a u) := Ext.putS g1 g2 g3
  have own := h2 i a (by rw [e1]; simp)
  have hl : i < E.length := by
    rcases Nat.lt_or_ge i E.length with z | z
    · exact z
    · rw [List.getElem?_eq_none z] at e; cases e
  refine ⟨by simpa using l, fun q o he ne => ?_, pn, fun q hq => ?_, x0.trans x, A, h1, h2, fun j s he => ?_⟩
  · have : q ≠ a := by
      rintro rfl
      rcases own.1 with z | z
      · exact ne z
      · rw [z] at he; cases he
    rw [upd_ne this]; exact k q o he ne
  · by_cases z : q = a
    · subst z; rw [upd_same]; simp
    · rw [upd_ne z]; exact dm q hq
  · by_cases z : j = i
    · subst z
      rw [List.getElem?_set_self hl] at he
      cases he
      rw [e1]
      exact RelS.ofMut p.isMut hs p
    · rw [List.getElem?_set_ne (Ne.symm z)] at he
      exact (h3 j s he).move x fun c hc => upd_ne fun zz => z (h1 j i c hc (by rw [e1, zz]; simp))
/-- a list of one's own changes -/
theorem RelX.putL {i : Nat} {xs ys : List D} {a : Addr} {us : List V} (r : RelX K G ex H E σ) (e : E[i]? = some (.ol xs)) (hs : σ[i]? = some (some (.ref a))) (p : RpL K H ys us) : RelX K G ex (upd H a (.lst us)) (E.set i (.ol ys)) σ := by
  have x : Ext H (upd H a (.lst us)) := by
    obtain ⟨l, k, pn, dm, x0, A, h1, h2, h3⟩ := r
    obtain ⟨b, e1, e2, vs, e3, e4⟩ := h3 i _ e
    rw [hs] at e2
    have e2' : a = b := by injection e2 with z; injection z with z; injection z
    subst e2'; exact Ext.put e3
  exact r.putM e rfl hs (s1 := .ol ys) ⟨us, upd_same, p.ext x⟩
/-- a new object is apart from all -/
theorem RelX.fresh {p : Addr} {o : HO} (r : RelE K G H E σ) (hp : H p = none) : RelX K G [p] (upd H p o) E σ ∧ G.H0 p = none ∧ p ∉ G.addrs := by
  have px : PExt H (upd H p o) := PExt.new hp
  have r' := r.pext px
  obtain ⟨l, k, pn, dm, x0, A, h1, h2, h3⟩ := r'
  obtain ⟨_, k0, _, dm0, _, A0, g1, g2, g3⟩ := r
  have na : p ∉ G.addrs := fun z => dm0 p z hp
  refine ⟨⟨l, k, pn, dm, x0, fun i => if E[i]? = none then [] else A0 i, fun i j a e1 e2 => ?_, fun i a e => ?_, fun i s e => ?_⟩, ?_, na⟩
  · dsimp only at e1 e2
    split at e1
    · cases e1
    · split at e2
      · cases e2
      · exact g1 i j a e1 e2
  · dsimp only at e
    split at e
    · cases e
    · rename_i hE
      refine ⟨(g2 i a e).1, ?_⟩
      cases q : E[i]? with
      | none => exact absurd q hE
      | some s =>
        obtain ⟨u, hvs, _⟩ := (g3 i s q).indom a e
        simp only [List.mem_cons, List.not_mem_nil, or_false]
        rintro rfl
        rw [hp] at hvs; cases hvs
  · have : E[i]? ≠ none := by rw [e]; simp
    simp only [this, if_false]
    exact (g3 i s e).pext px
  · cases q : G.H0 p with
    | none => rfl
    | some o' => have := k0 p o' q na; rw [hp] at this; cases this
/-- a thing that nobody else has is frozen -/
theorem RelX.freezeS {a : Addr} {u u' : HO} (r : RelX K G [a] H E σ) (h0 : G.H0 a = none) (na : a ∉ G.addrs) (ha : H a = some u) (s1 : ∀ xs, u ≠ .tup xs) (s2 : ∀ o v, u ≠ .frz o v) : RelE K G (upd H a u') E σ := by
  have x : Ext H (upd H a u') := Ext.putS ha s1 s2
  obtain ⟨l, k, pn, dm, x0, A, h1, h2, h3⟩ := r
  refine ⟨l, fun q u he ne => ?_, pn, fun q hq => ?_, x0.trans x, fun i => if E[i]? = none then [] else A i, fun i j b e1 e2 => ?_, fun i b e => ?_, fun i s e => ?_⟩
  · have : q ≠ a := by rintro rfl; rw [h0] at he; cases he
    rw [upd_ne this]; exact k q u he ne
  · have : q ≠ a := by rintro rfl; exact na hq
    rw [upd_ne this]; exact dm q hq
  · dsimp only at e1 e2
    split at e1
    · cases e1
    · split at e2
      · cases e2
      · exact h1 i j b e1 e2
  · dsimp only at e
    split at e
    · cases e
    · exact ⟨(h2 i b e).1, by simp⟩
  · have : E[i]? ≠ none := by rw [e]; simp
    simp only [this, if_false]
    exact (h3 i s e).move x fun p hp => upd_ne (by rintro rfl; exact (h2 i p hp).2 (by simp))
/-- a list that nobody else has is frozen -/
theorem RelX.freeze {a : Addr} {vs : List V} {o : Obj} (r : RelX K G [a] H E σ) (h0 : G.H0 a = none) (na : a ∉ G.addrs) (ha : H a = some (.lst vs)) : RelE K G (upd H a (.frz o (.lst vs))) E σ :=
  r.freezeS h0 na ha (fun _ z => by cases z) (fun _ _ z => by cases z)
end

section
variable {X : Cx} {G : Gh} {a b c e : Expr} {es : List Expr} {pos : Pos}
/-! ### a new list is frozen: data -/
def tFz (t : TE) : TE := fun σ H Q => t σ H fun v H1 => ∃ a xs, v = .ref a ∧ H1 a = some (.lst xs) ∧ ∀ o, Q v (upd H1 a (.frz o (.lst xs)))
theorem PE.fz {t : TE} (h : PE X e t) : PE X e (tFz t) := ⟨fun pins s σ H Q I q => thn (h.run pins s σ H _ I q) fun u s1 ⟨v, H1, I1, r1, a, xs, e1, e2, q1⟩ => by
  obtain ⟨o, I2⟩ := I1.lock e2 trivial
  exact ⟨v, _, I2, r1, q1 o⟩⟩
def tFzD (t : TLd) : TD := fun E Q => t E fun xs E1 => Q (.list xs) E1
theorem EL.ed {t : TLd} (h : EL X G e t) : ED X G e (tFzD t) :=
  ⟨PE.weak (PE.fz h.pe) fun σ H Q ⟨E, QE, r, q, k⟩ => ⟨E, _, r, q, fun xs E1 a vs H1 q1 x1 r1 h0 na ha p1 => ⟨a, vs, rfl, ha, fun o =>
    k _ _ _ _ q1 (x1.trans (Ext.put ha)) (r1.freeze h0 na ha) (.lst (.of upd_same) (p1.ext (Ext.put ha)))⟩⟩⟩
/-- a list that is read now -/
theorem EL.er {t : TLd} (h : EL X G e t) : ER X G e (tFzD t) := h.ed.er

/-! ### displays -/
abbrev TDs := Env → (List D → Env → Prop) → Prop
def liftDs (K : PySem.W.Frag) (G : Gh) (t : TDs) : TA := fun σ H Q => ∃ (E : Env) (QE : List D → Env → Prop), RelE K G H E σ ∧ t E QE ∧ ∀ ds E' vs H', QE ds E' → Ext H H' → RelE K G H' E' σ → RpL K H' ds vs → Q vs H'
structure EDs (X : Cx) (G : Gh) (es : List Expr) (t : TDs) : Prop where
  pa : PA X es (liftDs X.K G t)
def dNil : TDs := fun E Q => Q [] E
def dCons (t : TD) (u : TDs) : TDs := fun E Q => t E fun x E1 => u E1 fun ds E2 => Q (x :: ds) E2
theorem eds_nil : EDs X G [] dNil := ⟨PA.weak pa_nil fun σ H Q ⟨E, QE, r, q, k⟩ => k _ _ _ _ q (Ext.refl _) r .nil⟩
theorem eds_cons {t : TD} {u : TDs} (h : ED X G e t) (hr : EDs X G es u) (hs : starEach (e :: es) X.env = (false, eval e X.env) :: starEach es X.env := by rfl) : EDs X G (e :: es) (dCons t u) :=
  ⟨PA.weak (pa_cons h.pe hr.pa hs) fun σ H Q ⟨E, QE, r, q, k⟩ => ⟨E, _, r, q, fun x E1 v H1 q1 x1 r1 p1 => ⟨E1, _, r1, q1, fun as E2 vs H2 q2 x2 r2 p2 => k _ _ _ _ q2 (x1.trans x2) r2 (.cons (p1.ext x2) p2)⟩⟩⟩
/-- a tuple of written items: the new object is plain -/
theorem pe_tupF {x1 : Nat} {t : TA} (h : PA X es t) : PE X (.Tuple es x1 pos) (fun σ H Q => t σ H fun xs H1 => xs.length ≤ sizeLine ∧ ∀ p o, H1 p = none → o.dict = none → Q (.ref p) (upd H1 p (.frz o (.tup xs)))) :=
  ⟨fun pins s σ H Q I hq => wpAny_Tuple_spliced (thn (h.run pos pins s σ H _ I hq) fun us s1 ⟨xs, H1, I1, r, z, q⟩ => ⟨by rw [← r.length]; exact z,
    ⟨.ref s1.heap.objs.size, upd H1 s1.heap.objs.size (.frz { cls := .type "tuple", data := .seq us.toArray } (.tup xs)), I1.laid (t' := s1.toks) (fun b u e => Heap.get?_push_of_some _ e) (Nat.le_refl _) ⟨Heap.get?_push_size _ rfl, z, us, r, ⟨_, Heap.get?_push_size _ rfl, rfl, _, rfl⟩⟩, rfl, q _ _ (I1.hok.fresh (Nat.le_refl _)) rfl⟩⟩)⟩
def tTupD (t : TDs) : TD := fun E Q => t E fun ds E1 => ds.length ≤ sizeLine ∧ Q (.tuple ds) E1
theorem ed_tup {x1} {t : TDs} (h : EDs X G es t) : ED X G (.Tuple es x1 pos) (tTupD t) :=
  ⟨PE.weak (pe_tupF h.pa) fun σ H Q ⟨E, QE, r, q, k⟩ => ⟨E, _, r, q, fun ds E1 vs H1 q1 x1 r1 p1 => ⟨by rw [← p1.length]; exact q1.1, fun p o hp ho =>
    k _ _ _ _ q1.2 (x1.trans (PExt.new hp).ext) (r1.pext (PExt.new hp)) (.tup (.new ho) (p1.ext (PExt.new hp).ext))⟩⟩⟩
def tLstD (t : TDs) : TLd := fun E Q => t E fun ds E1 => ds.length ≤ sizeLine ∧ Q ds E1
theorem el_lst {t : TDs} (h : EDs X G es t) : EL X G (.List es pos) (tLstD t) :=
  ⟨PE.weak (pe_lst h.pa) fun σ H Q ⟨E, QE, r, q, k⟩ => ⟨E, _, r, q, fun ds E1 vs H1 q1 x1 r1 p1 => ⟨by rw [← p1.length]; exact q1.1, fun p hp => by
    obtain ⟨r2, h0, na⟩ := r1.fresh (o := .lst vs) hp
    exact k _ _ _ _ _ q1.2 (x1.trans (PExt.new hp).ext) r2 h0 na upd_same (p1.ext (PExt.new hp).ext)⟩⟩⟩

/-! ### assignments -/
def sSet (i : Nat) (t : TD) : TSd := fun DE E => t E fun d E1 => DE.nx (E1.set i (.d d))
theorem sd_set {i : Nat} {x : Str} {pos' : Pos} {t : TD} (hi : i ∉ G.slots) (hN : X.N.Nodup) (hx : X.N[i]? = some x) (hl : Loc X.env.scope x) (h : ED X G e t) (hs : swapsWith e (some (.Name x pos')) pos.line X.env = pure false := by rfl)
    (hf : X.fn x = true ∨ X.env.scope.names.lookup x = some .local := by first | exact .inl rfl | exact .inr rfl | assumption) : SD X G (.Assign [.Name x pos'] e pos) (sSet i t) :=
  ⟨PS.weak (ps_set hN hx hl h.pe hs hf) fun F σ H ⟨E, DE, r, q, k1, k2, k3, k4⟩ => ⟨E, _, r, q, fun d E1 v H1 q1 x1 r1 p1 => k1 _ _ _ q1 x1 (r1.setD hi p1)⟩⟩
def sSetL (i : Nat) (t : TLd) : TSd := fun DE E => t E fun d E1 => DE.nx (E1.set i (.ol d))
theorem sd_setL {i : Nat} {x : Str} {pos' : Pos} {t : TLd} (hi : i ∉ G.slots) (hN : X.N.Nodup) (hx : X.N[i]? = some x) (hl : Loc X.env.scope x) (h : EL X G e t) (hs : swapsWith e (some (.Name x pos')) pos.line X.env = pure false := by rfl)
    (hf : X.fn x = true ∨ X.env.scope.names.lookup x = some .local := by first | exact .inl rfl | exact .inr rfl | assumption) : SD X G (.Assign [.Name x pos'] e pos) (sSetL i t) :=
  ⟨PS.weak (ps_set hN hx hl h.pe hs hf) fun F σ H ⟨E, DE, r, q, k1, k2, k3, k4⟩ => ⟨E, _, r, q, fun d E1 a vs H1 q1 x1 r1 h0 na ha p1 => k1 _ _ _ q1 x1 (r1.setL (by simp) hi h0 ha p1)⟩⟩
/-! targets: ms the slots that they change -/
theorem wipe_setIn {σ : St} {i : Nat} {o : Option V} : ∀ {ms : List Nat}, i ∈ ms → wipe (σ.set i o) ms = wipe σ ms
  | m :: ms, h => by
    show (wipe (σ.set i o) ms).set m none = (wipe σ ms).set m none
    by_cases hi : i ∈ ms
    · rw [wipe_setIn hi]
    · have hm : i = m := by rcases List.mem_cons.mp h with z | z; exact z; exact absurd z hi
      subst hm
      have : ∀ (l : List Nat), i ∉ l → wipe (σ.set i o) l = (wipe σ l).set i o := by
        intro l
        induction l with
        | nil => intro _; rfl
        | cons k l ih =>
          intro hk
          show (wipe (σ.set i o) l).set k none = ((wipe σ l).set k none).set i o
          rw [ih (fun z => hk (List.mem_cons_of_mem _ z)), List.set_comm _ _ (fun z => hk (by simp [z]))]
      rw [this ms hi, List.set_set]
abbrev TGd := D → Env → (Env → Prop) → Prop
def liftG (W : Bool) (K : PySem.W.Frag) (G : Gh) (ms : List Nat) (t : TGd) : TG := fun v σ H Q => ∃ (E : Env) (d : D) (QE : Env → Prop), RelE K G H E σ ∧ RpB W K H d v ∧ t d E QE ∧ ∀ E' σ' H', QE E' → Ext H H' → RelE K G H' E' σ' → wipe σ' ms = wipe σ ms → Q σ' H'
structure GD (X : Cx) (G : Gh) (W : Bool) (ms : List Nat) (tg : Expr) (t : TGd) : Prop where
  pg : PG X tg (liftG W X.K G ms t)
theorem PG.weak {tg : Expr} {t u : TG} (h : PG X tg t) (w : ∀ v σ H Q, u v σ H Q → t v σ H Q) : PG X tg u := ⟨fun pins s σ H v x Q I r q => h.run pins s σ H v x Q I r (w v σ H Q q)⟩
def gSet (i : Nat) : TGd := fun d E Q => Q (E.set i (.d d))
theorem gd_name {i : Nat} {x : Str} {ms : List Nat} (hi : i ∉ G.slots) (hm : i ∈ ms) (hN : X.N.Nodup) (hx : X.N[i]? = some x) (hl : Loc X.env.scope x) (hf : X.fn x = true ∨ X.env.scope.names.lookup x = some .local := by first | exact .inl rfl | exact .inr rfl | assumption) : GD X G false ms (.Name x pos) (gSet i) :=
  ⟨PG.weak (pg_name hN hx hl hf) fun v σ H Q ⟨E, d, QE, r, p, q, k⟩ => k _ _ _ q (Ext.refl _) (r.setD hi p) (wipe_setIn hm)⟩
abbrev TGsd := List D → Env → (Env → Prop) → Prop
def liftGs (K : PySem.W.Frag) (G : Gh) (ms : List Nat) (t : TGsd) : TGs := fun vs σ H Q => ∃ (E : Env) (ds : List D) (QE : Env → Prop), RelE K G H E σ ∧ RpL K H ds vs ∧ t ds E QE ∧ ∀ E' σ' H', QE E' → Ext H H' → RelE K G H' E' σ' → wipe σ' ms = wipe σ ms → Q σ' H'
structure GDs (X : Cx) (G : Gh) (ms : List Nat) (tgs : List Expr) (t : TGsd) : Prop where
  pg : PGs X tgs (liftGs X.K G ms t)
theorem PGs.weak {tgs : List Expr} {t u : TGs} (h : PGs X tgs t) (w : ∀ v σ H Q, u v σ H Q → t v σ H Q) : PGs X tgs u := ⟨fun pins s σ H v x Q I r q => h.run pins s σ H v x Q I r (w v σ H Q q)⟩
def gsNil : TGsd := fun ds E Q => match ds with
  | [] => Q E
  | _ => False
def gsCons (t : TGd) (u : TGsd) : TGsd := fun ds E Q => match ds with
  | d :: r => t d E fun E1 => u r E1 Q
  | _ => False
theorem gds_nil {ms : List Nat} : GDs X G ms [] gsNil := ⟨PGs.weak pgs_nil fun vs σ H Q ⟨E, ds, QE, r, p, q, k⟩ => by
  cases p with
  | nil => exact ⟨rfl, k _ _ _ q (Ext.refl _) r rfl⟩
  | cons _ _ => exact q.elim⟩
theorem gds_cons {ms : List Nat} {t : TGd} {u : TGsd} (h1 : GD X G false ms e t) (h2 : GDs X G ms es u) (hs : (assignEach (e :: es) X.env).map (·.2) = assign e X.env :: (assignEach es X.env).map (·.2) := by rfl) : GDs X G ms (e :: es) (gsCons t u) := ⟨PGs.weak (pgs_cons h1.pg h2.pg hs) fun vs σ H Q ⟨E, ds, QE, r, p, q, k⟩ => by
  cases p with
  | nil => exact q.elim
  | cons p1 p2 => exact ⟨_, _, rfl, E, _, _, r, .of p1, q, fun E1 σ1 H1 q1 x1 r1 w1 => ⟨E1, _, QE, r1, p2.ext x1, q1, fun E2 σ2 H2 q2 x2 r2 w2 => k _ _ _ q2 (x1.trans x2) r2 (w2.trans w1)⟩⟩⟩
/-- a tuple of targets: n of them -/
def gTupD (n : Nat) (u : TGsd) : TGd := fun d E Q => match d with
  | .tuple ds => ds.length = n ∧ u ds E Q
  | _ => False
theorem gd_tup {W : Bool} {ms : List Nat} {k n : Nat} {u : TGsd} (hc : X.calm = true) (h : GDs X G ms es u) (hn : (assignEach es X.env).length = n := by rfl) (hst : (assignEach es X.env).findIdx? (·.1) = none := by rfl) : GD X G W ms (.Tuple es k pos) (gTupD n u) :=
  ⟨PG.weak (pg_tup hc h.pg hn hst) fun v σ H Q ⟨E, d, QE, r, p, q, k⟩ => by
    have strong : Rp X.K H d v → gTup X.K n (liftGs X.K G ms u) v σ H Q := fun p => by
      cases p with
      | tup hs l => exact ⟨_, _, rfl, hs.1, by rw [← l.length]; exact q.1, E, _, QE, r, l, q.2, k⟩
      | _ => exact q.elim
    unfold RpB at p
    split at p
    · rcases p with p | ⟨ds, a, vs, rfl, rfl, hs, l⟩
      · exact strong p
      · exact ⟨_, _, rfl, hs, by rw [← l.length]; exact q.1, E, _, QE, r, l, q.2, k⟩
    · exact strong p⟩
/-- targets = e -/
def sAsg (t : TD) (g : TGd) : TSd := fun DE E => t E fun d E1 => g d E1 DE.nx
theorem sd_asg {ms : List Nat} {tg : Expr} {t : TD} {g : TGd} (h : ED X G e t) (hg : GD X G false ms tg g) (hs : swapsWithSole [tg] e pos.line X.env = pure false := by rfl) (hw : swappedStores [tg] e X.env = pure none := by rfl)
    (ha : (assignEach [tg] X.env).map (·.2) = [assign tg X.env] := by rfl) : SD X G (.Assign [tg] e pos) (sAsg t g) :=
  ⟨PS.weak (ps_asg h.pe hg.pg hs hw ha) fun F σ H ⟨E, DE, r, q, k1, k2, k3, k4⟩ => ⟨E, _, r, q, fun d E1 v H1 q1 x1 r1 p1 => ⟨E1, d, DE.nx, r1, .of p1, q1, fun E2 σ2 H2 q2 x2 r2 _ => k1 _ _ _ q2 (x1.trans x2) r2⟩⟩⟩
end
end DL

set_option Elab.async false
set_option linter.all false
set_option maxRecDepth 100000
namespace DL
open PySem PySem.Spec PyProof.Rows L2

/-! ### a thing that nobody else has, kept while something else runs -/
def pend (G : Gh) (a : Addr) (o : HO) : Gh := { H0 := upd G.H0 a o, own := G.own, X0 := G.X0, more := G.more }
section
variable {K : PySem.W.Frag} {G : Gh} {H H' : Hp} {E : Env} {σ : St} {ex : List Addr}
theorem RelX.toPend {a : Addr} {o : HO} (r : RelX K G (a :: ex) H E σ) (ha : H a = some o) (na : a ∉ G.addrs) : RelX K (pend G a o) ex H E σ := by
  obtain ⟨l, k, pn, dm, x0, A, h1, h2, h3⟩ := r
  refine ⟨l, fun p u e ne => ?_, pn, dm, x0, A, h1, fun i b e => ⟨?_, fun q => (h2 i b e).2 (List.mem_cons_of_mem _ q)⟩, h3⟩
  · by_cases z : p = a
    · subst z
      have : (pend G p o).H0 p = some o := upd_same
      rw [this] at e; cases e; exact ha
    · have e' : G.H0 p = some u := by
        have : (pend G a o).H0 p = G.H0 p := upd_ne z
        rw [this] at e; exact e
      exact k p u e' ne
  · have hb := h2 i b e
    have z : b ≠ a := by intro z; exact hb.2 (by simp [z])
    rcases hb.1 with q | q
    · exact .inl q
    · exact .inr (by show upd G.H0 a o b = none; rw [upd_ne z]; exact q)
theorem RelX.ofPend {a : Addr} {o : HO} (r : RelX K (pend G a o) ex H E σ) (h0 : G.H0 a = none) (na : a ∉ G.addrs) : RelX K G (a :: ex) H E σ ∧ H a = some o := by
  obtain ⟨l, k, pn, dm, x0, A, h1, h2, h3⟩ := r
  refine ⟨⟨l, fun p u e ne => ?_, pn, dm, x0, A, h1, fun i b e => ?_, h3⟩, ?_⟩
  · have z : p ≠ a := by rintro rfl; rw [h0] at e; cases e
    exact k p u (by show upd G.H0 a o p = some u; rw [upd_ne z]; exact e) ne
  · have hb := (h2 i b e).1
    have z : b ≠ a := by
      rintro rfl
      rcases hb with q | q
      · exact na q
      · have : upd G.H0 b o b = none := q
        rw [upd_same] at this; cases this
    refine ⟨?_, fun q => by
      rcases List.mem_cons.mp q with q | q
      · exact z q
      · exact (h2 i b e).2 q⟩
    rcases hb with q | q
    · exact .inl q
    · exact .inr (by have : upd G.H0 a o b = none := q; rw [upd_ne z] at this; exact this)
  · exact k a o upd_same na
end

/-! ### what is walked -/
structure WalkD (W : Bool) (K : PySem.W.Frag) (J : It) (H0 : Hp) (ds : List D) : Prop where
  goes : ∀ i H, Ext H0 H → i < ds.length → J.go i H
  yld : ∀ i H x H', Ext H0 H → i < ds.length → J.yld i H x H' → PExt H H' ∧ ∃ d, ds[i]? = some d ∧ RpB W K H' d x
  stops : ∀ H, Ext H0 H → J.stop ds.length H
def liftI (W : Bool) (K : PySem.W.Frag) (G : Gh) (t : TDs) : TI := fun σ H R => ∃ (E : Env) (QE : List D → Env → Prop), RelE K G H E σ ∧ t E QE ∧ ∀ ds E' J H', QE ds E' → Ext H H' → RelE K G H' E' σ → WalkD W K J H' ds → R J H'
structure ID (X : Cx) (G : Gh) (W : Bool) (tg iter : Expr) (t : TDs) : Prop where
  pi : PI X tg iter (liftI W X.K G t)
theorem PI.weak {X : Cx} {tg iter : Expr} {t u : TI} (h : PI X tg iter t) (w : ∀ σ H R, u σ H R → t σ H R) : PI X tg iter u := ⟨fun pins s σ H R I q => h.run pins s σ H R I (w σ H R q)⟩

section
variable {X : Cx} {G : Gh} {tg iter e : Expr} {pos : Pos}
/-- over data that is a tuple -/
def iTupD (t : TD) : TDs := fun E Q => t E fun d E1 => match d with
  | .tuple ds => Q ds E1
  | _ => False
def iLstD (t : TD) : TDs := fun E Q => t E fun d E1 => match d with
  | .list ds => Q ds E1
  | _ => False
theorem walkD_tup {K : PySem.W.Frag} {H : Hp} {a : Addr} {vs : List V} {ds : List D} (h : SqT K H a vs) (l : RpL K H ds vs) : WalkD false K (Itt K a) H ds where
  goes := fun i H' x hi => by
    rw [l.length] at hi
    exact ⟨vs, vs[i], SqT.ext x h, List.getElem?_eq_getElem hi⟩
  yld := fun i H' v H2 x hi hy => by
    obtain ⟨e1, e2⟩ := hy
    subst e1
    have hv := e2 vs (SqT.ext x h)
    obtain ⟨d, hd, p⟩ := l.getV hv
    exact ⟨PExt.refl _, d, hd, p.ext x⟩
  stops := fun H' x => ⟨vs, SqT.ext x h, by rw [l.length]; exact Nat.le_refl _⟩
theorem walkD_lst {K : PySem.W.Frag} {H : Hp} {a : Addr} {vs : List V} {ds : List D} (h : LsF K H a vs) (l : RpL K H ds vs) : WalkD false K (Itl K a) H ds where
  goes := fun i H' x hi => by
    rw [l.length] at hi
    exact ⟨vs, vs[i], (LsF.ext x h).sq, List.getElem?_eq_getElem hi⟩
  yld := fun i H' v H2 x hi hy => by
    obtain ⟨e1, e2⟩ := hy
    subst e1
    have hv := e2 vs ((LsF.ext x h).sq)
    obtain ⟨d, hd, p⟩ := l.getV hv
    exact ⟨PExt.refl _, d, hd, p.ext x⟩
  stops := fun H' x => ⟨vs, (LsF.ext x h).sq, by rw [l.length]; exact Nat.le_refl _⟩
theorem id_tup {t : TD} (h : ED X G iter t) : ID X G false tg iter (iTupD t) :=
  ⟨PI.weak (pi_tup h.pe) fun σ H R ⟨E, QE, r, q, k⟩ => ⟨E, _, r, q, fun d E1 v H1 q1 x1 r1 p1 => by
    cases p1 with
    | tup hs l => exact ⟨_, rfl, ⟨_, hs.1⟩, k _ _ _ _ q1 x1 r1 (walkD_tup hs.1 l)⟩
    | _ => exact q1.elim⟩⟩
theorem id_lst {t : TD} (h : ED X G iter t) : ID X G false tg iter (iLstD t) :=
  ⟨PI.weak (pi_list h.pe) fun σ H R ⟨E, QE, r, q, k⟩ => ⟨E, _, r, q, fun d E1 v H1 q1 x1 r1 p1 => by
    cases p1 with
    | lst hs l => exact ⟨_, rfl, ⟨_, hs.sq⟩, k _ _ _ _ q1 x1 r1 (walkD_lst hs l)⟩
    | _ => exact q1.elim⟩⟩
/-! ranges -/
def rangeD (lo : Int) (n : Nat) : List D := (List.range n).map fun i : Nat => PyData.int (lo + (i : Int))
theorem rangeD_length (lo : Int) (n : Nat) : (rangeD lo n).length = n := by simp [rangeD]
theorem rangeD_get {lo : Int} {n i : Nat} (h : i < n) : (rangeD lo n)[i]? = some (.int (lo + (i : Int))) := by
  simp [rangeD, h]
theorem walkD_range {K : PySem.W.Frag} {H : Hp} {lo : Int} {n : Nat} : WalkD false K (Itr lo n) H (rangeD lo n) where
  goes := fun i H' x hi => by rw [rangeD_length] at hi; exact hi
  yld := fun i H' v H2 x hi hy => by
    obtain ⟨rfl, rfl⟩ := hy
    rw [rangeD_length] at hi
    exact ⟨PExt.refl _, _, rangeD_get hi, .int _⟩
  stops := fun H' x => by rw [rangeD_length]; exact Nat.le_refl _
def iRange1 (t : TD) : TDs := fun E Q => t E fun d E1 => match d with
  | .int j => (-(2 ^ 62) ≤ j ∧ j < 2 ^ 62) ∧ Q (rangeD 0 j.toNat) E1
  | _ => False
theorem id_range1 {a : Expr} {t : TD} {p : Pos} (hg : Gl X "range") (hm : X.mg "range" = none) (h : ED X G a t) (hs : starEach [a] X.env = [(false, eval a X.env)] := by rfl) : ID X G false tg (.Call (.Name "range" p) [a] [] pos) (iRange1 t) :=
  ⟨PI.weak (pi_range1 hg hm (pa_cons h.pe pa_nil hs) hs) fun σ H R ⟨E, QE, r, q, k⟩ => ⟨E, _, r, q, fun d E1 v H1 q1 x1 r1 p1 => by
    cases p1 with
    | int i => exact ⟨i, rfl, q1.1.1, q1.1.2, k _ _ _ _ q1.2 x1 r1 walkD_range⟩
    | _ => exact q1.elim⟩⟩
def iRange2 (t u : TD) : TDs := fun E Q => t E fun d E1 => u E1 fun f E2 => match d, f with
  | .int i, .int j => (-(2 ^ 62) ≤ i ∧ i < 2 ^ 62 ∧ -(2 ^ 62) ≤ j ∧ j < 2 ^ 62) ∧ Q (rangeD i (j - i).toNat) E2
  | _, _ => False
theorem id_range2 {a b : Expr} {t u : TD} {p : Pos} (hg : Gl X "range") (hm : X.mg "range" = none) (h : ED X G a t) (hb : ED X G b u) (hs : starEach [a, b] X.env = [(false, eval a X.env), (false, eval b X.env)] := by rfl) (hs2 : starEach [b] X.env = [(false, eval b X.env)] := by rfl) :
    ID X G false tg (.Call (.Name "range" p) [a, b] [] pos) (iRange2 t u) :=
  ⟨PI.weak (pi_range2 hg hm (pa_cons h.pe (pa_cons hb.pe pa_nil hs2) (by rw [hs, hs2])) hs hs2) fun σ H R ⟨E, QE, r, q, k⟩ => ⟨E, _, r, q, fun d E1 v H1 q1 x1 r1 p1 => ⟨E1, _, r1, q1, fun f E2 u H2 q2 x2 r2 p2 => by
    cases p1 with
    | int i =>
      cases p2 with
      | int j => exact ⟨i, j, rfl, q2.1, k _ _ _ _ q2.2 (x1.trans x2) r2 walkD_range⟩
      | _ => exact q2.elim
    | _ => cases p2 <;> exact q2.elim⟩⟩⟩

/-! ### for -/
def forD (g : TGd) (tb : TSd) : List D → TSd
  | [] => fun DE E => DE.nx E
  | d :: ds => fun DE E => g d E fun E1 => tb { DE with nx := forD g tb ds DE, ct := forD g tb ds DE, bk := DE.nx } E1
def sFor (ti : TDs) (g : TGd) (tb : TSd) : TSd := fun DE E => ti E fun ds E1 => forD g tb ds DE E1
theorem sd_for {W : Bool} {body : List Stmt} {ti : TDs} {g : TGd} {tb : TSd} (hp : PassesOwn (model X.prog X.w) X.A X.env X.xe) (hc : X.calm = true) (hi : ID X G W tg iter ti) {ms : List Nat} (hg : GD X G W ms tg g) (hb : SDs X G body tb)
    (hs : ∀ x, foldedSetIterable iter X.env x = pure x := by intro _; rfl) : SD X G (.For tg iter body [] pos) (sFor ti g tb) := by
  refine ⟨PS.weak (ps_for hp hc hi.pi hg.pg hb.pss hs) fun F σ H ⟨E, DE, r, q, k1, k2, k3, k4⟩ => ⟨E, _, r, q, fun ds E1 J H1 q1 x1 r1 wk => ?_⟩⟩
  refine ⟨fun i m σ' H' => ∃ E', i + m = ds.length ∧ Ext H1 H' ∧ RelE X.K G H' E' σ' ∧ forD g tb (ds.drop i) DE E', ⟨ds.length, E1, by omega, Ext.refl _, r1, q1⟩, fun i m σ2 H2 hW => ?_⟩
  obtain ⟨E2, hm, x2, r2, q2⟩ := hW
  by_cases hi : i < ds.length
  · obtain ⟨d, hd⟩ : ∃ d, ds[i]? = some d := ⟨ds[i], List.getElem?_eq_getElem hi⟩
    have hdr : ds.drop i = d :: ds.drop (i + 1) := by
      rw [List.drop_eq_getElem_cons hi]
      rw [List.getElem?_eq_getElem hi] at hd
      rw [Option.some.inj hd]
    rw [hdr] at q2
    refine .inr ⟨wk.goes i H2 x2 hi, fun σ' H' => ∃ E', Ext H1 H' ∧ RelE X.K G H' E' σ' ∧ forD g tb (ds.drop (i + 1)) DE E', fun σ' H' ⟨E', a1, a2, a3⟩ => ⟨m - 1, by omega, E', by omega, a1, a2, a3⟩, fun x H3 hy => ?_⟩
    obtain ⟨px, d', hd', p⟩ := wk.yld i H2 x H3 x2 hi hy
    rw [hd] at hd'; cases hd'
    refine ⟨E2, d, _, r2.pext px, p, q2, fun E4 σ4 H4 q4 x4 r4 _ => ?_⟩
    have xx : Ext H1 H4 := (x2.trans px.ext).trans x4
    refine ⟨E4, _, r4, q4, fun E5 σ5 H5 z x5 r5 => ⟨E5, xx.trans x5, r5, z⟩, fun d E5 v σ5 H5 z x5 r5 p5 => k2 d E5 v σ5 H5 z ((x1.trans xx).trans x5) r5 p5, fun E5 σ5 H5 z x5 r5 => k1 E5 σ5 H5 z ((x1.trans xx).trans x5) r5, fun E5 σ5 H5 z x5 r5 => ⟨E5, xx.trans x5, r5, z⟩⟩
  · have e0 : ds.drop i = [] := List.drop_eq_nil_of_le (by omega)
    have ei : i = ds.length := by omega
    rw [e0] at q2
    refine .inl ⟨by rw [ei]; exact wk.stops H2 x2, k1 _ _ _ q2 (x1.trans x2) r2⟩

/-! ### while -/
def sWhile (c : TTd) (tb : TSd) : TSd := fun DE E => ∃ W : Nat → Env → Prop, (∃ m, W m E) ∧ ∀ m E, W m E → c E fun b E1 =>
  if b = true then tb { DE with nx := fun E' => ∃ m', m' < m ∧ W m' E', ct := fun E' => ∃ m', m' < m ∧ W m' E', bk := DE.nx } E1 else DE.nx E1
theorem sd_while {c : Expr} {body : List Stmt} {tc : TTd} {tb : TSd} (hp : PassesOwn (model X.prog X.w) X.A X.env X.xe) (hc : EB X G c tc) (hb : SDs X G body tb) : SD X G (.While c body [] pos) (sWhile tc tb) := by
  refine ⟨PS.weak (ps_while hp hc.pt hb.pss) fun F σ H ⟨E, DE, r, ⟨W, ⟨m0, w0⟩, turn⟩, k1, k2, k3, k4⟩ => ?_⟩
  refine ⟨fun m σ' H' => ∃ E', Ext H H' ∧ RelE X.K G H' E' σ' ∧ W m E', ⟨m0, E, Ext.refl _, r, w0⟩, fun m σ1 H1 ⟨E1, x1, r1, w1⟩ => ⟨E1, _, r1, turn m E1 w1, fun b E2 H2 q2 x2 r2 => ?_⟩⟩
  have xx := x1.trans x2
  cases b with
  | true =>
    rw [if_pos rfl] at q2
    refine iteT ?_
    refine ⟨fun σ' H' => ∃ E', Ext H H' ∧ RelE X.K G H' E' σ' ∧ ∃ m', m' < m ∧ W m' E', fun σ' H' ⟨E', a1, a2, m', a3, a4⟩ => ⟨m', a3, E', a1, a2, a4⟩, E2, _, r2, q2, fun E5 σ5 H5 z x5 r5 => ⟨E5, xx.trans x5, r5, z⟩, fun d E5 v σ5 H5 z x5 r5 p5 => k2 d E5 v σ5 H5 z (xx.trans x5) r5 p5, fun E5 σ5 H5 z x5 r5 => k1 E5 σ5 H5 z (xx.trans x5) r5, fun E5 σ5 H5 z x5 r5 => ⟨E5, xx.trans x5, r5, z⟩⟩
  | false =>
    rw [if_neg Bool.false_ne_true] at q2
    refine iteF ?_
    exact k1 _ _ _ q2 xx r2

/-! ### comprehensions -/
def wipeE (E : Env) : List Nat → Env
  | [] => E
  | v :: vs => (wipeE E vs).set v .un
def datOf : Option S → S
  | some (.d x) => .d x
  | _ => .un
/-- behind a comprehension: its own names are as they were -/
def restE (E0 E : Env) : List Nat → Env
  | [] => E
  | v :: vs => (restE E0 E vs).set v (datOf E0[v]?)
/-- one turn: an item, or none -/
def turnD (g : TGd) (tt : TTd) (te : TD) (d : D) (E : Env) (Q : Option D → Env → Prop) : Prop :=
  g d E fun E1 => tt E1 fun b E2 => if b = true then te E2 fun y E3 => Q (some y) E3 else Q none E2
def compD (g : TGd) (tt : TTd) (te : TD) (ms : List Nat) : List D → List D → Env → (List D → Env → Prop) → Prop
  | [], acc, E, Q => Q acc E
  | d :: ds, acc, E, Q => turnD g tt te d (wipeE E ms) fun o E' => match o with
    | some y => acc.length < sizeLine ∧ compD g tt te ms ds (acc ++ [y]) E' Q
    | none => compD g tt te ms ds acc E' Q
def tComp (ti : TDs) (g : TGd) (tt : TTd) (te : TD) (ms : List Nat) : TLd := fun E Q => ti E fun ds E1 => compD g tt te ms ds [] E1 fun xs E2 => Q xs (restE E1 E2 ms)
def tTrue : TTd := fun E Q => Q true E
structure EBs (X : Cx) (G : Gh) (ifs : List Expr) (t : TTd) : Prop where
  pt : PTs X ifs (liftT X.K G t)
theorem PTs.weak {ifs : List Expr} {t u : TT} (h : PTs X ifs t) (w : ∀ σ H Q, u σ H Q → t σ H Q) : PTs X ifs u := ⟨fun pins s σ H Q I q => h.run pins s σ H Q I (w σ H Q q)⟩
theorem ebs_nil : EBs X G [] tTrue := ⟨PTs.weak pts_nil fun σ H Q ⟨E, QE, r, q, k⟩ => k _ _ _ q (Ext.refl _) r⟩
theorem ebs_one {c : Expr} {t : TTd} (h : EB X G c t) : EBs X G [c] t := ⟨pts_one h.pt⟩
theorem RelX.wipe1 {K : PySem.W.Frag} {ex : List Addr} {H : Hp} {E : Env} {σ : St} {i : Nat} (r : RelX K G ex H E σ) (hi : i ∉ G.slots) : RelX K G ex H (E.set i .un) (σ.set i none) := by
  obtain ⟨l, k, pn, dm, x0, A, h1, h2, h3⟩ := r
  refine ⟨by simp [l], k, fun j a hj => ?_, dm, x0, fun j => if j = i then [] else A j, fun j m a e1 e2 => ?_, fun j a e1 => ?_, fun j s e => ?_⟩
  · have : i ≠ j := fun z => notin_slots hi a (z ▸ hj)
    rw [List.getElem?_set_ne this]; exact pn j a hj
  · by_cases z : j = i
    · simp [z] at e1
    · by_cases z2 : m = i
      · simp [z2] at e2
      · simp only [z, z2, if_false] at e1 e2; exact h1 j m a e1 e2
  · by_cases z : j = i
    · simp [z] at e1
    · simp only [z, if_false] at e1; exact h2 j a e1
  · by_cases z : j = i
    · subst z
      by_cases hl : j < E.length
      · rw [List.getElem?_set_self hl] at e
        cases e
        simp [RelS]
      · rw [List.getElem?_eq_none (by simpa using hl)] at e; cases e
    · rw [List.getElem?_set_ne (Ne.symm z)] at e
      rw [List.getElem?_set_ne (Ne.symm z)]
      simp only [z, if_false]; exact h3 j s e
theorem RelX.wipe {K : PySem.W.Frag} {ex : List Addr} {H : Hp} {E : Env} {σ : St} (r : RelX K G ex H E σ) : ∀ {ms : List Nat}, (∀ i ∈ ms, i ∉ G.slots) → RelX K G ex H (wipeE E ms) (wipe σ ms)
  | [], _ => r
  | i :: ms, h => (RelX.wipe r fun j hj => h j (List.mem_cons_of_mem _ hj)).wipe1 (h i (List.mem_cons_self ..))
theorem wipe_get {σ : St} {i : Nat} : ∀ {ms : List Nat}, i ∉ ms → (L2.wipe σ ms)[i]? = σ[i]?
  | [], _ => rfl
  | v :: vs, h => by
    show ((L2.wipe σ vs).set v none)[i]? = _
    rw [List.getElem?_set_ne (fun z => h (by simp [z])), wipe_get fun z => h (List.mem_cons_of_mem _ z)]
/-- behind a comprehension: the slots of before -/
theorem RelX.rest {K : PySem.W.Frag} {ex : List Addr} {H1 H : Hp} {E1 E : Env} {σ σ2 : St} {ms : List Nat} (r1 : RelE K G H1 E1 σ) (x : Ext H1 H) (r : RelX K G ex H E σ2) (hw : L2.wipe σ2 ms = L2.wipe σ ms) (hm : ∀ i ∈ ms, i ∉ G.slots) : RelX K G ex H (restE E1 E ms) σ := by
  have hl : σ2.length = σ.length := by rw [← wipe_length σ2 ms, hw, wipe_length]
  have rl : ∀ (l : List Nat), (restE E1 E l).length = E.length := by
    intro l
    induction l with
    | nil => rfl
    | cons v vs ih => show ((restE E1 E vs).set v _).length = _; rw [List.length_set, ih]
  have rg : ∀ (l : List Nat) (i : Nat), i ∉ l → (restE E1 E l)[i]? = E[i]? := by
    intro l
    induction l with
    | nil => intro i _; rfl
    | cons v vs ih => intro i h; show ((restE E1 E vs).set v _)[i]? = _; rw [List.getElem?_set_ne (fun z => h (by simp [z])), ih i fun z => h (List.mem_cons_of_mem _ z)]
  have rin : ∀ (l : List Nat) (i : Nat) (s : S), i ∈ l → (restE E1 E l)[i]? = some s → s = datOf E1[i]? := by
    intro l
    induction l with
    | nil => intro i s h; cases h
    | cons v vs ih =>
      intro i s h e
      have e : ((restE E1 E vs).set v (datOf E1[v]?))[i]? = some s := e
      by_cases z : v = i
      · subst z
        by_cases hv : v < (restE E1 E vs).length
        · rw [List.getElem?_set_self hv] at e; exact (Option.some.inj e).symm
        · rw [List.getElem?_eq_none (by simpa using hv)] at e; cases e
      · rw [List.getElem?_set_ne z] at e
        exact ih i s (by rcases List.mem_cons.mp h with q | q; exact absurd q.symm z; exact q) e
  obtain ⟨l, k, pn, dm, x0, A, h1, h2, h3⟩ := r
  have same : ∀ i, i ∉ ms → σ2[i]? = σ[i]? := fun i hi => by rw [← wipe_get (σ := σ2) hi, hw, wipe_get hi]
  refine ⟨by rw [rl, l, hl], k, fun i a ha => ?_, dm, x0, fun i => if i ∈ ms then [] else A i, fun i j a e1 e2 => ?_, fun i a e => ?_, fun i s e => ?_⟩
  · have : i ∉ ms := fun z => notin_slots (hm i z) a ha
    rw [← same i this]; exact pn i a ha
  · dsimp only at e1 e2
    split at e1
    · cases e1
    · split at e2
      · cases e2
      · exact h1 i j a e1 e2
  · dsimp only at e
    split at e
    · cases e
    · exact h2 i a e
  · by_cases hi : i ∈ ms
    · simp only [hi, if_true]
      have es := rin ms i s hi e
      subst es
      cases q : E1[i]? with
      | none => exact rfl
      | some s =>
        cases s with
        | d y =>
          obtain ⟨v, e1, p⟩ := r1.data q
          exact ⟨rfl, v, e1, p.ext x⟩
        | _ => exact rfl
    · simp only [hi, if_false]
      rw [rg ms i hi] at e
      rw [← same i hi]
      exact h3 i s e
abbrev anyG (W : Bool) (K : PySem.W.Frag) (G : Gh) (ms : List Nat) (g : TGd) : TG := fun v σ H Q => ∃ G' : Gh, G'.slots = G.slots ∧ liftG W K G' ms g v σ H Q
abbrev anyT (K : PySem.W.Frag) (G : Gh) (tt : TTd) : TT := fun σ H Q => ∃ G' : Gh, G'.slots = G.slots ∧ liftT K G' tt σ H Q
abbrev anyE (K : PySem.W.Frag) (G : Gh) (te : TD) : TE := fun σ H Q => ∃ G' : Gh, G'.slots = G.slots ∧ liftE K G' te σ H Q
theorem lift_comp {W : Bool} {ti : TDs} {g : TGd} {tt : TTd} {te : TD} {ms : List Nat} (hm : ∀ i ∈ ms, i ∉ G.slots) (σ : St) (H : Hp) (Q : VK) (h : liftL X.K G (tComp ti g tt te ms) σ H Q) : tLc (liftI W X.K G ti) (anyG W X.K G ms g) (anyT X.K G tt) (anyE X.K G te) ms σ H Q := by
  obtain ⟨E, QE, r, q, k⟩ := h
  refine ⟨E, _, r, q, fun ds E1 J H1 q1 x1 r1 wk L hL => ?_⟩
  obtain ⟨rL, h0, na⟩ := r1.fresh (o := .lst []) hL
  refine ⟨fun i m H' => ∃ (E' : Env) (σ' : St) (acc : List D) (vs : List V), i + m = ds.length ∧ Ext (upd H1 L (.lst [])) H' ∧ RelX X.K G [L] H' E' σ' ∧ L2.wipe σ' ms = L2.wipe σ ms ∧ H' L = some (.lst vs) ∧ RpL X.K H' acc vs ∧
    compD g tt te ms (ds.drop i) acc E' fun xs E2 => QE xs (restE E1 E2 ms), ⟨ds.length, E1, σ, [], [], by omega, Ext.refl _, rL, rfl, upd_same, .nil, q1⟩, fun i m H2 hW => ?_⟩
  obtain ⟨E2, σ2, acc, vs, hm2, x2, r2, w2, a2, p2, q2⟩ := hW
  have xL : Ext H1 H2 := (PExt.new hL).ext.trans x2
  by_cases hi : i < ds.length
  · obtain ⟨d, hd⟩ : ∃ d, ds[i]? = some d := ⟨ds[i], List.getElem?_eq_getElem hi⟩
    have hdr : ds.drop i = d :: ds.drop (i + 1) := by
      rw [List.drop_eq_getElem_cons hi]
      rw [List.getElem?_eq_getElem hi] at hd
      rw [Option.some.inj hd]
    rw [hdr] at q2
    refine .inr ⟨wk.goes i H2 xL hi, fun H' => ∃ (E' : Env) (σ' : St) (acc : List D) (vs : List V), Ext (upd H1 L (.lst [])) H' ∧ RelX X.K G [L] H' E' σ' ∧ L2.wipe σ' ms = L2.wipe σ ms ∧ H' L = some (.lst vs) ∧ RpL X.K H' acc vs ∧
      compD g tt te ms (ds.drop (i + 1)) acc E' fun xs E2 => QE xs (restE E1 E2 ms), fun H' ⟨E', σ', acc, vs, b1, b2, b3, b4, b5, b6⟩ => ⟨m - 1, by omega, E', σ', acc, vs, by omega, b1, b2, b3, b4, b5, b6⟩, fun x H3 hy => ?_⟩
    obtain ⟨px, d', hd', p⟩ := wk.yld i H2 x H3 xL hi hy
    rw [hd] at hd'; cases hd'
    have hs0 : (pend G L (.lst vs)).slots = G.slots := rfl
    have r3 : RelE X.K (pend G L (.lst vs)) H3 (wipeE E2 ms) (L2.wipe σ ms) := by
      have := ((r2.pext px).wipe hm).toPend (px _ _ a2) na
      rw [w2] at this; exact this
    refine ⟨pend G L (.lst vs), hs0, _, d, _, r3, p, q2, fun E4 σ4 H4 q4 x4 r4 w4 => ?_⟩
    have ww : ∀ (l : List Nat), L2.wipe (L2.wipe σ l) l = L2.wipe σ l := by
      intro l
      have : ∀ (τ : St) (l k : List Nat), (∀ j ∈ l, j ∈ k) → (∀ j ∈ k, ∀ v, τ[j]? = some v → v = none) → L2.wipe τ l = τ := by
        intro τ l
        induction l with
        | nil => intro _ _ _; rfl
        | cons v vs ih =>
          intro k hk hn
          show (L2.wipe τ vs).set v none = τ
          rw [ih k (fun j hj => hk j (List.mem_cons_of_mem _ hj)) hn]
          refine List.ext_getElem? fun j => ?_
          by_cases hv : v = j
          · subst hv
            by_cases hl : v < τ.length
            · rw [List.getElem?_set_self hl]
              have := hn v (hk v (List.mem_cons_self ..)) _ (List.getElem?_eq_getElem hl)
              rw [List.getElem?_eq_getElem hl, this]
            · rw [List.getElem?_eq_none (by simpa using hl), List.getElem?_eq_none (by simpa using hl)]
          · rw [List.getElem?_set_ne hv]
      refine this _ l l (fun j hj => hj) fun j hj v e => ?_
      cases v with
      | none => rfl
      | some y => exact absurd hj (wipe_some e).2
    refine ⟨by rw [w4]; exact ww ms, pend G L (.lst vs), hs0, E4, _, r4, q4, fun b E5 H5 q5 x5 r5 => ?_⟩
    have w45 : L2.wipe σ4 ms = L2.wipe σ ms := by rw [w4]; exact ww ms
    have x5' : Ext (upd H1 L (.lst [])) H5 := ((x2.trans px.ext).trans x4).trans x5
    cases b with
    | false =>
      rw [if_neg Bool.false_ne_true] at q5
      refine iteF ?_
      obtain ⟨r6, a6⟩ := RelX.ofPend r5 h0 na
      exact ⟨E5, σ4, acc, vs, x5', r6, w45, a6, p2.ext ((px.ext.trans x4).trans x5), q5⟩
    | true =>
      rw [if_pos rfl] at q5
      refine iteT ?_
      refine ⟨pend G L (.lst vs), hs0, E5, _, r5, q5, fun y E6 u H6 q6 x6 r6 p6 => ?_⟩
      obtain ⟨r7, a7⟩ := RelX.ofPend r6 h0 na
      have pv := p2.ext (((px.ext.trans x4).trans x5).trans x6)
      have xp : Ext H6 (upd H6 L (.lst (vs ++ [u]))) := Ext.put a7
      refine ⟨vs, a7, by rw [← pv.length]; exact q6.1, E6, σ4, acc ++ [y], vs ++ [u], (x5'.trans x6).trans xp, ?_, w45, upd_same, (RpL.append pv (.cons p6 .nil)).ext xp, q6.2⟩
      -- the list L grows: apart from all footprints
      obtain ⟨l, kk, pn, dm, x0, A, h1, h2, h3⟩ := r7
      refine ⟨l, fun p o e ne => ?_, pn, fun p hp => ?_, x0.trans xp, fun j => if E6[j]? = none then [] else A j, fun i j b e1 e2 => ?_, fun i b e => ?_, fun j s e => ?_⟩
      · have : p ≠ L := by rintro rfl; rw [h0] at e; cases e
        rw [upd_ne this]; exact kk p o e ne
      · have : p ≠ L := by rintro rfl; exact na hp
        rw [upd_ne this]; exact dm p hp
      · dsimp only at e1 e2
        split at e1
        · cases e1
        · split at e2
          · cases e2
          · exact h1 i j b e1 e2
      · dsimp only at e
        split at e
        · cases e
        · exact h2 i b e
      · have : E6[j]? ≠ none := by rw [e]; simp
        simp only [this, if_false]
        exact (h3 j s e).move xp fun p hp => upd_ne (by rintro rfl; exact (h2 j p hp).2 (by simp))
  · have e0 : ds.drop i = [] := List.drop_eq_nil_of_le (by omega)
    have ei : i = ds.length := by omega
    rw [e0] at q2
    exact .inl ⟨by rw [ei]; exact wk.stops H2 xL, k _ _ _ _ _ q2 (x1.trans xL) (RelX.rest r1 xL r2 w2 hm) h0 na a2 p2⟩
theorem comp_parts {W : Bool} {elt tg : Expr} {ifs : List Expr} {scope : Scope} {g : TGd} {tt : TTd} {te : TD} {ms : List Nat}
    (hg : ∀ (G' : Gh), G'.slots = G.slots → ∀ (s : Shared) (H : Hp) (C : Addr) (cl : List (Str × Addr)) (fp : List Addr), GD (X.blk s H scope (compEnvC scope cl C X.env) fp) G' W ms tg g)
    (ht : ∀ (G' : Gh), G'.slots = G.slots → ∀ (s : Shared) (H : Hp) (C : Addr) (cl : List (Str × Addr)) (fp : List Addr), EBs (X.blk s H scope (compEnvC scope cl C X.env) fp) G' ifs tt)
    (he : ∀ (G' : Gh), G'.slots = G.slots → ∀ (s : Shared) (H : Hp) (C : Addr) (cl : List (Str × Addr)) (fp : List Addr), ED (X.blk s H scope (compEnvC scope cl C X.env) fp) G' elt te) :
    (∀ (s : Shared) (H : Hp) (C : Addr) (cl : List (Str × Addr)) (fp : List Addr), PG (X.blk s H scope (compEnvC scope cl C X.env) fp) tg (anyG W X.K G ms g)) ∧
    (∀ (s : Shared) (H : Hp) (C : Addr) (cl : List (Str × Addr)) (fp : List Addr), PTs (X.blk s H scope (compEnvC scope cl C X.env) fp) ifs (anyT X.K G tt)) ∧
    (∀ (s : Shared) (H : Hp) (C : Addr) (cl : List (Str × Addr)) (fp : List Addr), PE (X.blk s H scope (compEnvC scope cl C X.env) fp) elt (anyE X.K G te)) :=
  ⟨fun s H C cl fp => ⟨fun pins s' σ H' v x Q I r ⟨G', hG', q⟩ => (hg G' hG' s H C cl fp).pg.run pins s' σ H' v x Q I r q⟩,
   fun s H C cl fp => ⟨fun pins s' σ H' Q I ⟨G', hG', q⟩ => (ht G' hG' s H C cl fp).pt.run pins s' σ H' Q I q⟩,
   fun s H C cl fp => ⟨fun pins s' σ H' Q I ⟨G', hG', q⟩ => (he G' hG' s H C cl fp).pe.run pins s' σ H' Q I q⟩⟩
section
variable {elt : Expr} {ifs : List Expr} {scope : Scope} {ti : TDs} {g : TGd} {tt : TTd} {te : TD} {ms : List Nat}
theorem el_comp {W : Bool} (own : List (Str × Nat)) (hc : X.calm = true) (hN : X.N.Nodup) (hms : own.map (·.2) = ms) (hm : ∀ i ∈ ms, i ∉ G.slots) (hi : ID X G W tg iter ti) (ok : BlkOk X.N X.env.scope scope own)
    (hg : ∀ (G' : Gh), G'.slots = G.slots → ∀ (s : Shared) (H : Hp) (C : Addr) (cl : List (Str × Addr)) (fp : List Addr), GD (X.blk s H scope (compEnvC scope cl C X.env) fp) G' W ms tg g)
    (ht : ∀ (G' : Gh), G'.slots = G.slots → ∀ (s : Shared) (H : Hp) (C : Addr) (cl : List (Str × Addr)) (fp : List Addr), EBs (X.blk s H scope (compEnvC scope cl C X.env) fp) G' ifs tt)
    (he : ∀ (G' : Gh), G'.slots = G.slots → ∀ (s : Shared) (H : Hp) (C : Addr) (cl : List (Str × Addr)) (fp : List Addr), ED (X.blk s H scope (compEnvC scope cl C X.env) fp) G' elt te) (hs : ∀ x, foldedSetIterable iter X.env x = pure x := by intro _; rfl) :
    EL X G (.ListComp elt [⟨tg, iter, ifs, 0⟩] scope pos) (tComp ti g tt te ms) := by
  obtain ⟨Pg, Pt, Pe⟩ := comp_parts hg ht he
  refine ⟨PE.weak (pe_lc hc hN hi.pi ok Pg Pt Pe hs) fun σ H Q h => ?_⟩
  rw [hms]; exact lift_comp hm σ H Q h
/-- behind a statement the list at slot i is frozen -/
theorem PS.fz {st : Stmt} {t : TS} (h : PS X st t) : PS X st (fun F σ H => t { F with nx := fun σ' H' => ∃ a xs, H' a = some (.lst xs) ∧ ∀ o, F.nx σ' (upd H' a (.frz o (.lst xs))) } σ H) :=
  ⟨fun pins s σ H F I q => thn (h.run pins s σ H _ I q) fun f s1 q1 => by
    cases f with
    | next =>
      obtain ⟨σ', H', I1, a, xs, e2, q2⟩ := q1
      obtain ⟨o, I2⟩ := I1.lock e2 trivial
      exact ⟨σ', _, I2, q2 o⟩
    | brk => exact q1
    | cont => exact q1
    | ret u => exact q1⟩
/-- name = [..], the name a plain local: a list of one's own -/
theorem sd_setLC {W : Bool} {i : Nat} {y : Str} {py spos : Pos} (own : List (Str × Nat)) (hsl : i ∉ G.slots) (hc : X.calm = true) (hN : X.N.Nodup) (hy : X.N[i]? = some y) (hyl : X.env.scope.names.lookup y = some .local)
    (hsw : swapsWith (.ListComp elt [⟨tg, iter, ifs, 0⟩] scope pos) (some (.Name y py)) spos.line X.env = pure true) (hms : own.map (·.2) = ms) (hm : ∀ i ∈ ms, i ∉ G.slots) (hi : ID X G W tg iter ti) (ok : BlkOk X.N X.env.scope scope own)
    (hg : ∀ (G' : Gh), G'.slots = G.slots → ∀ (s : Shared) (H : Hp) (C : Addr) (cl : List (Str × Addr)) (fp : List Addr), GD (X.blk s H scope (compEnvC scope cl C X.env) fp) G' W ms tg g)
    (ht : ∀ (G' : Gh), G'.slots = G.slots → ∀ (s : Shared) (H : Hp) (C : Addr) (cl : List (Str × Addr)) (fp : List Addr), EBs (X.blk s H scope (compEnvC scope cl C X.env) fp) G' ifs tt)
    (he : ∀ (G' : Gh), G'.slots = G.slots → ∀ (s : Shared) (H : Hp) (C : Addr) (cl : List (Str × Addr)) (fp : List Addr), ED (X.blk s H scope (compEnvC scope cl C X.env) fp) G' elt te) (hs : ∀ x, foldedSetIterable iter X.env x = pure x := by intro _; rfl) :
    SD X G (.Assign [.Name y py] (.ListComp elt [⟨tg, iter, ifs, 0⟩] scope pos) spos) (sSetL i (tComp ti g tt te ms)) := by
  obtain ⟨Pg, Pt, Pe⟩ := comp_parts hg ht he
  refine ⟨PS.weak (ps_setLc hc hN hy hyl hsw hi.pi ok Pg Pt Pe hs) fun F σ H ⟨E, DE, r, q, k1, k2, k3, k4⟩ => ?_⟩
  show tLc _ _ _ _ (own.map (·.2)) σ H fun x H1 => F.nx (σ.set i (some x)) H1
  rw [hms]
  exact lift_comp hm σ H _ ⟨E, _, r, q, fun xs E1 a vs H1 q1 x1 r1 h0 na ha p1 => k1 _ _ _ q1 x1 (r1.setL (by simp) hsl h0 ha p1)⟩
/-- .. data -/
theorem sd_setC {W : Bool} {i : Nat} {y : Str} {py spos : Pos} (own : List (Str × Nat)) (hsl : i ∉ G.slots) (hc : X.calm = true) (hN : X.N.Nodup) (hy : X.N[i]? = some y) (hyl : X.env.scope.names.lookup y = some .local)
    (hsw : swapsWith (.ListComp elt [⟨tg, iter, ifs, 0⟩] scope pos) (some (.Name y py)) spos.line X.env = pure true) (hms : own.map (·.2) = ms) (hm : ∀ i ∈ ms, i ∉ G.slots) (hi : ID X G W tg iter ti) (ok : BlkOk X.N X.env.scope scope own)
    (hg : ∀ (G' : Gh), G'.slots = G.slots → ∀ (s : Shared) (H : Hp) (C : Addr) (cl : List (Str × Addr)) (fp : List Addr), GD (X.blk s H scope (compEnvC scope cl C X.env) fp) G' W ms tg g)
    (ht : ∀ (G' : Gh), G'.slots = G.slots → ∀ (s : Shared) (H : Hp) (C : Addr) (cl : List (Str × Addr)) (fp : List Addr), EBs (X.blk s H scope (compEnvC scope cl C X.env) fp) G' ifs tt)
    (he : ∀ (G' : Gh), G'.slots = G.slots → ∀ (s : Shared) (H : Hp) (C : Addr) (cl : List (Str × Addr)) (fp : List Addr), ED (X.blk s H scope (compEnvC scope cl C X.env) fp) G' elt te) (hs : ∀ x, foldedSetIterable iter X.env x = pure x := by intro _; rfl) :
    SD X G (.Assign [.Name y py] (.ListComp elt [⟨tg, iter, ifs, 0⟩] scope pos) spos) (sSet i (tFzD (tComp ti g tt te ms))) := by
  obtain ⟨Pg, Pt, Pe⟩ := comp_parts hg ht he
  refine ⟨PS.weak (PS.fz (ps_setLc hc hN hy hyl hsw hi.pi ok Pg Pt Pe hs)) fun F σ H ⟨E, DE, r, q, k1, k2, k3, k4⟩ => ?_⟩
  show tLc _ _ _ _ (own.map (·.2)) σ H fun x H1 => ∃ a xs, H1 a = some (.lst xs) ∧ ∀ o, F.nx (σ.set i (some x)) (upd H1 a (.frz o (.lst xs)))
  rw [hms]
  refine lift_comp hm σ H _ ⟨E, _, r, q, fun xs E1 a vs H1 q1 x1 r1 h0 na ha p1 => ?_⟩
  refine ⟨a, vs, ha, fun o => k1 _ _ _ q1 (x1.trans (Ext.put ha)) ?_⟩
  exact (r1.freeze h0 na ha).setD hsl (.lst (.of upd_same) (p1.ext (Ext.put ha)))
end
end
end DL

set_option Elab.async false
set_option linter.all false
set_option maxRecDepth 100000
namespace DL
open PySem PySem.Spec PyProof.Rows L2

/-! ### a def's promise over data -/
abbrev SpD := List S → (D → List S → Prop) → Prop
inductive AR (K : PySem.W.Frag) (H : Hp) : List S → List V → List Addr → Prop
  | nil : AR K H [] [] []
  | d {x : D} {v : V} {ss : List S} {vs : List V} {as : List Addr} : Rp K H x v → AR K H ss vs as → AR K H (.d x :: ss) (v :: vs) as
  | o {s : S} {a : Addr} {ss : List S} {vs : List V} {as : List Addr} : s.isMut = true → RelM K H s a → AR K H ss vs as → AR K H (s :: ss) (.ref a :: vs) (a :: as)
def spL (K : PySem.W.Frag) (sp : SpD) : Sp := fun vs H Q _ => ∃ (ss : List S) (as : List Addr) (QD : D → List S → Prop), sp ss QD ∧ AR K H ss vs as ∧ as.Nodup ∧
  ∀ d outs v H', QD d outs → (∀ p o, H p = some o → p ∉ as → H' p = some o) → Paired (RelM K H') outs as → Rp K H' d v → Q v H'
/-- the places of the mutable ones -/
def mpos : Nat → List S → List Nat
  | _, [] => []
  | k, s :: ss => if s.isMut = true then k :: mpos (k + 1) ss else mpos (k + 1) ss
theorem AR.length {K : PySem.W.Frag} {H : Hp} : ∀ {ss : List S} {vs : List V} {as : List Addr}, AR K H ss vs as → ss.length = vs.length
  | _, _, _, .nil => rfl
  | _, _, _, .d _ r => by rw [List.length_cons, List.length_cons, AR.length r]
  | _, _, _, .o _ _ r => by rw [List.length_cons, List.length_cons, AR.length r]
theorem AR.mlen {K : PySem.W.Frag} {H : Hp} : ∀ {ss : List S} {vs : List V} {as : List Addr} (k : Nat), AR K H ss vs as → (mpos k ss).length = as.length
  | _, _, _, _, .nil => rfl
  | _, _, _, k, .d _ r => by show (mpos (k + 1) _).length = _; exact AR.mlen (k + 1) r
  | _, _, _, k, .o h _ r => by unfold mpos; rw [if_pos h, List.length_cons, List.length_cons, AR.mlen (k + 1) r]
/-- what an argument place holds -/
theorem AR.get {K : PySem.W.Frag} {H : Hp} : ∀ {ss : List S} {vs : List V} {as : List Addr} (k : Nat) {i : Nat} {s : S}, AR K H ss vs as → ss[i]? = some s →
    (∃ x v, s = .d x ∧ vs[i]? = some v ∧ Rp K H x v) ∨ (s.isMut = true ∧ ∃ a, vs[i]? = some (.ref a) ∧ RelM K H s a ∧ (k + i, a) ∈ (mpos k ss).zip as)
  | _, _, _, _, i, _, .nil, e => by simp at e
  | _, _, _, k, 0, s, .d (x := x) (v := v) p r, e => by
    simp at e; exact .inl ⟨x, v, e.symm, rfl, p⟩
  | _, _, _, k, i + 1, s, .d p r, e => by
    rcases AR.get (k + 1) (i := i) r (by simpa using e) with ⟨x, v, e1, e2, e3⟩ | ⟨h, a, e1, e2, e3⟩
    · exact .inl ⟨x, v, e1, by simpa using e2, e3⟩
    · refine .inr ⟨h, a, by simpa using e1, e2, ?_⟩
      show (k + (i + 1), a) ∈ (mpos (k + 1) _).zip _
      rw [show k + (i + 1) = k + 1 + i by omega]; exact e3
  | _, _, _, k, 0, s, .o (a := a) h m r, e => by
    simp at e; subst e
    refine .inr ⟨h, a, rfl, m, ?_⟩
    unfold mpos; rw [if_pos h]; simp
  | _, _, _, k, i + 1, s, .o h m r, e => by
    rcases AR.get (k + 1) (i := i) r (by simpa using e) with ⟨x, v, e1, e2, e3⟩ | ⟨h', a, e1, e2, e3⟩
    · exact .inl ⟨x, v, e1, by simpa using e2, e3⟩
    · refine .inr ⟨h', a, by simpa using e1, e2, ?_⟩
      unfold mpos; rw [if_pos h, List.zip_cons_cons]
      refine List.mem_cons_of_mem _ ?_
      rw [show k + (i + 1) = k + 1 + i by omega]; exact e3
theorem AR.back {K : PySem.W.Frag} {H : Hp} : ∀ {ss : List S} {vs : List V} {as : List Addr} (k : Nat) {j : Nat} {a : Addr}, AR K H ss vs as → (j, a) ∈ (mpos k ss).zip as → ∃ i s, j = k + i ∧ ss[i]? = some s ∧ vs[i]? = some (.ref a) ∧ RelM K H s a
  | _, _, _, _, _, _, .nil, e => by simp [mpos] at e
  | _, _, _, k, j, a, .d p r, e => by
    obtain ⟨i, s, e1, e2, e3, e4⟩ := AR.back (k + 1) (j := j) (a := a) r e
    exact ⟨i + 1, s, by omega, by simpa using e2, by simpa using e3, e4⟩
  | _, _, _, k, j, a, .o h m r, e => by
    unfold mpos at e; rw [if_pos h, List.zip_cons_cons] at e
    rcases List.mem_cons.mp e with z | z
    · cases z; exact ⟨0, _, by omega, rfl, rfl, m⟩
    · obtain ⟨i, s, e1, e2, e3, e4⟩ := AR.back (k + 1) r z
      exact ⟨i + 1, s, by omega, by simpa using e2, by simpa using e3, e4⟩
theorem zip_inj2 {α β : Type} : ∀ {xs : List α} {ys : List β} {i j : α} {a : β}, ys.Nodup → (i, a) ∈ xs.zip ys → (j, a) ∈ xs.zip ys → i = j
  | x :: xs, y :: ys, i, j, a, nd, h1, h2 => by
    rw [List.zip_cons_cons] at h1 h2
    have ⟨n1, n2⟩ := List.nodup_cons.mp nd
    rcases List.mem_cons.mp h1 with z1 | z1
    · rcases List.mem_cons.mp h2 with z2 | z2
      · cases z1; cases z2; rfl
      · cases z1; exact absurd (List.of_mem_zip z2).2 n1
    · rcases List.mem_cons.mp h2 with z2 | z2
      · cases z2; exact absurd (List.of_mem_zip z1).2 n1
      · exact zip_inj2 n2 z1 z2
  | [], _, _, _, _, _, h1, _ => by simp at h1
  | _ :: _, [], _, _, _, _, h1, _ => by simp at h1
theorem zip_fst {α β : Type} : ∀ {xs : List α} {ys : List β}, xs.length = ys.length → (xs.zip ys).map (·.1) = xs
  | [], _, _ => by simp
  | x :: xs, y :: ys, h => by rw [List.zip_cons_cons, List.map_cons, zip_fst (by simpa using h)]
  | _ :: _, [], h => by simp at h
theorem zip_snd {α β : Type} : ∀ {xs : List α} {ys : List β}, xs.length = ys.length → (xs.zip ys).map (·.2) = ys
  | [], [], _ => by simp
  | [], _ :: _, h => by simp at h
  | x :: xs, y :: ys, h => by rw [List.zip_cons_cons, List.map_cons, zip_snd (by simpa using h)]
  | _ :: _, [], h => by simp at h
/-- the start of a def's body -/
theorem AR.start {K : PySem.W.Frag} {H : Hp} {ss : List S} {vs : List V} {as : List Addr} {n : Nat} (r : AR K H ss vs as) (nd : as.Nodup) :
    RelE K ⟨H, (mpos 0 ss).zip as, fun _ => none, []⟩ H (ss ++ List.replicate n .un) (vs.map some ++ List.replicate n none) := by
  have hl := r.length
  have own : ∀ i a, (i, a) ∈ (mpos 0 ss).zip as → ∃ s, ss[i]? = some s ∧ vs[i]? = some (.ref a) ∧ RelM K H s a := fun i a h => by
    obtain ⟨j, s, e1, e2, e3, e4⟩ := r.back 0 h
    have : i = j := by omega
    subst this; exact ⟨s, e2, e3, e4⟩
  have key : ∀ i a, ((mpos 0 ss).zip as).lookup i = some a → (i, a) ∈ (mpos 0 ss).zip as := by
    intro i a
    generalize (mpos 0 ss).zip as = l
    induction l with
    | nil => intro h; cases h
    | cons p l ih =>
      obtain ⟨j, b⟩ := p
      intro h
      rw [List.lookup_cons] at h
      split at h
      · rename_i q; have : i = j := by simpa using q
        subst this; cases h; exact List.mem_cons_self ..
      · exact List.mem_cons_of_mem _ (ih h)
  have key2 : ∀ i a, (i, a) ∈ (mpos 0 ss).zip as → ∃ b, ((mpos 0 ss).zip as).lookup i = some b := by
    intro i a
    generalize (mpos 0 ss).zip as = l
    induction l with
    | nil => intro h; cases h
    | cons p l ih =>
      obtain ⟨j, b⟩ := p
      intro h
      rw [List.lookup_cons]
      split
      · exact ⟨b, rfl⟩
      · rename_i q
        rcases List.mem_cons.mp h with z | z
        · cases z; simp at q
        · exact ih z
  refine ⟨by simp [hl], fun p o h _ => h, fun i a h => ?_, fun a h => ?_, ⟨(fun _ _ z => by cases z), (fun _ _ _ z => by cases z)⟩, fun i => match ((mpos 0 ss).zip as).lookup i with | some a => [a] | none => [], fun i j a h1 h2 => ?_, fun i a h => ?_, fun i s h => ?_⟩
  · obtain ⟨s, e1, e2, e3⟩ := own i a h
    have hi : i < vs.length := by
      rcases Nat.lt_or_ge i vs.length with z | z
      · exact z
      · rw [List.getElem?_eq_none z] at e2; cases e2
    rw [List.getElem?_append_left (by simpa using hi), List.getElem?_map, e2]; rfl
  · have h : a ∈ ((mpos 0 ss).zip as).map (·.2) ++ [] := h
    rw [List.append_nil] at h
    obtain ⟨p, hp, rfl⟩ := List.mem_map.mp h
    obtain ⟨s, e1, e2, e3⟩ := own p.1 p.2 hp
    obtain ⟨u, e, _⟩ := e3.soft
    rw [e]; simp
  · dsimp only at h1 h2
    split at h1
    · rename_i b hb
      split at h2
      · rename_i c hc
        simp only [List.mem_cons, List.not_mem_nil, or_false] at h1 h2
        subst h1; subst h2
        exact zip_inj2 nd (key _ _ hb) (key _ _ hc)
      · cases h2
    · cases h1
  · dsimp only at h
    split at h
    · rename_i b hb
      simp only [List.mem_cons, List.not_mem_nil, or_false] at h
      subst h
      exact ⟨.inl (List.mem_append_left _ (List.mem_map.mpr ⟨_, key _ _ hb, rfl⟩)), by simp⟩
    · cases h
  · by_cases hi : i < ss.length
    · rw [List.getElem?_append_left hi] at h
      rw [List.getElem?_append_left (by simpa [← hl] using hi), List.getElem?_map]
      rcases r.get 0 h with ⟨x, v, rfl, e2, e3⟩ | ⟨hm, a, e1, e2, e3⟩
      · have no : ((mpos 0 ss).zip as).lookup i = none := by
          cases q : ((mpos 0 ss).zip as).lookup i with
          | none => rfl
          | some b =>
            obtain ⟨s', f1, f2, f3⟩ := own i b (key _ _ q)
            rw [h] at f1; cases f1
            exact f3.elim
        dsimp only
        rw [no, e2]
        exact ⟨rfl, v, rfl, e3⟩
      · rw [Nat.zero_add] at e3
        obtain ⟨b, hb⟩ := key2 i a e3
        obtain ⟨s', f1, f2, f3⟩ := own i b (key _ _ hb)
        rw [e1] at f2; cases f2
        dsimp only
        rw [hb, e1]
        exact RelS.ofMut hm rfl e2
    · have hi' : ss.length ≤ i := Nat.le_of_not_lt hi
      rw [List.getElem?_append_right hi'] at h
      have hs : s = .un := by
        have := List.mem_of_getElem? h
        exact (List.mem_replicate.mp this).2
      subst hs
      have no : ((mpos 0 ss).zip as).lookup i = none := by
        cases q : ((mpos 0 ss).zip as).lookup i with
        | none => rfl
        | some b =>
          obtain ⟨s', f1, f2, f3⟩ := own i b (key _ _ q)
          rw [List.getElem?_eq_none hi'] at f1; cases f1
      dsimp only
      rw [no]; rfl

/-- the mutable arguments at the end -/
def finO : List Nat → Env → (List S → Prop) → Prop
  | [], _, Q => Q []
  | i :: is, E, Q => match E[i]? with
    | some (.ol xs) => finO is E fun outs => Q (.ol xs :: outs)
    | some (.dt xs) => finO is E fun outs => Q (.dt xs :: outs)
    | some (.dk xs) => finO is E fun outs => Q (.dk xs :: outs)
    | _ => False
theorem finO_rel {K : PySem.W.Frag} {G : Gh} {H : Hp} {E : Env} {σ : St} (r : RelE K G H E σ) : ∀ {slots : List Nat} {as : List Addr} {Q : List S → Prop}, slots.length = as.length → (∀ p ∈ slots.zip as, p ∈ G.own) → finO slots E Q → ∃ outs, Q outs ∧ Paired (RelM K H) outs as
  | [], [], Q, _, _, h => ⟨[], h, .nil⟩
  | i :: is, a :: as, Q, hl, hs, h => by
    have key : ∀ s : S, E[i]? = some s → s.isMut = true → finO is E (fun outs => Q (s :: outs)) → ∃ outs, Q outs ∧ Paired (RelM K H) outs (a :: as) := fun s he hm h => by
      have hp := r.pin i a (hs (i, a) (by simp))
      obtain ⟨b, e1, e2⟩ := r.mutAt he hm
      rw [hp] at e1
      have : a = b := by injection e1 with z; injection z with z; injection z
      subst this
      obtain ⟨outs, q, p⟩ := finO_rel r (slots := is) (as := as) (by simpa using hl) (fun p hp => hs p (by rw [List.zip_cons_cons]; exact List.mem_cons_of_mem _ hp)) h
      exact ⟨_, q, .cons e2 p⟩
    unfold finO at h
    split at h
    · rename_i xs he; exact key _ he rfl h
    · rename_i xs he; exact key _ he rfl h
    · rename_i xs he; exact key _ he rfl h
    · exact h.elim
  | [], _ :: _, _, hl, _, _ => by simp at hl
  | _ :: _, [], _, hl, _, _ => by simp at hl

/-- THE RULE for a def -/
theorem fn_okD {P : Program} {w : World} {K : PySem.W.Frag} {mg : Str → Option Value} {base : Heap} {x qual : Str} {st : Stmt} {f : Addr} {fd : FuncData} {N ps : List Str} {k : Nat} {sp : SpD} {slots : List Nat} {tb : TSd}
    (F : Fun K x qual st f fd) (Sc : FnScope N ps (defScope st)) (shape : ∀ ss QD, sp ss QD → ss.length = ps.length ∧ mpos 0 ss = slots)
    (body : ∀ (cdv : Value) (A : Around) (outer : List PySem.Env) (s : Shared) (H : Hp) (E : XK), Room k (A.deeper (envOfC qual (defScope st) s.heap.objs.size f cdv)) → ∀ G : Gh, G.slots = slots →
      SDs (cxOf CX0 P w K mg base N qual (defScope st) f cdv A outer s H E).nox G (defBody st) tb)
    (read : ∀ ss QD, sp ss QD → tb { nx := fun E' => finO slots E' (QD .none), rt := fun d E' => finO slots E' (QD d) } (ss ++ List.replicate (N.length - ps.length) .un)) :
    FnOk P w K mg base CX0 (k + 1) f fd ps (spL K sp) := by
  refine F.ok Sc (fun vs H Q E h => ?_) (fun cdv A outer s H vs Q E hr h => ?_)
  · obtain ⟨ss, as, QD, h1, h2, _⟩ := h
    rw [← h2.length]; exact (shape ss QD h1).1
  · obtain ⟨ss, as, QD, h1, h2, nd, h4⟩ := h
    obtain ⟨hl, hm⟩ := shape ss QD h1
    have ml := h2.mlen 0
    have hG : (⟨H, (mpos 0 ss).zip as, fun _ => none, []⟩ : Gh).slots = slots := by show ((mpos 0 ss).zip as).map (·.1) = slots; rw [zip_fst ml, hm]
    have hA : (⟨H, (mpos 0 ss).zip as, fun _ => none, []⟩ : Gh).addrs = as := by show ((mpos 0 ss).zip as).map (·.2) ++ [] = as; rw [zip_snd ml, List.append_nil]
    refine ⟨_, (body cdv A outer s H E hr ⟨H, (mpos 0 ss).zip as, fun _ => none, []⟩ hG).pss, ?_⟩
    have hst : L2.start N vs = vs.map some ++ List.replicate (N.length - ps.length) none := by unfold L2.start; rw [← h2.length, hl]
    refine ⟨ss ++ List.replicate (N.length - ps.length) .un, { nx := fun E' => finO slots E' (QD .none), rt := fun d E' => finO slots E' (QD d) }, by rw [hst]; exact h2.start nd, read ss QD h1, fun E' σ' H' q x r => ?_, fun d E' v σ' H' q x r p => ?_, fun _ _ _ q => False.elim q, fun _ _ _ q => False.elim q⟩
    · obtain ⟨outs, q1, p1⟩ := finO_rel r (as := as) (by rw [← hm]; exact ml) (by rw [← hm]; exact fun p hp => hp) q
      exact h4 .none outs .non H' q1 (fun p o e ne => r.keep p o e (by rw [hA]; exact ne)) p1 .non
    · obtain ⟨outs, q1, p1⟩ := finO_rel r (as := as) (by rw [← hm]; exact ml) (by rw [← hm]; exact fun p hp => hp) q
      exact h4 d outs v H' q1 (fun p o e ne => r.keep p o e (by rw [hA]; exact ne)) p1 p

/-! ### a call of a def -/
def oixs : List Arg → List Nat
  | [] => []
  | .v _ :: as => oixs as
  | .o i :: as => i :: oixs as
def argS (E : Env) : List Arg → Option (List S)
  | [] => some []
  | .v x :: as => (argS E as).map (.d x :: ·)
  | .o i :: as => match E[i]? with
    | some (.ol xs) => (argS E as).map (.ol xs :: ·)
    | some (.dt xs) => (argS E as).map (.dt xs :: ·)
    | some (.dk xs) => (argS E as).map (.dk xs :: ·)
    | _ => none
def putO : List Arg → List S → Env → Env
  | .v _ :: as, outs, E => putO as outs E
  | .o i :: as, s :: outs, E => putO as outs (E.set i s)
  | _, _, E => E
def ndp : List Nat → Bool
  | [] => true
  | i :: is => !is.contains i && ndp is
def tCallD (sp : SpD) (ta : TAd) : TD := fun E Q => ta E fun as E1 => match argS E1 as with
  | some ss => ndp (oixs as) = true ∧ sp ss fun r outs => Q r (putO as outs E1)
  | none => False
section
variable {K : PySem.W.Frag} {G : Gh} {H H' : Hp} {E : Env} {σ : St}
abbrev MutAt (σ : St) (E : Env) : Nat → Addr → Prop := fun i a => σ[i]? = some (some (.ref a)) ∧ ∃ s : S, E[i]? = some s ∧ s.isMut = true
theorem RelA.args (r : RelE K G H E σ) : ∀ {as : List Arg} {ss : List S} {vs : List V}, RelA K H σ as vs → argS E as = some ss → ∃ addrs, AR K H ss vs addrs ∧ Paired (MutAt σ E) (oixs as) addrs
  | _, _, _, .nil, e => by cases e; exact ⟨[], .nil, .nil⟩
  | _, _, _, .v (as := as) p t, e => by
    unfold argS at e
    cases q : argS E as with
    | none => rw [q] at e; cases e
    | some ss' =>
      rw [q] at e; cases e
      obtain ⟨ad, a1, a2⟩ := RelA.args r t q
      exact ⟨ad, .d p a1, a2⟩
  | _, ss, _, .o (i := i) (v := v0) (as := as) (vs := vs0) hs t, e => by
    have key : ∀ s : S, E[i]? = some s → s.isMut = true → (argS E as).map (s :: ·) = some ss → ∃ addrs, AR K H ss (v0 :: vs0) addrs ∧ Paired (MutAt σ E) (oixs (.o i :: as)) addrs := fun s he hm e => by
      cases q : argS E as with
      | none => rw [q] at e; cases e
      | some ss' =>
        rw [q] at e; cases e
        obtain ⟨ad, a1, a2⟩ := RelA.args r t q
        obtain ⟨a, e1, e2⟩ := r.mutAt he hm
        rw [hs] at e1; cases e1
        exact ⟨a :: ad, .o hm e2 a1, .cons ⟨hs, s, he, hm⟩ a2⟩
    unfold argS at e
    split at e
    · rename_i xs he; exact key _ he rfl e
    · rename_i xs he; exact key _ he rfl e
    · rename_i xs he; exact key _ he rfl e
    · cases e
theorem Paired.mem2 {α β : Type} {F : α → β → Prop} : ∀ {xs : List α} {ys : List β} {y : β}, Paired F xs ys → y ∈ ys → ∃ x ∈ xs, F x y
  | _, _, _, .cons r t, h => by
    rcases List.mem_cons.mp h with rfl | z
    · exact ⟨_, List.mem_cons_self .., r⟩
    · obtain ⟨x, hx, f⟩ := Paired.mem2 t z; exact ⟨x, List.mem_cons_of_mem _ hx, f⟩
  | _, _, _, .nil, h => by cases h
theorem addrs_nodup (r : RelE K G H E σ) : ∀ {is : List Nat} {ad : List Addr}, ndp is = true → Paired (MutAt σ E) is ad → ad.Nodup
  | [], [], _, _ => List.nodup_nil
  | i :: is, a :: ad, h, .cons p t => by
    unfold ndp at h
    simp only [Bool.and_eq_true, Bool.not_eq_true'] at h
    refine List.nodup_cons.mpr ⟨fun z => ?_, addrs_nodup r h.2 t⟩
    obtain ⟨j, hj, e1, s2, e2, m2⟩ := Paired.mem2 t z
    obtain ⟨l, k, pn, dm, x0, A, h1, h2, h3⟩ := r
    obtain ⟨p1, s1, p2, m1⟩ := p
    obtain ⟨b, f1, f2, _⟩ := (h3 i _ p2).mut m1
    obtain ⟨c, g1, g2, _⟩ := (h3 j _ e2).mut m2
    rw [p1] at f2; cases f2
    rw [e1] at g2; cases g2
    have : i = j := h1 i j a (by rw [f1]; simp) (by rw [g1]; simp)
    subst this
    have := h.1
    simp at this
    exact this hj
/-- what is soft is no tuple, nothing frozen -/
theorem Ext.ofSoft {ad : List Addr} (keep : ∀ p o, H p = some o → p ∉ ad → H' p = some o) (soft : ∀ a ∈ ad, Soft H a) : Ext H H' :=
  ⟨fun a xs e => keep a _ e fun z => (by
      obtain ⟨u, f, g1, g2⟩ := soft a z
      rw [e] at f
      injection f with f
      exact g1 xs f.symm), fun a o v e => keep a _ e fun z => (by
      obtain ⟨u, f, g1, g2⟩ := soft a z
      rw [e] at f
      injection f with f
      exact g2 o v f.symm)⟩
/-- behind a call: the mutable arguments have changed -/
theorem RelX.puts : ∀ {as : List Arg} {outs : List S} {ad : List Addr} {E : Env}, ndp (oixs as) = true → RelE K G H E σ → (∀ p o, H p = some o → p ∉ ad → H' p = some o) → (∀ a ∈ ad, Soft H a) → Paired (RelM K H') outs ad →
    Paired (MutAt σ E) (oixs as) ad → RelE K G H' (putO as outs E) σ := by
  -- all at once: the environment with new contents
  intro as outs ad E nd r keep islst pr po
  have adn := addrs_nodup r nd po
  have ext : Ext H H' := Ext.ofSoft keep islst
  obtain ⟨l, k, pn, dm, x0, A, h1, h2, h3⟩ := r
  have own : ∀ a ∈ ad, a ∈ G.addrs ∨ G.H0 a = none := fun a ha => by
    obtain ⟨i, hi, e1, s, e2, m⟩ := Paired.mem2 po ha
    obtain ⟨b, f1, f2, _⟩ := (h3 i _ e2).mut m
    rw [e1] at f2; cases f2
    exact (h2 i a (by rw [f1]; simp)).1
  have there : ∀ (ad : List Addr) (outs : List S), Paired (RelM K H') outs ad → ∀ a ∈ ad, Soft H' a := by
    intro ad outs p
    induction p with
    | nil => intro a h; cases h
    | cons q t ih =>
      intro a h
      rcases List.mem_cons.mp h with rfl | z
      · exact q.soft
      · exact ih a z
  -- the slots that are not put keep their relation, those that are put have the new one
  have step : ∀ (as : List Arg) (outs : List S) (ad : List Addr) (E1 : Env), ndp (oixs as) = true → Paired (RelM K H') outs ad → Paired (MutAt σ E) (oixs as) ad →
      (∀ i, i ∉ oixs as → ∀ s, E1[i]? = some s → RelS K H' s σ[i]? (A i)) → E1.length = E.length →
      (∀ i s, (putO as outs E1)[i]? = some s → RelS K H' s σ[i]? (A i)) ∧ (putO as outs E1).length = E.length := by
    intro as
    induction as with
    | nil =>
      intro outs ad E1 _ _ _ h hl
      have e : DL.putO [] outs E1 = E1 := by cases outs <;> rfl
      rw [e]; exact ⟨fun i s q => h i (by simp [oixs]) s q, hl⟩
    | cons x as ih =>
      intro outs ad E1 nd p q h hl
      cases x with
      | v x =>
        have e : DL.putO (.v x :: as) outs E1 = DL.putO as outs E1 := by cases outs <;> rfl
        rw [e]
        exact ih outs ad E1 nd p q h hl
      | o i =>
        cases q with
        | cons q1 q2 =>
          rename_i a0 ad0
          cases p with
          | cons p1 p2 =>
            rename_i s0 outs0
            have nd' : ndp (i :: oixs as) = true := nd
            unfold ndp at nd'
            simp only [Bool.and_eq_true, Bool.not_eq_true'] at nd'
            have e : DL.putO (.o i :: as) (s0 :: outs0) E1 = DL.putO as outs0 (E1.set i s0) := rfl
            rw [e]
            refine ih outs0 ad0 (E1.set i s0) nd'.2 p2 q2 (fun j hj s e => ?_) (by rw [List.length_set]; exact hl)
            by_cases z : j = i
            · subst z
              by_cases hlj : j < E1.length
              · rw [List.getElem?_set_self hlj] at e
                cases e
                obtain ⟨q3, ys, q4, q5⟩ := q1
                obtain ⟨b, f1, f2, _⟩ := (h3 j _ q4).mut q5
                rw [q3] at f2; cases f2
                rw [f1]
                exact RelS.ofMut p1.isMut q3 p1
              · rw [List.getElem?_eq_none (by simpa using hlj)] at e; cases e
            · rw [List.getElem?_set_ne (Ne.symm z)] at e
              exact h j (by simp [oixs, z, hj]) s e
  have base : ∀ i, i ∉ oixs as → ∀ s, E[i]? = some s → RelS K H' s σ[i]? (A i) := fun i hi s e => by
    have hs := h3 i s e
    refine hs.move ext fun a ha => ?_
    have : a ∉ ad := fun z => by
      obtain ⟨j, hj, e1, s2, e2, m2⟩ := Paired.mem2 po z
      obtain ⟨b, f1, f2, _⟩ := (h3 j _ e2).mut m2
      rw [e1] at f2; cases f2
      have : i = j := h1 i j a ha (by rw [f1]; simp)
      subst this; exact hi hj
    obtain ⟨u, hu, _⟩ := hs.indom a ha
    rw [hu]; exact keep a u hu this
  obtain ⟨s1, s2⟩ := step as outs ad E nd pr po base rfl
  refine ⟨by rw [s2]; exact l, fun p o e ne => ?_, pn, fun a ha => ?_, x0.trans ext, A, h1, h2, s1⟩
  · refine keep p o (k p o e ne) fun z => ?_
    rcases own p z with q | q
    · exact ne q
    · rw [q] at e; cases e
  · by_cases z : a ∈ ad
    · obtain ⟨u, e, _⟩ := there ad outs pr a z; rw [e]; simp
    · cases q : H a with
      | none => exact absurd q (dm a ha)
      | some o => rw [keep a o q z]; simp
theorem Paired.keys {α β : Type} {F : α → β → Prop} : ∀ {xs : List α} {ys : List β}, Paired F xs ys → ∀ y ∈ ys, ∃ x, F x y
  | _, _, .cons r t, y, h => by
    rcases List.mem_cons.mp h with rfl | z
    · exact ⟨_, r⟩
    · exact Paired.keys t y z
  | _, _, .nil, _, h => by cases h
end
section
variable {X : Cx} {G : Gh} {e : Expr} {es : List Expr} {pos p : Pos} {x : Str} {f : Addr} {fd : FuncData} {ps : List Str} {k : Nat} {sp : SpD} {ta : TAd} {CX : CXT}
theorem lift_call (σ : St) (H : Hp) (Q : VK) (E : XK) (h : liftE X.K G (tCallD sp ta) σ H Q) : tCall (spL X.K sp) [] E (liftA X.K G ta) σ H Q := by
  obtain ⟨E0, QE, r, q, kk⟩ := h
  refine ⟨E0, _, r, q, fun as E1 vs H1 q1 x1 r1 p1 => ?_⟩
  show spL X.K sp (vs ++ []) H1 Q E
  rw [List.append_nil]
  split at q1
  · rename_i ss hs
    obtain ⟨nd, q1⟩ := q1
    obtain ⟨ad, ar, po⟩ := RelA.args r1 p1 hs
    have adn := addrs_nodup r1 nd po
    refine ⟨ss, ad, _, q1, ar, adn, fun d outs v H' q2 keep pr pd => ?_⟩
    have islst : ∀ a ∈ ad, Soft H1 a := fun a ha => by
      obtain ⟨i, hi, e1, s, e2, m⟩ := Paired.mem2 po ha
      obtain ⟨b, f1, f2⟩ := r1.mutAt e2 m
      rw [e1] at f1; cases f1; exact f2.soft
    have ext : Ext H1 H' := Ext.ofSoft keep islst
    exact kk d _ v H' q2 (x1.trans ext) (RelX.puts nd r1 keep islst pr po) pd
  · exact q1.elim
theorem ed_call (F : FnOk X.prog X.w X.K X.mg X.base CX0 k f fd ps (spL X.K sp)) (hr : Room k X.A) (hg : Gl X x) (hm : X.mg x = some (.ref f)) (hk : PySem.W.keepIn X.K (.ref f) = true) (hb : Binds X.K fd ps []) (ha : EA X G (e :: es) ta) (hdb : (x == ("__debug__" : Str)) = false := by decide)
    (hs : starEach (e :: es) X.env = (false, eval e X.env) :: starEach es X.env := by rfl) (hplain : (backTo pos (starEach es X.env)).any (·.1) = false := by rfl) : ED X G (.Call (.Name x p) (e :: es) [] pos) (tCallD sp ta) :=
  ⟨PE.weak (pe_call (dvs := []) (E := fun _ _ _ => False) F hr hg hm hk hb .nil pass0 ha.pa (hdb := hdb) (he := hs) (hpl := hplain)) fun σ H Q h => lift_call σ H Q _ h⟩
end
end DL

set_option Elab.async false
set_option linter.all false
set_option maxRecDepth 100000
namespace DL
open PySem PySem.Spec PyProof.Rows L2

/-! ### lists of one's own change -/
section
variable {X : Cx} {G : Gh} {a b c e : Expr} {es : List Expr} {pos apos cpos p0 : Pos} {x : Str}
def tApp (i : Nat) (t : TD) : TD := fun E Q => match E[i]? with
  | some (.ol _) => t E fun d E1 => match E1[i]? with
    | some (.ol xs) => xs.length < sizeLine ∧ Q .none (E1.set i (.ol (xs ++ [d])))
    | _ => False
  | _ => False
theorem ed_app (i : Nat) {t : TD} (h : ED X G e t) (hN : X.N[i]? = some x := by rfl) (hv : Vis X.env.scope x := by first | exact Or.inl rfl | exact Or.inr (Or.inl rfl) | exact Or.inr (Or.inr rfl)) (hd : (x == ("__debug__" : Str)) = false := by decide)
    (hcd : (x == ("__classdict__" : Str)) = false := by decide)
    (hbase : attributeBase (.Name x p0) "append" X.env (eval (.Name x p0) X.env) = eval (.Name x p0) X.env := by rfl)
    (hfew : ((backTo cpos (starEach [e] X.env)).all (fun x => !x.1) && (backToKw cpos (keywordEach [] X.env)).all (fun x => x.1.isSome)
      && decide (([e] : List Expr).length + ([] : List Keyword).length + (if ([] : List Keyword).isEmpty then 0 else 1) < 30)) = true := by rfl)
    (hline : (apos.endLine == cpos.line) = true := by rfl) (hs : starEach [e] X.env = (false, eval e X.env) :: starEach [] X.env := by rfl) (hplain : (backTo cpos (starEach [] X.env)).any (·.1) = false := by rfl) :
    ED X G (.Call (.Attribute (.Name x p0) "append" apos) [e] [] cpos) (tApp i t) :=
  ⟨PE.weak (pe_bm PySem.F.plainAttrs_list PySem.F.slot_list_append PySem.F.type_list_append mt_append (pe_var hN hv hd hcd) (pa_cons h.pe pa_nil hs) hbase hfew hline hs hplain) fun σ H Q ⟨E, QE, r, q, k⟩ => by
    unfold tApp at q
    split at q
    · rename_i xs0 he0
      obtain ⟨l, vs0, e1, e2, e3⟩ := r.ol he0
      refine ⟨_, e1, .inl ⟨rfl, _, SqL.of e2⟩, E, _, r, q, fun d E1 v H1 q1 x1 r1 p1 => ?_⟩
      split at q1
      · rename_i xs he
        obtain ⟨l', vs, f1, f2, f3⟩ := r1.ol he
        rw [e1] at f1; cases f1
        refine ⟨l, vs, v, rfl, rfl, f2, by rw [← f3.length]; exact q1.1, ?_⟩
        exact k _ _ _ _ q1.2 (x1.trans (Ext.put f2)) (r1.putL he e1 (RpL.append f3 (.cons p1 .nil))) .non
      · exact q1.elim
    · exact q.elim⟩
def tExtd (i : Nat) (t : TLd) : TD := fun E Q => match E[i]? with
  | some (.ol _) => t E fun ys E1 => match E1[i]? with
    | some (.ol xs) => xs.length + ys.length ≤ sizeLine ∧ Q .none (E1.set i (.ol (xs ++ ys)))
    | _ => False
  | _ => False
theorem ed_extd (i : Nat) {t : TLd} (h : EL X G e t) (hN : X.N[i]? = some x := by rfl) (hv : Vis X.env.scope x := by first | exact Or.inl rfl | exact Or.inr (Or.inl rfl) | exact Or.inr (Or.inr rfl)) (hd : (x == ("__debug__" : Str)) = false := by decide)
    (hcd : (x == ("__classdict__" : Str)) = false := by decide)
    (hbase : attributeBase (.Name x p0) "extend" X.env (eval (.Name x p0) X.env) = eval (.Name x p0) X.env := by rfl)
    (hfew : ((backTo cpos (starEach [e] X.env)).all (fun x => !x.1) && (backToKw cpos (keywordEach [] X.env)).all (fun x => x.1.isSome)
      && decide (([e] : List Expr).length + ([] : List Keyword).length + (if ([] : List Keyword).isEmpty then 0 else 1) < 30)) = true := by rfl)
    (hline : (apos.endLine == cpos.line) = true := by rfl) (hs : starEach [e] X.env = (false, eval e X.env) :: starEach [] X.env := by rfl) (hplain : (backTo cpos (starEach [] X.env)).any (·.1) = false := by rfl) :
    ED X G (.Call (.Attribute (.Name x p0) "extend" apos) [e] [] cpos) (tExtd i t) :=
  ⟨PE.weak (pe_bm PySem.F.plainAttrs_list PySem.F.slot_list_extend PySem.F.type_list_extend mt_extend (pe_var hN hv hd hcd) (pa_cons h.pe pa_nil hs) hbase hfew hline hs hplain) fun σ H Q ⟨E, QE, r, q, k⟩ => by
    unfold tExtd at q
    split at q
    · rename_i xs0 he0
      obtain ⟨l, vs0, e1, e2, e3⟩ := r.ol he0
      refine ⟨_, e1, .inl ⟨rfl, _, SqL.of e2⟩, E, _, r, q, fun ys E1 b us H1 q1 x1 r1 h0 na hb p1 => ?_⟩
      split at q1
      · rename_i xs he
        obtain ⟨l', vs, f1, f2, f3⟩ := r1.ol he
        rw [e1] at f1; cases f1
        refine ⟨l, b, vs, us, rfl, rfl, f2, hb, by rw [← f3.length, ← p1.length]; exact q1.1, ?_⟩
        exact k _ _ _ _ q1.2 (x1.trans (Ext.put f2)) (r1.weak.putL he e1 (RpL.append f3 p1)) .non
      · exact q1.elim
    · exact q.elim⟩
def tPopAt (i : Nat) (t : TD) : TD := fun E Q => match E[i]? with
  | some (.ol _) => t E fun d E1 => match d, E1[i]? with
    | .int k, some (.ol xs) => (0 ≤ k ∧ k < xs.length ∧ k < 2 ^ 63) ∧ ∀ y, xs[k.toNat]? = some y → Q y (E1.set i (.ol (xs.eraseIdx k.toNat)))
    | _, _ => False
  | _ => False
theorem seqIndex_nat {k : Int} {n : Nat} (h0 : 0 ≤ k) (h1 : k < n) : seqIndex? k n = some k.toNat := by
  have := (ixN_seq (n := n) (i := k) (j := k.toNat) (by unfold ixN; rw [if_pos h0, if_pos h1])).1
  exact this
theorem ed_popAt (i : Nat) {t : TD} (h : ED X G e t) (hN : X.N[i]? = some x := by rfl) (hv : Vis X.env.scope x := by first | exact Or.inl rfl | exact Or.inr (Or.inl rfl) | exact Or.inr (Or.inr rfl)) (hd : (x == ("__debug__" : Str)) = false := by decide)
    (hcd : (x == ("__classdict__" : Str)) = false := by decide)
    (hbase : attributeBase (.Name x p0) "pop" X.env (eval (.Name x p0) X.env) = eval (.Name x p0) X.env := by rfl)
    (hfew : ((backTo cpos (starEach [e] X.env)).all (fun x => !x.1) && (backToKw cpos (keywordEach [] X.env)).all (fun x => x.1.isSome)
      && decide (([e] : List Expr).length + ([] : List Keyword).length + (if ([] : List Keyword).isEmpty then 0 else 1) < 30)) = true := by rfl)
    (hline : (apos.endLine == cpos.line) = true := by rfl) (hs : starEach [e] X.env = (false, eval e X.env) :: starEach [] X.env := by rfl) (hplain : (backTo cpos (starEach [] X.env)).any (·.1) = false := by rfl) :
    ED X G (.Call (.Attribute (.Name x p0) "pop" apos) [e] [] cpos) (tPopAt i t) :=
  ⟨PE.weak (pe_bm PySem.F.plainAttrs_list PySem.F.slot_list_pop PySem.F.type_list_pop mt_popAt (pe_var hN hv hd hcd) (pa_cons h.pe pa_nil hs) hbase hfew hline hs hplain) fun σ H Q ⟨E, QE, r, q, k⟩ => by
    unfold tPopAt at q
    split at q
    · rename_i xs0 he0
      obtain ⟨l, vs0, e1, e2, e3⟩ := r.ol he0
      refine ⟨_, e1, .inl ⟨rfl, _, SqL.of e2⟩, E, _, r, q, fun d E1 v H1 q1 x1 r1 p1 => ?_⟩
      split at q1
      · rename_i d0 o0 j xs he
        cases p1
        obtain ⟨l', vs, f1, f2, f3⟩ := r1.ol he
        rw [e1] at f1; cases f1
        obtain ⟨⟨z0, z1, z2⟩, q1⟩ := q1
        have zl : j.toNat < xs.length := by omega
        have ey : xs[j.toNat]? = some xs[j.toNat] := List.getElem?_eq_getElem zl
        obtain ⟨y, hy, py⟩ := f3.get ey
        refine ⟨l, vs, j, j.toNat, y, rfl, rfl, f2, by omega, z2, seqIndex_nat z0 (by rw [← f3.length]; exact z1), hy, ?_⟩
        exact k _ _ _ _ (q1 _ ey) (x1.trans (Ext.put f2)) (r1.putL he e1 (RpL.eraseIdx _ f3)) (py.ext (Ext.put f2))
      · exact q1.elim
    · exact q.elim⟩
/-- an item is put -/
def putD (xs : List D) (k : Int) (d : D) (Q : List D → Prop) : Prop := match ixN xs.length k with
  | some n => Q (xs.set n d)
  | none => False
/-- xs[k] = e -/
def sSetIx (i : Nat) (tk te : TD) : TSd := fun DE E => te E fun d E1 => match E1[i]? with
  | some (.ol _) => tk E1 fun j E2 => match j, E2[i]? with
    | .int k, some (.ol xs) => putD xs k d fun ys => DE.nx (E2.set i (.ol ys))
    | _, _ => False
  | _ => False
theorem sd_setIx (i : Nat) {ix : Expr} {tk te : TD} (hk : ED X G ix tk) (he : ED X G e te) (hN : X.N[i]? = some x := by rfl) (hv : Vis X.env.scope x := by first | exact Or.inl rfl | exact Or.inr (Or.inl rfl) | exact Or.inr (Or.inr rfl)) (hd : (x == ("__debug__" : Str)) = false := by decide)
    (hcd : (x == ("__classdict__" : Str)) = false := by decide)
    (ha : ∀ v, assign (.Subscript (.Name x p0) ix apos) X.env v = (do
      let ov ← holding [v] (eval (.Name x p0) X.env)
      let iv ← holding [v, ov] (eval ix X.env)
      standAt apos
      holding [v, ov, iv] (setItem ov iv v)
      release [v, ov, iv] []) := by intro _; rfl)
    (hs : swapsWithSole [.Subscript (.Name x p0) ix apos] e pos.line X.env = pure false := by rfl) (hw : swappedStores [.Subscript (.Name x p0) ix apos] e X.env = pure none := by rfl)
    (hb : (assignEach [.Subscript (.Name x p0) ix apos] X.env).map (·.2) = [assign (.Subscript (.Name x p0) ix apos) X.env] := by rfl) :
    SD X G (.Assign [.Subscript (.Name x p0) ix apos] e pos) (sSetIx i tk te) :=
  ⟨PS.weak (ps_asg he.pe (pg_sub (pe_var hN hv hd hcd) hk.pe set_list ha) hs hw hb) fun F σ H ⟨E, DE, r, q, k1, k2, k3, k4⟩ => ⟨E, _, r, q, fun d E1 v H1 q1 x1 r1 p1 => by
    split at q1
    · rename_i xs0 he0
      obtain ⟨l, vs0, e1, e2, e3⟩ := r1.ol he0
      refine ⟨_, e1, E1, _, r1, q1, fun j E2 u H2 q2 x2 r2 p2 => ?_⟩
      split at q2
      · rename_i d0 o0 k xs he
        cases p2
        unfold putD at q2
        split at q2
        · rename_i n hn
          obtain ⟨l', vs, f1, f2, f3⟩ := r2.ol he
          rw [e1] at f1; cases f1
          refine ⟨l, vs, k, n, rfl, rfl, f2, by rw [← f3.length]; exact hn, ?_⟩
          exact k1 _ _ _ q2 ((x1.trans x2).trans (Ext.put f2)) (r2.putL he e1 (RpL.set (p1.ext x2) n f3))
        · exact q2.elim
      · exact q2.elim
    · exact q1.elim⟩⟩

/-! ### several at once -/
abbrev TPs := Env → (List S → Env → Prop) → Prop
/-- new lists at ex, data -/
inductive PVs (K : PySem.W.Frag) (G : Gh) (H : Hp) : List S → List V → List Addr → Prop
  | nil : PVs K G H [] [] []
  | d {x : D} {v : V} {ss : List S} {vs : List V} {ex : List Addr} : Rp K H x v → PVs K G H ss vs ex → PVs K G H (.d x :: ss) (v :: vs) ex
  | m {s : S} {a : Addr} {ss : List S} {vs : List V} {ex : List Addr} : RelM K H s a → G.H0 a = none → a ∉ G.addrs → a ∉ ex → PVs K G H ss vs ex → PVs K G H (s :: ss) (.ref a :: vs) (a :: ex)
theorem PVs.length {K : PySem.W.Frag} {G : Gh} {H : Hp} : ∀ {ss : List S} {vs : List V} {ex : List Addr}, PVs K G H ss vs ex → ss.length = vs.length
  | _, _, _, .nil => rfl
  | _, _, _, .d _ r => by rw [List.length_cons, List.length_cons, PVs.length r]
  | _, _, _, .m _ _ _ _ r => by rw [List.length_cons, List.length_cons, PVs.length r]
theorem PVs.pext {K : PySem.W.Frag} {G : Gh} {H H' : Hp} (p : PExt H H') : ∀ {ss : List S} {vs : List V} {ex : List Addr}, PVs K G H ss vs ex → PVs K G H' ss vs ex
  | _, _, _, .nil => .nil
  | _, _, _, .d h r => .d (h.ext p.ext) (PVs.pext p r)
  | _, _, _, .m h1 h3 h4 h5 r => .m (h1.move p.ext (by obtain ⟨u, e, _⟩ := h1.soft; rw [e, p _ _ e])) h3 h4 h5 (PVs.pext p r)
theorem PVs.ofPend {K : PySem.W.Frag} {G : Gh} {H : Hp} {a : Addr} {o : HO} : ∀ {ss : List S} {vs : List V} {ex : List Addr}, PVs K (pend G a o) H ss vs ex → PVs K G H ss vs ex ∧ a ∉ ex
  | _, _, _, .nil => ⟨.nil, by simp⟩
  | _, _, _, .d h r => ⟨.d h (PVs.ofPend r).1, (PVs.ofPend r).2⟩
  | _, _, _, .m (a := b) h1 h3 h4 h5 r => by
    have z : b ≠ a := by
      rintro rfl
      have : upd G.H0 b o b = none := h3
      rw [upd_same] at this; cases this
    have h3' : G.H0 b = none := by
      have : upd G.H0 a o b = none := h3
      rw [upd_ne z] at this; exact this
    refine ⟨.m h1 h3' h4 h5 (PVs.ofPend r).1, fun q => ?_⟩
    rcases List.mem_cons.mp q with q | q
    · exact z q.symm
    · exact (PVs.ofPend r).2 q
def liftPs (K : PySem.W.Frag) (G : Gh) (t : TPs) : TA := fun σ H Q => ∃ (E : Env) (QE : List S → Env → Prop), RelE K G H E σ ∧ t E QE ∧ ∀ ss E' vs H' ex, QE ss E' → Ext H H' → RelX K G ex H' E' σ → PVs K G H' ss vs ex → Q vs H'
structure EPs (X : Cx) (G : Gh) (es : List Expr) (t : TPs) : Prop where
  pa : PA X es (liftPs X.K G t)
def pNil : TPs := fun E Q => Q [] E
def pD (t : TD) (u : TPs) : TPs := fun E Q => t E fun x E1 => u E1 fun ss E2 => Q (.d x :: ss) E2
def pL (t : TLd) (u : TPs) : TPs := fun E Q => t E fun xs E1 => u E1 fun ss E2 => Q (.ol xs :: ss) E2
theorem eps_nil : EPs X G [] pNil := ⟨PA.weak pa_nil fun σ H Q ⟨E, QE, r, q, k⟩ => k _ _ _ _ _ q (Ext.refl _) r .nil⟩
theorem eps_d {t : TD} {u : TPs} (h : ED X G e t) (hr : EPs X G es u) (hs : starEach (e :: es) X.env = (false, eval e X.env) :: starEach es X.env := by rfl) : EPs X G (e :: es) (pD t u) :=
  ⟨PA.weak (pa_cons h.pe hr.pa hs) fun σ H Q ⟨E, QE, r, q, k⟩ => ⟨E, _, r, q, fun x E1 v H1 q1 x1 r1 p1 => ⟨E1, _, r1, q1, fun ss E2 vs H2 ex q2 x2 r2 p2 => k _ _ _ _ _ q2 (x1.trans x2) r2 (.d (p1.ext x2) p2)⟩⟩⟩
theorem eps_l {t : TLd} {u : TPs} (h : EL X G e t) (hr : ∀ G' : Gh, G'.slots = G.slots → EPs X G' es u) (hs : starEach (e :: es) X.env = (false, eval e X.env) :: starEach es X.env := by rfl) : EPs X G (e :: es) (pL t u) := by
  have hp : PA X es (fun σ H Q => ∃ G' : Gh, G'.slots = G.slots ∧ liftPs X.K G' u σ H Q) := ⟨fun pos pins s σ H Q I ⟨G', hG', q⟩ => (hr G' hG').pa.run pos pins s σ H Q I q⟩
  refine ⟨PA.weak (pa_cons h.pe hp hs) fun σ H Q ⟨E, QE, r, q, k⟩ => ⟨E, _, r, q, fun xs E1 a us H1 q1 x1 r1 h0 na ha p1 => ?_⟩⟩
  refine ⟨pend G a (.lst us), rfl, E1, _, r1.toPend ha na, q1, fun ss E2 vs H2 ex q2 x2 r2 p2 => ?_⟩
  obtain ⟨r3, ha3⟩ := RelX.ofPend r2 h0 na
  obtain ⟨p3, nx⟩ := PVs.ofPend p2
  exact k _ _ _ _ (a :: ex) q2 (x1.trans x2) r3 (.m (s := .ol xs) ⟨_, ha3, p1.ext x2⟩ h0 na nx p3)
def setAll : Env → List Nat → List S → Env
  | E, i :: is, s :: ss => setAll (E.set i s) is ss
  | E, _, _ => E
def setAllV : St → List Nat → List V → St
  | σ, i :: is, v :: vs => setAllV (σ.set i (some v)) is vs
  | σ, _, _ => σ
theorem RelX.setAll {K : PySem.W.Frag} {G : Gh} {H : Hp} : ∀ {is : List Nat} {ss : List S} {vs : List V} {ex : List Addr} {E : Env} {σ : St}, (∀ i ∈ is, i ∉ G.slots) → is.length = ss.length → RelX K G ex H E σ → PVs K G H ss vs ex → RelE K G H (setAll E is ss) (setAllV σ is vs)
  | [], [], [], _, E, σ, _, _, r, .nil => r
  | i :: is, _, _, _, E, σ, hi, hl, r, .d p t => by
    exact RelX.setAll (is := is) (fun j hj => hi j (List.mem_cons_of_mem _ hj)) (by simpa using hl) (r.setD (hi i (List.mem_cons_self ..)) p) t
  | i :: is, _, _, _, E, σ, hi, hl, r, .m h1 h3 h4 h5 t => by
    exact RelX.setAll (is := is) (fun j hj => hi j (List.mem_cons_of_mem _ hj)) (by simpa using hl) (r.setM h5 (hi i (List.mem_cons_self ..)) h3 h1) t
  | [], _, _, _, _, _, _, hl, _, .d _ _ => by simp at hl
  | [], _, _, _, _, _, _, hl, _, .m _ _ _ _ _ => by simp at hl
  | _ :: _, _, _, _, _, _, _, hl, _, .nil => by simp at hl
def sPar (is : List Nat) (t : TPs) : TSd := fun DE E => t E fun ss E1 => is.length = ss.length ∧ DE.nx (setAll E1 is ss)
/-- x, y = a, b: plain local names -/
theorem sd_par2 {i j : Nat} {x y : Str} {t : TPs} {px py pt : Pos} {kt k2 pt2} (hsl : ∀ n ∈ [i, j], n ∉ G.slots) (hc : X.calm = true) (hN : X.N.Nodup) (hi : X.N[i]? = some x) (hj : X.N[j]? = some y) (hij : i ≠ j)
    (hx : X.env.scope.names.lookup x = some .local) (hy : X.env.scope.names.lookup y = some .local) (ha : EPs X G [a, b] t)
    (hw : swappedStores [.Tuple [.Name x px, .Name y py] kt pt] (.Tuple [a, b] k2 pt2) X.env = pure (some [x, y]) := by rfl)
    (hs : swapsWithSole [.Tuple [.Name x px, .Name y py] kt pt] (.Tuple [a, b] k2 pt2) pos.line X.env = pure false := by rfl) :
    SD X G (.Assign [.Tuple [.Name x px, .Name y py] kt pt] (.Tuple [a, b] k2 pt2) pos) (sPar [i, j] t) :=
  ⟨PS.weak (ps_par hc hN hi hj hij hx hy ha.pa hw hs) fun F σ H ⟨E, DE, r, q, k1, k2, k3, k4⟩ => ⟨E, _, r, q, fun ss E1 vs H1 ex q1 x1 r1 p1 => by
    obtain ⟨hl, q1⟩ := q1
    have hv : vs.length = 2 := by rw [← p1.length, ← hl]; rfl
    match vs, hv, p1 with
    | [v, w], _, p1 => exact ⟨v, w, rfl, k1 _ _ _ q1 x1 (RelX.setAll hsl hl r1 p1)⟩⟩⟩
/-- the targets of names, any; the pair is made -/
theorem sd_parC {tgs : List Expr} {is : List Nat} {t : TPs} {kt k2 : Nat} {pt pt2 : Pos} {n : Nat} (hsl : ∀ i ∈ is, i ∉ G.slots) (hc : X.calm = true) (hz : is.length ≤ sizeLine) (ha : EPs X G es t) (hn : is.length = n)
    (hg : PGs X tgs (fun vs σ H Q => vs.length = n ∧ Q (setAllV σ is vs) H))
    (hn2 : (assignEach tgs X.env).length = n := by rfl) (hst : (assignEach tgs X.env).findIdx? (·.1) = none := by rfl)
    (hs : swapsWithSole [.Tuple tgs kt pt] (.Tuple es k2 pt2) pos.line X.env = pure false := by rfl) (hw : swappedStores [.Tuple tgs kt pt] (.Tuple es k2 pt2) X.env = pure none := by rfl)
    (hb : (assignEach [.Tuple tgs kt pt] X.env).map (·.2) = [assign (.Tuple tgs kt pt) X.env] := by rfl) :
    SD X G (.Assign [.Tuple tgs kt pt] (.Tuple es k2 pt2) pos) (sPar is t) :=
  ⟨PS.weak (ps_asg (pe_tup ha.pa) (pg_tup hc hg hn2 hst) hs hw hb) fun F σ H ⟨E, DE, r, q, k1, k2, k3, k4⟩ => ⟨E, _, r, q, fun ss E1 vs H1 ex q1 x1 r1 p1 => by
    obtain ⟨hl, q1⟩ := q1
    have hv : vs.length = n := by rw [← p1.length, ← hl, hn]
    refine ⟨by rw [hv, ← hn]; exact hz, fun p hp => ⟨p, vs, rfl, SqT.of upd_same, hv, hv, ?_⟩⟩
    have px := PExt.new (o := .tup vs) hp
    exact k1 _ _ _ q1 (x1.trans px.ext) (RelX.setAll hsl hl (r1.pext px) (p1.pext px))⟩⟩
theorem pgs_n0 : PGs X [] (fun vs σ H Q => vs.length = 0 ∧ Q (setAllV σ [] vs) H) := ⟨fun pins s σ H vs us Q I r h => pgs_nil.run pins s σ H vs us Q I r (by
  obtain ⟨h1, h2⟩ := h
  have : vs = [] := List.length_eq_zero_iff.mp h1
  subst this; exact ⟨rfl, h2⟩)⟩
theorem pgs_nS {i n : Nat} {is : List Nat} {tgs : List Expr} {x : Str} {px : Pos} (hN : X.N.Nodup) (hx : X.N[i]? = some x) (hl : Loc X.env.scope x) (h : PGs X tgs (fun vs σ H Q => vs.length = n ∧ Q (setAllV σ is vs) H))
    (hf : X.fn x = true ∨ X.env.scope.names.lookup x = some .local := by first | exact .inl rfl | exact .inr rfl | assumption)
    (hs : (assignEach (.Name x px :: tgs) X.env).map (·.2) = assign (.Name x px) X.env :: (assignEach tgs X.env).map (·.2) := by rfl) :
    PGs X (.Name x px :: tgs) (fun vs σ H Q => vs.length = n + 1 ∧ Q (setAllV σ (i :: is) vs) H) := ⟨fun pins s σ H vs us Q I r h' => (pgs_cons (pg_name hN hx hl hf) h hs).run pins s σ H vs us Q I r (by
  obtain ⟨h1, h2⟩ := h'
  match vs, h1, h2 with
  | v :: vs, h1, h2 => exact ⟨v, vs, rfl, by simpa using h1, h2⟩)⟩
end
end DL

set_option Elab.async false
set_option linter.all false
set_option maxRecDepth 100000
set_option maxHeartbeats 1000000
namespace DL
open PySem PySem.Spec PyProof.Rows L2

section
variable {X : Cx}
/-! ### arithmetic -/
theorem or3 {f : Value → Value → Sem Value} {r1 r2 r3 : R2} (h1 : OpR X f r1) (h2 : OpR X f r2) (h3 : OpR X f r3) : OpR X f (fun x y H Q => r1 x y H Q ∨ (r2 x y H Q ∨ r3 x y H Q)) := h1.or (h2.or h3)
/-- () + t is t -/
theorem op_catT0 : OpR X (binaryOp .Add) (fun x y H Q => ∃ a b ys, x = .ref a ∧ y = .ref b ∧ SqT X.K H a [] ∧ SqT X.K H b ys ∧ Q (.ref b) H) := by
  intro pins s σ H x y v u Q I rx ry h
  obtain ⟨a, b, ys, rfl, rfl, ha, hb, q⟩ := h
  cases rx
  cases ry
  obtain ⟨its, r1, p1, _⟩ := I.tuple ha
  obtain ⟨its2, r2, p2, _⟩ := I.tuple hb
  have e0 : its = [] := r1.nil_iff.mpr rfl
  subst e0
  obtain ⟨⟨cls, dd, data, sl⟩, ho, hc, n, hd⟩ := id p1
  obtain ⟨⟨cls2, dd2, data2, sl2⟩, ho2, hc2, n2, hd2⟩ := id p2
  simp only at hc hd hc2 hd2
  subst hc hd hc2 hd2
  exact concat_meets ⟨_, ho, rfl⟩ ⟨_, ho2, rfl⟩ noFill_tuple_add seq_tuple_add PySem.F.slot_tuple_add PySem.F.entry_tuple_add (PySem.F.args_tuple_add_2 _ _)
      (tuple_addW0 a b [].toArray its2.toArray n n2 dd dd2 sl sl2 rfl) ⟨ho, ho2, ⟨.ref b, H, I, rfl, q⟩⟩
/-- t + u, both with items: a new, plain tuple -/
theorem op_catF : OpR X (binaryOp .Add) (fun x y H Q => ∃ a b xs ys, x = .ref a ∧ y = .ref b ∧ SqT X.K H a xs ∧ SqT X.K H b ys ∧ xs ≠ [] ∧ xs.length + ys.length ≤ sizeLine ∧ (ys = [] → Q (.ref a) H) ∧ (ys ≠ [] → ∀ p o, H p = none → o.dict = none → Q (.ref p) (upd H p (.frz o (.tup (xs ++ ys)))))) := by
  intro pins s σ H x y v u Q I rx ry h
  obtain ⟨a, b, xs, ys, rfl, rfl, ha, hb, hx, hz, q1, q2⟩ := h
  cases rx; cases ry
  obtain ⟨its, r1, p1, _⟩ := I.tuple ha
  obtain ⟨its2, r2, p2, _⟩ := I.tuple hb
  refine HT.cat_tup p1 p2 (fun z => hx (r1.nil_iff.mp z)) (fun z => ⟨.ref a, H, I, rfl, q1 (r2.nil_iff.mp z)⟩) (fun z => ?_) (by rw [← r1.length, ← r2.length]; exact hz)
  refine ⟨.ref s.heap.objs.size, _, I.laid (t' := s.toks) (o := .frz _ (.tup (xs ++ ys))) (fun b ob q => Heap.get?_push_of_some _ q) (Nat.le_refl _) ⟨Heap.get?_push_size _ rfl, ?_⟩, rfl, q2 (fun w => z (r2.nil_iff.mpr w)) _ _ (I.hok.fresh (Nat.le_refl _)) rfl⟩
  exact ⟨by rw [List.length_append]; exact hz, _, r1.append r2, IsTup.new _ _⟩
/-- tuple(xs) of a list: a new, plain tuple -/
theorem call_tupF : CallR X (.type "tuple") (fun xs H Q => ∃ p ys, xs = [.ref p] ∧ ((SqL X.K H p ys ∧ ∀ l o, H l = none → o.dict = none → Q (.ref l) (upd H l (.frz o (.tup ys)))) ∨ (SqT X.K H p ys ∧ Q (.ref p) H))) := by
  intro pins s σ H xs us Q I r h
  obtain ⟨p, ys, rfl, h⟩ := h
  obtain rfl := Vals.ref1 r
  rcases h with ⟨hq, q⟩ | ⟨hq, q⟩
  · obtain ⟨its, r', pl, hz⟩ := I.list hq
    have hlen := r'.length
    refine call_tuple_list pl.isList (fun h' kp => ?_) (by simp only [List.size_toArray] <;> omega)
    have I1 : Inv X pins σ H { s with heap := h' } := I.kept (t' := s.toks) kp
    exact ⟨.ref h'.objs.size, upd H h'.objs.size (.frz { cls := .type "tuple", data := .seq its.toArray } (.tup ys)), I1.laid (t' := s.toks) (fun b o e => Heap.get?_push_of_some _ e) (Nat.le_refl _) ⟨Heap.get?_push_size _ rfl, hz, its, r', IsTup.new _ _⟩, rfl, q _ _ (I1.hok.fresh (Nat.le_refl _)) rfl⟩
  · obtain ⟨its, r', pl, hz⟩ := I.tuple hq
    exact call_tuple_same pl ⟨.ref p, H, I, rfl, q⟩
def opAdd : OpT := fun x y Q => match x, y with
  | .int i, .int j => Q (.int (i + j))
  | .str a, .str b => a.length + b.length ≤ sizeLine ∧ Q (.str (a ++ b))
  | .tuple xs, .tuple ys => xs.length + ys.length ≤ sizeLine ∧ Q (.tuple (xs ++ ys))
  | _, _ => False
theorem od_add : OpD X (binaryOp .Add) opAdd := by
  refine ⟨_, op_add.or (op_add_str.or (op_catF.or op_catT0)), fun x y v u H QD Q hx hy q k => ?_⟩
  cases x with
  | int i =>
    cases y with
    | int j => rw [hx.int, hy.int]; exact .inl ⟨i, j, rfl, rfl, k _ _ _ q (PExt.refl _) (.int _)⟩
    | _ => exact q.elim
  | str i =>
    cases y with
    | str j => rw [hx.str, hy.str]; exact .inr (.inl ⟨i, j, rfl, rfl, q.1, k _ _ _ q.2 (PExt.refl _) (.str _)⟩)
    | _ => exact q.elim
  | tuple xs =>
    cases y with
    | tuple ys =>
      obtain ⟨a, vs, rfl, sa, la⟩ := hx.tupD
      obtain ⟨b, us, rfl, sb, lb⟩ := hy.tupD
      cases la with
      | nil => exact .inr (.inr (.inr ⟨a, b, us, rfl, rfl, sa.1, sb.1, k _ _ _ q.2 (PExt.refl _) (.tup sb lb)⟩))
      | cons p la =>
        rename_i x0 v0 xs0 vs0
        refine .inr (.inr (.inl ⟨a, b, _, us, rfl, rfl, sa.1, sb.1, List.cons_ne_nil _ _, ?_, fun e => ?_, fun _ p0 o hp ho => ?_⟩))
        · have := q.1
          rw [List.length_cons] at this ⊢
          rw [← la.length, ← lb.length]; exact this
        · subst e
          cases lb
          have := q.2
          rw [List.append_nil] at this
          exact k _ _ _ this (PExt.refl _) (.tup sa (.cons p la))
        · have px := PExt.new (o := .frz o (.tup (v0 :: vs0 ++ us))) hp
          exact k _ _ _ q.2 px (.tup (.new ho) ((RpL.append (.cons p la) lb).ext px.ext))
    | _ => exact q.elim
  | _ => exact q.elim
def opI (C : Int → Int → Prop) (g : Int → Int → Int) : OpT := fun x y Q => match x, y with
  | .int i, .int j => C i j ∧ Q (.int (g i j))
  | _, _ => False
def opI0 (g : Int → Int → Int) : OpT := fun x y Q => match x, y with
  | .int i, .int j => Q (.int (g i j))
  | _, _ => False
def opB0 (g : Int → Int → Bool) : OpT := fun x y Q => match x, y with
  | .int i, .int j => Q (.bool (g i j))
  | _, _ => False
theorem od_I {f : Value → Value → Sem Value} {C : Int → Int → Prop} {g : Int → Int → Int} (h : OpR X f (rI C fun i j => .int (g i j))) : OpD X f (opI C g) := ⟨_, h, fun x y v u H QD Q hx hy q k => by
  cases x with
  | int i =>
    cases y with
    | int j => rw [hx.int, hy.int]; exact ⟨i, j, rfl, rfl, q.1, k _ _ _ q.2 (PExt.refl _) (.int _)⟩
    | _ => exact q.elim
  | _ => exact q.elim⟩
theorem od_I0 {f : Value → Value → Sem Value} {g : Int → Int → Int} (h : OpR X f (rI0 fun i j => .int (g i j))) : OpD X f (opI0 g) := ⟨_, h, fun x y v u H QD Q hx hy q k => by
  cases x with
  | int i =>
    cases y with
    | int j => rw [hx.int, hy.int]; exact ⟨i, j, rfl, rfl, k _ _ _ q (PExt.refl _) (.int _)⟩
    | _ => exact q.elim
  | _ => exact q.elim⟩
theorem od_B0 {f : Value → Value → Sem Value} {g : Int → Int → Bool} (h : OpR X f (rI0 fun i j => .bl (g i j))) : OpD X f (opB0 g) := ⟨_, h, fun x y v u H QD Q hx hy q k => by
  cases x with
  | int i =>
    cases y with
    | int j => rw [hx.int, hy.int]; exact ⟨i, j, rfl, rfl, k _ _ _ q (PExt.refl _) (.bl _)⟩
    | _ => exact q.elim
  | _ => exact q.elim⟩
def opSub : OpT := opI0 fun i j => i - j
theorem od_sub : OpD X (binaryOp .Sub) opSub := od_I0 op_sub
def opMul : OpT := opI CMulW fun i j => i * j
theorem od_mul : OpD X (binaryOp .Mult) opMul := od_I op_mulW
def opDiv : OpT := opI CDivW fun i j => i / j
theorem od_div : OpD X (binaryOp .FloorDiv) opDiv := od_I op_fdivW
def opMod : OpT := opI (fun _ j => 0 < j) fun i j => i % j
theorem od_mod : OpD X (binaryOp .Mod) opMod := od_I op_mod
def opPow : OpT := opI CPow fun i j => i ^ j.toNat
theorem od_pow : OpD X (binaryOp .Pow) opPow := od_I op_pow
def unNeg : UnT := fun x Q => match x with
  | .int i => Q (.int (-i))
  | _ => False
theorem ud_neg : UnD X (unaryOp .USub) unNeg := ⟨_, un_neg, fun x v H QD Q hx q k => by
  cases x with
  | int i => rw [hx.int]; exact ⟨i, rfl, k _ _ _ q (PExt.refl _) (.int _)⟩
  | _ => exact q.elim⟩

/-! ### comparisons -/
def opEq : OpT := fun x y Q => (SeqAt.shaped x = true ∧ SeqAt.shaped y = true) ∧ Q (.bool (PyData.eqv x y))
def opNe : OpT := fun x y Q => (SeqAt.shaped x = true ∧ SeqAt.shaped y = true) ∧ Q (.bool (!PyData.eqv x y))
theorem od_eq (hu : X.A.units + 64 < cLine) : OpD X (compareOp .Eq) opEq := ⟨_, op_eqD hu, fun x y v u H QD Q hx hy q k => ⟨x, y, hx.dp (SeqAt.canLay_of_shaped q.1.1), hy.dp (SeqAt.canLay_of_shaped q.1.2), q.1.1, q.1.2, k _ _ _ q.2 (PExt.refl _) (.bl _)⟩⟩
theorem od_ne (hu : X.A.units + 64 < cLine) : OpD X (compareOp .NotEq) opNe := ⟨_, op_neD hu, fun x y v u H QD Q hx hy q k => ⟨x, y, hx.dp (SeqAt.canLay_of_shaped q.1.1), hy.dp (SeqAt.canLay_of_shaped q.1.2), q.1.1, q.1.2, k _ _ _ q.2 (PExt.refl _) (.bl _)⟩⟩
def opLt : OpT := opB0 fun i j => decide (i < j)
theorem od_lt : OpD X (compareOp .Lt) opLt := od_B0 op_lt
def opLe : OpT := opB0 fun i j => decide (i ≤ j)
theorem od_le : OpD X (compareOp .LtE) opLe := od_B0 op_le
def opGt : OpT := opB0 fun i j => decide (j < i)
theorem od_gt : OpD X (compareOp .Gt) opGt := od_B0 op_gt
def opGe : OpT := opB0 fun i j => decide (j ≤ i)
theorem od_ge : OpD X (compareOp .GtE) opGe := od_B0 op_ge
def isNone : D → Bool
  | .none => true
  | _ => false
def opIs : OpT := fun x y Q => match y with
  | .none => Q (.bool (isNone x))
  | .bool b => match x with
    | .bool a => Q (.bool (decide (a = b)))
    | _ => False
  | _ => False
def opIsN : OpT := fun x y Q => match y with
  | .none => Q (.bool (!isNone x))
  | .bool b => match x with
    | .bool a => Q (.bool (!decide (a = b)))
    | _ => False
  | _ => False
theorem isNone_iff {K : PySem.W.Frag} {H : Hp} {x : D} {v : V} (h : RpR K H x v) : isNone x = decide (v = .non) := by
  rcases h with h | ⟨ds, a, vs, rfl, rfl, _⟩
  · cases h <;> rfl
  · rfl
theorem od_is : OpD X (compareOp .Is) opIs := ⟨_, op_isN.or op_isBl, fun x y v u H QD Q hx hy q k => by
  cases y with
  | none => rw [hy.none]; exact .inl ⟨rfl, by rw [← isNone_iff hx]; exact k _ _ _ q (PExt.refl _) (.bl _)⟩
  | bool b =>
    cases x with
    | bool a => rw [hx.bool, hy.bool]; exact .inr ⟨a, b, rfl, rfl, k _ _ _ q (PExt.refl _) (.bl _)⟩
    | _ => exact q.elim
  | _ => exact q.elim⟩
theorem od_isN : OpD X (compareOp .IsNot) opIsN := ⟨_, op_notN.or op_notBl, fun x y v u H QD Q hx hy q k => by
  cases y with
  | none => rw [hy.none]; exact .inl ⟨rfl, by rw [← isNone_iff hx]; exact k _ _ _ q (PExt.refl _) (.bl _)⟩
  | bool b =>
    cases x with
    | bool a => rw [hx.bool, hy.bool]; exact .inr ⟨a, b, rfl, rfl, k _ _ _ q (PExt.refl _) (.bl _)⟩
    | _ => exact q.elim
  | _ => exact q.elim⟩
/-! x in a list, a tuple -/
theorem op_inT (hu : X.A.units + 65 < cLine) : OpR X (compareOp .In) (fun x y H Q => ∃ d ds, Dp X.K H x d ∧ Dp X.K H y (.tuple ds) ∧ SeqAt.shaped d = true ∧ SeqAt.shaped (.tuple ds) = true ∧ Q (.bl (ds.any fun z => PyData.eqv z d)) H) := by
  intro pins s σ H x y v u Q I rx ry h
  obtain ⟨d, ds, hd, he, sd, se, q⟩ := h
  obtain ⟨as, r1⟩ := Dp.reads I d x v hd rx
  obtain ⟨bs, r2⟩ := Dp.reads I (.tuple ds) y u he ry
  exact SeqAt.in_tuple_reads r2 r1 (SeqAt.canLay_of_shaped se) (SeqAt.canLay_of_shaped sd) (room_in_shaped sd hu) ⟨.bl _, H, I, rfl, q⟩
theorem op_notInT (hu : X.A.units + 65 < cLine) : OpR X (compareOp .NotIn) (fun x y H Q => ∃ d ds, Dp X.K H x d ∧ Dp X.K H y (.tuple ds) ∧ SeqAt.shaped d = true ∧ SeqAt.shaped (.tuple ds) = true ∧ Q (.bl (!ds.any fun z => PyData.eqv z d)) H) := by
  intro pins s σ H x y v u Q I rx ry h
  obtain ⟨d, ds, hd, he, sd, se, q⟩ := h
  obtain ⟨as, r1⟩ := Dp.reads I d x v hd rx
  obtain ⟨bs, r2⟩ := Dp.reads I (.tuple ds) y u he ry
  exact SeqAt.notIn_tuple_reads r2 r1 (SeqAt.canLay_of_shaped se) (SeqAt.canLay_of_shaped sd) (room_in_shaped sd hu) ⟨.bl _, H, I, rfl, q⟩
def opIn : OpT := fun x y Q => match y with
  | .list ds => (SeqAt.shaped x = true ∧ SeqAt.shaped (.list ds) = true) ∧ Q (.bool (ds.any fun z => PyData.eqv z x))
  | .tuple ds => (SeqAt.shaped x = true ∧ SeqAt.shaped (.tuple ds) = true) ∧ Q (.bool (ds.any fun z => PyData.eqv z x))
  | _ => False
def opNotIn : OpT := fun x y Q => match y with
  | .list ds => (SeqAt.shaped x = true ∧ SeqAt.shaped (.list ds) = true) ∧ Q (.bool (!ds.any fun z => PyData.eqv z x))
  | .tuple ds => (SeqAt.shaped x = true ∧ SeqAt.shaped (.tuple ds) = true) ∧ Q (.bool (!ds.any fun z => PyData.eqv z x))
  | _ => False
theorem od_in (hu : X.A.units + 65 < cLine) : OpD X (compareOp .In) opIn := ⟨_, (op_inD hu).or (op_inT hu), fun x y v u H QD Q hx hy q k => by
  cases y with
  | list ds => exact .inl ⟨x, ds, hx.dp (SeqAt.canLay_of_shaped q.1.1), hy.dp (SeqAt.canLay_of_shaped q.1.2), q.1.1, q.1.2, k _ _ _ q.2 (PExt.refl _) (.bl _)⟩
  | tuple ds => exact .inr ⟨x, ds, hx.dp (SeqAt.canLay_of_shaped q.1.1), hy.dp (SeqAt.canLay_of_shaped q.1.2), q.1.1, q.1.2, k _ _ _ q.2 (PExt.refl _) (.bl _)⟩
  | _ => exact q.elim⟩
theorem od_notIn (hu : X.A.units + 65 < cLine) : OpD X (compareOp .NotIn) opNotIn := ⟨_, (op_notInD hu).or (op_notInT hu), fun x y v u H QD Q hx hy q k => by
  cases y with
  | list ds => exact .inl ⟨x, ds, hx.dp (SeqAt.canLay_of_shaped q.1.1), hy.dp (SeqAt.canLay_of_shaped q.1.2), q.1.1, q.1.2, k _ _ _ q.2 (PExt.refl _) (.bl _)⟩
  | tuple ds => exact .inr ⟨x, ds, hx.dp (SeqAt.canLay_of_shaped q.1.1), hy.dp (SeqAt.canLay_of_shaped q.1.2), q.1.1, q.1.2, k _ _ _ q.2 (PExt.refl _) (.bl _)⟩
  | _ => exact q.elim⟩
end

section
variable {X : Cx} {G : Gh} {a b c e : Expr} {es : List Expr} {pos p p2 : Pos} {x : Str}
/-! ### chains -/
def tChainD (o o' : OpT) (ta tb tc : TD) : TD := fun E Q => ta E fun x E1 => tb E1 fun y E2 => o x y fun z => match z with
  | .bool true => tc E2 fun w E3 => o' y w fun r => Q r E3
  | .bool false => Q (.bool false) E2
  | _ => False
theorem ed_chain {op op' : CmpOp} {o o' : OpT} {ta tb tc : TD} (ho : OpD X (compareOp op) o) (ho' : OpD X (compareOp op') o') (ha : ED X G a ta) (hb : ED X G b tb) (hc : ED X G c tc)
    (h1 : lastMarks [op, op'] [b, c] = false := by with_unfolding_all rfl) : ED X G (.Compare a [op, op'] [b, c] pos) (tChainD o o' ta tb tc) := by
  obtain ⟨r, hr, hq⟩ := ho
  obtain ⟨r', hr', hq'⟩ := ho'
  refine ⟨PE.weak (pe_chain hr hr' ha.pe hb.pe hc.pe h1) fun σ H Q ⟨E, QE, rel, q, k⟩ => ⟨E, _, rel, q, fun x E1 v H1 q1 x1 r1 p1 => ⟨E1, _, r1, q1, fun y E2 u H2 q2 x2 r2 p2 => ?_⟩⟩⟩
  refine hq x y v u H2 _ _ (.inl (p1.ext x2)) (.inl p2) q2 fun z w H3 q3 px rz => ?_
  cases rz with
  | bl b =>
    refine ⟨b, rfl, ?_⟩
    cases b with
    | true =>
      refine iteT ⟨E2, _, r2.pext px, q3, fun c E3 w H4 q4 x4 r4 p4 => ?_⟩
      exact hq' y c u w H4 _ _ (.inl ((p2.ext px.ext).ext x4)) (.inl p4) q4 fun z w H5 q5 px5 rz5 => k _ _ _ _ q5 ((((x1.trans x2).trans px.ext).trans x4).trans px5.ext) (r4.pext px5) rz5
    | false => exact iteF (k _ _ _ _ q3 ((x1.trans x2).trans px.ext) (r2.pext px) (.bl false))
  | _ => exact q3.elim

/-! ### items -/
def atD (xs : List D) (i : Int) (Q : D → Prop) : Prop := match atI xs i with
  | some d => Q d
  | none => False
def opIx : OpT := fun x y Q => match x, y with
  | .list xs, .int i => atD xs i Q
  | .tuple xs, .int i => atD xs i Q
  | .str z, .int i => match atI z.cps.toList i with
    | some c => z.length ≤ sizeLine ∧ Q (.str ⟨#[c]⟩)
    | none => False
  | _, _ => False
theorem atI_rp {K : PySem.W.Frag} {H : Hp} {ds : List D} {vs : List V} {i : Int} {d : D} (l : RpL K H ds vs) (h : atI ds i = some d) : ∃ v, atI vs i = some v ∧ Rp K H d v := by
  unfold atI at h ⊢
  rw [l.length] at h
  cases q : ixN vs.length i with
  | none => rw [q] at h; cases h
  | some j =>
    rw [q] at h
    exact l.get h
theorem lift_ix {r : R2} {ta tb : TD} (hr : r = rIx X.K) (σ : St) (H : Hp) (Q : VK) (h : liftE X.K G (tOpD opIx ta tb) σ H Q) : tOp r (liftE X.K G ta) (liftR X.K G tb) σ H Q := by
  subst hr
  refine lift_bin (fun x y v u H QD Q hx hy q k => ?_) σ H Q h
  cases y with
  | int i =>
    rw [hy.int]
    cases x with
    | list xs =>
      obtain ⟨a, vs, rfl, hs, l⟩ := hx.list
      have q : atD xs i QD := q
      unfold atD at q
      split at q
      · rename_i d hd
        obtain ⟨v, hv, pv⟩ := atI_rp l hd
        exact .inl ⟨a, vs, i, v, rfl, rfl, hs, hv, k _ _ _ q (PExt.refl _) pv⟩
      · exact q.elim
    | tuple xs =>
      obtain ⟨a, vs, rfl, hs, l⟩ := hx.tuple
      have q : atD xs i QD := q
      unfold atD at q
      split at q
      · rename_i d hd
        obtain ⟨v, hv, pv⟩ := atI_rp l hd
        exact .inr (.inl ⟨a, vs, i, v, rfl, rfl, hs, hv, k _ _ _ q (PExt.refl _) pv⟩)
      · exact q.elim
    | str z =>
      rw [hx.str]
      have q : (match atI z.cps.toList i with
        | some c => z.length ≤ sizeLine ∧ QD (.str ⟨#[c]⟩)
        | none => False) := q
      split at q
      · rename_i c hc
        exact .inr (.inr ⟨z, i, c, rfl, rfl, q.1, hc, k _ _ _ q.2 (PExt.refl _) (.str _)⟩)
      · exact q.elim
    | _ => exact q.elim
  | _ => cases x <;> exact q.elim
theorem ed_ix {ta tb : TD} (ha : ED X G a ta) (hb : ED X G b tb) (hs : PlainIx b := by exact fun _ _ => rfl) : ED X G (.Subscript a b pos) (tOpD opIx ta tb) :=
  ⟨PE.weak (pe_ix ix_seq ha.pe hb.er.pe hs) fun σ H Q h => lift_ix rfl σ H Q h⟩
/-- an item of a list of one's own, at a name -/
def tIxO (i : Nat) (tb : TD) : TD := fun E Q => match E[i]? with
  | some (.ol _) => tb E fun y E1 => match E1[i]?, y with
    | some (.ol xs), .int k => atD xs k fun d => Q d E1
    | _, _ => False
  | _ => False
theorem ed_ixO (i : Nat) {tb : TD} (hb : ED X G b tb) (hN : X.N[i]? = some x := by rfl) (hv : Vis X.env.scope x := by first | exact Or.inl rfl | exact Or.inr (Or.inl rfl) | exact Or.inr (Or.inr rfl)) (hd : (x == ("__debug__" : Str)) = false := by decide)
    (hcd : (x == ("__classdict__" : Str)) = false := by decide) (hs : PlainIx b := by exact fun _ _ => rfl) : ED X G (.Subscript (.Name x p) b pos) (tIxO i tb) :=
  ⟨PE.weak (pe_ix ix_list (pe_var hN hv hd hcd) hb.pe hs) fun σ H Q ⟨E, QE, r, q, k⟩ => by
    unfold tIxO at q
    split at q
    · rename_i xs0 he0
      obtain ⟨l, vs0, e1, e2, e3⟩ := r.ol he0
      refine ⟨_, e1, E, _, r, q, fun d E1 v H1 q1 x1 r1 p1 => ?_⟩
      split at q1
      · rename_i o0 d0 xs j he
        cases p1
        obtain ⟨l', vs, f1, f2, f3⟩ := r1.ol he
        rw [e1] at f1; cases f1
        unfold atD at q1
        split at q1
        · rename_i d hd
          obtain ⟨v, hv, pv⟩ := atI_rp f3 hd
          exact ⟨l, vs, j, v, rfl, rfl, SqL.of f2, hv, k _ _ _ _ q1 x1 r1 pv⟩
        · exact q1.elim
      · exact q1.elim
    · exact q.elim⟩

/-! ### calls of builtins -/
abbrev CaT := List D → (D → Prop) → Prop
abbrev CaL := List D → (List D → Prop) → Prop
inductive RpRs (K : PySem.W.Frag) (H : Hp) : List D → List V → Prop
  | nil : RpRs K H [] []
  | cons {d : D} {v : V} {ds : List D} {vs : List V} : RpR K H d v → RpRs K H ds vs → RpRs K H (d :: ds) (v :: vs)
theorem RpRs.one {K : PySem.W.Frag} {H : Hp} {d : D} {vs : List V} (h : RpRs K H [d] vs) : ∃ v, vs = [v] ∧ RpR K H d v := by
  cases h with
  | cons h t => cases t; exact ⟨_, rfl, h⟩
theorem RpRs.two {K : PySem.W.Frag} {H : Hp} {d e : D} {vs : List V} (h : RpRs K H [d, e] vs) : ∃ v u, vs = [v, u] ∧ RpR K H d v ∧ RpR K H e u := by
  cases h with
  | cons h t => obtain ⟨u, rfl, hu⟩ := t.one; exact ⟨_, u, rfl, h, hu⟩
def CaD (X : Cx) (f : Value) (op : CaT) : Prop := ∃ r, CallR X f r ∧ ∀ ds vs H (QD : D → Prop) (Q : VK), RpRs X.K H ds vs → op ds QD → (∀ z w H', QD z → PExt H H' → Rp X.K H' z w → Q w H') → r vs H Q
/-- a new list is handed back -/
def CaLD (X : Cx) (f : Value) (op : CaL) : Prop := ∃ r, CallR X f r ∧ ∀ ds vs H (QD : List D → Prop) (Q : VK), RpRs X.K H ds vs → op ds QD → (∀ zs us p, QD zs → H p = none → RpL X.K H zs us → Q (.ref p) (upd H p (.lst us))) → r vs H Q
def tCa1 (op : CaT) (ta : TD) : TD := fun E Q => ta E fun x E1 => op [x] fun z => Q z E1
def tCa2 (op : CaT) (ta tb : TD) : TD := fun E Q => ta E fun x E1 => tb E1 fun y E2 => op [x, y] fun z => Q z E2
def tCaL1 (op : CaL) (ta : TD) : TLd := fun E Q => ta E fun x E1 => op [x] fun z => Q z E1
section
variable {id : String} {op : CaT} {opl : CaL} {ta tb : TD}
theorem lift_ca1 {r : List V → Hp → VK → Prop} (hq : ∀ ds vs H (QD : D → Prop) (Q : VK), RpRs X.K H ds vs → op ds QD → (∀ z w H', QD z → PExt H H' → Rp X.K H' z w → Q w H') → r vs H Q)
    (σ : St) (H : Hp) (Q : VK) (h : liftE X.K G (tCa1 op ta) σ H Q) : tCB r (tCons (liftR X.K G ta) tNil) σ H Q := by
  obtain ⟨E, QE, rel, q, k⟩ := h
  refine ⟨E, _, rel, q, fun x E1 v H1 q1 x1 r1 p1 => ?_⟩
  exact hq [x] [v] H1 _ Q (.cons p1 .nil) q1 fun z w H3 q3 p3 rz => k z E1 w H3 q3 (x1.trans p3.ext) (r1.pext p3) rz
theorem ed_ca1 (hc : CaD X (.builtin id) op) (ha : ER X G a ta) (hg : Gl X x) (hm : X.mg x = none) (hv : bootBuiltins x = some (.builtin id)) (hn : x ≠ "__name__" := by decide) (hdb : (x == ("__debug__" : Str)) = false := by decide)
    (hs : starEach [a] X.env = (false, eval a X.env) :: starEach [] X.env := by rfl) (hpl : (backTo pos (starEach [] X.env)).any (·.1) = false := by rfl) : ED X G (.Call (.Name x p) [a] [] pos) (tCa1 op ta) := by
  obtain ⟨r, hr, hq⟩ := hc
  exact ⟨PE.weak (pe_callB hr hg hm hv (pa_cons ha.pe pa_nil hs) hn hdb hs hpl) fun σ H Q h => lift_ca1 hq σ H Q h⟩
theorem ed_caT1 (hc : CaD X (.type id) op) (ha : ER X G a ta) (hg : Gl X x) (hm : X.mg x = none) (hv : bootBuiltins x = some (.type id)) (hn : x ≠ "__name__" := by decide) (hdb : (x == ("__debug__" : Str)) = false := by decide)
    (hs : starEach [a] X.env = (false, eval a X.env) :: starEach [] X.env := by rfl) (hpl : (backTo pos (starEach [] X.env)).any (·.1) = false := by rfl) : ED X G (.Call (.Name x p) [a] [] pos) (tCa1 op ta) := by
  obtain ⟨r, hr, hq⟩ := hc
  exact ⟨PE.weak (pe_callTy hr hg hm hv (pa_cons ha.pe pa_nil hs) hn hdb hs hpl) fun σ H Q h => lift_ca1 hq σ H Q h⟩
theorem ed_ca2 (hc : CaD X (.builtin id) op) (ha : ED X G a ta) (hb : ER X G b tb) (hg : Gl X x) (hm : X.mg x = none) (hv : bootBuiltins x = some (.builtin id)) (hn : x ≠ "__name__" := by decide) (hdb : (x == ("__debug__" : Str)) = false := by decide)
    (hs : starEach [a, b] X.env = (false, eval a X.env) :: starEach [b] X.env := by rfl) (hs2 : starEach [b] X.env = (false, eval b X.env) :: starEach [] X.env := by rfl) (hpl : (backTo pos (starEach [b] X.env)).any (·.1) = false := by rfl) : ED X G (.Call (.Name x p) [a, b] [] pos) (tCa2 op ta tb) := by
  obtain ⟨r, hr, hq⟩ := hc
  refine ⟨PE.weak (pe_callB hr hg hm hv (pa_cons ha.pe (pa_cons hb.pe pa_nil hs2) hs) hn hdb hs hpl) fun σ H Q ⟨E, QE, rel, q, k⟩ => ⟨E, _, rel, q, fun x E1 v H1 q1 x1 r1 p1 => ⟨E1, _, r1, q1, fun y E2 u H2 q2 x2 r2 p2 => ?_⟩⟩⟩
  exact hq [x, y] [v, u] H2 _ Q (.cons (.inl (p1.ext x2)) (.cons p2 .nil)) q2 fun z w H3 q3 p3 rz => k z E2 w H3 q3 ((x1.trans x2).trans p3.ext) (r2.pext p3) rz
theorem lift_caL1 {r : List V → Hp → VK → Prop} (hq : ∀ ds vs H (QD : List D → Prop) (Q : VK), RpRs X.K H ds vs → opl ds QD → (∀ zs us p, QD zs → H p = none → RpL X.K H zs us → Q (.ref p) (upd H p (.lst us))) → r vs H Q)
    (σ : St) (H : Hp) (Q : VK) (h : liftL X.K G (tCaL1 opl ta) σ H Q) : tCB r (tCons (liftR X.K G ta) tNil) σ H Q := by
  obtain ⟨E, QE, rel, q, k⟩ := h
  refine ⟨E, _, rel, q, fun x E1 v H1 q1 x1 r1 p1 => ?_⟩
  refine hq [x] [v] H1 _ Q (.cons p1 .nil) q1 fun zs us p q3 hp rz => ?_
  obtain ⟨r2, h0, na⟩ := r1.fresh (o := .lst us) hp
  exact k zs E1 p us _ q3 (x1.trans (PExt.new hp).ext) r2 h0 na upd_same (rz.ext (PExt.new hp).ext)
theorem el_ca1 (hc : CaLD X (.builtin id) opl) (ha : ER X G a ta) (hg : Gl X x) (hm : X.mg x = none) (hv : bootBuiltins x = some (.builtin id)) (hn : x ≠ "__name__" := by decide) (hdb : (x == ("__debug__" : Str)) = false := by decide)
    (hs : starEach [a] X.env = (false, eval a X.env) :: starEach [] X.env := by rfl) (hpl : (backTo pos (starEach [] X.env)).any (·.1) = false := by rfl) : EL X G (.Call (.Name x p) [a] [] pos) (tCaL1 opl ta) := by
  obtain ⟨r, hr, hq⟩ := hc
  exact ⟨PE.weak (pe_callB hr hg hm hv (pa_cons ha.pe pa_nil hs) hn hdb hs hpl) fun σ H Q h => lift_caL1 hq σ H Q h⟩
theorem el_caT1 (hc : CaLD X (.type id) opl) (ha : ER X G a ta) (hg : Gl X x) (hm : X.mg x = none) (hv : bootBuiltins x = some (.type id)) (hn : x ≠ "__name__" := by decide) (hdb : (x == ("__debug__" : Str)) = false := by decide)
    (hs : starEach [a] X.env = (false, eval a X.env) :: starEach [] X.env := by rfl) (hpl : (backTo pos (starEach [] X.env)).any (·.1) = false := by rfl) : EL X G (.Call (.Name x p) [a] [] pos) (tCaL1 opl ta) := by
  obtain ⟨r, hr, hq⟩ := hc
  exact ⟨PE.weak (pe_callTy hr hg hm hv (pa_cons ha.pe pa_nil hs) hn hdb hs hpl) fun σ H Q h => lift_caL1 hq σ H Q h⟩
end
/-! len, abs, max, min, sum, all, tuple, list, int -/
def caLen : CaT := fun ds Q => match ds with
  | [.list xs] => Q (.int xs.length)
  | [.tuple xs] => Q (.int xs.length)
  | [.str z] => z.length ≤ sizeLine ∧ Q (.int z.length)
  | _ => False
theorem cd_len : CaD X (.builtin "len") caLen := by
  refine ⟨_, (show CallR X (.builtin "len") (fun xs H Q => (∃ p ys, xs = [.ref p] ∧ (SqL X.K H p ys ∨ SqT X.K H p ys) ∧ Q (.int ys.length) H) ∨ ∃ z, xs = [.str z] ∧ z.length ≤ sizeLine ∧ Q (.int z.length) H) from fun pins s σ H vs us Q I r h => by
    rcases h with h | h
    · exact call_len_seq pins s σ H vs us Q I r h
    · exact call_len_str pins s σ H vs us Q I r h), fun ds vs H QD Q hd q k => ?_⟩
  match ds, q, hd with
  | [.list xs], q, hd =>
    obtain ⟨v, rfl, h⟩ := hd.one
    obtain ⟨a, us, rfl, hs, l⟩ := h.list
    exact .inl ⟨a, us, rfl, .inl hs, by rw [← l.length]; exact k _ _ _ q (PExt.refl _) (.int _)⟩
  | [.tuple xs], q, hd =>
    obtain ⟨v, rfl, h⟩ := hd.one
    obtain ⟨a, us, rfl, hs, l⟩ := h.tuple
    exact .inl ⟨a, us, rfl, .inr hs, by rw [← l.length]; exact k _ _ _ q (PExt.refl _) (.int _)⟩
  | [.str z], q, hd =>
    obtain ⟨v, rfl, h⟩ := hd.one
    rw [h.str]
    exact .inr ⟨z, rfl, q.1, k _ _ _ q.2 (PExt.refl _) (.int _)⟩
def caAbs : CaT := fun ds Q => match ds with
  | [.int i] => Q (.int (if i < 0 then -i else i))
  | _ => False
theorem cd_abs : CaD X (.builtin "abs") caAbs := ⟨_, call_abs, fun ds vs H QD Q hd q k => by
  match ds, q, hd with
  | [.int i], q, hd =>
    obtain ⟨v, rfl, h⟩ := hd.one
    rw [h.int]
    exact ⟨i, rfl, k _ _ _ q (PExt.refl _) (.int _)⟩⟩
def caMax2 : CaT := fun ds Q => match ds with
  | [.int i, .int j] => Q (.int (if j > i then j else i))
  | _ => False
theorem cd_max2 (hc : X.calm = true) : CaD X (.builtin "max") caMax2 := ⟨_, call_max2 hc, fun ds vs H QD Q hd q k => by
  match ds, q, hd with
  | [.int i, .int j], q, hd =>
    obtain ⟨v, u, rfl, h, h'⟩ := hd.two
    rw [h.int, h'.int]
    exact ⟨i, j, rfl, k _ _ _ q (PExt.refl _) (.int _)⟩⟩
def caMin2 : CaT := fun ds Q => match ds with
  | [.int i, .int j] => Q (.int (if j < i then j else i))
  | _ => False
theorem cd_min2 (hc : X.calm = true) : CaD X (.builtin "min") caMin2 := ⟨_, call_min2 hc, fun ds vs H QD Q hd q k => by
  match ds, q, hd with
  | [.int i, .int j], q, hd =>
    obtain ⟨v, u, rfl, h, h'⟩ := hd.two
    rw [h.int, h'.int]
    exact ⟨i, j, rfl, k _ _ _ q (PExt.refl _) (.int _)⟩⟩
/-- ints of data -/
def intsOf : List D → Option (List Int)
  | [] => some []
  | .int i :: ds => (intsOf ds).map (i :: ·)
  | _ :: _ => none
theorem intsOf_map : ∀ {ds : List D} {ns : List Int}, intsOf ds = some ns → ds = ns.map PyData.int
  | [], ns, h => by cases h; rfl
  | .int i :: ds, ns, h => by
    unfold intsOf at h
    cases q : intsOf ds with
    | none => rw [q] at h; cases h
    | some m => rw [q] at h; cases h; rw [List.map_cons, ← intsOf_map q]
  | .none :: _, _, h => by cases h
  | .bool _ :: _, _, h => by cases h
  | .str _ :: _, _, h => by cases h
  | .list _ :: _, _, h => by cases h
  | .tuple _ :: _, _, h => by cases h
  | .dict _ :: _, _, h => by cases h
theorem intsOf_ints : ∀ (ns : List Int), intsOf (ns.map PyData.int) = some ns
  | [] => rfl
  | n :: ns => by show (intsOf (ns.map PyData.int)).map (n :: ·) = _; rw [intsOf_ints ns]; rfl
def boolsOf : List D → Option (List Bool)
  | [] => some []
  | .bool i :: ds => (boolsOf ds).map (i :: ·)
  | _ :: _ => none
theorem boolsOf_map : ∀ {ds : List D} {ns : List Bool}, boolsOf ds = some ns → ds = ns.map PyData.bool
  | [], ns, h => by cases h; rfl
  | .bool i :: ds, ns, h => by
    unfold boolsOf at h
    cases q : boolsOf ds with
    | none => rw [q] at h; cases h
    | some m => rw [q] at h; cases h; rw [List.map_cons, ← boolsOf_map q]
  | .none :: _, _, h => by cases h
  | .int _ :: _, _, h => by cases h
  | .str _ :: _, _, h => by cases h
  | .list _ :: _, _, h => by cases h
  | .tuple _ :: _, _, h => by cases h
  | .dict _ :: _, _, h => by cases h
theorem boolsOf_bools : ∀ (ns : List Bool), boolsOf (ns.map PyData.bool) = some ns
  | [] => rfl
  | n :: ns => by show (boolsOf (ns.map PyData.bool)).map (n :: ·) = _; rw [boolsOf_bools ns]; rfl
theorem RpL.bools {K : PySem.W.Frag} {H : Hp} : ∀ {ns : List Bool} {vs : List V}, RpL K H (ns.map PyData.bool) vs → vs = ns.map V.bl
  | [], _, .nil => rfl
  | _ :: _, _, .cons (.bl _) t => by rw [RpL.bools t]; rfl
def caSum : CaT := fun ds Q => match ds with
  | [.list xs] => ∃ ns : List Int, xs = ns.map PyData.int ∧ Q (.int ns.sum)
  | _ => False
theorem cd_sum (hc : X.calm = true) : CaD X (.builtin "sum") caSum := ⟨_, cr_sum hc, fun ds vs H QD Q hd q k => by
  match ds, q, hd with
  | [.list xs], q, hd =>
    obtain ⟨ns, rfl, q⟩ := q
    obtain ⟨v, rfl, h⟩ := hd.one
    obtain ⟨a, us, rfl, hs, l⟩ := h.list
    have := l.ints; subst this
    exact ⟨a, ns, rfl, hs, k _ _ _ q (PExt.refl _) (.int _)⟩⟩
def caMax : CaT := fun ds Q => match ds with
  | [.list xs] => ∃ ns : List Int, xs = ns.map PyData.int ∧ 0 < ns.length ∧ ∀ m, m ∈ ns → (∀ y, y ∈ ns → y ≤ m) → Q (.int m)
  | _ => False
theorem cd_max (hc : X.calm = true) : CaD X (.builtin "max") caMax := ⟨_, cr_max hc, fun ds vs H QD Q hd q k => by
  match ds, q, hd with
  | [.list xs], q, hd =>
    obtain ⟨ns, rfl, hl, q⟩ := q
    obtain ⟨v, rfl, h⟩ := hd.one
    obtain ⟨a, us, rfl, hs, l⟩ := h.list
    have := l.ints; subst this
    exact ⟨a, ns, rfl, hs, hl, fun m h1 h2 => k _ _ _ (q m h1 h2) (PExt.refl _) (.int _)⟩⟩
def caMin : CaT := fun ds Q => match ds with
  | [.list xs] => ∃ ns : List Int, xs = ns.map PyData.int ∧ 0 < ns.length ∧ ∀ m, m ∈ ns → (∀ y, y ∈ ns → m ≤ y) → Q (.int m)
  | _ => False
theorem cd_min (hc : X.calm = true) : CaD X (.builtin "min") caMin := ⟨_, cr_min hc, fun ds vs H QD Q hd q k => by
  match ds, q, hd with
  | [.list xs], q, hd =>
    obtain ⟨ns, rfl, hl, q⟩ := q
    obtain ⟨v, rfl, h⟩ := hd.one
    obtain ⟨a, us, rfl, hs, l⟩ := h.list
    have := l.ints; subst this
    exact ⟨a, ns, rfl, hs, hl, fun m h1 h2 => k _ _ _ (q m h1 h2) (PExt.refl _) (.int _)⟩⟩
def caAll : CaT := fun ds Q => match ds with
  | [.list xs] => ∃ bs : List Bool, xs = bs.map PyData.bool ∧ Q (.bool (bs.all id))
  | _ => False
theorem cd_all (hc : X.calm = true) : CaD X (.builtin "all") caAll := ⟨_, cr_all hc, fun ds vs H QD Q hd q k => by
  match ds, q, hd with
  | [.list xs], q, hd =>
    obtain ⟨bs, rfl, q⟩ := q
    obtain ⟨v, rfl, h⟩ := hd.one
    obtain ⟨a, us, rfl, hs, l⟩ := h.list
    have := l.bools; subst this
    exact ⟨a, bs, rfl, hs, k _ _ _ q (PExt.refl _) (.bl _)⟩⟩
def caTuple : CaT := fun ds Q => match ds with
  | [.list xs] => Q (.tuple xs)
  | [.tuple xs] => Q (.tuple xs)
  | _ => False
theorem cd_tuple : CaD X (.type "tuple") caTuple := ⟨_, call_tupF, fun ds vs H QD Q hd q k => by
  match ds, q, hd with
  | [.list xs], q, hd =>
    obtain ⟨v, rfl, h⟩ := hd.one
    obtain ⟨a, us, rfl, hs, l⟩ := h.list
    exact ⟨a, us, rfl, .inl ⟨hs, fun p o hp ho => k _ _ _ q (PExt.new hp) (.tup (.new ho) (l.ext (PExt.new hp).ext))⟩⟩
  | [.tuple xs], q, hd =>
    obtain ⟨v, rfl, h⟩ := hd.one
    obtain ⟨a, us, rfl, hs, l⟩ := h.tupD
    exact ⟨a, us, rfl, .inr ⟨hs.1, k _ _ _ q (PExt.refl _) (.tup hs l)⟩⟩⟩
def caList : CaL := fun ds Q => match ds with
  | [.list xs] => Q xs
  | [.tuple xs] => Q xs
  | _ => False
theorem cd_list : CaLD X (.type "list") caList := ⟨_, call_list_of, fun ds vs H QD Q hd q k => by
  match ds, q, hd with
  | [.list xs], q, hd =>
    obtain ⟨v, rfl, h⟩ := hd.one
    obtain ⟨a, us, rfl, hs, l⟩ := h.list
    exact ⟨a, us, rfl, .inl hs, fun p hp => k _ _ _ q hp l⟩
  | [.tuple xs], q, hd =>
    obtain ⟨v, rfl, h⟩ := hd.one
    obtain ⟨a, us, rfl, hs, l⟩ := h.tuple
    exact ⟨a, us, rfl, .inr hs, fun p hp => k _ _ _ q hp l⟩⟩
def caInt : CaT := fun ds Q => match ds with
  | [.int i] => Q (.int i)
  | [.bool b] => Q (.int (if b then 1 else 0))
  | _ => False
theorem cd_int : CaD X (.type "int") caInt := ⟨_, call_int1, fun ds vs H QD Q hd q k => by
  match ds, q, hd with
  | [.int i], q, hd =>
    obtain ⟨v, rfl, h⟩ := hd.one
    rw [h.int]; exact .inl ⟨i, rfl, k _ _ _ q (PExt.refl _) (.int _)⟩
  | [.bool b], q, hd =>
    obtain ⟨v, rfl, h⟩ := hd.one
    rw [h.bool]; exact .inr ⟨b, rfl, k _ _ _ q (PExt.refl _) (.int _)⟩⟩
end
end DL

set_option Elab.async false
set_option linter.all false
set_option maxRecDepth 100000
set_option maxHeartbeats 1000000
namespace DL
open PySem PySem.Spec PyProof.Rows L2

section
variable {X : Cx} {G : Gh} {a b c e : Expr} {es : List Expr} {pos p p1 p2 p3 : Pos} {x : Str}
/-- a list whose object is plain -/
def LsP (K : PySem.W.Frag) (H : Hp) (a : Addr) (vs : List V) : Prop := H a = some (.lst vs) ∨ LsF K H a vs
theorem LsP.at {K : PySem.W.Frag} {H : Hp} {a : Addr} {vs : List V} {P : Program} {w : World} {h : Heap} (l : LsP K H a vs) (hok : HOk P w H h) (KX : K.In h) : vs.length ≤ sizeLine ∧ ∃ (its : List Value) (n : Nat), Vals vs its ∧ h.get? a = some { cls := .type "list", data := .seq its.toArray n } := by
  rcases l with l | ⟨o, l⟩ | ⟨its, n, e, z, r⟩
  · exact Rd.ok (.inl l) hok
  · exact Rd.ok (.inr ⟨o, l⟩) hok
  · refine ⟨?_, its.toList, n, r, by have := KX _ _ e; simpa using this⟩
    have e2 := r.length
    simp only [Array.length_toList] at e2
    omega
theorem RpR.listR {K : PySem.W.Frag} {H : Hp} {ds : List D} {v : V} (h : RpR K H (.list ds) v) : ∃ a vs, v = .ref a ∧ LsP K H a vs ∧ RpL K H ds vs := by
  rcases h with h | ⟨ds, a, vs, e, rfl, h, l⟩
  · cases h with
    | lst h l => exact ⟨_, _, rfl, .inr h, l⟩
  · cases e
    exact ⟨_, _, rfl, .inl h, l⟩
/-! ### list + list, list * int: new lists -/
def OpLD (X : Cx) (f : Value → Value → Sem Value) (op : D → D → (List D → Prop) → Prop) : Prop := ∃ r : R2, OpR X f r ∧
  ∀ x y v u H (QD : List D → Prop) (Q : VK), RpR X.K H x v → RpR X.K H y u → op x y QD → (∀ zs us q, QD zs → H q = none → RpL X.K H zs us → Q (.ref q) (upd H q (.lst us))) → r v u H Q
def tOpL (op : D → D → (List D → Prop) → Prop) (ta tb : TD) : TLd := fun E Q => ta E fun x E1 => tb E1 fun y E2 => op x y fun z => Q z E2
theorem el_op {op : Operator} {o : D → D → (List D → Prop) → Prop} {ta tb : TD} (ho : OpLD X (binaryOp op) o) (ha : ED X G a ta) (hb : ER X G b tb) : EL X G (.BinOp a op b pos) (tOpL o ta tb) := by
  obtain ⟨r, hr, hq⟩ := ho
  refine ⟨PE.weak (pe_op hr ha.pe hb.pe) fun σ H Q ⟨E, QE, rel, q, k⟩ => ⟨E, _, rel, q, fun x E1 v H1 q1 x1 r1 p1 => ⟨E1, _, r1, q1, fun y E2 u H2 q2 x2 r2 p2 => ?_⟩⟩⟩
  refine hq x y v u H2 _ Q (.inl (p1.ext x2)) p2 q2 fun zs us q3 qz hp rz => ?_
  obtain ⟨r3, h0, na⟩ := r2.fresh (o := .lst us) hp
  exact k zs E2 q3 us _ qz ((x1.trans x2).trans (PExt.new hp).ext) r3 h0 na upd_same (rz.ext (PExt.new hp).ext)
theorem op_catR : OpR X (binaryOp .Add) (fun x y H Q => ∃ l b xs zs, x = .ref l ∧ y = .ref b ∧ LsP X.K H l xs ∧ LsP X.K H b zs ∧ xs.length + zs.length ≤ sizeLine ∧ ∀ p, H p = none → Q (.ref p) (upd H p (.lst (xs ++ zs)))) := by
  intro pins s σ H x y v u Q I rx ry h
  obtain ⟨l, b, xs, zs, rfl, rfl, hH, hB, hz, q⟩ := h
  cases rx
  cases ry
  obtain ⟨z, its, n, r, e⟩ := hH.at I.hok I.kIn
  obtain ⟨z2, its2, n2, r2, e2⟩ := hB.at I.hok I.kIn
  have hl := r.length
  have hl2 := r2.length
  refine PySem.P.add_list e e2 ?_ (by rw [List.size_toArray, List.size_toArray]; omega)
  have ea : its.toArray ++ its2.toArray = (its ++ its2).toArray := by simp
  rw [ea]
  exact ⟨.ref _, _, I.lnew (t' := s.toks) (r.append r2) (by rw [List.length_append]; omega), rfl, q _ I.fresh⟩
def opCat : D → D → (List D → Prop) → Prop := fun x y Q => match x, y with
  | .list xs, .list ys => xs.length + ys.length ≤ sizeLine ∧ Q (xs ++ ys)
  | _, _ => False
theorem od_cat : OpLD X (binaryOp .Add) opCat := ⟨_, op_catR, fun x y v u H QD Q hx hy q k => by
  cases x with
  | list xs =>
    cases y with
    | list ys =>
      obtain ⟨a, vs, rfl, sa, la⟩ := hx.listR
      obtain ⟨b, us, rfl, sb, lb⟩ := hy.listR
      exact ⟨a, b, vs, us, rfl, rfl, sa, sb, by rw [← la.length, ← lb.length]; exact q.1, fun p hp => k _ _ _ q.2 hp (la.append lb)⟩
    | _ => exact q.elim
  | _ => exact q.elim⟩
theorem op_repR : OpR X (binaryOp .Mult) (fun x y H Q => ∃ l k xs, x = .ref l ∧ y = .int k ∧ LsP X.K H l xs ∧ -(2 ^ 63) ≤ k ∧ k < 2 ^ 63 ∧ xs.length * k.toNat ≤ sizeLine ∧
  ∀ p, H p = none → Q (.ref p) (upd H p (.lst (List.replicate k.toNat xs).flatten))) := by
  intro pins s σ H x y v u Q I rx ry h
  obtain ⟨l, k, xs, rfl, rfl, hH, h1, h2, hz, q⟩ := h
  cases rx
  obtain ⟨t, rfl⟩ := ry
  obtain ⟨z, its, n, r, e⟩ := hH.at I.hok I.kIn
  have hl := r.length
  have hlen : its.toArray.size * k.toNat ≤ sizeLine := by rw [List.size_toArray, ← hl]; exact hz
  have hcap : ¬ its.toArray.size * k.toNat > (2 ^ 63 - 1) / 8 := by
    have : (sizeLine : Nat) ≤ (2 ^ 63 - 1) / 8 := by decide
    omega
  have hfit : ¬ (!Builtin.List.listFitsIndex k) = true := by
    rw [fitsIndex_both h1 h2]
    exact Bool.false_ne_true
  have hlong : ¬ Builtin.List.listTooLong (its.toArray.size * k.toNat) = true := by
    rw [notLongL hlen]
    exact Bool.false_ne_true
  have hnew : List.foldl (fun x1 x2 => x1 ++ x2) #[] (List.replicate (if its.toArray.isEmpty = true then 0 else k.toNat) its.toArray) = (List.replicate k.toNat its).flatten.toArray := by
    have f0 : ∀ m : Nat, List.foldl (fun x1 x2 => x1 ++ x2) #[] (List.replicate m its.toArray) = (List.replicate m its).flatten.toArray := fun m => by
      have := foldl_rep its m []
      rw [List.nil_append] at this
      exact this
    rw [f0]
    cases its with
    | nil => simp
    | cons a r' => rw [if_neg (by simp)]
  refine wpAny_binaryOp_repeat_ref (T := "list") (U := "int") (by decide) ⟨_, e, rfl⟩ (fun s' => typeIs_int s' k t) noFill_list_mul F.fills_int_mul F.slot_int_rmul repeat_list F.slot_int_index.lookup
    (call_meets F.slot_int_rmul (typeIs_int s k t) F.entry_int_rmul (F.args_int_rmul_2 _ _) (int___rmul___int_list k t l its.toArray n)
      ⟨e, rfl, ⟨_, e, rfl⟩, call_meets F.slot_list_mul ⟨_, e, rfl⟩ F.entry_list_mul (F.args_list_mul_2 _ _) (AutoListH.list___mul___list_int_3 l its.toArray n k t hfit hcap hlong) ⟨e, ?_⟩⟩)
  rw [hnew]
  exact ⟨.ref _, _, I.lnew (t' := s.toks) (r.rep k.toNat) (by rw [PyProof.Rows.lm_len_rep_flat, Nat.mul_comm]; exact hz), rfl, q _ I.fresh⟩
def opRep : D → D → (List D → Prop) → Prop := fun x y Q => match x, y with
  | .list xs, .int k => (-(2 ^ 63) ≤ k ∧ k < 2 ^ 63 ∧ xs.length * k.toNat ≤ sizeLine) ∧ Q (List.replicate k.toNat xs).flatten
  | _, _ => False
theorem RpL.rep {K : PySem.W.Frag} {H : Hp} {ds : List D} {vs : List V} (l : RpL K H ds vs) : ∀ n : Nat, RpL K H (List.replicate n ds).flatten (List.replicate n vs).flatten
  | 0 => .nil
  | n + 1 => by rw [List.replicate_succ, List.replicate_succ, List.flatten_cons, List.flatten_cons]; exact l.append (RpL.rep l n)
theorem od_rep : OpLD X (binaryOp .Mult) opRep := ⟨_, op_repR, fun x y v u H QD Q hx hy q k => by
  cases x with
  | list xs =>
    cases y with
    | int j =>
      obtain ⟨a, vs, rfl, sa, la⟩ := hx.listR
      rw [hy.int]
      exact ⟨a, j, vs, rfl, rfl, sa, q.1.1, q.1.2.1, by rw [← la.length]; exact q.1.2.2, fun p hp => k _ _ _ q.2 hp (la.rep _)⟩
    | _ => exact q.elim
  | _ => exact q.elim⟩

/-! ### slices -/
def cutD (xs : List D) (lo hi : Option Int) : List D := (xs.drop (HT.sIx xs.length 0 lo)).take (HT.sIx xs.length xs.length hi - HT.sIx xs.length 0 lo)
theorem RpL.cut {K : PySem.W.Frag} {H : Hp} {ds : List D} {vs : List V} (l : RpL K H ds vs) (lo hi : Option Int) : RpL K H (cutD ds lo hi) (cutV vs lo hi) := by
  unfold cutD cutV
  rw [l.length]
  exact (l.drop _).take _
abbrev TOd := Env → (Option Int → Env → Prop) → Prop
def liftO (K : PySem.W.Frag) (G : Gh) (t : TOd) : TO := fun σ H Q => ∃ (E : Env) (QE : Option Int → Env → Prop), RelE K G H E σ ∧ t E QE ∧ ∀ o E' H', QE o E' → Ext H H' → RelE K G H' E' σ → Q o H'
structure EO (X : Cx) (G : Gh) (e : Option Expr) (t : TOd) : Prop where
  po : PO X e (liftO X.K G t)
theorem PO.weak {e : Option Expr} {t u : TO} (h : PO X e t) (w : ∀ σ H Q, u σ H Q → t σ H Q) : PO X e u := ⟨fun pins s σ H Q I q => h.run pins s σ H Q I (w σ H Q q)⟩
def oNo : TOd := fun E Q => Q none E
def oE (t : TD) : TOd := fun E Q => t E fun d E1 => match d with
  | .int i => Q (some i) E1
  | _ => False
theorem eo_no : EO X G none oNo := ⟨PO.weak po_none fun σ H Q ⟨E, QE, r, q, k⟩ => k _ _ _ q (Ext.refl _) r⟩
theorem eo_e {t : TD} (h : ED X G e t) : EO X G (some e) (oE t) := ⟨PO.weak (po_some h.pe) fun σ H Q ⟨E, QE, r, q, k⟩ => ⟨E, _, r, q, fun d E1 v H1 q1 x1 r1 p1 => by
  cases p1 with
  | int i => exact ⟨i, rfl, k _ _ _ q1 x1 r1⟩
  | _ => exact q1.elim⟩⟩
/-- t[lo:hi], the whole: t itself -/
theorem whole_tuple {prog : Program} {w : World} {A : Around} {E : Value → Shared → Prop} {s : Shared} {t sl : Addr} {items : Array Value} {vl vu : Value} {lo hi : Option Int} {Q : Value → Shared → Prop} (ht : IsTup s.heap t items) (hs : s.heap.IsSliceOf sl vl vu .none) (pl : IsPart vl lo) (pu : IsPart vu hi)
    (hw : HT.sIx items.size 0 lo = 0 ∧ HT.sIx items.size items.size hi = items.size) (h : Q (.ref t) s) : wpAny (model prog w) A (getItem (.ref t) (.ref sl)) Q E s := by
  obtain ⟨os, hos, hcs, hds⟩ := id hs
  have hTs : s.TypeIs (.ref sl) "slice" := ⟨os, hos, hcs⟩
  unfold getItem
  try with_reducible refine wpAny_holding ?_
  first | refine wpAny_bind (wpAny_pure ?_) | skip
  refine wpAny_bind (wpAny_sequenceKey ht.typeIs (by decide) ?_)
  refine wpAny_bind (wpAny_callSpecial?_slot (name := Str.ofString "__getitem__") ht.typeIs PyProof.Rows.slot_tuple_getitem
    (wpAny_call_entry PyProof.Rows.slot_tuple_getitem ht.typeIs entry_tuple_getitem ?_ (args_tuple_getitem _ _)))
  show wpAny _ _ (Builtin.Tuple.tupleItemsOf (.ref t) >>= _) _ _ s
  refine wpAny_bind (tupleItemsOf_ ht ?_)
  refine wpAny_bind (wpAny_typeOf hTs ?_)
  rw [if_pos (by decide)]
  refine wpAny_bind (HT.sliceApplied_gen hs pl pu ?_)
  have hyes : (((HT.sIx items.size 0 lo : Nat) : Int) == 0 && (1 : Int) == 1 && (HT.sIx items.size items.size hi - HT.sIx items.size 0 lo) == items.size) = true := by
    rw [hw.1, hw.2]; simp
  show wpAny _ _ (if (((HT.sIx items.size 0 lo : Nat) : Int) == 0 && (1 : Int) == 1 && (HT.sIx items.size items.size hi - HT.sIx items.size 0 lo) == items.size) = true then _ else _) _ _ s
  rw [if_pos hyes]
  refine wpAny_bind ?_
  · unfold Builtin.Tuple.tupleIsExact
    refine wpAny_bind (wpAny_typeOf ht.typeIs (wpAny_pure ?_))
    rw [if_pos (by decide)]
    exact wpAny_bind (wpAny_rule (wpAny_pure ⟨_, rfl, wpAny_pure h⟩))
theorem sl_tupW : SlR X (fun x lo hi H Q => ∃ a xs, x = .ref a ∧ SqT X.K H a xs ∧ (HT.sIx xs.length 0 lo = 0 ∧ HT.sIx xs.length xs.length hi = xs.length) ∧ Q (.ref a) H) := by
  intro pins s σ H x v vl vu lo hi sl Q I rx hs pl pu h
  obtain ⟨a, xs, rfl, hx, hw, q⟩ := h
  cases rx
  obtain ⟨its, r, ht, hz⟩ := I.tuple hx
  have hlen : its.toArray.size = xs.length := by rw [List.size_toArray]; exact r.length.symm
  refine ⟨"tuple", _, PyProof.Rows.slot_tuple_getitem.lookup, ht.typeIs, ?_⟩
  exact whole_tuple ht hs pl pu (by rw [hlen]; exact hw) ⟨.ref a, H, I, rfl, q⟩
/-- t[lo:hi], not the whole: a new, plain tuple -/
theorem sl_tupF : SlR X (fun x lo hi H Q => ∃ a xs, x = .ref a ∧ SqT X.K H a xs ∧ ¬ (HT.sIx xs.length 0 lo = 0 ∧ HT.sIx xs.length xs.length hi = xs.length) ∧ ∀ p o, H p = none → o.dict = none → Q (.ref p) (upd H p (.frz o (.tup (cutV xs lo hi))))) := by
  intro pins s σ H x v vl vu lo hi sl Q I rx hs pl pu h
  obtain ⟨a, xs, rfl, hx, hw, q⟩ := h
  cases rx
  obtain ⟨its, r, ht, hz⟩ := I.tuple hx
  have hlen : its.toArray.size = xs.length := by rw [List.size_toArray]; exact r.length.symm
  refine ⟨"tuple", _, PyProof.Rows.slot_tuple_getitem.lookup, ht.typeIs, HT.getItem_tuple_cut ht hs pl pu (by rw [hlen]; exact hw) ?_ (by rw [hlen]; exact hz)⟩
  rw [hlen]
  exact ⟨.ref s.heap.objs.size, _, I.laid (t' := s.toks) (o := .frz _ (.tup (cutV xs lo hi))) (fun b ob q => Heap.get?_push_of_some _ q) (Nat.le_refl _) ⟨Heap.get?_push_size _ rfl, Nat.le_trans (cutV_length xs lo hi) hz, _, (r.drop (HT.sIx xs.length 0 lo)).take (HT.sIx xs.length xs.length hi - HT.sIx xs.length 0 lo), IsTup.new _ _⟩, rfl, q _ _ (I.hok.fresh (Nat.le_refl _)) rfl⟩
def slD (x : D) (lo hi : Option Int) (Q : D → Prop) : Prop := match x with
  | .tuple xs => Q (.tuple (cutD xs lo hi))
  | .str z => z.length ≤ sizeLine ∧ Q (.str (cutS z lo hi))
  | _ => False
def tSlD (ta : TD) (tl th : TOd) : TD := fun E Q => ta E fun x E1 => tl E1 fun l E2 => th E2 fun u E3 => slD x l u fun z => Q z E3
theorem cut_whole {xs : List D} {lo hi : Option Int} (h : HT.sIx xs.length 0 lo = 0 ∧ HT.sIx xs.length xs.length hi = xs.length) : cutD xs lo hi = xs := by
  unfold cutD; rw [h.1, h.2]; simp
theorem ed_sl {lo hi : Option Expr} {ta : TD} {tl th : TOd} (ha : ED X G a ta) (hl : EO X G lo tl) (hh : EO X G hi th) : ED X G (.Subscript a (.Slice lo hi none p2) pos) (tSlD ta tl th) := by
  refine ⟨PE.weak (pe_slice (sl_tupF.or (sl_tupW.or sl_str)) ha.pe hl.po hh.po) fun σ H Q ⟨E, QE, rel, q, k⟩ => ⟨E, _, rel, q, fun x E1 v H1 q1 x1 r1 p1 => ⟨E1, _, r1, q1, fun l E2 H2 q2 x2 r2 => ⟨E2, _, r2, q2, fun u E3 H3 q3 x3 r3 => ?_⟩⟩⟩⟩
  have xx := (x1.trans x2).trans x3
  have p3 := (p1.ext x2).ext x3
  cases p3 with
  | tup hs ll =>
    rename_i a0 vs ds
    by_cases hw : HT.sIx vs.length 0 l = 0 ∧ HT.sIx vs.length vs.length u = vs.length
    · have hw' := hw
      rw [← ll.length] at hw'
      refine .inr (.inl ⟨_, _, rfl, hs.1, hw, k _ _ _ _ q3 xx r3 ?_⟩)
      rw [cut_whole hw']; exact .tup hs ll
    · exact .inl ⟨_, _, rfl, hs.1, hw, fun p o hp ho => k _ _ _ _ q3 (xx.trans (PExt.new hp).ext) (r3.pext (PExt.new hp)) (.tup (.new ho) ((ll.cut l u).ext (PExt.new hp).ext))⟩
  | str z => exact .inr (.inr ⟨z, rfl, q3.1, k _ _ _ _ q3.2 xx r3 (.str _)⟩)
  | _ => exact q3.elim
def tSlL (ta : TD) (tl th : TOd) : TLd := fun E Q => ta E fun x E1 => tl E1 fun l E2 => th E2 fun u E3 => match x with
  | .list xs => Q (cutD xs l u) E3
  | _ => False
theorem el_sl {lo hi : Option Expr} {ta : TD} {tl th : TOd} (ha : ED X G a ta) (hl : EO X G lo tl) (hh : EO X G hi th) : EL X G (.Subscript a (.Slice lo hi none p2) pos) (tSlL ta tl th) := by
  refine ⟨PE.weak (pe_slice sl_list ha.pe hl.po hh.po) fun σ H Q ⟨E, QE, rel, q, k⟩ => ⟨E, _, rel, q, fun x E1 v H1 q1 x1 r1 p1 => ⟨E1, _, r1, q1, fun l E2 H2 q2 x2 r2 => ⟨E2, _, r2, q2, fun u E3 H3 q3 x3 r3 => ?_⟩⟩⟩⟩
  have xx := (x1.trans x2).trans x3
  have p3 := (p1.ext x2).ext x3
  cases p3 with
  | lst hs ll =>
    refine ⟨_, _, rfl, hs.sq, fun p hp => ?_⟩
    obtain ⟨r4, h0, na⟩ := r3.fresh (o := .lst (cutV _ l u)) hp
    exact k _ _ _ _ _ q3 (xx.trans (PExt.new hp).ext) r4 h0 na upd_same ((ll.cut l u).ext (PExt.new hp).ext)
  | _ => exact q3.elim
/-- xs[::-1] of a list -/
def tRevD (ta : TD) : TLd := fun E Q => ta E fun x E1 => match x with
  | .list xs => Q xs.reverse E1
  | _ => False
theorem el_rev {k : Nat} {ta : TD} (ha : ER X G a ta) : EL X G (.Subscript a (.Slice none none (some (.UnaryOp .USub (.Constant (.int 1) k p1) p2)) p3) pos) (tRevD ta) :=
  ⟨PE.weak (pe_revL ha.pe) fun σ H Q ⟨E, QE, rel, q, k⟩ => ⟨E, _, rel, q, fun x E1 v H1 q1 x1 r1 p1 => by
    cases x with
    | list xs =>
      obtain ⟨a, vs, rfl, hs, ll⟩ := p1.list
      refine ⟨a, vs, rfl, hs, fun p hp => ?_⟩
      obtain ⟨r4, h0, na⟩ := r1.fresh (o := .lst vs.reverse) hp
      exact k _ _ _ _ _ q1 (x1.trans (PExt.new hp).ext) r4 h0 na upd_same (ll.reverse.ext (PExt.new hp).ext)
    | _ => exact q1.elim⟩⟩

/-! ### isinstance with a built-in class -/
def tyD : D → String
  | .none => "NoneType"
  | .bool _ => "bool"
  | .int _ => "int"
  | .str _ => "str"
  | .list _ => "list"
  | .tuple _ => "tuple"
  | .dict _ => "dict"
theorem call_isiR {T : String} {bf : D → Bool} (hb : ∀ d : D, (match d with | .dict _ => True | _ => kitB (tyD d) T = some (bf d))) : CallR X (.builtin "isinstance") (fun vs H Q => ∃ d v, vs = [v, .ty T] ∧ Rp X.K H d v ∧ (∀ k, d ≠ .dict k) ∧ Q (.bl (bf d)) H) := by
  intro pins s σ H vs us Q I r h
  obtain ⟨d, v, rfl, hd, hn, q⟩ := h
  obtain ⟨u1, u2, rfl, r1, r2⟩ := vals2 r
  cases (show u2 = Value.type T from r2)
  have kit : ∃ P : Heap → Prop, PySem.W.KitX X.K u1 (.type (tyD d)) P ∧ P s.heap ∧ u1 ≠ .builtin "__main__.__loader__#opaque" := by
    cases hd with
    | non => cases (show u1 = Value.none from r1); exact ⟨_, PySem.W.kitx_none, True.intro, fun z => nomatch z⟩
    | bl y => cases (show u1 = Value.bool y from r1); exact ⟨_, PySem.W.kitx_bool, True.intro, fun z => nomatch z⟩
    | int i => obtain ⟨t, q⟩ := (show ∃ t, u1 = Value.int i t from r1); cases q; exact ⟨_, PySem.W.kitx_int, True.intro, fun z => nomatch z⟩
    | str y => obtain ⟨t, q⟩ := (show ∃ t, u1 = Value.str y t from r1); cases q; exact ⟨_, PySem.W.kitx_str, True.intro, fun z => nomatch z⟩
    | dct _ _ _ _ => exact absurd rfl (hn _)
    | hdl a => exact absurd rfl (hn _)
    | dck _ _ _ _ => exact absurd rfl (hn _)
    | lst hs _ =>
      rename_i a xs ds _
      cases (show u1 = Value.ref a from r1)
      obtain ⟨its, rv, hl, _⟩ := I.list hs.sq
      obtain ⟨o, n, ho, hc, _⟩ := hl
      exact ⟨_, PySem.W.kitx_list, ⟨o, ho, hc⟩, fun z => nomatch z⟩
    | tup hs _ =>
      rename_i a xs ds _
      cases (show u1 = Value.ref a from r1)
      obtain ⟨its, rv, ⟨o, ho, hc, _⟩, _⟩ := I.tuple hs.1
      exact ⟨_, PySem.W.kitx_tuple, ⟨o, ho, hc⟩, fun z => nomatch z⟩
  obtain ⟨P, Z, p, hx⟩ := kit
  have e : PySem.W.kitOne X.K (.type (tyD d)) (.type T) = some (bf d) := by
    have := hb d
    cases d with
    | dict k => exact absurd rfl (hn k)
    | _ => exact kit_ty this
  exact PySem.W.kia_one Z I.kIn p e hx fun tk => ⟨.bl _, H, I.tok tk, rfl, q⟩
def isInt : D → Bool
  | .int _ => true
  | .bool _ => true
  | _ => false
def isBool : D → Bool
  | .bool _ => true
  | _ => false
def isStr : D → Bool
  | .str _ => true
  | _ => false
def isTuple : D → Bool
  | .tuple _ => true
  | _ => false
def isList : D → Bool
  | .list _ => true
  | _ => false
def notDict : D → Prop
  | .dict _ => False
  | _ => True
def tIsi (bf : D → Bool) (ta : TD) : TD := fun E Q => ta E fun x E1 => notDict x ∧ Q (.bool (bf x)) E1
theorem ed_isi {T : String} {ty : Str} {bf : D → Bool} {ta : TD} {pt : Pos} (hb : ∀ d : D, (match d with | .dict _ => True | _ => kitB (tyD d) T = some (bf d))) (ha : ED X G a ta) (hg : Gl X "isinstance") (hm : X.mg "isinstance" = none) (hg2 : Gl X ty) (hm2 : X.mg ty = none) (hv2 : bootBuiltins ty = some (.type T))
    (hn2 : ty ≠ "__name__" := by decide) (hd2 : (ty == ("__debug__" : Str)) = false := by decide)
    (hs : starEach [a, .Name ty pt] X.env = (false, eval a X.env) :: starEach [.Name ty pt] X.env := by rfl) (hs2 : starEach [.Name ty pt] X.env = (false, eval (.Name ty pt) X.env) :: starEach [] X.env := by rfl) (hpl : (backTo pos (starEach [.Name ty pt] X.env)).any (·.1) = false := by rfl) :
    ED X G (.Call (.Name "isinstance" p) [a, .Name ty pt] [] pos) (tIsi bf ta) := by
  refine ⟨PE.weak (pe_callB (call_isiR hb) hg hm (by decide +kernel) (pa_cons ha.pe (pa_cons (pe_bltn (v := .ty T) hg2 hm2 hv2 rfl hn2 hd2) pa_nil hs2) hs) (by decide) (by decide) hs hpl) fun σ H Q ⟨E, QE, rel, q, k⟩ => ⟨E, _, rel, q, fun x E1 v H1 q1 x1 r1 p1 => ?_⟩⟩
  refine ⟨x, v, rfl, p1, ?_, k _ _ _ _ q1.2 x1 r1 (.bl _)⟩
  intro z e; subst e; exact q1.1
theorem isi_int : ∀ d : D, (match d with | .dict _ => True | _ => kitB (tyD d) "int" = some (isInt d)) := by intro d; cases d <;> first | trivial | (show kitB _ _ = _; decide +kernel)
theorem isi_bool : ∀ d : D, (match d with | .dict _ => True | _ => kitB (tyD d) "bool" = some (isBool d)) := by intro d; cases d <;> first | trivial | (show kitB _ _ = _; decide +kernel)
theorem isi_str : ∀ d : D, (match d with | .dict _ => True | _ => kitB (tyD d) "str" = some (isStr d)) := by intro d; cases d <;> first | trivial | (show kitB _ _ = _; decide +kernel)
theorem isi_tuple : ∀ d : D, (match d with | .dict _ => True | _ => kitB (tyD d) "tuple" = some (isTuple d)) := by intro d; cases d <;> first | trivial | (show kitB _ _ = _; decide +kernel)
theorem isi_list : ∀ d : D, (match d with | .dict _ => True | _ => kitB (tyD d) "list" = some (isList d)) := by intro d; cases d <;> first | trivial | (show kitB _ _ = _; decide +kernel)

/-! ### zip of two tuples, of two lists -/
def zipD (xs ys : List D) : List D := (xs.zip ys).map fun p => .tuple [p.1, p.2]
def iZipD (ta tb : TD) : TDs := fun E Q => ta E fun x E1 => tb E1 fun y E2 => match x, y with
  | .tuple xs, .tuple ys => Q (zipD xs ys) E2
  | .list xs, .list ys => Q (zipD xs ys) E2
  | _, _ => False
theorem zipD_len (xs ys : List D) : (zipD xs ys).length = min xs.length ys.length := by simp [zipD]
theorem zipD_get {xs ys : List D} {i : Nat} {x y : D} (h1 : xs[i]? = some x) (h2 : ys[i]? = some y) : (zipD xs ys)[i]? = some (.tuple [x, y]) := by
  unfold zipD
  rw [List.getElem?_map, (List.getElem?_zip_eq_some (z := (x, y))).mpr ⟨h1, h2⟩]; rfl
theorem walkD_zipT {K : PySem.W.Frag} {H : Hp} {a b : Addr} {vs us : List V} {ds es : List D} (h : SqT K H a vs) (h' : SqT K H b us) (l : RpL K H ds vs) (l' : RpL K H es us) : WalkD true K (RZ.ItzT K a b) H (zipD ds es) where
  goes := fun i H' x hi => by
    rw [zipD_len, l.length, l'.length] at hi
    exact ⟨vs, us, vs[i], us[i], SqT.ext x h, SqT.ext x h', List.getElem?_eq_getElem _, List.getElem?_eq_getElem _⟩
  yld := fun i H' v H2 x hi hy => by
    obtain ⟨T, v1, v2, rfl, hT, rfl, e1, e2⟩ := hy
    obtain ⟨d, hd, p⟩ := l.getV (e1 vs (SqT.ext x h))
    obtain ⟨d', hd', p'⟩ := l'.getV (e2 us (SqT.ext x h'))
    have px := PExt.new (o := .tup [v1, v2]) hT
    exact ⟨px, _, zipD_get hd hd', .pair (SqT.of upd_same) (.cons ((p.ext x).ext px.ext) (.cons ((p'.ext x).ext px.ext) .nil))⟩
  stops := fun H' x => ⟨vs, us, SqT.ext x h, SqT.ext x h', by rw [zipD_len, l.length, l'.length]; omega⟩
theorem walkD_zipL {K : PySem.W.Frag} {H : Hp} {a b : Addr} {vs us : List V} {ds es : List D} (h : LsF K H a vs) (h' : LsF K H b us) (l : RpL K H ds vs) (l' : RpL K H es us) : WalkD true K (Itz K a b) H (zipD ds es) where
  goes := fun i H' x hi => by
    rw [zipD_len, l.length, l'.length] at hi
    exact ⟨vs, us, vs[i], us[i], (LsF.ext x h).sq, (LsF.ext x h').sq, List.getElem?_eq_getElem _, List.getElem?_eq_getElem _⟩
  yld := fun i H' v H2 x hi hy => by
    obtain ⟨T, v1, v2, rfl, hT, rfl, e1, e2⟩ := hy
    obtain ⟨d, hd, p⟩ := l.getV (e1 vs ((LsF.ext x h).sq))
    obtain ⟨d', hd', p'⟩ := l'.getV (e2 us ((LsF.ext x h').sq))
    have px := PExt.new (o := .tup [v1, v2]) hT
    exact ⟨px, _, zipD_get hd hd', .pair (SqT.of upd_same) (.cons ((p.ext x).ext px.ext) (.cons ((p'.ext x).ext px.ext) .nil))⟩
  stops := fun H' x => ⟨vs, us, (LsF.ext x h).sq, (LsF.ext x h').sq, by rw [zipD_len, l.length, l'.length]; omega⟩
theorem id_zip {elts : List Expr} {kk : Nat} {tpos : Pos} {ta tb : TD} (ha : ED X G a ta) (hb : ED X G b tb) (hg : Gl X "zip") (hm : X.mg "zip" = none)
    (hs : starEach [a, b] X.env = (false, eval a X.env) :: starEach [b] X.env := by rfl) (hs2 : starEach [b] X.env = (false, eval b X.env) :: starEach [] X.env := by rfl) (hpl : (backTo pos (starEach [b] X.env)).any (·.1) = false := by rfl) :
    ID X G true (.Tuple elts kk tpos) (.Call (.Name "zip" p) [a, b] [] pos) (iZipD ta tb) := by
  refine ⟨PI.weak (RZ.pi_zipA hg hm (pa_cons ha.pe (pa_cons hb.pe pa_nil hs2) hs) hs hpl) fun σ H R ⟨E, QE, rel, q, k⟩ => ⟨E, _, rel, q, fun x E1 v H1 q1 x1 r1 p1 => ⟨E1, _, r1, q1, fun y E2 u H2 q2 x2 r2 p2 => ?_⟩⟩⟩
  have p1 := p1.ext x2
  cases p1 with
  | tup h1 l1 =>
    cases p2 with
    | tup h2 l2 => exact ⟨_, _, _, _, rfl, .inr ⟨h1.1, h2.1, k _ _ _ _ q2 (x1.trans x2) r2 (walkD_zipT h1.1 h2.1 l1 l2)⟩⟩
    | _ => exact q2.elim
  | lst h1 l1 =>
    cases p2 with
    | lst h2 l2 => exact ⟨_, _, _, _, rfl,   .inl ⟨h1.sq, h2.sq, k _ _ _ _ q2 (x1.trans x2) r2 (walkD_zipL h1 h2 l1 l2)⟩⟩
    | _ => exact q2.elim
  | _ => cases p2 <;> exact q2.elim
end
end DL

set_option Elab.async false
set_option linter.all false
set_option maxRecDepth 100000
set_option maxHeartbeats 1000000
namespace DL
open PySem PySem.Spec PyProof.Rows L2

theorem ns {G : Gh} {l : List Nat} (h : G.slots = l) {i : Nat} (hd : i ∉ l) : i ∉ G.slots := by rw [h]; exact hd
theorem nsA {G : Gh} {l ms : List Nat} (h : G.slots = l) (hd : ∀ i ∈ ms, i ∉ l) : ∀ i ∈ ms, i ∉ G.slots := by rw [h]; exact hd
theorem u65 {k : Nat} {A : Around} (r : Room k A) : A.units + 65 < cLine := by have := r.un; omega
theorem bb_len : bootBuiltins "len" = some (.builtin "len") := by decide +kernel
theorem bb_abs : bootBuiltins "abs" = some (.builtin "abs") := by decide +kernel
theorem bb_max : bootBuiltins "max" = some (.builtin "max") := by decide +kernel
theorem bb_min : bootBuiltins "min" = some (.builtin "min") := by decide +kernel
theorem bb_sum : bootBuiltins "sum" = some (.builtin "sum") := by decide +kernel
theorem bb_all : bootBuiltins "all" = some (.builtin "all") := by decide +kernel
theorem bb_sorted : bootBuiltins "sorted" = some (.builtin "sorted") := by decide +kernel
theorem bb_tuple : bootBuiltins "tuple" = some (.type "tuple") := by decide +kernel
theorem bb_list : bootBuiltins "list" = some (.type "list") := by decide +kernel
theorem bb_int : bootBuiltins "int" = some (.type "int") := by decide +kernel
theorem bb_bool : bootBuiltins "bool" = some (.type "bool") := by decide +kernel
theorem bb_str : bootBuiltins "str" = some (.type "str") := by decide +kernel
theorem bb_set : bootBuiltins "set" = some (.type "set") := by decide +kernel

end DL

set_option Elab.async false
set_option linter.all false
set_option maxRecDepth 100000
set_option maxHeartbeats 1000000
namespace DL
open PySem PySem.Spec PyProof.Rows L2

/-! ### reading: one statement after another, what follows a letter -/
theorem seq_step {t u : TSd} {DE : EndsD} {E : Env} (h : ∀ R : Env → Prop, (∀ E', u DE E' → R E') → t { DE with nx := R } E) : sSeq t u DE E := h _ fun _ h => h
theorem ifB {b : Bool} {A B : Prop} (h1 : b = true → A) (h2 : b = false → B) : if b = true then A else B := by
  cases b with
  | true => exact if_pos rfl ▸ h1 rfl
  | false => rw [if_neg Bool.false_ne_true]; exact h2 rfl
theorem ifT {b : Bool} {A B : Prop} (hb : b = true) (h1 : A) : if b = true then A else B := by rw [if_pos hb]; exact h1
theorem ifF {b : Bool} {A B : Prop} (hb : b = false) (h1 : B) : if b = true then A else B := by rw [hb, if_neg Bool.false_ne_true]; exact h1
/-! == of numbers, truths -/
theorem eqv_int (i j : Int) : PyData.eqv (.int i) (.int j) = decide (i = j) := by
  show (i == j) = decide (i = j)
  by_cases h : i = j
  · subst h; simp
  · simp [h]
theorem eqv_bool (i j : Bool) : PyData.eqv (.bool i) (.bool j) = (i == j) := rfl
theorem eqv_str (i j : Str) : PyData.eqv (.str i) (.str j) = (i == j) := rfl
theorem eqv_none : PyData.eqv .none .none = true := rfl
theorem eqv_tup (xs ys : List D) : PyData.eqv (.tuple xs) (.tuple ys) = PyData.eqvAll xs ys := by simp [PyData.eqv]
theorem eqv_lst (xs ys : List D) : PyData.eqv (.list xs) (.list ys) = PyData.eqvAll xs ys := by simp [PyData.eqv]
theorem shaped_int (i : Int) : SeqAt.shaped (.int i) = true := rfl
theorem shaped_bool (i : Bool) : SeqAt.shaped (.bool i) = true := rfl
theorem shaped_none : SeqAt.shaped .none = true := rfl
/-! items -/
theorem atI_at {α : Type} {xs : List α} {i : Int} {d : α} (h0 : 0 ≤ i) (h : xs[i.toNat]? = some d) : atI xs i = some d := by
  obtain ⟨hl, _⟩ := List.getElem?_eq_some_iff.mp h
  unfold atI ixN
  rw [if_pos h0, if_pos (by omega)]
  exact h
theorem atD_at {xs : List D} {i : Int} {d : D} {Q : D → Prop} (h0 : 0 ≤ i) (h : xs[i.toNat]? = some d) (q : Q d) : atD xs i Q := by unfold atD; rw [atI_at h0 h]; exact q
theorem atD_neg {xs : List D} {i : Int} {d : D} {Q : D → Prop} (h0 : i < 0) (h1 : -(xs.length : Int) ≤ i) (h : xs[(i + xs.length).toNat]? = some d) (q : Q d) : atD xs i Q := by
  unfold atD atI ixN
  rw [if_neg (by omega), if_pos h1]
  show (match (xs[(i + xs.length).toNat]?) with | some d => Q d | none => False)
  rw [h]; exact q
theorem atD_0 {x : D} {xs : List D} {Q : D → Prop} : atD (x :: xs) 0 Q = Q x := by
  unfold atD; rw [atI_at (d := x) (by decide) rfl]
theorem atD_1 {x y : D} {xs : List D} {Q : D → Prop} : atD (x :: y :: xs) 1 Q = Q y := by
  unfold atD; rw [atI_at (d := y) (by decide) rfl]
theorem atD_2 {x y z : D} {xs : List D} {Q : D → Prop} : atD (x :: y :: z :: xs) 2 Q = Q z := by
  unfold atD; rw [atI_at (d := z) (by decide) rfl]
theorem atD_3 {x y z u : D} {xs : List D} {Q : D → Prop} : atD (x :: y :: z :: u :: xs) 3 Q = Q u := by
  unfold atD; rw [atI_at (d := u) (by decide) rfl]
theorem putD_at {xs : List D} {i : Int} {d : D} {Q : List D → Prop} (h0 : 0 ≤ i) (h : i < xs.length) (q : Q (xs.set i.toNat d)) : putD xs i d Q := by
  unfold putD ixN; rw [if_pos h0, if_pos h]; exact q
theorem putD_0 {x d : D} {xs : List D} {Q : List D → Prop} : putD (x :: xs) 0 d Q = Q (d :: xs) := by
  unfold putD ixN; rw [if_pos (by decide), if_pos (by rw [List.length_cons]; omega)]; rfl
theorem getElem_map_int {ns : List Int} {i : Nat} (h : i < ns.length) : (ns.map PyData.int)[i]? = some (.int ns[i]) := by
  rw [List.getElem?_map, List.getElem?_eq_getElem h]; rfl
/-- a for by what holds between two turns; R: what follows a turn -/
theorem forD_inv {g : TGd} {tb : TSd} {DE : EndsD} {ds : List D} {E : Env} (I : Nat → Env → Prop) (h0 : I 0 E)
    (hs : ∀ (i : Nat) (d : D) (E : Env), ds[i]? = some d → I i E → ∀ R : Env → Prop, (∀ E', I (i + 1) E' → R E') → g d E fun E1 => tb { DE with nx := R, ct := R, bk := DE.nx } E1)
    (hd : ∀ E, I ds.length E → DE.nx E) : forD g tb ds DE E := by
  induction ds generalizing E I with
  | nil => exact hd E h0
  | cons d ds ih =>
    refine hs 0 d E rfl h0 _ fun E' h' => ?_
    exact ih (fun i => I (i + 1)) h' (fun i d E e q => hs (i + 1) d E (by simpa using e) q) fun E q => hd E (by simpa using q)
theorem for_inv {ti : TDs} {g : TGd} {tb : TSd} {DE : EndsD} {E : Env} {ds : List D} {E1 : Env} (h : ∀ Q : List D → Env → Prop, Q ds E1 → ti E Q) (I : Nat → Env → Prop) (h0 : I 0 E1)
    (hs : ∀ (i : Nat) (d : D) (E : Env), ds[i]? = some d → I i E → ∀ R : Env → Prop, (∀ E', I (i + 1) E' → R E') → g d E fun E1 => tb { DE with nx := R, ct := R, bk := DE.nx } E1)
    (hd : ∀ E, I ds.length E → DE.nx E) : sFor ti g tb DE E := h _ (forD_inv I h0 hs hd)
/-- a comprehension whose element looks at its own names alone, and changes nothing: f says what it gives -/
theorem wipeE_wipe (E : Env) : ∀ ms : List Nat, wipeE (wipeE E ms) ms = wipeE E ms := by
  have h : ∀ (l k : List Nat) (F : Env), (∀ j ∈ l, j ∈ k) → (∀ j ∈ k, ∀ s, F[j]? = some s → s = .un) → wipeE F l = F := by
    intro l
    induction l with
    | nil => intro _ _ _ _; rfl
    | cons v vs ih =>
      intro k F hk hn
      show (wipeE F vs).set v .un = F
      rw [ih k F (fun j hj => hk j (List.mem_cons_of_mem _ hj)) hn]
      refine List.ext_getElem? fun j => ?_
      by_cases hv : v = j
      · subst hv
        by_cases hl : v < F.length
        · rw [List.getElem?_set_self hl]
          have := hn v (hk v (List.mem_cons_self ..)) _ (List.getElem?_eq_getElem hl)
          rw [List.getElem?_eq_getElem hl, this]
        · rw [List.getElem?_eq_none (by simpa using hl), List.getElem?_eq_none (by simpa using hl)]
      · rw [List.getElem?_set_ne hv]
  intro ms
  refine h ms ms _ (fun j hj => hj) fun j hj s e => ?_
  have w : ∀ (l : List Nat) (j : Nat) (s : S), j ∈ l → (wipeE E l)[j]? = some s → s = .un := by
    intro l
    induction l with
    | nil => intro _ _ h; cases h
    | cons v vs ih =>
      intro j s hj e
      have e : ((wipeE E vs).set v .un)[j]? = some s := e
      by_cases hv : v = j
      · subst hv
        by_cases hl : v < (wipeE E vs).length
        · rw [List.getElem?_set_self hl] at e; exact (Option.some.inj e).symm
        · rw [List.getElem?_eq_none (by simpa using hl)] at e; cases e
      · rw [List.getElem?_set_ne hv] at e
        exact ih j s (by rcases List.mem_cons.mp hj with q | q; exact absurd q.symm hv; exact q) e
  exact w ms j s hj e
theorem compD_pure {g : TGd} {tt : TTd} {te : TD} {ms : List Nat} {W : Env} (f : D → Option D) : ∀ (ds acc : List D) (E : Env) (Q : List D → Env → Prop), wipeE E ms = W →
    (∀ d ∈ ds, ∀ R : Option D → Env → Prop, (∀ E', wipeE E' ms = W → R (f d) E') → turnD g tt te d W R) → acc.length + ds.length ≤ sizeLine → (∀ E', wipeE E' ms = W → Q (acc ++ ds.filterMap f) E') → compD g tt te ms ds acc E Q
  | [], acc, E, Q, hE, _, _, q => by have := q E hE; rw [List.filterMap_nil, List.append_nil] at this; exact this
  | d :: ds, acc, E, Q, hE, hf, hl, q => by
    show turnD g tt te d (wipeE E ms) _
    rw [hE]
    refine hf d (List.mem_cons_self ..) _ fun E' hE' => ?_
    rw [List.length_cons] at hl
    cases hd : f d with
    | none =>
      refine compD_pure f ds acc E' Q hE' (fun d hd => hf d (List.mem_cons_of_mem _ hd)) (by omega) fun E2 h2 => ?_
      have := q E2 h2
      rw [List.filterMap_cons, hd] at this; exact this
    | some y =>
      refine ⟨by omega, compD_pure f ds (acc ++ [y]) E' Q hE' (fun d hd => hf d (List.mem_cons_of_mem _ hd)) (by rw [List.length_append]; simp; omega) fun E2 h2 => ?_⟩
      have := q E2 h2
      rw [List.filterMap_cons, hd] at this
      rw [List.append_assoc]; exact this
/-- behind it the environment is the one ahead (its own names were not in use, and hold nothing known) -/
theorem rest_wipe {E E' : Env} : ∀ {ms : List Nat}, wipeE E' ms = wipeE E ms → (∀ i ∈ ms, E[i]? = some .un ∨ (∃ x, E[i]? = some (.d x))) → restE E E' ms = E := by
  intro ms hw hE
  have hl : E'.length = E.length := by
    have : ∀ (F : Env) (l : List Nat), (wipeE F l).length = F.length := by
      intro F l
      induction l with
      | nil => rfl
      | cons v vs ih => show ((wipeE F vs).set v .un).length = _; rw [List.length_set, ih]
    rw [← this E' ms, hw, this]
  have wg : ∀ (F : Env) (l : List Nat) (i : Nat), i ∉ l → (wipeE F l)[i]? = F[i]? := by
    intro F l
    induction l with
    | nil => intro _ _; rfl
    | cons v vs ih => intro i h; show ((wipeE F vs).set v .un)[i]? = _; rw [List.getElem?_set_ne (fun z => h (by simp [z])), ih i fun z => h (List.mem_cons_of_mem _ z)]
  refine List.ext_getElem? fun i => ?_
  by_cases hi : i ∈ ms
  · have key : ∀ (l : List Nat), i ∈ l → (restE E E' l)[i]? = some (datOf E[i]?) := by
      intro l
      induction l with
      | nil => intro h; cases h
      | cons v vs ih =>
        intro h
        show ((restE E E' vs).set v (datOf E[v]?))[i]? = _
        have rl : ∀ (l : List Nat), (restE E E' l).length = E'.length := by
          intro l
          induction l with
          | nil => rfl
          | cons v vs ih => show ((restE E E' vs).set v _).length = _; rw [List.length_set, ih]
        by_cases hv : v = i
        · subst hv
          have : v < E.length := by
            rcases hE v hi with z | ⟨x, z⟩
            · exact (List.getElem?_eq_some_iff.mp z).1
            · exact (List.getElem?_eq_some_iff.mp z).1
          rw [List.getElem?_set_self (by rw [rl, hl]; exact this)]
        · rw [List.getElem?_set_ne hv]
          exact ih (by rcases List.mem_cons.mp h with q | q; exact absurd q.symm hv; exact q)
    rw [key ms hi]
    rcases hE i hi with z | ⟨x, z⟩
    · rw [z]; rfl
    · rw [z]; rfl
  · have rg : ∀ (l : List Nat), i ∉ l → (restE E E' l)[i]? = E'[i]? := by
      intro l
      induction l with
      | nil => intro _; rfl
      | cons v vs ih => intro h; show ((restE E E' vs).set v _)[i]? = _; rw [List.getElem?_set_ne (fun z => h (by simp [z])), ih fun z => h (List.mem_cons_of_mem _ z)]
    rw [rg ms hi, ← wg E' ms i hi, hw, wg E ms i hi]
theorem comp_pure {ti : TDs} {g : TGd} {tt : TTd} {te : TD} {ms : List Nat} {E E1 : Env} {Q : List D → Env → Prop} (ds : List D) (f : D → Option D) (hi : ∀ R : List D → Env → Prop, R ds E1 → ti E R)
    (hf : ∀ d ∈ ds, ∀ R : Option D → Env → Prop, (∀ E', wipeE E' ms = wipeE E1 ms → R (f d) E') → turnD g tt te d (wipeE E1 ms) R) (hE : ∀ i ∈ ms, E1[i]? = some .un ∨ (∃ x, E1[i]? = some (.d x))) (hl : ds.length ≤ sizeLine) (q : Q (ds.filterMap f) E1) : tComp ti g tt te ms E Q :=
  hi _ (compD_pure f ds [] E1 _ rfl hf (by simpa using hl) fun E' hE' => by rw [rest_wipe hE' hE]; exact q)
theorem filterMap_some {α β : Type} (f : α → β) : ∀ l : List α, l.filterMap (fun x => some (f x)) = l.map f
  | [] => rfl
  | a :: l => by rw [List.filterMap_cons, List.map_cons, filterMap_some f l]
/-- over typed items -/
theorem compD_map {α : Type} {g : TGd} {tt : TTd} {te : TD} {ms : List Nat} {W : Env} (enc : α → D) (p : α → Bool) (f : α → D) : ∀ (xs : List α) (acc : List D) (E : Env) (Q : List D → Env → Prop), wipeE E ms = W →
    (∀ x ∈ xs, ∀ R : Option D → Env → Prop, (∀ E', wipeE E' ms = W → R (if p x = true then some (f x) else none) E') → turnD g tt te (enc x) W R) → acc.length + xs.length ≤ sizeLine → (∀ E', wipeE E' ms = W → Q (acc ++ (xs.filter p).map f) E') → compD g tt te ms (xs.map enc) acc E Q
  | [], acc, E, Q, hE, _, _, q => by have := q E hE; rw [List.filter_nil, List.map_nil, List.append_nil] at this; exact this
  | x :: xs, acc, E, Q, hE, hf, hl, q => by
    show turnD g tt te (enc x) (wipeE E ms) _
    rw [hE]
    refine hf x (List.mem_cons_self ..) _ fun E' hE' => ?_
    rw [List.length_cons] at hl
    cases hp : p x with
    | false =>
      rw [if_neg Bool.false_ne_true]
      refine compD_map enc p f xs acc E' Q hE' (fun d hd => hf d (List.mem_cons_of_mem _ hd)) (by omega) fun E2 h2 => ?_
      have := q E2 h2
      rw [List.filter_cons_of_neg (by rw [hp]; exact Bool.false_ne_true)] at this; exact this
    | true =>
      rw [if_pos rfl]
      refine ⟨by omega, compD_map enc p f xs (acc ++ [f x]) E' Q hE' (fun d hd => hf d (List.mem_cons_of_mem _ hd)) (by rw [List.length_append]; simp; omega) fun E2 h2 => ?_⟩
      have := q E2 h2
      rw [List.filter_cons_of_pos hp] at this
      rw [List.append_assoc]; exact this
theorem comp_filter {α : Type} {ti : TDs} {g : TGd} {tt : TTd} {te : TD} {ms : List Nat} {E E1 : Env} {Q : List D → Env → Prop} (xs : List α) (enc : α → D) (p : α → Bool) (f : α → D) (hi : ∀ R : List D → Env → Prop, R (xs.map enc) E1 → ti E R)
    (hE : ∀ i ∈ ms, E1[i]? = some .un ∨ (∃ x, E1[i]? = some (.d x))) (hl : xs.length ≤ sizeLine)
    (hf : ∀ x ∈ xs, ∀ R : Option D → Env → Prop, (∀ E', wipeE E' ms = wipeE E1 ms → R (if p x = true then some (f x) else none) E') → turnD g tt te (enc x) (wipeE E1 ms) R) (q : Q ((xs.filter p).map f) E1) : tComp ti g tt te ms E Q :=
  hi _ (compD_map enc p f xs [] E1 _ rfl hf (by simpa using hl) fun E' hE' => by rw [rest_wipe hE' hE]; exact q)
theorem comp_map {α : Type} {ti : TDs} {g : TGd} {te : TD} {ms : List Nat} {E E1 : Env} {Q : List D → Env → Prop} (xs : List α) (enc : α → D) (f : α → D) (hi : ∀ R : List D → Env → Prop, R (xs.map enc) E1 → ti E R)
    (hE : ∀ i ∈ ms, E1[i]? = some .un ∨ (∃ x, E1[i]? = some (.d x))) (hl : xs.length ≤ sizeLine)
    (hf : ∀ x ∈ xs, ∀ R : D → Env → Prop, (∀ E', wipeE E' ms = wipeE E1 ms → R (f x) E') → g (enc x) (wipeE E1 ms) fun E1 => te E1 R) (q : Q (xs.map f) E1) : tComp ti g tTrue te ms E Q := by
  refine comp_filter xs enc (fun _ => true) f hi hE hl (fun x hx R hR => ?_) (by rw [List.filter_eq_self.mpr (fun _ _ => rfl)]; exact q)
  exact hf x hx (fun y E3 => R (some y) E3) hR
theorem un1 {E : Env} {i : Nat} (h : E[i]? = some .un) : ∀ j ∈ [i], E[j]? = some .un ∨ (∃ x, E[j]? = some (.d x)) := fun j hj => by
  rcases List.mem_cons.mp hj with rfl | z
  · exact .inl h
  · cases z
theorem un2 {E : Env} {i k : Nat} (h : E[i]? = some .un) (h' : E[k]? = some .un) : ∀ j ∈ [i, k], E[j]? = some .un ∨ (∃ x, E[j]? = some (.d x)) := fun j hj => by
  rcases List.mem_cons.mp hj with rfl | z
  · exact .inl h
  · exact un1 h' j z
end DL

set_option Elab.async false
set_option linter.all false
set_option maxRecDepth 100000
set_option maxHeartbeats 1000000
namespace DL
open PySem PySem.Spec PyProof.Rows L2

section
variable {X : Cx} {G : Gh} {a b c e : Expr} {es : List Expr} {pos p p1 p2 p3 : Pos} {x : Str}
/-! ### range(a, b, c): as an object, its len -/
def rngO (q : Addr) (i j c : Int) : HO := .ext fun h => ∃ t u v, IsRange h q i j c t u v
theorem pe_range3 {ta : TA} (hg : Gl X "range") (hm : X.mg "range" = none) (ha : PA X [a, b, c] ta)
    (hs : starEach [a, b, c] X.env = (false, eval a X.env) :: starEach [b, c] X.env := by rfl) (hpl : (backTo pos (starEach [b, c] X.env)).any (·.1) = false := by rfl) :
    PE X (.Call (.Name "range" p) [a, b, c] [] pos) (fun σ H Q => ta σ H fun vs H1 => ∃ (i j k : Int), vs = [.int i, .int j, .int k] ∧ (k ≠ 0 ∧ k.natAbs < 1073741824) ∧ ∀ q, H1 q = none → Q (.ref q) (upd H1 q (rngO q i j k))) := by
  refine ⟨fun pins s σ H Q I h => ?_⟩
  refine Call_ (ld_blt I hg hm boot_range (PyProof.Rows.callWith_type1 (thn (ha.run pos pins s σ H _ I h) fun us s1 ⟨vs, H1, I1, r1, q1⟩ => ?_) hs hpl))
  obtain ⟨i, j, k, e, ⟨c0, c1⟩, q⟩ := q1
  subst e
  cases r1 with
  | cons r rr =>
    cases rr with
    | cons r' rr =>
      cases rr with
      | cons r'' rr =>
        cases rr
        obtain ⟨t, rfl⟩ := r
        obtain ⟨t', rfl⟩ := r'
        obtain ⟨t'', rfl⟩ := r''
        refine call_range_3 c0 ?_ (.inl (PyProof.noPylong_small c1))
        have hob : (s1.heap.push { cls := .type "range", data := .fields #[.int i t, .int j t', .int k t''] }).get? s1.heap.objs.size = some { cls := .type "range", data := .fields #[.int i t, .int j t', .int k t''] } := Heap.get?_push_size _ rfl
        refine ⟨.ref s1.heap.objs.size, _, I1.laid (t' := s1.toks) (o := rngO s1.heap.objs.size i j k) (fun b ob q => Heap.get?_push_of_some _ q) (Nat.le_refl _) ?_, rfl, q _ (I1.hok.fresh (Nat.le_refl _))⟩
        refine ⟨⟨t, t', t'', hob⟩, ⟨_, hob⟩, fun h1 h2 ⟨t1, u1, v1, e1⟩ k => ⟨t1, u1, v1, k _ e1⟩⟩
theorem call_len_rng : CallR X (.builtin "len") (fun vs H Q => ∃ (q : Addr) (i j c : Int) (n : Nat), vs = [.ref q] ∧ H q = some (rngO q i j c) ∧ Builtin.Range.rangeSize i j c = n ∧ n < 2 ^ 62 ∧ Q (.int n) H) := by
  intro pins s σ H vs us Q I r h
  obtain ⟨q, i, j, c, n, rfl, hq, hn, hz, k⟩ := h
  rw [Vals.ref1 r]
  obtain ⟨⟨t, u, v, hr⟩, _⟩ := I.hok q _ hq
  refine call_len_range hr hn (by omega) ⟨.int n, H, I.tok _, ⟨_, rfl⟩, k⟩
def tLenRange (ta tb tc : TD) : TD := fun E Q => ta E fun x E1 => tb E1 fun y E2 => tc E2 fun z E3 => match x, y, z with
  | .int i, .int j, .int k => ∃ n : Nat, (k ≠ 0 ∧ k.natAbs < 1073741824) ∧ Builtin.Range.rangeSize i j k = n ∧ n < 2 ^ 62 ∧ Q (.int n) E3
  | _, _, _ => False
theorem ed_lenRange {ta tb tc : TD} (ha : ED X G a ta) (hb : ED X G b tb) (hc : ED X G c tc) (hg : Gl X "len") (hm : X.mg "len" = none) (hg2 : Gl X "range") (hm2 : X.mg "range" = none)
    (hs : starEach [a, b, c] X.env = (false, eval a X.env) :: starEach [b, c] X.env := by rfl) (hs2 : starEach [b, c] X.env = (false, eval b X.env) :: starEach [c] X.env := by rfl) (hs3 : starEach [c] X.env = (false, eval c X.env) :: starEach [] X.env := by rfl)
    (hpl : (backTo p3 (starEach [b, c] X.env)).any (·.1) = false := by rfl)
    (hs4 : starEach [.Call (.Name "range" p2) [a, b, c] [] p3] X.env = (false, eval (.Call (.Name "range" p2) [a, b, c] [] p3) X.env) :: starEach [] X.env := by rfl) (hpl2 : (backTo pos (starEach [] X.env)).any (·.1) = false := by rfl) :
    ED X G (.Call (.Name "len" p) [.Call (.Name "range" p2) [a, b, c] [] p3] [] pos) (tLenRange ta tb tc) := by
  refine ⟨PE.weak (pe_callB call_len_rng hg hm bb_len (pa_cons (pe_range3 hg2 hm2 (pa_cons ha.pe (pa_cons hb.pe (pa_cons hc.pe pa_nil hs3) hs2) hs) hs hpl) pa_nil hs4) (by decide) (by decide) hs4 hpl2) fun σ H Q ⟨E, QE, rel, q, k⟩ =>
    ⟨E, _, rel, q, fun x E1 v H1 q1 x1 r1 p1 => ⟨E1, _, r1, q1, fun y E2 u H2 q2 x2 r2 p2 => ⟨E2, _, r2, q2, fun z E3 w H3 q3 x3 r3 p3 => ?_⟩⟩⟩⟩
  cases p1 with
  | int i =>
    cases p2 with
    | int j =>
      cases p3 with
      | int m =>
        obtain ⟨n, hc, hn, hz, q3⟩ := q3
        refine ⟨i, j, m, rfl, hc, fun q hq => ⟨q, i, j, m, n, rfl, upd_same, hn, hz, ?_⟩⟩
        exact k _ _ _ _ q3 (((x1.trans x2).trans x3).trans (PExt.new hq).ext) (r3.pext (PExt.new hq)) (.int _)
      | _ => exact q3.elim
    | _ => cases p3 <;> exact q3.elim
  | _ => cases p2 <;> cases p3 <;> exact q3.elim
/-! range with a step, walked -/
def rangeCD (lo c : Int) (n : Nat) : List D := (List.range n).map fun i : Nat => PyData.int (lo + (i : Int) * c)
theorem walkD_rangeC {K : PySem.W.Frag} {H : Hp} {lo c : Int} {n : Nat} : WalkD false K (Itc lo c n) H (rangeCD lo c n) where
  goes := fun i H' x hi => (walk_rangeC (lo := lo) (c := c) (n := n)).goes i H' (by simpa [rangeCD] using hi) trivial
  yld := fun i H' v H2 x hi hy => by
    have hi' : i < n := by simpa [rangeCD] using hi
    obtain ⟨rfl, rfl⟩ := (walk_rangeC (lo := lo) (c := c) (n := n)).yields i H' v H2 hi' trivial hy
    exact ⟨PExt.refl _, _, by simp [rangeCD, hi'], .int _⟩
  stops := fun H' x => by
    have := (walk_rangeC (lo := lo) (c := c) (n := n)).stops H' trivial
    simpa [rangeCD] using this
def iRange3 (ta tb tc : TD) : TDs := fun E Q => ta E fun x E1 => tb E1 fun y E2 => tc E2 fun z E3 => match x, y, z with
  | .int i, .int j, .int k => ∃ n : Nat, RgC i j k n ∧ Q (rangeCD i k n) E3
  | _, _, _ => False
theorem id_range3 {tg : Expr} {ta tb tc : TD} (hg2 : Gl X "range") (hm2 : X.mg "range" = none) (ha : ED X G a ta) (hb : ED X G b tb) (hc : ED X G c tc)
    (hs : starEach [a, b, c] X.env = (false, eval a X.env) :: starEach [b, c] X.env := by rfl) (hs2 : starEach [b, c] X.env = (false, eval b X.env) :: starEach [c] X.env := by rfl) (hs3 : starEach [c] X.env = (false, eval c X.env) :: starEach [] X.env := by rfl)
    (hpl : (backTo p3 (starEach [b, c] X.env)).any (·.1) = false := by rfl) : ID X G false tg (.Call (.Name "range" p2) [a, b, c] [] p3) (iRange3 ta tb tc) := by
  refine ⟨PI.weak (pi_range3 hg2 hm2 (pa_cons ha.pe (pa_cons hb.pe (pa_cons hc.pe pa_nil hs3) hs2) hs) hs hpl) fun σ H Q ⟨E, QE, rel, q, k⟩ =>
    ⟨E, _, rel, q, fun x E1 v H1 q1 x1 r1 p1 => ⟨E1, _, r1, q1, fun y E2 u H2 q2 x2 r2 p2 => ⟨E2, _, r2, q2, fun z E3 w H3 q3 x3 r3 p3 => ?_⟩⟩⟩⟩
  cases p1 with
  | int i =>
    cases p2 with
    | int j =>
      cases p3 with
      | int m =>
        obtain ⟨n, hc, q3⟩ := q3
        exact ⟨i, j, m, n, rfl, hc, k _ _ _ _ q3 ((x1.trans x2).trans x3) r3 walkD_rangeC⟩
      | _ => exact q3.elim
    | _ => cases p3 <;> exact q3.elim
  | _ => cases p2 <;> cases p3 <;> exact q3.elim
/-- x, y, z = a, b, c: plain local names -/
theorem sd_par3 {i j l : Nat} {x y z : Str} {t : TPs} {px py pz pt : Pos} {kt k2 pt2} (hsl : ∀ n ∈ [i, j, l], n ∉ G.slots) (hc : X.calm = true) (hN : X.N.Nodup) (hi : X.N[i]? = some x) (hj : X.N[j]? = some y) (hl : X.N[l]? = some z) (hij : i ≠ j) (hil : i ≠ l) (hjl : j ≠ l)
    (hx : X.env.scope.names.lookup x = some .local) (hy : X.env.scope.names.lookup y = some .local) (hz : X.env.scope.names.lookup z = some .local) (ha : EPs X G [a, b, c] t)
    (hw : swappedStores [.Tuple [.Name x px, .Name y py, .Name z pz] kt pt] (.Tuple [a, b, c] k2 pt2) X.env = pure (some [x, y, z]) := by rfl)
    (hs : swapsWithSole [.Tuple [.Name x px, .Name y py, .Name z pz] kt pt] (.Tuple [a, b, c] k2 pt2) pos.line X.env = pure false := by rfl) :
    SD X G (.Assign [.Tuple [.Name x px, .Name y py, .Name z pz] kt pt] (.Tuple [a, b, c] k2 pt2) pos) (sPar [i, j, l] t) :=
  ⟨PS.weak (ps_par3 hc hN hi hj hl hij hil hjl hx hy hz ha.pa hw hs) fun F σ H ⟨E, DE, r, q, k1, k2, k3, k4⟩ => ⟨E, _, r, q, fun ss E1 vs H1 ex q1 x1 r1 p1 => by
    obtain ⟨hl, q1⟩ := q1
    have hv : vs.length = 3 := by rw [← p1.length, ← hl]; rfl
    match vs, hv, p1 with
    | [v, w, u], _, p1 => exact ⟨v, w, u, rfl, k1 _ _ _ q1 x1 (RelX.setAll hsl hl r1 p1)⟩⟩⟩
/-! ### slices by numbers from 0 on -/
theorem sIx_int {n d : Nat} {i : Int} (h : 0 ≤ i) : HT.sIx n d (some i) = min i.toNat n := by
  show (if i < 0 then (i + (n : Int)).toNat else min i.toNat n) = _
  rw [if_neg (by omega)]
theorem cut_to {xs : List D} {i : Int} (h : 0 ≤ i) : cutD xs none (some i) = xs.take i.toNat := by
  unfold cutD
  rw [HT.sIx_none, sIx_int h]
  show xs.take (min i.toNat xs.length - 0) = _
  rw [Nat.sub_zero]
  rcases Nat.le_total i.toNat xs.length with z | z
  · rw [Nat.min_eq_left z]
  · rw [Nat.min_eq_right z, List.take_of_length_le (Nat.le_refl _), List.take_of_length_le z]
theorem cut_from {xs : List D} {i : Int} (h : 0 ≤ i) : cutD xs (some i) none = xs.drop i.toNat := by
  unfold cutD
  rw [HT.sIx_none, sIx_int h]
  rcases Nat.le_total i.toNat xs.length with z | z
  · rw [Nat.min_eq_left z, List.take_of_length_le (by rw [List.length_drop]; omega)]
  · rw [Nat.min_eq_right z, List.drop_eq_nil_of_le (Nat.le_refl _), List.drop_eq_nil_of_le z, List.take_nil]
theorem cut_mid {xs : List D} {i j : Int} (h : 0 ≤ i) (h' : 0 ≤ j) : cutD xs (some i) (some j) = (xs.take j.toNat).drop i.toNat := by
  unfold cutD
  rw [sIx_int h, sIx_int h', List.drop_take]
  rcases Nat.le_total i.toNat xs.length with z | z
  · rw [Nat.min_eq_left z]
    rcases Nat.le_total j.toNat xs.length with y | y
    · rw [Nat.min_eq_left y]
    · rw [Nat.min_eq_right y, List.take_of_length_le (by rw [List.length_drop]; omega), List.take_of_length_le (by rw [List.length_drop]; omega)]
  · rw [Nat.min_eq_right z, List.drop_eq_nil_of_le (Nat.le_refl _), List.drop_eq_nil_of_le z, List.take_nil, List.take_nil]
end
end DL

set_option Elab.async false
set_option linter.all false
set_option maxRecDepth 100000
namespace DL
open PySem PySem.Spec PyProof.Rows L2
/-- a def that nobody calls at this height -/
theorem no_ok {P : Program} {w : World} {K : PySem.W.Frag} {mg : Str → Option Value} {base : Heap} {x qual : Str} {st : Stmt} {f : Addr} {fd : FuncData} {N ps : List Str} {k : Nat} (F : Fun K x qual st f fd) (Sc : FnScope N ps (defScope st)) : FnOk P w K mg base CX0 (k + 1) f fd ps (spL K fun _ _ => False) :=
  F.ok Sc (fun vs H Q E ⟨_, _, _, h, _⟩ => h.elim) (fun cdv A outer s H vs Q E hr ⟨_, _, _, h, _⟩ => h.elim)
/-- the end of a law: the law's def keeps the promise spLaw-like on every script -/
theorem law_walk {l : PySem.W.OpenLaw} {n k : Nat} {q : Program} {loose : List Str} {XP : (Str → Option Value) → Heap → Prop} {YP : World → Heap → Prop} {d : DefRec} {KK : Params → PySem.W.Frag} {sp : SpD} {x : Str} (hm : l.most = some n) (hl : n ≤ sizeLine) (hdf : d.params.defaults = []) (rm : Room k callerA) (hY : ∀ (w : World) (h : Heap), YP w h → (KK w.params).In h)
    (F : ∀ (w : World) (mg : Str → Option Value) (fa : Addr) (h : Heap), (KK w.params).In h → h.Ns mainGlobals mg → mg d.name = some (.ref fa) → ∃ fd : FuncData, (∀ (s : Shared) (u : Value), BindsTo s fd ⟨[u], []⟩ [(x, u)]) ∧ ∀ base : Heap, (KK w.params).In base → base.Ns mainGlobals mg → FnOk l.prog w (KK w.params) mg base L2.CX0 k fa fd [x] (spL (KK w.params) sp))
    (hsp : ∀ (ns : List Int) (Q : D → List S → Prop), ns.length ≤ n → (∀ z ∈ ns, Builtin.Int.intBits z ≤ 1048576) → Q (.bool true) [] → sp [.d (.list (ns.map PyData.int))] Q) :
    PySem.W.WalkO q loose XP YP l.row.toRowW d [] (fun f vs => PySem.call f vs) := by
  refine Att.attach_callB hm hdf fun w s₀ s₁ mg mb fa o pm cd doc a vs ns G Y ho hd hcd hmg hobj hints hlen hbits hg => ?_
  have KX := hY w _ Y
  obtain ⟨fd, hb, hF⟩ := F w mg fa _ KX G.T.g hmg
  refine law_call KX G.T.g G.T.b G.T.builtins G.T.nolimit hg hobj hints (Nat.le_trans hlen hl) rm hF hb (fun H hO hS => ?_) (fun H e s' h => h)
  have hF : LsF (KK w.params) H a (ns.map V.int) := by
    rcases hS with (z | z) | ⟨ob, its, m, e, hc, hdd, hdt, hz, r⟩
    · rcases hO a with y | ⟨ob, xs, y⟩
      · rw [z] at y; cases y
      · rw [z] at y; cases y
    · exact .inl z
    · have e2 := KX _ _ e
      rw [hobj] at e2
      cases e2
      cases hdt
      exact .inr ⟨_, _, e, hz, r⟩
  refine ⟨[.d (.list (ns.map PyData.int))], [], fun d outs => d = .bool true, hsp ns _ hlen hbits rfl, .d (.lst hF (RpL.ofInts ns)) .nil, List.nodup_nil, fun d outs v H' h _ _ r => ?_⟩
  subst h
  cases r
  rfl
end DL

set_option Elab.async false
set_option linter.all false
set_option maxRecDepth 100000
set_option maxHeartbeats 3200000
/-! DL13: set(xs) of a list of ints, sorted(set(xs)), len(set(xs)). -/
namespace DL
open PySem PySem.Spec PyProof.Rows L2
section
variable {P : Program} {w : World} {A : Around} {E : Value → Shared → Prop} {s : Shared}
abbrev nSet (w : World) : Obj := { cls := .type "set", dict := none, data := .set #[] 0 (.fresh 0 0 (!w.params.followText "set-order")) }
theorem set_of_list {l : Addr} {items : Array Value} (ns : List Int) {Q : Value → Shared → Prop} (hh : A.handled = none) (hl : s.heap.IsList l items) (hit : IntsAre items.toList ns) (hb : ns.length + 1 < scanBound)
    (fin : ∀ (h' : Heap) (tk c : Nat), SetR w h' s.heap.objs.size (fun j => decide (j ∈ ns)) c → c ≤ ns.length → (∀ b o, s.heap.get? b = some o → h'.get? b = some o) → Q (.ref s.heap.objs.size) { s with heap := h', toks := tk }) :
    wpAny (model P w) A (call (.type "set") [.ref l]) Q E s := by
  have sz : items.size = ns.length := by have q := IntsAre.length hit; rw [Array.length_toList] at q; exact q
  obtain ⟨cm, tlm, _⟩ := F.called_set.mro
  have made := F.called_set.made; have subs := F.called_set.sub
  refine wpAny_call (codeAny_of_tree ?_); show wpAny _ _ (callAny (.type "set") _) _ _ _
  refine wpAny_pure ⟨Code.quiet_builtin _ (by decide +kernel), codeAny_builtin F.entry_type_call ?_⟩; rw [Around.under_plain (weight_type_call_type "set" [.ref l] []) rfl]
  have n1 := F.called_set.notType; have n2 := F.called_set.canCreate; have n3 := F.typeCall_set_1 (.ref l)
  repeat (any_goals (first | assumption | wp_step))
  refine codeAny_mono (code_set_led1 (.ref l) (E := E) (Q₁ := fun ob s₁ => ob = .ref s.heap.objs.size ∧ s₁ = { s with heap := s.heap.push (nSet w) }) ⟨rfl, rfl⟩) fun res s₁ hres => ?_
  cases res with
  | error e => exact hres
  | ok fl =>
    cases fl with
    | ret ob =>
      obtain ⟨rfl, rfl⟩ := hres
      have there : (s.heap.push (nSet w)).get? s.heap.objs.size = some (nSet w) := Heap.get?_push_size _ rfl
      have isS : Shared.TypeIs { s with heap := s.heap.push (nSet w) } (.ref s.heap.objs.size) "set" := ⟨_, there, rfl⟩
      have i1 := F.called_set.init.lookup; have i2 := F.called_set.init.bind (.ref s.heap.objs.size)
      repeat (any_goals (first | assumption | wp_step))
      refine codeAny_mono (codeAny_call_builtin (R := wants (fun r s₂ => r = .none ∧ ∃ h' tk c, s₂ = { s with heap := h', toks := tk } ∧ SetR w h' s.heap.objs.size (fun j => decide (j ∈ ns)) c ∧ c ≤ ns.length ∧ (∀ b o, s.heap.get? b = some o → h'.get? b = some o)) E) F.called_set.init.plain F.entry_set_init (check_set_init_1 isS ?_)) fun r₂ s₂ hr₂ => ?_
      · obtain ⟨⟨ocls, odict, odata, oslots⟩, hol, hcl, nl, hdl⟩ := hl
        simp only at hcl hdl; subst hcl; subst hdl
        have lthere : (s.heap.push (nSet w)).get? l = some { cls := .type "list", dict := odict, data := .seq items nl, slots := oslots } := Heap.get?_push_of_some _ hol
        have s1 := F.sub_list_set; have s2 := F.sub_list_frozenset; have s3 : (Value.type "list" == Value.type "dict") = false := by decide
        have isL : (s.heap.push (nSet w)).IsList l items := ⟨_, lthere, rfl, nl, rfl⟩
        unfold Builtin.«set.__init__» noKeywords Builtin.Frozenset.updateFrom; generalize ePI : pyIter = PI
        wp_walk
        subst ePI
        refine wpAny_pyIter_list isL ?_; refine wpAny_bind (wpAny_runValue ?_)
        have lt : l < s.heap.objs.size := Heap.lt_size hol
        have calm3 : A.in1.in1.in1.handled = none := by simp [hh]
        have neI : l ≠ (s.heap.push (nSet w)).objs.size := by rw [Heap.size_push]; exact Nat.ne_of_lt (Nat.lt_succ_of_lt lt)
        have notin : s.heap.objs.size ∉ [(s.heap.push (nSet w)).objs.size, l] := by
          rw [Heap.size_push]; simp only [List.mem_cons, List.mem_singleton, List.not_mem_nil, or_false, not_or]; exact ⟨Nat.ne_of_lt (Nat.lt_succ_self _), Nat.ne_of_gt lt⟩
        have vals : ∀ (i : Nat) (v : Value), items[i]? = some v → ∃ k t, ns[i]? = some k ∧ v = .int k t := fun i v hv => by
          have hi : i < ns.length := by rw [← sz]; exact (Array.getElem?_eq_some_iff.mp hv).1
          obtain ⟨t, e⟩ := PyProof.Rows.IntsAre.int_at hit i v (by rw [Array.getElem?_toList]; exact hv)
          refine ⟨ns[i], t, List.getElem?_eq_getElem hi, ?_⟩; rw [e, List.getD_eq_getElem?_getD, List.getElem?_eq_getElem hi] <;> rfl
        refine set_update_ints ((Walks.list calm3 _ l neI items).toS) s.heap.objs.size notin ns sz hb vals (items.size - 0) 0 _ (by omega) (Nat.zero_le _) ⟨⟨_, Heap.get?_push_size _ rfl, rfl, rfl⟩, (isL.push _)⟩ ⟨0, Nat.le_refl 0, setR_new_at (Heap.get?_push_of_some _ there)⟩ fun s' c' hm hc' hS' => ?_
        obtain ⟨h', g2, d', tk', os'⟩ := s'
        have eg : g2 = s.gens := hm.gens; have ed : d' = s.drawn := hm.drawn; have eo : os' = s.os := hm.os
        subst eg; subst ed; subst eo
        show wpAny _ _ _ _ _ _
        refine wpAny_pure ?_; show wpAny _ _ (ret Value.none) _ _ _
        rw [sz] at hc'; refine wpAny_pure ⟨rfl, h', tk', c', rfl, hS', hc', fun b o e => ?_⟩
        have hb0 : b < s.heap.objs.size := Heap.lt_size e
        have hb2 : b ≠ (s.heap.push (nSet w)).objs.size := by rw [Heap.size_push]; exact Nat.ne_of_lt (Nat.lt_succ_of_lt hb0)
        exact hm.heap b o (by simp only [List.mem_cons, List.mem_singleton, List.not_mem_nil, or_false, not_or]; exact ⟨Nat.ne_of_lt hb0, hb2⟩) (Heap.get?_push_of_some _ (Heap.get?_push_of_some _ e))
      · cases r₂ with
        | error e => exact hr₂
        | ok fl₂ =>
          cases fl₂ with
          | ret r =>
            obtain ⟨rfl, h', tk, c', rfl, hS', hc', hk'⟩ := hr₂
            repeat (any_goals (first | assumption | wp_step))
            exact fin _ _ _ hS' hc' hk'
          | _ => exact hr₂.elim
    | _ => exact hres.elim
end
end DL
namespace DL
open PySem PySem.Spec PyProof.Rows L2
section
variable {X : Cx} {G : Gh} {a : Expr} {pos p p1 p2 p3 : Pos}
theorem cr_setL (hc : X.calm = true) : CallR X (.type "set") (fun vs H Q => ∃ (l : Addr) (ns : List Int), vs = [.ref l] ∧ SqL X.K H l (ns.map V.int) ∧ ns.length ≤ 4000 ∧ ∀ q c, H q = none → c ≤ ns.length → Q (.ref q) (upd H q (SetO X.w q (fun j => decide (j ∈ ns)) c))) := by
  intro pins s σ H vs us Q I r h
  obtain ⟨l, ns, rfl, hS, hl, q⟩ := h
  rw [Vals.ref1 r]
  obtain ⟨its, rv, pl, hz⟩ := I.list hS
  refine set_of_list ns (I.ok.hd hc) pl.isList (by simpa using rv.ints) (by unfold scanBound; omega) fun h' tk c R hcn k => ?_
  exact ⟨.ref _, upd H s.heap.objs.size (SetO X.w s.heap.objs.size (fun j => decide (j ∈ ns)) c), I.laid (t' := tk) k (Nat.le_refl _) (setO_new R), rfl, q _ _ (I.hok.fresh (Nat.le_refl _)) hcn⟩
/-- sorted(set(xs)), xs a list of fewer than 64 ints -/
def tSortSet (ta : TD) : TLd := fun E Q => ta E fun x E1 => match x with
  | .list xs => ∃ ns : List Int, xs = ns.map PyData.int ∧ ns.length < 64 ∧ ∀ zs : List Int, zs.Pairwise (· < ·) → (∀ k, k ∈ zs ↔ k ∈ ns) → Q (zs.map PyData.int) E1
  | _ => False
theorem el_sortSet {ta : TD} (ha : ER X G a ta) (hg : Gl X "sorted") (hm : X.mg "sorted" = none) (hg2 : Gl X "set") (hm2 : X.mg "set" = none) (hc : X.calm = true := by rfl)
    (hs : starEach [a] X.env = (false, eval a X.env) :: starEach [] X.env := by rfl) : EL X G (.Call (.Name "sorted" p) [.Call (.Name "set" p1) [a] [] p2] [] pos) (tSortSet ta) := by
  refine ⟨PE.weak (pe_callB (cr_sortedSet hc) hg hm bb_sorted (pa_cons (pe_callTy (cr_setL hc) hg2 hm2 PyProof.Rows.boot_set (pa_cons ha.pe pa_nil hs) (by decide) (by decide) hs) pa_nil)) fun σ H Q ⟨E, QE, rel, q, k⟩ => ⟨E, _, rel, q, fun x E1 v H1 q1 x1 r1 p1 => ?_⟩⟩
  cases x with
  | list xs =>
    obtain ⟨ns, rfl, hl, q1⟩ := q1
    obtain ⟨b, us, rfl, hs, l⟩ := p1.list
    rw [l.ints] at hs
    refine ⟨b, ns, rfl, hs, by omega, fun q c hq hcn => ⟨q, _, c, rfl, upd_same, by omega, fun zs p' h1 h2 h3 hp => ?_⟩⟩
    obtain ⟨r3, h30, n3⟩ := (r1.pext (PExt.new (o := SetO X.w q (fun j => decide (j ∈ ns)) c) hq)).fresh (o := .lst (zs.map V.int)) hp
    exact k _ _ _ _ _ (q1 zs h1 fun z => by rw [h2 z]; exact decide_eq_true_iff) ((x1.trans (PExt.new hq).ext).trans (PExt.new hp).ext) r3 h30 n3 upd_same (RpL.ofInts zs)
  | _ => exact q1.elim
/-- len(set(xs)) -/
def tLenSet (ta : TD) : TD := fun E Q => ta E fun x E1 => match x with
  | .list xs => ∃ ns : List Int, xs = ns.map PyData.int ∧ ns.Nodup ∧ ns.length ≤ 4000 ∧ Q (.int (ns.length : Nat)) E1
  | _ => False
theorem ed_lenSet {ta : TD} (ha : ER X G a ta) (hg : Gl X "len") (hm : X.mg "len" = none) (hg2 : Gl X "set") (hm2 : X.mg "set" = none) (hc : X.calm = true := by rfl)
    (hs : starEach [a] X.env = (false, eval a X.env) :: starEach [] X.env := by rfl) : ED X G (.Call (.Name "len" p) [.Call (.Name "set" p1) [a] [] p2] [] pos) (tLenSet ta) := by
  refine ⟨PE.weak (RZ.pe_lenSetI hg hm hg2 hm2 ha.pe hc hs) fun σ H Q ⟨E, QE, rel, q, k⟩ => ⟨E, _, rel, q, fun x E1 v H1 q1 x1 r1 p1 => ?_⟩⟩
  cases x with
  | list xs =>
    obtain ⟨ns, rfl, hn, hl, q1⟩ := q1
    obtain ⟨b, us, rfl, hs, l⟩ := p1.list
    rw [l.ints] at hs
    exact ⟨b, ns, rfl, hs, hn, hl, k _ _ _ _ q1 x1 r1 (.int _)⟩
  | _ => exact q1.elim
end
/-- ints that rise are what sorted(set()) makes of them -/
theorem sset_up {ns zs : List Int} (h : ns.Pairwise (· < ·)) (hz : zs.Pairwise (· < ·)) (e : ∀ k, k ∈ zs ↔ k ∈ ns) : zs = ns := by
  induction ns generalizing zs with
  | nil =>
    cases zs with
    | nil => rfl
    | cons a l => exact absurd ((e a).mp List.mem_cons_self) (by simp)
  | cons a l ih =>
    cases zs with
    | nil => exact absurd ((e a).mpr List.mem_cons_self) (by simp)
    | cons b m =>
      have h1 := List.pairwise_cons.mp h
      have h2 := List.pairwise_cons.mp hz
      have eab : b = a := by
        rcases List.mem_cons.mp ((e b).mp List.mem_cons_self) with q | q
        · exact q
        · rcases List.mem_cons.mp ((e a).mpr List.mem_cons_self) with q2 | q2
          · exact q2.symm
          · have := h1.1 b q; have := h2.1 a q2; omega
      subst eab
      rw [ih h1.2 h2.2 fun k => ?_]
      constructor
      · intro hk
        rcases List.mem_cons.mp ((e k).mp (List.mem_cons_of_mem _ hk)) with q | q
        · have := h2.1 k hk; omega
        · exact q
      · intro hk
        rcases List.mem_cons.mp ((e k).mpr (List.mem_cons_of_mem _ hk)) with q | q
        · have := h1.1 k hk; omega
        · exact q
theorem sset_down {ns zs : List Int} (h : ns.Pairwise (· > ·)) (hz : zs.Pairwise (· < ·)) (e : ∀ k, k ∈ zs ↔ k ∈ ns) : zs.reverse = ns := by
  have : zs = ns.reverse := sset_up (List.pairwise_reverse.mpr h) hz fun k => by rw [e k, List.mem_reverse]
  rw [this, List.reverse_reverse]
end DL

set_option Elab.async false
set_option linter.all false
set_option maxRecDepth 100000
/-! DL14: plain laws of data: shaped, == of encoded lists. -/
namespace DL
open PySem PySem.Spec PyProof.Rows L2
/-- n lists or tuples deep at most, no dict -/
def shOk : Nat → D → Bool
  | _, .none => true
  | _, .bool _ => true
  | _, .int _ => true
  | _, .str x => PyData.strOk x
  | n + 1, .tuple ds => ds.all (shOk n)
  | n + 1, .list ds => ds.all (shOk n)
  | _, _ => false
theorem shOk_all {n : Nat} (ih : ∀ d, shOk n d = true → d.canLay0 = true ∧ d.depth ≤ n) : ∀ ds : List D, ds.all (shOk n) = true → PyData.canLayAll0 ds = true ∧ PyData.depthAll ds ≤ n
  | [], _ => ⟨rfl, Nat.zero_le _⟩
  | d :: ds, h => by
    rw [List.all_cons, Bool.and_eq_true] at h
    have ⟨a, b⟩ := ih d h.1
    have ⟨c, e⟩ := shOk_all ih ds h.2
    exact ⟨by rw [PyData.canLayAll0, a, c]; rfl, by rw [PyData.depthAll]; omega⟩
theorem shOk_spec : ∀ (n : Nat) (d : D), shOk n d = true → d.canLay0 = true ∧ d.depth ≤ n
  | n, .none, _ => ⟨rfl, Nat.zero_le _⟩
  | n, .bool _, _ => ⟨rfl, Nat.zero_le _⟩
  | n, .int _, _ => ⟨rfl, Nat.zero_le _⟩
  | n, .str x, h => ⟨by cases n <;> exact h, Nat.zero_le _⟩
  | n + 1, .tuple ds, h => by
    have ⟨a, b⟩ := shOk_all (shOk_spec n) ds h
    exact ⟨by rw [PyData.canLay0]; exact a, by rw [PyData.depth]; omega⟩
  | n + 1, .list ds, h => by
    have ⟨a, b⟩ := shOk_all (shOk_spec n) ds h
    exact ⟨by rw [PyData.canLay0]; exact a, by rw [PyData.depth]; omega⟩
  | 0, .tuple _, h => by cases h
  | 0, .list _, h => by cases h
  | 0, .dict _, h => by cases h
  | n + 1, .dict _, h => by cases h
theorem shaped_of {n : Nat} {d : D} (h : shOk n d = true) (hn : n ≤ 64 := by decide) : SeqAt.shaped d = true := by
  have ⟨a, b⟩ := shOk_spec n d h
  show (d.canLay0 && decide (d.depth ≤ 64)) = true
  rw [a, decide_eq_true (show d.depth ≤ 64 by omega)]; rfl
theorem eqv_self {n : Nat} {d : D} (h : shOk n d = true) : PyData.eqv d d = true := SeqAt.eqv_refl d (shOk_spec n d h).1
theorem shOk_lst {n : Nat} {ds : List D} : shOk (n + 1) (.list ds) = ds.all (shOk n) := rfl
theorem shOk_tup {n : Nat} {ds : List D} : shOk (n + 1) (.tuple ds) = ds.all (shOk n) := rfl
theorem all_enc {α : Type} {n : Nat} {e : α → D} (he : ∀ a, shOk n (e a) = true) (xs : List α) : (xs.map e).all (shOk n) = true := by
  rw [List.all_map]; exact List.all_eq_true.mpr fun a _ => he a
theorem all_ints {n : Nat} (ns : List Int) : (ns.map PyData.int).all (shOk n) = true := all_enc (fun _ => by cases n <;> rfl) ns
theorem shaped_li (ns : List Int) : SeqAt.shaped (.list (ns.map PyData.int)) = true := shaped_of (n := 1) (by rw [shOk_lst]; exact all_ints ns)
theorem shaped_ti (ns : List Int) : SeqAt.shaped (.tuple (ns.map PyData.int)) = true := shaped_of (n := 1) (by rw [shOk_tup]; exact all_ints ns)
theorem eqvAll_enc {α : Type} [DecidableEq α] {e : α → D} (he : ∀ a b, PyData.eqv (e a) (e b) = decide (a = b)) : ∀ xs ys : List α, PyData.eqvAll (xs.map e) (ys.map e) = decide (xs = ys)
  | [], [] => rfl
  | [], _ :: _ => rfl
  | _ :: _, [] => rfl
  | x :: xs, y :: ys => by
    rw [List.map_cons, List.map_cons, PyData.eqvAll, he, eqvAll_enc he xs ys]
    by_cases h1 : x = y <;> by_cases h2 : xs = ys <;> simp [h1, h2]
theorem eqv_li (ns ms : List Int) : PyData.eqv (.list (ns.map PyData.int)) (.list (ms.map PyData.int)) = decide (ns = ms) := by rw [eqv_lst, eqvAll_enc eqv_int]
theorem eqv_ti (ns ms : List Int) : PyData.eqv (.tuple (ns.map PyData.int)) (.tuple (ms.map PyData.int)) = decide (ns = ms) := by rw [eqv_tup, eqvAll_enc eqv_int]
end DL

set_option Elab.async false
set_option linter.all false
set_option maxRecDepth 100000
set_option maxHeartbeats 1000000
/-! DL15: sorted(xs), sorted(xs, reverse=b): lists and tuples of any data that is alike. -/
namespace DL
open PySem PySem.Spec PyProof.Rows L2
section
variable {prog : Program} {w : World} {A : Around} {E : Value → Shared → Prop} {s : Shared} {β : Type} {vs : List Value} {bs : List β} {enc : β → PyData} {R : Value → β → Prop}
/-- what is made of a list's or a tuple's items: a new list, in the very next place -/
theorem collect_one {l : Addr} {T : String} {o : Obj} {n : Nat} {Q : List Value → Shared → Prop} (hT : T = "list" ∨ T = "tuple") (ho : s.heap.get? l = some o) (hc : o.cls = .type T) (hd : o.data = .seq vs.toArray n) (small : vs.length ≤ sizeLine)
    (fin : Q vs { s with heap := (s.heap.push (seqObj "list" #[] 0)).update s.heap.objs.size (Obj.mapSeq (· ++ vs.toArray)) }) : wpAny (model prog w) A (collect (.ref l)) Q E s := by
  have new : (s.heap.push (seqObj "list" #[] 0)).get? s.heap.objs.size = some (seqObj "list" #[] 0) := Heap.get?_push_size _ rfl
  have was : (s.heap.push (seqObj "list" #[] 0)).get? l = some o := Heap.get?_push_of_some _ ho
  unfold collect; refine wpAny_bind (wpAny_runValue (codeAny_builtin entry_proto_collect' ?_))
  show wpAny _ _ (do again (.builtin "list.__iadd__" ⟨[← newList [], Value.ref l], []⟩)) _ _ s
  refine wpAny_bind (wpAny_newList (wpAny_pure ⟨Code.quiet_builtin _ (by decide +kernel), codeAny_builtin entry_list_iadd' ?_⟩) (Nat.zero_le _))
  show wpAny _ _ (Builtin.List.listExtendWith (Value.ref s.heap.objs.size) (Value.ref l) (Value.ref s.heap.objs.size)) _ _ { s with heap := s.heap.push (seqObj "list" #[] 0) }
  unfold Builtin.List.listExtendWith; refine wpAny_bind (wpAny_typeOf (T := T) ⟨o, was, hc⟩ ?_)
  rw [if_pos (by rcases hT with rfl | rfl; · rw [show (Value.type "list" == Value.type "list") = true from rfl, Bool.or_true, Bool.true_or]
                 · rw [show (Value.type "tuple" == Value.type "tuple") = true from rfl, Bool.or_true])]; refine wpAny_bind (listItems_at was hd ?_); refine wpAny_bind (listItems_at (xs := #[]) (n := 0) new rfl ?_)
  rw [if_neg (by simp)]
  refine wpAny_bind (listUpdate_at (xs := #[]) (n := 0) new rfl ?_ (Nat.zero_le _) (by show (#[] ++ vs.toArray).size ≤ sizeLine + 1; simp only [Array.size_append, List.size_toArray, List.length_nil]; omega)); refine wpAny_pure ?_
  show wpAny (model prog w) A (do
      let ob ← load s.heap.objs.size
      match ob.data with | .seq xs _ => pure xs.toList | _ => unsupported "internal:collect") Q E { s with heap := (s.heap.push (seqObj "list" #[] 0)).update s.heap.objs.size (Obj.mapSeq (· ++ vs.toArray)) }
  refine wpAny_bind (wpAny_load (get?_update_seq new _) ?_); show wpAny _ _ (pure ((#[] : Array Value) ++ vs.toArray).toList) Q E _
  have e0 : ((#[] : Array Value) ++ vs.toArray).toList = vs := by simp
  rw [e0]; exact wpAny_pure fin
theorem sorted_seqD {l : Addr} {T : String} {o : Obj} {n : Nat} {rv : Bool} {kw : List (Str × Value)} {Q : Value → Shared → Prop} (hT : T = "list" ∨ T = "tuple") (ho : s.heap.get? l = some o) (hc : o.cls = .type T) (hd : o.data = .seq vs.toArray n)
    (hkw : ∀ p, Builtin.«list.sort» ⟨[.ref p], kw⟩ = Builtin.«list.sort» ⟨[.ref p], [(Str.ofString "reverse", .bool rv)]⟩) (ok1 : argsOk "sorted" ⟨[.ref l], kw⟩) (ok2 : ∀ x, argsOk "list.sort" ⟨[.ref x], kw⟩)
    (e : PySem.W.EachIs R vs bs) (er : PySem.W.EachIs (fun v b => ∃ as, Reads s.heap v (enc b) as) vs bs) (hal : PySem.W.AllAlike (bs.map enc)) (hk : PySem.W.Sortable (bs.map enc)) (hL : vs.length ≤ sizeLine) (hu : ∀ b, b ∈ bs → A.units + 2 + (enc b).depth < cLine)
    (h : ∀ h' p out c, (∀ b o, s.heap.get? b = some o → h'.get? b = some o) → s.heap.objs.size ≤ p → h'.get? p = some { cls := .type "list", data := .seq (List.toArray out) c } → PySem.W.EachIs R out (bs.mergeSort (PySem.W.dataLe rv enc)) → Q (.ref p) { s with heap := h' }) :
    wpAny (model prog w) A (call (.builtin "sorted") [.ref l] kw) Q E s := by
  refine call_function_entry_kw kind_sorted plain_sorted entry_sorted ok1 ?_
  unfold Builtin.«sorted»
  refine wpAny_bind (m := checkCount "sorted" 1 1 _) (wpAny_pure ?_)
  refine wpAny_bind (collect_one hT ho hc hd hL ?_)
  generalize hh1 : (s.heap.push (seqObj "list" #[] 0)).update s.heap.objs.size (Obj.mapSeq (· ++ vs.toArray)) = h1
  have le1 : s.heap.objs.size ≤ h1.objs.size := by rw [← hh1, Heap.size_update, size_push']; exact Nat.le_succ _
  have k1 : ∀ b u, s.heap.get? b = some u → h1.get? b = some u := fun b u q => by
    rw [← hh1, Heap.get?_update_ne _ _ _ _ (Nat.ne_of_lt (Heap.lt_size q))]; exact Heap.get?_push_of_some _ q
  refine wpAny_bind (wpAny_newList ?_ hL)
  have hp : (h1.push (seqObj "list" vs.toArray 0)).get? h1.objs.size = some (seqObj "list" vs.toArray 0) := Heap.get?_push_size _ rfl
  have old : ∀ b u, s.heap.get? b = some u → b ≠ h1.objs.size ∧ (h1.push (seqObj "list" vs.toArray 0)).get? b = some u := fun b u q => ⟨Nat.ne_of_lt (Heap.lt_size (k1 b u q)), Heap.get?_push_of_some _ (k1 b u q)⟩
  refine wpAny_bind (wpAny_holding (wpAny_call_entry_kw slot_list_sort ⟨_, hp, rfl⟩ entry_list_sort ?body (ok2 _)))
  case body =>
    have er' : PySem.W.EachIs (fun v b => ∃ as, Reads (PySem.W.sortingHeap (h1.push (seqObj "list" vs.toArray 0)) h1.objs.size vs) v (enc b) as) vs bs := er.mono fun _ _ ⟨as, r⟩ => ⟨as, PyProof.Rows.Reads.keeps (fun b u q => PySem.W.sortingHeap_old (old b u q).1 (old b u q).2) r⟩
    show wpAny (model prog w) A.in1.in1 (Builtin.«list.sort» ⟨[.ref h1.objs.size], kw⟩) _ _ _
    rw [hkw]
    refine PySem.W.list_sort_rev_vals (κ := PySem.W.dataKind (PySem.W.sortingHeap (h1.push (seqObj "list" vs.toArray 0)) h1.objs.size vs) (bs.map enc)) hp (PySem.W.SortsAt.data (s := { s with heap := PySem.W.sortingHeap (h1.push (seqObj "list" vs.toArray 0)) h1.objs.size vs }) (PySem.W.each_map (R := fun v d => ∃ as, Reads (PySem.W.sortingHeap (h1.push (seqObj "list" vs.toArray 0)) h1.objs.size vs) v d as) enc er') hal hk (PySem.W.bound_map hu)) hL ⟨_, rfl, wpAny_pure ⟨_, rfl, ?_⟩⟩
    obtain ⟨c, hc2⟩ := sortedHeap_at (vs := vs) (out := (PySem.W.sortVals (PySem.W.dataKind (PySem.W.sortingHeap (h1.push (seqObj "list" vs.toArray 0)) h1.objs.size vs) (bs.map enc)) rv vs vs).toArray) hp
    refine h _ _ _ c (fun b u q => ?_) le1 hc2 (PySem.W.sortVals_data rv e er' hal)
    rw [sortedHeap_old (old b u q).1 (Heap.lt_size (old b u q).2)]
    exact (old b u q).2
end
section
variable {X : Cx} {G : Gh}
theorem each_pairs {K : PySem.W.Frag} {H : Hp} : ∀ {ds : List D} {us : List V} {vs : List Value}, RpL K H ds us → Vals us vs → PySem.W.EachIs (fun v (b : V × D) => RelV b.1 v) vs (us.zip ds)
  | _, _, _, .nil, .nil => .nil
  | _, _, _, .cons _ l, .cons r t => .cons r (each_pairs l t)
theorem each_reads {pins : List (Addr × Obj)} {s : Shared} {σ : St} {H : Hp} (I : Inv X pins σ H s) : ∀ {ds : List D} {us : List V} {vs : List Value}, (∀ d ∈ ds, d.canLay0 = true) → RpL X.K H ds us → Vals us vs → PySem.W.EachIs (fun v (b : V × D) => ∃ as, Reads s.heap v b.2 as) vs (us.zip ds)
  | _, _, _, _, .nil, .nil => .nil
  | _, _, _, z, .cons h l, .cons r t => .cons (Dp.reads I _ _ _ (h.dp (z _ (List.mem_cons_self ..))) r) (each_reads I (fun d hd => z d (List.mem_cons_of_mem _ hd)) l t)
theorem each_vals : ∀ {bs : List (V × D)} {vs : List Value}, PySem.W.EachIs (fun v (b : V × D) => RelV b.1 v) vs bs → Vals (bs.map (·.1)) vs
  | _, _, .nil => .nil
  | _, _, .cons r t => .cons r (each_vals t)
theorem zip_rp {K : PySem.W.Frag} {H : Hp} : ∀ {ds : List D} {us : List V}, RpL K H ds us → ∀ b ∈ us.zip ds, Rp K H b.2 b.1
  | _, _, .nil, b, hb => by simp at hb
  | _, _, .cons r l, b, hb => by
    rw [List.zip_cons_cons] at hb
    rcases List.mem_cons.mp hb with e | e
    · subst e; exact r
    · exact zip_rp l b e
theorem rp_zip {K : PySem.W.Frag} {H : Hp} : ∀ {bs : List (V × D)}, (∀ b ∈ bs, Rp K H b.2 b.1) → RpL K H (bs.map (·.2)) (bs.map (·.1))
  | [], _ => .nil
  | b :: bs, h => .cons (h b List.mem_cons_self) (rp_zip fun c hc => h c (List.mem_cons_of_mem _ hc))
theorem zip_snd2 {K : PySem.W.Frag} {H : Hp} {ds : List D} {us : List V} (l : RpL K H ds us) : (us.zip ds).map (·.2) = ds := by
  have := l.length
  rw [List.map_snd_zip (by omega)]
theorem le_snd (rv : Bool) : ∀ a b : V × D, PySem.W.dataLe rv (fun b : V × D => b.2) a b = PySem.W.dataLe rv (fun d : D => d) a.2 b.2 := fun _ _ => rfl
/-- sorted: the data in order -/
def sortD (rv : Bool) (xs : List D) : List D := xs.mergeSort (PySem.W.dataLe rv fun d : D => d)
def sortOk (xs : List D) : Prop := PySem.W.AllAlike xs ∧ PySem.W.Sortable xs ∧ ∀ d ∈ xs, d.depth ≤ 60 ∧ d.canLay0 = true
theorem sorted_run {rv : Bool} {kw : List (Str × Value)} (hu : X.A.units + 65 < cLine) {pins : List (Addr × Obj)} {s : Shared} {σ : St} {H : Hp} {a : Addr} {us : List V} {ds : List D} {Q : VK} (I : Inv X pins σ H s)
    (hs : SqL X.K H a us ∨ SqT X.K H a us) (l : RpL X.K H ds us) (ok : sortOk ds)
    (hkw : ∀ p, Builtin.«list.sort» ⟨[.ref p], kw⟩ = Builtin.«list.sort» ⟨[.ref p], [(Str.ofString "reverse", .bool rv)]⟩) (ok1 : argsOk "sorted" ⟨[.ref a], kw⟩) (ok2 : ∀ x, argsOk "list.sort" ⟨[.ref x], kw⟩)
    (q : ∀ ws p, H p = none → RpL X.K H (sortD rv ds) ws → Q (.ref p) (upd H p (.lst ws))) : wpAny (model X.prog X.w) X.A (call (.builtin "sorted") [.ref a] kw) (EP X pins σ Q) X.xe s := by
  obtain ⟨T, o, n, its, hT, ho, hc, hd, r, hz⟩ : ∃ (T : String) (o : Obj) (n : Nat) (its : List Value), (T = "list" ∨ T = "tuple") ∧ s.heap.get? a = some o ∧ o.cls = .type T ∧ o.data = .seq its.toArray n ∧ Vals us its ∧ us.length ≤ sizeLine := by
    rcases hs with hs | hs
    · obtain ⟨its, r, ⟨o, n, ho, hc, _, hd⟩, hz⟩ := I.list hs
      exact ⟨"list", o, n, its, .inl rfl, ho, hc, hd, r, hz⟩
    · obtain ⟨its, r, ⟨o, ho, hc, n, hd⟩, hz⟩ := I.tuple hs
      exact ⟨"tuple", o, n, its, .inr rfl, ho, hc, hd, r, hz⟩
  have e2 := zip_snd2 l
  refine sorted_seqD (enc := fun b : V × D => b.2) (R := fun v b => RelV b.1 v) (bs := us.zip ds) hT ho hc hd hkw ok1 ok2 (each_pairs l r) (each_reads I (fun d hd => (ok.2.2 d hd).2) l r) (by rw [e2]; exact ok.1) (by rw [e2]; exact ok.2.1) (by rw [← r.length]; exact hz) (fun b hb => ?_) fun h' p out c k1 hp hp2 eo => ?_
  · have := (ok.2.2 b.2 (by rw [← e2]; exact List.mem_map_of_mem hb)).1; omega
  · have rv1 := each_vals eo
    have hn : H p = none := I.hok.fresh hp
    have mem : ∀ b ∈ (us.zip ds).mergeSort (PySem.W.dataLe rv fun b : V × D => b.2), Rp X.K H b.2 b.1 := fun b hb => zip_rp l b ((List.mergeSort_perm _ _).mem_iff.mp hb)
    have e3 : ((us.zip ds).mergeSort (PySem.W.dataLe rv fun b : V × D => b.2)).map (·.2) = sortD rv ds := by
      unfold sortD
      rw [PySem.W.sort_maps (s := PySem.W.dataLe rv fun d : D => d) (fun b : V × D => b.2) (fun a _ b _ => le_snd rv a b), e2]
    have hr := rp_zip mem
    rw [e3] at hr
    have hlen : (((us.zip ds).mergeSort (PySem.W.dataLe rv fun b : V × D => b.2)).map (·.1)).length ≤ sizeLine := by
      rw [List.length_map, (List.mergeSort_perm _ _).length_eq, List.length_zip]; omega
    exact ⟨.ref p, upd H p (.lst _), I.laid (t' := s.toks) k1 hp ⟨hlen, out, c, rv1, hp2⟩, rfl, q _ p hn hr⟩
def caSorted : CaL := fun ds Q => match ds with
  | [.list xs] => sortOk xs ∧ Q (sortD false xs)
  | [.tuple xs] => sortOk xs ∧ Q (sortD false xs)
  | _ => False
theorem cr_sortedD (hu : X.A.units + 65 < cLine) : CallR X (.builtin "sorted") (fun vs H Q => ∃ (a : Addr) (us : List V) (ds : List D), vs = [.ref a] ∧ (SqL X.K H a us ∨ SqT X.K H a us) ∧ RpL X.K H ds us ∧ sortOk ds ∧ ∀ ws p, H p = none → RpL X.K H (sortD false ds) ws → Q (.ref p) (upd H p (.lst ws))) := by
  intro pins s σ H vs us Q I r h
  obtain ⟨a, ws, ds, rfl, hs, l, ok, q⟩ := h
  obtain rfl := Vals.ref1 r
  exact DL.sorted_run hu I hs l ok (fun p => PySem.W.plain_is_rev p) (args_sorted1 _) (fun _ => args_list_sort _) q
theorem cd_sorted (hu : X.A.units + 65 < cLine) : CaLD X (.builtin "sorted") caSorted := ⟨_, cr_sortedD hu, fun ds vs H QD Q hd q k => by
  match ds, q, hd with
  | [.list xs], q, hd =>
    obtain ⟨v, rfl, h⟩ := hd.one
    obtain ⟨a, us, rfl, hs, l⟩ := h.list
    exact ⟨a, us, xs, rfl, .inl hs, l, q.1, fun ws p hp hr => k _ _ _ q.2 hp hr⟩
  | [.tuple xs], q, hd =>
    obtain ⟨v, rfl, h⟩ := hd.one
    obtain ⟨a, us, rfl, hs, l⟩ := h.tuple
    exact ⟨a, us, xs, rfl, .inr hs, l, q.1, fun ws p hp hr => k _ _ _ q.2 hp hr⟩⟩
end
end DL

set_option Elab.async false
set_option linter.all false
set_option maxRecDepth 100000
set_option maxHeartbeats 1000000
/-! DL16: enumerate(t) of a tuple; count, index. -/
namespace DL
open PySem PySem.Spec PyProof.Rows L2 AutoSeq1
section
theorem meets_enumT (l : Addr) (items : Array Value) (n : Nat) (dct : Option Addr) (sl : Array (Option Value)) :
    Meets (Builtin.«enumerate.__new__» ⟨[.type "enumerate", .ref l], []⟩) (fun _ R s => s.heap.get? l = some { cls := .type "tuple", dict := dct, data := .seq items n, slots := sl } ∧
      R (.ok (.ret (.ref (s.heap.push { cls := .type "tuple_iterator", data := .fields #[.ref l, .int 0 0] }).objs.size)))
        { s with heap := (s.heap.push { cls := .type "tuple_iterator", data := .fields #[.ref l, .int 0 0] }).push { cls := .type "enumerate", data := .fields #[.none, .bool false, .ref s.heap.objs.size, rawInt 0, .none, .none] } }) :=
  .of_wp fun prog w A R s h => by
    obtain ⟨hp, g, d, tk, os⟩ := s; obtain ⟨hl, h⟩ := h
    have subE := sub_enumerate; have isT : Heap.IsTuple (Shared.heap ⟨hp, g, d, tk, os⟩) l items := ⟨_, hl, rfl, n, rfl⟩
    wp_walk using wpAny_loadPart' hl
    refine wpAny_stack_any fun st => wpAny_pure ?_
    split
    · rename_i c _ _ _ _ _
      cases (c == Value.type "enumerate") <;> (wp_walk using wpAny_loadPart' hl, wpAny_pyIter_tuple isT; exact ⟨_, rfl, h⟩)
    · wp_walk using wpAny_loadPart' hl, wpAny_pyIter_tuple isT; exact ⟨_, rfl, h⟩
variable {prog : Program} {w : World} {A : Around} {E : Value → Shared → Prop} {s : Shared}
theorem call_enumT {l : Addr} {items : Array Value} {Q : Value → Shared → Prop} (hL : s.heap.IsTuple l items)
    (fin : ∀ h', IsEnum h' (s.heap.objs.size + 1) s.heap.objs.size 0 .none → h'.IsTupleIter s.heap.objs.size l 0 → (∀ b o, s.heap.get? b = some o → h'.get? b = some o) → Q (.ref (s.heap.objs.size + 1)) { s with heap := h' }) :
    wpAny (model prog w) A (call (.type "enumerate") [.ref l]) Q E s := by
  obtain ⟨⟨c, dct, dt, sl⟩, hl, hc, n, hd⟩ := hL
  obtain rfl : c = .type "tuple" := hc
  obtain rfl : dt = .seq items n := hd
  refine callType_new F.called_enumerate (by decide) (F.typeCall_enumerate_1 _) (F.newCall_enumerate_1 _) (fun obj => F.args_object_init_2 obj _) F.entry_enumerate_new (meets_enumT l items n dct sl) ⟨hl, ?_⟩
  have z1 : (s.heap.push { cls := .type "tuple_iterator", data := .fields #[.ref l, .int 0 0] }).objs.size = s.heap.objs.size + 1 := Heap.size_push ..
  show _ ∧ _
  rw [z1]
  have is : IsEnum ((s.heap.push { cls := .type "tuple_iterator", data := .fields #[.ref l, .int 0 0] }).push { cls := .type "enumerate", data := .fields #[.none, .bool false, .ref s.heap.objs.size, rawInt 0, .none, .none] }) (s.heap.objs.size + 1) s.heap.objs.size 0 .none := by
    have q := Heap.get?_push_size (s.heap.push { cls := .type "tuple_iterator", data := .fields #[.ref l, .int 0 0] }) (o := { cls := .type "enumerate", data := .fields #[.none, .bool false, .ref s.heap.objs.size, rawInt 0, .none, .none] }) rfl
    rw [z1] at q; exact q
  exact ⟨⟨_, is, rfl⟩, fin _ is ⟨_, Heap.get?_push_of_some _ (Heap.get?_push_size _ rfl), rfl, rfl⟩ fun b o x => Heap.get?_push_of_some _ (Heap.get?_push_of_some _ x)⟩
end
/-- the tuple at a, each item in a new pair with its number -/
def IteT (K : PySem.W.Frag) (a : Addr) : It :=
  ⟨fun i H => ∃ (xs : List V) (x : V), SqT K H a xs ∧ xs[i]? = some x, fun i H v H' => ∃ T x, v = .ref T ∧ H T = none ∧ H' = upd H T (.tup [.int (i : Nat), x]) ∧ ∀ xs, SqT K H a xs → xs[i]? = some x, fun i H => ∃ xs : List V, SqT K H a xs ∧ xs.length = i⟩
theorem turn_enumT {P : Program} {w : World} {K : PySem.W.Frag} {elts : List Expr} {kk : Nat} {tpos : Pos} (a e it : Addr) :
    Turn P w K (.Tuple elts kk tpos) (IteT K a) [e, it] e (fun i h => (∃ old, IsEnum h e it ((i : Nat) : Int) old) ∧ h.IsTupleIter it a i ∧ e ≠ it ∧ a ≠ it ∧ a ≠ e) where
  mem := by simp
  obj := fun i h st b hb => by
    obtain ⟨⟨old, he⟩, ⟨o, ho, hc, hd⟩, _⟩ := st
    rcases (show b = e ∨ b = it by simpa using hb) with z | z
    · rw [z]; exact ⟨_, he, fun v q => nomatch q⟩
    · rw [z]; exact ⟨o, ho, fun v q => by rw [hd] at q; cases q⟩
  keep := fun i h h' st k => let ⟨⟨old, he⟩, hi, hne⟩ := st; ⟨⟨old, k e (by simp) _ he⟩, hi.at fun o q => k it (by simp) o q, hne⟩
  item := by
    intro X hP hw hK hc i pins s σ H E I hf st hg
    subst hP hw hK
    obtain ⟨⟨old, he⟩, hit, hne, hai, hae⟩ := st
    obtain ⟨xs, x, hq, hx⟩ := hg
    obtain ⟨its, rv, p, hz⟩ := I.tuple hq
    obtain ⟨u, hu, ru⟩ := rv.get hx
    have hel : e < s.heap.objs.size := Heap.lt_size he
    have hil : it < s.heap.objs.size := by obtain ⟨_, q, _⟩ := hit; exact Heap.lt_size q
    have lt : i < its.toArray.size := by simpa using (List.getElem?_eq_some_iff.mp hu).1
    have nf : e ∉ [it, a] := by simp; exact ⟨hne, Ne.symm hae⟩
    refine wpAny_pyNext_enum_itemD (Draws.tuple (A := X.A.in1) (I.ok.hd hc) it a hai its.toArray) he ⟨hit, p⟩ lt hne nf fun u2 h' tk hP2 ho hit' hT hsz hk => ?_
    obtain rfl : u2 = u := by
      have : its[i]? = some u2 := by simpa using hP2
      rw [hu] at this; exact (Option.some.inj this).symm
    refine ⟨_, rfl, wpAny_letOwnedTupleGo_enum (s := { s with heap := h', toks := tk + 1 }) ho fun h'' he' sb => ?_⟩
    have hT2 : h''.get? s.heap.objs.size = some { cls := .type "tuple", data := .seq #[.int i tk, u2] } := (sb.2 _ (Nat.ne_of_gt hel)).trans hT
    have new : ObjOk X.prog X.w (upd H s.heap.objs.size (.tup [.int (i : Nat), x])) h'' s.heap.objs.size (.tup [.int (i : Nat), x]) := ⟨by show 2 ≤ sizeLine; decide, [.int i tk, u2], .cons ⟨_, rfl⟩ (.cons ru .nil), ⟨_, hT2, rfl, _, rfl⟩⟩
    have I1 : Inv X pins σ (upd H s.heap.objs.size (.tup [.int (i : Nat), x])) { s with heap := h'', toks := tk + 1 } :=
      I.turnedNew (ch := [e, it]) (fun b ob hb q => (sb.2 b (fun z => hb (by simp [z]))).trans (hk b ob (fun z => hb (by simp [z])) (fun z => hb (by simp [z])) q)) hf (Nat.le_refl _) new
    refine ⟨.ref s.heap.objs.size, _, I1, rfl, ⟨_, x, rfl, I.hok.fresh (Nat.le_refl _), rfl, fun ys hy => by rw [I.tuple_inj hy hq]; exact hx⟩, ⟨⟨u2, ?_⟩, hit'.1.at fun o q => (sb.2 it (Ne.symm hne)).trans q, hne, hai, hae⟩, fun b hb => ?_⟩
    · rw [show ((i + 1 : Nat) : Int) = (i : Int) + 1 by omega]; exact he'
    · have hb' : b < s.heap.objs.size := by rcases (show b = e ∨ b = it by simpa using hb) with z | z <;> rw [z] <;> assumption
      rw [upd_ne (Nat.ne_of_lt hb')]; exact (hf b hb).1
  done := by
    intro X hP hw hK hc i pins s σ H E I hf st hg
    subst hP hw hK
    obtain ⟨⟨old, he⟩, hit, hne, hai, hae⟩ := st
    obtain ⟨xs, hq, hx⟩ := hg
    obtain ⟨its, rv, p, hz⟩ := I.tuple hq
    obtain ⟨f0, f1, f2, f3, f4, f5⟩ := hf it (by simp)
    have hl := rv.length
    subst hx
    have hit2 : s.heap.IsTupleIter it a its.toArray.size := by rw [List.size_toArray, ← hl]; exact hit
    exact wpAny_pyNext_enum_endD (Draws.tuple (A := X.A.in1) (I.ok.hd hc) it a hai its.toArray) he ⟨hit2, p⟩ fun h' eb => ⟨rfl, I.turned (t' := s.toks) (fun b o hb q => eb b o hb q) f0 f1 f3 f4 f5⟩
  self := fun A i s Q E st h => let ⟨⟨_, he⟩, _⟩ := st; wpAny_pyIter_enum he h
section
variable {X : Cx} {G : Gh} {e : Expr} {p pos tpos : Pos} {elts : List Expr} {kk : Nat}
theorem pi_enumT {ta : TA} (hg : Gl X "enumerate") (hm : X.mg "enumerate" = none) (ha : PA X [e] ta) (hs : starEach [e] X.env = [(false, eval e X.env)] := by rfl) :
    PI X (.Tuple elts kk tpos) (.Call (.Name "enumerate" p) [e] [] pos) (fun σ H R => ta σ H fun vs H1 => ∃ a xs, vs = [.ref a] ∧ SqT X.K H1 a xs ∧ R (IteT X.K a) H1) := by
  refine ⟨fun pins s σ H R I h => Call_ (ld_blt I hg hm boot_enumerate (PyProof.Rows.callWith_type1 (thn (ha.run pos pins s σ H _ I h) fun us s1 ⟨vs, H1, I1, r1, q1⟩ => ?_) hs rfl))⟩
  obtain ⟨a, xs, rfl, hq, q⟩ := q1
  obtain rfl := Vals.ref1 r1
  obtain ⟨its, rv, pt, hz⟩ := I1.tuple hq
  have lta : a < s1.heap.objs.size := by obtain ⟨o, ho, _⟩ := pt; exact Heap.lt_size ho
  refine call_enumT pt fun h' he hit hk => wpAny_pyIter_enum he ?_
  have I2 : Inv X pins σ H1 { s1 with heap := h' } := I1.kept (t' := s1.toks) hk
  refine ⟨s1.heap.objs.size + 1, [s1.heap.objs.size + 1, s1.heap.objs.size], _, _, H1, rfl, I2, turn_enumT a (s1.heap.objs.size + 1) s1.heap.objs.size, ⟨⟨.none, he⟩, hit, Nat.succ_ne_self _, Nat.ne_of_lt lta, Nat.ne_of_lt (Nat.lt_succ_of_lt lta)⟩, fun b hb => ?_, q⟩
  have hle : s1.heap.objs.size ≤ b := by rcases (show b = s1.heap.objs.size + 1 ∨ b = s1.heap.objs.size by simpa using hb) with z | z <;> rw [z]; exact Nat.le_succ _; exact Nat.le_refl _
  exact I1.fpOk hle (I1.hok.fresh hle)
def enumD (xs : List D) : List D := xs.zipIdx.map fun p => .tuple [.int ((p.2 : Nat) : Int), p.1]
theorem enumD_len (xs : List D) : (enumD xs).length = xs.length := by simp [enumD]
theorem enumD_get {xs : List D} {i : Nat} {d : D} (h : xs[i]? = some d) : (enumD xs)[i]? = some (.tuple [.int (i : Int), d]) := by
  unfold enumD
  rw [List.getElem?_map, List.getElem?_zipIdx, h]; simp
def iEnumT (t : TD) : TDs := fun E Q => t E fun d E1 => match d with
  | .tuple ds => Q (enumD ds) E1
  | _ => False
def iEnumL (t : TD) : TDs := fun E Q => t E fun d E1 => match d with
  | .list ds => Q (enumD ds) E1
  | _ => False
theorem walkD_enumT {K : PySem.W.Frag} {H : Hp} {a : Addr} {vs : List V} {ds : List D} (h : SqT K H a vs) (l : RpL K H ds vs) : WalkD true K (IteT K a) H (enumD ds) where
  goes := fun i H' x hi => by
    rw [enumD_len, l.length] at hi
    exact ⟨vs, vs[i], SqT.ext x h, List.getElem?_eq_getElem hi⟩
  yld := fun i H' v H2 x hi hy => by
    obtain ⟨T, v1, rfl, hT, rfl, e1⟩ := hy
    obtain ⟨d, hd, p⟩ := l.getV (e1 vs (SqT.ext x h))
    have px := PExt.new (o := .tup [.int (i : Nat), v1]) hT
    exact ⟨px, _, enumD_get hd, .pair (SqT.of upd_same) (.cons (.int _) (.cons ((p.ext x).ext px.ext) .nil))⟩
  stops := fun H' x => ⟨vs, SqT.ext x h, by rw [enumD_len, l.length]⟩
theorem walkD_enumL {K : PySem.W.Frag} {H : Hp} {a : Addr} {vs : List V} {ds : List D} (h : LsF K H a vs) (l : RpL K H ds vs) : WalkD true K (Ite K a) H (enumD ds) where
  goes := fun i H' x hi => by
    rw [enumD_len, l.length] at hi
    exact ⟨vs, vs[i], (LsF.ext x h).sq, List.getElem?_eq_getElem hi⟩
  yld := fun i H' v H2 x hi hy => by
    obtain ⟨T, v1, rfl, hT, rfl, e1⟩ := hy
    obtain ⟨d, hd, p⟩ := l.getV (e1 vs (LsF.ext x h).sq)
    have px := PExt.new (o := .tup [.int (i : Nat), v1]) hT
    exact ⟨px, _, enumD_get hd, .pair (SqT.of upd_same) (.cons (.int _) (.cons ((p.ext x).ext px.ext) .nil))⟩
  stops := fun H' x => ⟨vs, (LsF.ext x h).sq, by rw [enumD_len, l.length]; exact Nat.le_refl _⟩
theorem id_enumT {t : TD} (h : ED X G e t) (hg : Gl X "enumerate") (hm : X.mg "enumerate" = none) (hs : starEach [e] X.env = [(false, eval e X.env)] := by rfl) : ID X G true (.Tuple elts kk tpos) (.Call (.Name "enumerate" p) [e] [] pos) (iEnumT t) :=
  ⟨PI.weak (pi_enumT hg hm (pa_cons h.pe pa_nil hs) hs) fun σ H R ⟨E, QE, r, q, k⟩ => ⟨E, _, r, q, fun d E1 v H1 q1 x1 r1 p1 => by
    cases p1 with
    | tup hs l => exact ⟨_, _, rfl, hs.1, k _ _ _ _ q1 x1 r1 (walkD_enumT hs.1 l)⟩
    | _ => exact q1.elim⟩⟩
theorem id_enumL {t : TD} (h : ED X G e t) (hg : Gl X "enumerate") (hm : X.mg "enumerate" = none) (hs : starEach [e] X.env = [(false, eval e X.env)] := by rfl) : ID X G true (.Tuple elts kk tpos) (.Call (.Name "enumerate" p) [e] [] pos) (iEnumL t) :=
  ⟨PI.weak (pi_enum hg hm (pa_cons h.pe pa_nil hs) hs) fun σ H R ⟨E, QE, r, q, k⟩ => ⟨E, _, r, q, fun d E1 v H1 q1 x1 r1 p1 => by
    cases p1 with
    | lst hs l => exact ⟨_, _, rfl, hs.sq, k _ _ _ _ q1 x1 r1 (walkD_enumL hs l)⟩
    | _ => exact q1.elim⟩⟩
end
end DL

set_option Elab.async false
set_option linter.all false
set_option maxRecDepth 100000
set_option maxHeartbeats 1000000
/-! DL17: count, index; x or y, not x by truth; sorted(.., reverse=True). -/
namespace DL
open PySem PySem.Spec PyProof.Rows L2
section
variable {X : Cx} {G : Gh} {a b e o : Expr} {es : List Expr} {pos p apos cpos : Pos}
/-! ### methods of tuples -/
theorem SqD.is {pins : List (Addr × Obj)} {s : Shared} {σ : St} {H : Hp} {p : Addr} {xs : List V} (I : Inv X pins σ H s) (h : SqD X.K H p xs) : s.TypeIs (.ref p) "tuple" ∧ ∃ ob, s.heap.get? p = some ob ∧ ob.dict = none := by
  obtain ⟨its, r, ⟨o, ho, hc, _⟩, hz⟩ := I.tuple h.1
  refine ⟨⟨o, ho, hc⟩, ?_⟩
  rcases h.2 with ⟨o2, u, e2, d2⟩ | ⟨o2, e2, d2⟩
  · exact ⟨o2, (I.hok _ _ e2).1, d2⟩
  · exact ⟨o2, I.kIn _ _ e2, d2⟩
theorem pe_bmT {name : Str} {id : String} {r : V → List V → Hp → VK → Prop} {to : TE} {t : TA} (slot : Slot "tuple" name id) (hty : typeOf (.builtin id) = pure (.type "method_descriptor")) (hm : MtR X id r) (ho : PE X o to) (ha : PA X [e] t)
    (hbase : attributeBase o name X.env (eval o X.env) = eval o X.env := by rfl)
    (hfew : ((backTo cpos (starEach [e] X.env)).all (fun x => !x.1) && (backToKw cpos (keywordEach [] X.env)).all (fun x => x.1.isSome) && decide (([e] : List Expr).length + ([] : List Keyword).length + (if ([] : List Keyword).isEmpty then 0 else 1) < 30)) = true := by rfl)
    (hline : (apos.endLine == cpos.line) = true := by rfl) (hs : starEach [e] X.env = (false, eval e X.env) :: starEach [] X.env := by rfl) (hplain : (backTo cpos (starEach [] X.env)).any (·.1) = false := by rfl) :
    PE X (.Call (.Attribute o name apos) [e] [] cpos) (fun σ H Q => to σ H fun x H1 => (∃ p xs, x = .ref p ∧ SqD X.K H1 p xs) ∧ t σ H1 fun xs H2 => r x xs H2 Q) := by
  refine ⟨fun pins s σ H Q I h => wpAny_Call_method_late hbase hfew hline rfl (thn (ho.run pins s σ H _ I h) fun v s1 ⟨x, H1, I1, r1, ty, q1⟩ => ?_)⟩
  obtain ⟨p0, xs0, rfl, hd⟩ := ty
  obtain rfl : v = Value.ref p0 := r1
  obtain ⟨h1, h2⟩ := hd.is I1
  refine ⟨"tuple", id, PySem.F.plainAttrs_tuple, slot, hty, h1, fun a ea => by cases ea; exact h2, ?_⟩
  have hA := ha.run cpos pins s1 σ H1 _ I1 q1
  rw [hs] at hA ⊢
  exact Calls.callWith_builtin (by show (false || (backTo cpos (starEach [] X.env)).any (·.1)) = false; rw [hplain] <;> rfl) (Calls.evalArgs_plain (thn hA fun us s2 ⟨vs, H2, I2, r2, q2⟩ => hm pins s2 σ H2 (.ref p0) vs _ us Q I2 rfl r2 q2))
def okAll (xs : List D) (y : D) : Prop := xs.all (shOk 60) = true ∧ shOk 60 y = true
theorem okAll.sp {xs : List D} {y : D} (h : okAll xs y) (hu : X.A.units + 65 < cLine) : PyData.canLayAll0 xs = true ∧ y.canLay0 = true ∧ X.A.units + 1 + min (PyData.depthAll xs) y.depth < cLine := by
  have ⟨a, b⟩ := shOk_spec 60 y h.2
  have c := (shOk_all (shOk_spec 60) xs h.1).1
  have : min (PyData.depthAll xs) y.depth ≤ y.depth := Nat.min_le_right _ _
  exact ⟨c, a, by omega⟩
def cntD (xs : List D) (y : D) : Nat := xs.countP fun z => PyData.eqv z y
def rCnt (S : PySem.W.Frag → Hp → Addr → List V → Prop) (K : PySem.W.Frag) : V → List V → Hp → VK → Prop := fun x xs H Q => ∃ (p : Addr) (us : List V) (ds : List D) (y : V) (d : D), x = .ref p ∧ xs = [y] ∧ S K H p us ∧ RpL K H ds us ∧ Rp K H d y ∧ okAll ds d ∧ Q (.int (cntD ds d : Nat)) H
theorem mt_countL (hu : X.A.units + 65 < cLine) : MtR X "list.count" (rCnt SqL X.K) := by
  intro pins s σ H x xs v us Q I rx rxs h
  obtain ⟨p, ws, ds, y, d, rfl, rfl, hs, l, hy, ok, q⟩ := h
  obtain rfl : v = Value.ref p := rx
  obtain ⟨u, rfl, ru⟩ := rxs.one
  obtain ⟨its, rv, pl, hz⟩ := I.list hs
  obtain ⟨c1, c2, c3⟩ := ok.sp hu
  obtain ⟨as, r1⟩ := Dp.readsAll I ds _ its (l.dp c1) rv
  obtain ⟨bs, r2⟩ := Dp.reads I d y u (hy.dp c2) ru
  exact SeqAt.count_list_data pl.isList (by simpa using r1) r2 (PyData.plainAll_of_canLay0 _ c1) (PyData.plain_of_canLay0 _ c2) c3 ⟨.int _, H, I.tok _, ⟨_, rfl⟩, q⟩
theorem mt_countT (hu : X.A.units + 65 < cLine) : MtR X "tuple.count" (rCnt SqT X.K) := by
  intro pins s σ H x xs v us Q I rx rxs h
  obtain ⟨p, ws, ds, y, d, rfl, rfl, hs, l, hy, ok, q⟩ := h
  obtain rfl : v = Value.ref p := rx
  obtain ⟨u, rfl, ru⟩ := rxs.one
  obtain ⟨its, rv, pl, hz⟩ := I.tuple hs
  obtain ⟨c1, c2, c3⟩ := ok.sp hu
  obtain ⟨as, r1⟩ := Dp.readsAll I ds _ its (l.dp c1) rv
  obtain ⟨bs, r2⟩ := Dp.reads I d y u (hy.dp c2) ru
  exact SeqAt.count_tuple_data pl (by simpa using r1) r2 (PyData.plainAll_of_canLay0 _ c1) (PyData.plain_of_canLay0 _ c2) c3 ⟨.int _, H, I.tok _, ⟨_, rfl⟩, q⟩
/-- xs.index(y): the first place of an equal one -/
def idxOk (xs : List D) (y : D) (j : Nat) : Prop := (∃ z, xs[j]? = some z ∧ PyData.eqv z y = true) ∧ ∀ m z, m < j → xs[m]? = some z → PyData.eqv z y = false
def rIdx (S : PySem.W.Frag → Hp → Addr → List V → Prop) (K : PySem.W.Frag) : V → List V → Hp → VK → Prop := fun x xs H Q => ∃ (p : Addr) (us : List V) (ds : List D) (y : V) (d : D) (j : Nat), x = .ref p ∧ xs = [y] ∧ S K H p us ∧ RpL K H ds us ∧ Rp K H d y ∧ okAll ds d ∧ idxOk ds d j ∧ Q (.int (j : Nat)) H
theorem mt_indexT (hu : X.A.units + 65 < cLine) : MtR X "tuple.index" (rIdx SqT X.K) := by
  intro pins s σ H x xs v us Q I rx rxs h
  obtain ⟨p, ws, ds, y, d, j, rfl, rfl, hs, l, hy, ok, ⟨⟨z, hz1, hz2⟩, hno⟩, q⟩ := h
  obtain rfl : v = Value.ref p := rx
  obtain ⟨u, rfl, ru⟩ := rxs.one
  obtain ⟨its, rv, ⟨⟨cls, dd, data, sls⟩, ho, hc, n, hdt⟩, hlen⟩ := I.tuple hs
  obtain rfl : cls = .type "tuple" := hc
  obtain rfl : data = .seq its.toArray n := hdt
  obtain ⟨c1, c2, c3⟩ := ok.sp hu
  obtain ⟨as, h4⟩ := Dp.readsAll I ds _ its (l.dp c1) rv
  obtain ⟨bs, r2⟩ := Dp.reads I d y u (hy.dp c2) ru
  have hn : its.length = ds.length := SeqAt.ReadsAll.length ds its as h4
  have hmap : its.map (SeqAt.readOf s.heap) = ds := SeqAt.readsAll_map ds its as c1 h4
  have hjd := (List.getElem?_eq_some_iff.mp hz1).1
  have hj : j < its.toArray.size := by simp; omega
  have at_ : ∀ (m : Nat) (hm : m < its.toArray.size) (z' : PyData), ds[m]? = some z' → SeqAt.readOf s.heap its.toArray[m] = z' := by
    intro m hm z' hz'
    have hml : m < its.length := by simpa using hm
    rw [← hmap, List.getElem?_map, List.getElem?_eq_getElem hml] at hz'
    have e1 : SeqAt.readOf s.heap its[m] = z' := Option.some.inj (show some (SeqAt.readOf s.heap its[m]) = some z' from hz')
    simpa using e1
  refine call_meets PySem.F.slot_tuple_index ⟨_, ho, rfl⟩ PySem.F.entry_tuple_index (PySem.F.args_tuple_index_2 _ _) (TI.tuple_indexAt p its.toArray n dd sls u (fun w => PyData.eqv (SeqAt.readOf s.heap w) d) j hj ?_ ?_)
    ⟨ho, SeqAt.items_eqAt (vs := its.toArray) (show ReadsAll s.heap its.toArray.toList ds as by simpa using h4) r2 c1 c2 c3, ⟨.int (j : Nat), H, I.tok _, ⟨_, rfl⟩, q⟩⟩
  · show PyData.eqv (SeqAt.readOf s.heap its.toArray[j]) d = true
    rw [at_ j hj z hz1]; exact hz2
  · intro m hm hmj
    have hmd : m < ds.length := by omega
    show PyData.eqv (SeqAt.readOf s.heap its.toArray[m]) d = false
    rw [at_ m hm _ (List.getElem?_eq_getElem hmd)]; exact hno m _ hmj (List.getElem?_eq_getElem hmd)
def tCountT (ta tb : TD) : TD := fun E Q => ta E fun x E1 => match x with
  | .tuple xs => tb E1 fun y E2 => okAll xs y ∧ Q (.int (cntD xs y : Nat)) E2
  | _ => False
def tCountL (ta tb : TD) : TD := fun E Q => ta E fun x E1 => match x with
  | .list xs => tb E1 fun y E2 => okAll xs y ∧ Q (.int (cntD xs y : Nat)) E2
  | _ => False
def tIndexT (ta tb : TD) : TD := fun E Q => ta E fun x E1 => match x with
  | .tuple xs => tb E1 fun y E2 => ∃ j, okAll xs y ∧ idxOk xs y j ∧ Q (.int (j : Nat)) E2
  | _ => False
def tIndexL (ta tb : TD) : TD := fun E Q => ta E fun x E1 => match x with
  | .list xs => tb E1 fun y E2 => ∃ j, okAll xs y ∧ idxOk xs y j ∧ Q (.int (j : Nat)) E2
  | _ => False
section
variable {ta tb : TD}
theorem ed_countT (hu : X.A.units + 65 < cLine) (ho : ED X G o ta) (he : ED X G e tb) (hbase : attributeBase o "count" X.env (eval o X.env) = eval o X.env := by rfl)
    (hfew : ((backTo cpos (starEach [e] X.env)).all (fun x => !x.1) && (backToKw cpos (keywordEach [] X.env)).all (fun x => x.1.isSome) && decide (([e] : List Expr).length + ([] : List Keyword).length + (if ([] : List Keyword).isEmpty then 0 else 1) < 30)) = true := by rfl)
    (hline : (apos.endLine == cpos.line) = true := by rfl) (hs : starEach [e] X.env = (false, eval e X.env) :: starEach [] X.env := by rfl) (hplain : (backTo cpos (starEach [] X.env)).any (·.1) = false := by rfl) :
    ED X G (.Call (.Attribute o "count" apos) [e] [] cpos) (tCountT ta tb) :=
  ⟨PE.weak (pe_bmT PySem.F.slot_tuple_count PySem.F.type_tuple_count (mt_countT hu) ho.pe (pa_cons he.pe pa_nil hs) hbase hfew hline hs hplain) fun σ H Q ⟨E, QE, r, q, k⟩ => ⟨E, _, r, q, fun x E1 v H1 q1 x1 r1 p1 => by
    cases p1 with
    | tup hd l => exact ⟨⟨_, _, rfl, hd⟩, E1, _, r1, q1, fun y E2 w H2 q2 x2 r2 p2 => ⟨_, _, _, w, y, rfl, rfl, (hd.ext x2).1, l.ext x2, p2, q2.1, k _ _ _ _ q2.2 (x1.trans x2) r2 (.int _)⟩⟩
    | _ => exact q1.elim⟩⟩
theorem ed_indexT (hu : X.A.units + 65 < cLine) (ho : ED X G o ta) (he : ED X G e tb) (hbase : attributeBase o "index" X.env (eval o X.env) = eval o X.env := by rfl)
    (hfew : ((backTo cpos (starEach [e] X.env)).all (fun x => !x.1) && (backToKw cpos (keywordEach [] X.env)).all (fun x => x.1.isSome) && decide (([e] : List Expr).length + ([] : List Keyword).length + (if ([] : List Keyword).isEmpty then 0 else 1) < 30)) = true := by rfl)
    (hline : (apos.endLine == cpos.line) = true := by rfl) (hs : starEach [e] X.env = (false, eval e X.env) :: starEach [] X.env := by rfl) (hplain : (backTo cpos (starEach [] X.env)).any (·.1) = false := by rfl) :
    ED X G (.Call (.Attribute o "index" apos) [e] [] cpos) (tIndexT ta tb) :=
  ⟨PE.weak (pe_bmT PySem.F.slot_tuple_index PySem.F.type_tuple_index (mt_indexT hu) ho.pe (pa_cons he.pe pa_nil hs) hbase hfew hline hs hplain) fun σ H Q ⟨E, QE, r, q, k⟩ => ⟨E, _, r, q, fun x E1 v H1 q1 x1 r1 p1 => by
    cases p1 with
    | tup hd l => exact ⟨⟨_, _, rfl, hd⟩, E1, _, r1, q1, fun y E2 w H2 q2 x2 r2 p2 => let ⟨j, q2, q3, q4⟩ := q2; ⟨_, _, _, w, y, j, rfl, rfl, (hd.ext x2).1, l.ext x2, p2, q2, q3, k _ _ _ _ q4 (x1.trans x2) r2 (.int _)⟩⟩
    | _ => exact q1.elim⟩⟩
theorem ed_countL (hu : X.A.units + 65 < cLine) (ho : ED X G o ta) (he : ED X G e tb) (hbase : attributeBase o "count" X.env (eval o X.env) = eval o X.env := by rfl)
    (hfew : ((backTo cpos (starEach [e] X.env)).all (fun x => !x.1) && (backToKw cpos (keywordEach [] X.env)).all (fun x => x.1.isSome) && decide (([e] : List Expr).length + ([] : List Keyword).length + (if ([] : List Keyword).isEmpty then 0 else 1) < 30)) = true := by rfl)
    (hline : (apos.endLine == cpos.line) = true := by rfl) (hs : starEach [e] X.env = (false, eval e X.env) :: starEach [] X.env := by rfl) (hplain : (backTo cpos (starEach [] X.env)).any (·.1) = false := by rfl) :
    ED X G (.Call (.Attribute o "count" apos) [e] [] cpos) (tCountL ta tb) :=
  ⟨PE.weak (pe_bm PySem.F.plainAttrs_list PySem.F.slot_list_count PySem.F.type_list_count (mt_countL hu) ho.pe (pa_cons he.pe pa_nil hs) hbase hfew hline hs hplain) fun σ H Q ⟨E, QE, r, q, k⟩ => ⟨E, _, r, q, fun x E1 v H1 q1 x1 r1 p1 => by
    cases p1 with
    | lst hd l => exact ⟨.inl ⟨rfl, _, hd.sq⟩, E1, _, r1, q1, fun y E2 w H2 q2 x2 r2 p2 => ⟨_, _, _, w, y, rfl, rfl, (LsF.ext x2 hd).sq, l.ext x2, p2, q2.1, k _ _ _ _ q2.2 (x1.trans x2) r2 (.int _)⟩⟩
    | _ => exact q1.elim⟩⟩
theorem shaped_all {xs : List D} (h : xs.all (shOk 60) = true) : SeqAt.shaped (.list xs) = true := shaped_of (n := 61) (by rw [shOk_lst]; exact h)
theorem ed_indexL (hu : X.A.units + 65 < cLine) (ho : ED X G o ta) (he : ED X G e tb) (hbase : attributeBase o "index" X.env (eval o X.env) = eval o X.env := by rfl)
    (hfew : ((backTo cpos (starEach [e] X.env)).all (fun x => !x.1) && (backToKw cpos (keywordEach [] X.env)).all (fun x => x.1.isSome) && decide (([e] : List Expr).length + ([] : List Keyword).length + (if ([] : List Keyword).isEmpty then 0 else 1) < 30)) = true := by rfl)
    (hline : (apos.endLine == cpos.line) = true := by rfl) (hs : starEach [e] X.env = (false, eval e X.env) :: starEach [] X.env := by rfl) (hplain : (backTo cpos (starEach [] X.env)).any (·.1) = false := by rfl) :
    ED X G (.Call (.Attribute o "index" apos) [e] [] cpos) (tIndexL ta tb) :=
  ⟨PE.weak (pe_bm PySem.F.plainAttrs_list PySem.F.slot_list_index PySem.F.type_list_index (mt_indexD hu) ho.pe (pa_cons he.pe pa_nil hs) hbase hfew hline hs hplain) fun σ H Q ⟨E, QE, r, q, k⟩ => ⟨E, _, r, q, fun x E1 v H1 q1 x1 r1 p1 => by
    cases p1 with
    | lst hd l => exact ⟨.inl ⟨rfl, _, hd.sq⟩, E1, _, r1, q1, fun y E2 w H2 q2 x2 r2 p2 => let ⟨j, q2, ⟨⟨z, q3, q5⟩, q6⟩, q4⟩ := q2; ⟨_, w, y, _, j, z, rfl, rfl, .lst (LsF.ext x2 hd).sq ((l.ext x2).dp (q2.sp hu).1), p2.dp (q2.sp hu).2.1, shaped_all q2.1, shaped_of q2.2, q3, q5, fun m z' => q6 m z', k _ _ _ _ q4 (x1.trans x2) r2 (.int _)⟩⟩
    | _ => exact q1.elim⟩⟩
end
/-! ### truth -/
theorem tru_of {K : PySem.W.Frag} {H : Hp} {d : D} {v : V} {c : Bool} (h : Rp K H d v) (e : truD d = some c) (ok : okLen d) : TruV K v H c := by
  cases h with
  | non => cases e; rfl
  | bl b => cases e; rfl
  | int i => cases e; rfl
  | str x => cases e; exact ⟨ok, rfl⟩
  | tup hs l => cases e; exact .inr (.inl ⟨_, hs.1, by rw [isEmpty_RpL l]⟩)
  | lst hs l => cases e; exact .inl ⟨_, hs.sq, by rw [isEmpty_RpL l]⟩
  | dct _ _ _ _ => cases e
  | hdl _ => cases e
  | dck _ _ _ _ => cases e
def tOrT (t u : TD) : TD := fun E Q => t E fun x E1 => match truD x with
  | some c => okLen x ∧ if c = true then Q x E1 else u E1 Q
  | none => False
def tAndT (t u : TD) : TD := fun E Q => t E fun x E1 => match truD x with
  | some c => okLen x ∧ if c = true then u E1 Q else Q x E1
  | none => False
def tNotT (t : TD) : TD := fun E Q => t E fun x E1 => match truD x with
  | some c => okLen x ∧ Q (.bool (!c)) E1
  | none => False
theorem ed_orT {t u : TD} (h : ED X G a t) (hb : ED X G (.BoolOp .Or (b :: es) pos) u) : ED X G (.BoolOp .Or (a :: b :: es) pos) (DL.tOrT t u) :=
  ⟨PE.weak (pe_orT h.pe hb.pe) fun σ H Q ⟨E, QE, r, q, k⟩ => ⟨E, _, r, q, fun x E1 v H1 q1 x1 r1 p1 => by
    cases e : truD x with
    | none => rw [e] at q1; exact q1.elim
    | some c =>
      rw [e] at q1
      refine ⟨c, tru_of p1 e q1.1, ?_⟩
      cases c with
      | true => exact k _ _ _ _ q1.2 x1 r1 p1
      | false => exact ⟨E1, _, r1, q1.2, fun y E2 w H2 q2 x2 r2 p2 => k _ _ _ _ q2 (x1.trans x2) r2 p2⟩⟩⟩
theorem ed_andT {t u : TD} (h : ED X G a t) (hb : ED X G (.BoolOp .And (b :: es) pos) u) : ED X G (.BoolOp .And (a :: b :: es) pos) (DL.tAndT t u) :=
  ⟨PE.weak (pe_andT h.pe hb.pe) fun σ H Q ⟨E, QE, r, q, k⟩ => ⟨E, _, r, q, fun x E1 v H1 q1 x1 r1 p1 => by
    cases e : truD x with
    | none => rw [e] at q1; exact q1.elim
    | some c =>
      rw [e] at q1
      refine ⟨c, tru_of p1 e q1.1, ?_⟩
      cases c with
      | false => exact k _ _ _ _ q1.2 x1 r1 p1
      | true => exact ⟨E1, _, r1, q1.2, fun y E2 w H2 q2 x2 r2 p2 => k _ _ _ _ q2 (x1.trans x2) r2 p2⟩⟩⟩
theorem ed_notT {t : TD} (h : ED X G a t) : ED X G (.UnaryOp .Not a pos) (DL.tNotT t) :=
  ⟨PE.weak (pe_notT h.pe) fun σ H Q ⟨E, QE, r, q, k⟩ => ⟨E, _, r, q, fun x E1 v H1 q1 x1 r1 p1 => by
    cases e : truD x with
    | none => rw [e] at q1; exact q1.elim
    | some c =>
      rw [e] at q1
      exact ⟨c, tru_of p1 e q1.1, k _ _ _ _ q1.2 x1 r1 (.bl _)⟩⟩⟩
/-! ### sorted(xs, reverse=True) -/
def tSortRev (ta : TD) : TLd := fun E Q => ta E fun x E1 => match x with
  | .list xs => sortOk xs ∧ Q (sortD true xs) E1
  | .tuple xs => sortOk xs ∧ Q (sortD true xs) E1
  | _ => False
theorem cr_sortedRevD (hu : X.A.units + 65 < cLine) : CallRK X (.builtin "sorted") [Str.ofString "reverse"] (fun vs zs H Q => ∃ (a : Addr) (us : List V) (ds : List D), vs = [.ref a] ∧ zs = [.bl true] ∧ (SqL X.K H a us ∨ SqT X.K H a us) ∧ RpL X.K H ds us ∧ sortOk ds ∧ ∀ ws p, H p = none → RpL X.K H (sortD true ds) ws → Q (.ref p) (upd H p (.lst ws))) := by
  intro pins s σ H vs zs us ws Q I r rz h
  obtain ⟨a, us', ds, rfl, rfl, hs, l, ok, q⟩ := h
  obtain rfl := Vals.ref1 r
  obtain ⟨w1, rfl, e1⟩ := vals1 rz
  obtain rfl : w1 = Value.bool true := e1
  exact DL.sorted_run hu I hs l ok (fun _ => rfl) (PyProof.Rows.args_sorted_rev _ _) (fun _ => PyProof.Rows.args_list_sort_rev _ _) q
theorem el_sortRev {ta : TD} {k0 : Nat} {p1 p2 : Pos} (hu : X.A.units + 65 < cLine) (ha : ER X G a ta) (hg : Gl X "sorted") (hm : X.mg "sorted" = none)
    (he : backTo pos (starEach [a] X.env) = (false, eval a X.env) :: backTo pos (starEach [] X.env) := by rfl) (hs : starEach [a] X.env = (false, eval a X.env) :: starEach [] X.env := by rfl) (hpl : (backTo pos (starEach [a] X.env)).any (·.1) = false := by rfl) :
    EL X G (.Call (.Name "sorted" p) [a] [⟨some "reverse", .Constant (.bool true) k0 p1, p2⟩] pos) (tSortRev ta) := by
  refine ⟨PE.weak (pe_callBK (cr_sortedRevD hu) hg hm bb_sorted (pa_cons ha.pe pa_nil hs) (pk_cons pe_bl pk_nil) (by decide) (by decide) he hpl) fun σ H Q ⟨E, QE, r, q, k⟩ => ⟨E, _, r, q, fun x E1 v H1 q1 x1 r1 p1 => ?_⟩⟩
  have fin : ∀ (xs : List D), QE (sortD true xs) E1 → ∀ ws p, H1 p = none → RpL X.K H1 (sortD true xs) ws → Q (.ref p) (upd H1 p (.lst ws)) := fun xs qq ws p hp hr => by
    obtain ⟨r2, h0, na⟩ := r1.fresh (o := .lst ws) hp
    exact k _ _ _ _ _ qq (x1.trans (PExt.new hp).ext) r2 h0 na upd_same (hr.ext (PExt.new hp).ext)
  cases x with
  | list xs => obtain ⟨b, us, rfl, hs, l⟩ := p1.list; exact ⟨b, us, xs, rfl, rfl, .inl hs, l, q1.1, fin xs q1.2⟩
  | tuple xs => obtain ⟨b, us, rfl, hs, l⟩ := p1.tuple; exact ⟨b, us, xs, rfl, rfl, .inr hs, l, q1.1, fin xs q1.2⟩
  | _ => exact q1.elim
end
end DL

set_option Elab.async false
set_option linter.all false
set_option maxRecDepth 100000
set_option maxHeartbeats 1000000
/-! DL18: a list of one's own is frozen where it is handed on; calls without arguments. -/
namespace DL
open PySem PySem.Spec PyProof.Rows L2
section
variable {K : PySem.W.Frag} {G : Gh} {H : Hp} {E : Env} {σ : St}
theorem RelX.freezeM {i : Nat} {s0 : S} {a : Addr} {u' : HO} {d : D} (r : RelE K G H E σ) (e : E[i]? = some s0) (m0 : s0.isMut = true) (hs : σ[i]? = some (some (.ref a))) (p : Rp K (upd H a u') d (.ref a)) :
    RelE K G (upd H a u') (E.set i (.d d)) σ := by
  obtain ⟨l, k, pn, dm, x0, A, h1, h2, h3⟩ := r
  obtain ⟨b, e1, e2, e3⟩ := (h3 i _ e).mut m0
  rw [hs] at e2
  have e2' : a = b := by injection e2 with z; injection z with z; injection z
  subst e2'
  obtain ⟨u0, g1, g2, g3⟩ := e3.soft
  have x : Ext H (upd H a u') := Ext.putS g1 g2 g3
  have own := h2 i a (by rw [e1]; simp)
  have hl : i < E.length := (List.getElem?_eq_some_iff.mp e).1
  refine ⟨by simpa using l, fun q u he ne => ?_, pn, fun q hq => ?_, x0.trans x, fun j => if j = i then [] else A j, fun j m b q1 q2 => ?_, fun j b q1 => ?_, fun j s he => ?_⟩
  · have : q ≠ a := by
      rintro rfl
      rcases own.1 with z | z
      · exact ne z
      · rw [z] at he; cases he
    rw [upd_ne this]; exact k q u he ne
  · by_cases z : q = a
    · subst z; rw [upd_same]; simp
    · rw [upd_ne z]; exact dm q hq
  · dsimp only at q1 q2
    split at q1
    · cases q1
    · split at q2
      · cases q2
      · exact h1 j m b q1 q2
  · dsimp only at q1
    split at q1
    · cases q1
    · exact h2 j b q1
  · by_cases z : j = i
    · subst z
      rw [List.getElem?_set_self hl] at he
      cases he
      simp only [if_true]
      exact ⟨rfl, _, hs, p⟩
    · rw [List.getElem?_set_ne (Ne.symm z)] at he
      simp only [z, if_false]
      exact (h3 j s he).move x fun c hc => upd_ne fun zz => z (h1 j i c hc (by rw [e1, zz]; simp))
theorem RelX.freezeV {i : Nat} {xs : List D} {a : Addr} {vs : List V} {o : Obj} (r : RelE K G H E σ) (e : E[i]? = some (.ol xs)) (hs : σ[i]? = some (some (.ref a))) (ha : H a = some (.lst vs)) (p : RpL K H xs vs) :
    RelE K G (upd H a (.frz o (.lst vs))) (E.set i (.d (.list xs))) σ :=
  r.freezeM e rfl hs (.lst (.of upd_same) (p.ext (Ext.put ha)))
end
section
variable {X : Cx} {G : Gh} {e : Expr} {pos p0 : Pos} {x : Str}
theorem PE.fzIf {t : TE} (h : PE X e t) : PE X e (fun σ H Q => t σ H fun v H1 => Q v H1 ∨ ∃ a u, v = .ref a ∧ H1 a = some u ∧ Mut (some u) ∧ ∀ o, Q v (upd H1 a (.frz o u))) :=
  ⟨fun pins s σ H Q I q => thn (h.run pins s σ H _ I q) fun u s1 ⟨v, H1, I1, r1, q1⟩ => by
    rcases q1 with q1 | ⟨a, xs, e1, e2, mu, q1⟩
    · exact ⟨v, _, I1, r1, q1⟩
    · obtain ⟨o, I2⟩ := I1.lock e2 mu
      exact ⟨v, _, I2, r1, q1 o⟩⟩
def tFzV (i : Nat) : TD := fun E Q => match E[i]? with
  | some (.d x) => Q x E
  | some (.ol xs) => Q (.list xs) (E.set i (.d (.list xs)))
  | some (.dt kvs) => Q (.dict kvs) (E.set i (.d (.dict kvs)))
  | _ => False
theorem ed_fzv (i : Nat) (hN : X.N[i]? = some x := by rfl) (hv : Vis X.env.scope x := by first | exact Or.inl rfl | exact Or.inr (Or.inl rfl) | exact Or.inr (Or.inr rfl)) (hd : (x == ("__debug__" : Str)) = false := by decide)
    (hcd : (x == ("__classdict__" : Str)) = false := by decide) : ED X G (.Name x p0) (tFzV i) :=
  ⟨PE.weak (PE.fzIf (pe_var hN hv hd hcd)) fun σ H Q ⟨E, QE, r, q, k⟩ => by
    unfold tFzV at q
    split at q
    · rename_i d0 he
      obtain ⟨v, e1, e2⟩ := r.data he
      exact ⟨v, e1, .inl (k _ _ _ _ q (Ext.refl _) r e2)⟩
    · rename_i xs he
      obtain ⟨a, vs, e1, e2, e3⟩ := r.ol he
      exact ⟨_, e1, .inr ⟨a, _, rfl, e2, trivial, fun o => k _ _ _ _ q (Ext.put e2) (r.freezeV he e1 e2 e3) (.lst (.of upd_same) (e3.ext (Ext.put e2)))⟩⟩
    · rename_i kvs he
      obtain ⟨a, e1, es, e2, l, nd, sm⟩ := r.mutAt he rfl
      refine ⟨_, e1, .inr ⟨a, _, rfl, e2, trivial, fun o => ?_⟩⟩
      have x : Ext H (upd H a (.frz o (dO a es))) := Ext.putS e2 (fun _ z => by cases z) (fun _ _ z => by cases z)
      have p : Rp X.K (upd H a (.frz o (dO a es))) (.dict kvs) (.ref a) := .dct upd_same (l.ext x) nd sm
      exact k _ _ _ _ q x (r.freezeM he rfl e1 p) p
    · exact q.elim⟩
end
end DL

set_option Elab.async false
set_option linter.all false
set_option maxRecDepth 100000
set_option maxHeartbeats 1000000
/-! DL19: x > y of any data that is alike. -/
namespace DL
open PySem PySem.Spec PyProof.Rows L2
section
variable {X : Cx}
theorem op_gtD (hu : X.A.units + 65 < cLine) : OpR X (compareOp .Gt) (fun x y H Q => ∃ d e, Dp X.K H x d ∧ Dp X.K H y e ∧ PySem.W.alike d e = true ∧ d ≠ .none ∧ d.depth ≤ 60 ∧ Q (.bl (PySem.W.dataLt e d)) H) := by
  intro pins s σ H x y v u Q I rx ry h
  obtain ⟨d, e, hd, he, al, nn, dp, q⟩ := h
  obtain ⟨as, r1⟩ := Dp.reads I d x v hd rx
  obtain ⟨bs, r2⟩ := Dp.reads I e y u he ry
  have : min d.depth e.depth ≤ d.depth := Nat.min_le_left _ _
  exact PySem.W.gt_data r1 r2 al nn (by omega) ⟨.bl _, H, I, rfl, q⟩
def opGtD : OpT := fun x y Q => (PySem.W.alike x y = true ∧ x ≠ .none ∧ x.depth ≤ 60 ∧ x.canLay0 = true ∧ y.canLay0 = true) ∧ Q (.bool (PySem.W.dataLt y x))
theorem od_gtD (hu : X.A.units + 65 < cLine) : OpD X (compareOp .Gt) opGtD := ⟨_, op_gtD hu, fun x y v u H QD Q hx hy q k => ⟨x, y, hx.dp q.1.2.2.2.1, hy.dp q.1.2.2.2.2, q.1.1, q.1.2.1, q.1.2.2.1, k _ _ _ q.2 (PExt.refl _) (.bl _)⟩⟩
end
end DL

set_option Elab.async false
set_option linter.all false
set_option maxRecDepth 100000
set_option maxHeartbeats 1000000
/-! DL20: sum, min, max of a tuple of ints. -/
namespace DL
open PySem PySem.Spec PyProof.Rows L2
section
variable {prog : Program} {w : World} {A : Around} {E : Value → Shared → Prop} {s : Shared} {l : Addr} {xs : Array (Int × Tok)}
abbrev tItr (l : Addr) : Obj := { cls := .type "tuple_iterator", data := .fields #[.ref l, .int 0 0] }
theorem iterT {Q : Value → Shared → Prop} (hl : s.heap.IsTuple l (intItems xs))
    (fin : ∀ s₂ : Shared, s₂ = { s with heap := s.heap.push (tItr l) } → (s₂.heap.IsTupleIter s.heap.objs.size l 0 ∧ s₂.heap.IsTuple l (intItems xs)) → (∀ b ∈ [s.heap.objs.size, l], b < s₂.heap.objs.size) → l ≠ s.heap.objs.size → Q (.ref s.heap.objs.size) s₂) :
    wpAny (model prog w) A (pyIter (.ref l)) Q E s := by
  have lt : l < s.heap.objs.size := by obtain ⟨_, e, _⟩ := hl; exact Heap.lt_size e
  refine wpAny_pyIter_tuple hl (fin _ rfl ⟨⟨_, Heap.get?_push_size _ rfl, rfl, rfl⟩, hl.push _⟩ (fun b hb => ?_) (Nat.ne_of_lt lt))
  show b < (s.heap.push (tItr l)).objs.size
  rw [Heap.size_push]
  rcases (show b = s.heap.objs.size ∨ b = l by simpa using hb) with z | z <;> rw [z]
  · exact Nat.lt_succ_self _
  · exact Nat.lt_succ_of_lt lt
theorem keptT {h' : Heap} (hk : ∀ b o, b ∉ [s.heap.objs.size] → (s.heap.push (tItr l)).get? b = some o → h'.get? b = some o) : ∀ b o, s.heap.get? b = some o → h'.get? b = some o := fun b o e =>
  hk b o (fun hm => absurd (List.mem_singleton.mp hm ▸ Heap.lt_size e) (Nat.lt_irrefl _)) (Heap.get?_push_of_some _ e)
variable {its : List Value} {ns : List Int} {Q : Value → Shared → Prop}
theorem sum_tup (hh : A.handled = none) (hl : s.heap.IsTuple l its.toArray) (hi : IntsAre its ns) (fin : ∀ h' tk t', (∀ b o, s.heap.get? b = some o → h'.get? b = some o) → Q (.int ns.sum t') { s with heap := h', toks := tk }) :
    wpAny (model prog w) A (call (.builtin "sum") [.ref l]) Q E s := by
  obtain ⟨xs, e⟩ := hi.allInts.items
  have hn : numsOf (intItems xs).toList = ns := by rw [← e]; exact hi.numsOf
  rw [nums_intItems] at hn; rw [e] at hl
  refine call_sum_walkG (iterT hl fun s₂ e st hfp hlI => ?_); subst e
  refine ⟨_, _, _, _, _, _, numAt xs, rfl, Walks.tuple (A := A.in1) hh _ l hlI (intItems xs), st, hfp, (fun _ _ => intItems_at), fun h' tk t' hk => ?_⟩
  have := fin h' tk t' (keptT hk)
  rw [← hn] at this
  have e2 : preSum (numAt xs) xs.size = (xs.toList.map (·.1)).sum := by rw [preSum_eq, List.take_of_length_le (by simp)]
  rw [← e2] at this
  simpa [intItems] using this
theorem max_tup (hh : A.handled = none) (hl : s.heap.IsTuple l its.toArray) (hi : IntsAre its ns) (hne : 0 < ns.length) (fin : ∀ h' tk M t', (∀ b o, s.heap.get? b = some o → h'.get? b = some o) → M ∈ ns → (∀ a, a ∈ ns → a ≤ M) → Q (.int M t') { s with heap := h', toks := tk }) :
    wpAny (model prog w) A (call (.builtin "max") [.ref l]) Q E s := by
  obtain ⟨xs, e⟩ := hi.allInts.items
  have hn : numsOf (intItems xs).toList = ns := by rw [← e]; exact hi.numsOf
  rw [nums_intItems] at hn; subst hn; rw [e] at hl
  have hsz : 0 < xs.size := by simpa using hne
  refine call_max_walk (iterT hl fun s₂ e st hfp hlI => ?_); subst e
  refine ⟨_, _, _, _, _, _, _, rfl, Walks.tuple (A := A.in1) hh _ l hlI (intItems xs), st, hfp, by simpa [intItems] using hsz, CmpOf.ints_gt (numAt xs) (fun _ _ => intItems_at), fun v h' tk hP hk => ?_⟩
  have hv : (intItems xs)[argBest (fun i j => decide (numAt xs i > numAt xs j)) (xs.size - 1)]? = some v := by simpa [intItems] using hP
  obtain ⟨t, rfl⟩ := intItems_at hv
  obtain ⟨h1, h2⟩ := argBest_gt (numAt xs) (xs.size - 1)
  refine fin h' tk _ t (keptT hk) ?_ fun a ha => ?_
  · rw [numAt_eq]; exact PySem.getD_mem (by rw [List.length_map, Array.length_toList]; omega)
  · obtain ⟨j, hj, rfl⟩ := mem_getD ha
    rw [List.length_map, Array.length_toList] at hj; rw [← numAt_eq]; exact h2 j (by omega)
theorem min_tup (hh : A.handled = none) (hl : s.heap.IsTuple l its.toArray) (hi : IntsAre its ns) (hne : 0 < ns.length) (fin : ∀ h' tk M t', (∀ b o, s.heap.get? b = some o → h'.get? b = some o) → M ∈ ns → (∀ a, a ∈ ns → M ≤ a) → Q (.int M t') { s with heap := h', toks := tk }) :
    wpAny (model prog w) A (call (.builtin "min") [.ref l]) Q E s := by
  obtain ⟨xs, e⟩ := hi.allInts.items
  have hn : numsOf (intItems xs).toList = ns := by rw [← e]; exact hi.numsOf
  rw [nums_intItems] at hn; subst hn; rw [e] at hl
  have hsz : 0 < xs.size := by simpa using hne
  refine call_min_walk (iterT hl fun s₂ e st hfp hlI => ?_); subst e
  refine ⟨_, _, _, _, _, _, _, rfl, Walks.tuple (A := A.in1) hh _ l hlI (intItems xs), st, hfp, by simpa [intItems] using hsz, CmpOf.ints_lt (numAt xs) (fun _ _ => intItems_at), fun v h' tk hP hk => ?_⟩
  have hv : (intItems xs)[argBest (fun i j => decide (numAt xs i < numAt xs j)) (xs.size - 1)]? = some v := by simpa [intItems] using hP
  obtain ⟨t, rfl⟩ := intItems_at hv
  obtain ⟨h1, h2⟩ := argBest_lt (numAt xs) (xs.size - 1)
  refine fin h' tk _ t (keptT hk) ?_ fun a ha => ?_
  · rw [numAt_eq]; exact PySem.getD_mem (by rw [List.length_map, Array.length_toList]; omega)
  · obtain ⟨j, hj, rfl⟩ := mem_getD ha
    rw [List.length_map, Array.length_toList] at hj; rw [← numAt_eq]; exact h2 j (by omega)
end
section
variable {X : Cx}
theorem cr_sumT (hc : X.calm = true) : CallR X (.builtin "sum") (fun vs H Q => ∃ (a : Addr) (ns : List Int), vs = [V.ref a] ∧ SqT X.K H a (ns.map V.int) ∧ Q (.int ns.sum) H) := by
  intro pins s σ H vs us Q I r h
  obtain ⟨a, ns, rfl, hs, q⟩ := h
  obtain ⟨its, rv, hl, _⟩ := I.tuple hs
  rw [Vals.ref1 r]
  exact sum_tup (I.ok.hd hc) hl rv.ints fun h' tk t' hk => ⟨.int _, H, I.kept hk, ⟨_, rfl⟩, q⟩
theorem cr_maxT (hc : X.calm = true) : CallR X (.builtin "max") (fun vs H Q => ∃ (a : Addr) (ns : List Int), vs = [V.ref a] ∧ SqT X.K H a (ns.map V.int) ∧ 0 < ns.length ∧ ∀ m, m ∈ ns → (∀ y, y ∈ ns → y ≤ m) → Q (.int m) H) := by
  intro pins s σ H vs us Q I r h
  obtain ⟨a, ns, rfl, hs, hne, q⟩ := h
  obtain ⟨its, rv, hl, _⟩ := I.tuple hs
  rw [Vals.ref1 r]
  exact max_tup (I.ok.hd hc) hl rv.ints hne fun h' tk m t' hk h1 h2 => ⟨.int _, H, I.kept hk, ⟨_, rfl⟩, q m h1 h2⟩
theorem cr_minT (hc : X.calm = true) : CallR X (.builtin "min") (fun vs H Q => ∃ (a : Addr) (ns : List Int), vs = [V.ref a] ∧ SqT X.K H a (ns.map V.int) ∧ 0 < ns.length ∧ ∀ m, m ∈ ns → (∀ y, y ∈ ns → m ≤ y) → Q (.int m) H) := by
  intro pins s σ H vs us Q I r h
  obtain ⟨a, ns, rfl, hs, hne, q⟩ := h
  obtain ⟨its, rv, hl, _⟩ := I.tuple hs
  rw [Vals.ref1 r]
  exact min_tup (I.ok.hd hc) hl rv.ints hne fun h' tk m t' hk h1 h2 => ⟨.int _, H, I.kept hk, ⟨_, rfl⟩, q m h1 h2⟩
def caSumT : CaT := fun ds Q => match ds with
  | [.tuple xs] => ∃ ns : List Int, xs = ns.map PyData.int ∧ Q (.int ns.sum)
  | _ => False
def caMaxT : CaT := fun ds Q => match ds with
  | [.tuple xs] => ∃ ns : List Int, xs = ns.map PyData.int ∧ 0 < ns.length ∧ ∀ m, m ∈ ns → (∀ y, y ∈ ns → y ≤ m) → Q (.int m)
  | _ => False
def caMinT : CaT := fun ds Q => match ds with
  | [.tuple xs] => ∃ ns : List Int, xs = ns.map PyData.int ∧ 0 < ns.length ∧ ∀ m, m ∈ ns → (∀ y, y ∈ ns → m ≤ y) → Q (.int m)
  | _ => False
theorem cd_sumT (hc : X.calm = true) : CaD X (.builtin "sum") caSumT := ⟨_, cr_sumT hc, fun ds vs H QD Q hd q k => by
  match ds, q, hd with
  | [.tuple xs], q, hd =>
    obtain ⟨v, rfl, h⟩ := hd.one
    obtain ⟨a, us, rfl, hs, l⟩ := h.tuple
    obtain ⟨ns, rfl, q⟩ := q
    rw [l.ints] at hs
    exact ⟨a, ns, rfl, hs, k _ _ _ q (PExt.refl _) (.int _)⟩⟩
theorem cd_maxT (hc : X.calm = true) : CaD X (.builtin "max") caMaxT := ⟨_, cr_maxT hc, fun ds vs H QD Q hd q k => by
  match ds, q, hd with
  | [.tuple xs], q, hd =>
    obtain ⟨v, rfl, h⟩ := hd.one
    obtain ⟨a, us, rfl, hs, l⟩ := h.tuple
    obtain ⟨ns, rfl, hn, q⟩ := q
    rw [l.ints] at hs
    exact ⟨a, ns, rfl, hs, hn, fun m h1 h2 => k _ _ _ (q m h1 h2) (PExt.refl _) (.int _)⟩⟩
theorem cd_minT (hc : X.calm = true) : CaD X (.builtin "min") caMinT := ⟨_, cr_minT hc, fun ds vs H QD Q hd q k => by
  match ds, q, hd with
  | [.tuple xs], q, hd =>
    obtain ⟨v, rfl, h⟩ := hd.one
    obtain ⟨a, us, rfl, hs, l⟩ := h.tuple
    obtain ⟨ns, rfl, hn, q⟩ := q
    rw [l.ints] at hs
    exact ⟨a, ns, rfl, hs, hn, fun m h1 h2 => k _ _ _ (q m h1 h2) (PExt.refl _) (.int _)⟩⟩
end
end DL

set_option Elab.async false
set_option linter.all false
set_option maxRecDepth 100000
set_option maxHeartbeats 1000000
/-! DL21: zip of a list and a tuple. -/
namespace DL
open PySem PySem.Spec PyProof.Rows L2
/-- the list at a and the tuple at b, the items in new pairs -/
def ItzM (K : PySem.W.Frag) (a b : Addr) : It :=
  ⟨fun i H => ∃ (xs ys : List V) (x y : V), SqL K H a xs ∧ SqT K H b ys ∧ xs[i]? = some x ∧ ys[i]? = some y,
    fun i H v H' => ∃ T x y, v = .ref T ∧ H T = none ∧ H' = upd H T (.tup [x, y]) ∧ (∀ xs, SqL K H a xs → xs[i]? = some x) ∧ ∀ ys, SqT K H b ys → ys[i]? = some y,
    fun i H => ∃ xs ys : List V, SqL K H a xs ∧ SqT K H b ys ∧ i ≤ xs.length ∧ i ≤ ys.length ∧ (i = xs.length ∨ i = ys.length)⟩
theorem turn_zipM {P : Program} {w : World} {K : PySem.W.Frag} {elts : List Expr} {kk : Nat} {tpos : Pos} {a b z TI TO i1 i2 : Addr} (D : ZipSep2 z TI TO i1 i2 [i1, a] [i2, b]) (ha : a ≠ i1) (hb : b ≠ i2) :
    Turn P w K (.Tuple elts kk tpos) (ItzM K a b) [z, TI, TO, i1, i2] z (fun i h => IsZip h z TI TO .none ∧ IsTupOf2 h TI (.ref i1) (.ref i2) ∧ (∃ x y, IsTupOf2 h TO x y) ∧ h.IsListIter i1 a i ∧ h.IsTupleIter i2 b i) where
  mem := by simp
  obj := fun i h st c hc => by
    obtain ⟨hz, hTI, ⟨x, y, hTO⟩, ⟨o1, e1, _, d1⟩, ⟨o2, e2, _, d2⟩⟩ := st
    rcases (show c = z ∨ c = TI ∨ c = TO ∨ c = i1 ∨ c = i2 by simpa using hc) with q | q | q | q | q <;> rw [q]
    · exact ⟨_, hz, fun v q => nomatch q⟩
    · exact ⟨_, hTI, fun v q => nomatch q⟩
    · exact ⟨_, hTO, fun v q => nomatch q⟩
    · exact ⟨o1, e1, fun v q => by rw [d1] at q; cases q⟩
    · exact ⟨o2, e2, fun v q => by rw [d2] at q; cases q⟩
  keep := fun i h h' st k => by
    obtain ⟨hz, hTI, ⟨x, y, hTO⟩, h1, h2⟩ := st
    exact ⟨k z (by simp) _ hz, k TI (by simp) _ hTI, ⟨x, y, k TO (by simp) _ hTO⟩, h1.at fun o q => k i1 (by simp) o q, h2.at fun o q => k i2 (by simp) o q⟩
  item := by
    intro X hP hw hK hc i pins s σ H E I hf st hg
    subst hP hw hK
    obtain ⟨hz, hTI, ⟨x0, y0, hTO⟩, h1, h2⟩ := st
    obtain ⟨xs, ys, x, y, hqx, hqy, hx, hy⟩ := hg
    obtain ⟨its, rv, p, _⟩ := I.list hqx
    obtain ⟨its2, rv2, p2, _⟩ := I.tuple hqy
    obtain ⟨u, hu, ru⟩ := rv.get hx
    obtain ⟨u2, hu2, ru2⟩ := rv2.get hy
    have hzl : z < s.heap.objs.size := Heap.lt_size hz
    have t1 : i < its.toArray.size := by simpa using (List.getElem?_eq_some_iff.mp hu).1
    have t2 : i < its2.toArray.size := by simpa using (List.getElem?_eq_some_iff.mp hu2).1
    refine wpAny_pyNext_zipD2_item D (Draws.list (A := X.A.in1) (I.ok.hd hc) i1 a ha its.toArray) (Draws.tuple (A := X.A.in1) (I.ok.hd hc) i2 b hb its2.toArray) hz hTI hTO ⟨h1, p.isList⟩ ⟨h2, p2⟩ t1 t2 fun v1 v2 h' tk g1 g2 z' TO' h1' h2' hT hsz hk => ?_
    have q1 : its[i]? = some v1 := by simpa using g1
    have q2 : its2[i]? = some v2 := by simpa using g2
    obtain rfl : v1 = u := by rw [hu] at q1; exact (Option.some.inj q1).symm
    obtain rfl : v2 = u2 := by rw [hu2] at q2; exact (Option.some.inj q2).symm
    refine ⟨_, rfl, wpAny_letOwnedTupleGo_zip (s := { s with heap := h', toks := tk }) z' fun h'' z'' sb => ?_⟩
    have hT2 : h''.get? s.heap.objs.size = some { cls := .type "tuple", data := .seq #[v1, v2] } := (sb.2 _ (Nat.ne_of_gt hzl)).trans hT
    have new : ObjOk X.prog X.w (upd H s.heap.objs.size (.tup [x, y])) h'' s.heap.objs.size (.tup [x, y]) := ⟨by show 2 ≤ sizeLine; decide, [v1, v2], .cons ru (.cons ru2 .nil), ⟨_, hT2, rfl, _, rfl⟩⟩
    have I1 : Inv X pins σ (upd H s.heap.objs.size (.tup [x, y])) { s with heap := h'', toks := tk } :=
      I.turnedNew (ch := [z, TI, TO, i1, i2]) (fun c o hb q => (sb.2 c (fun q' => hb (by simp [q']))).trans (hk c o (fun q' => hb (by simp [q'])) (fun q' => hb (by simp [q'])) (fun q' => hb (by simp [q'])) (fun q' => hb (by simp [q'])) q)) hf (Nat.le_refl _) new
    refine ⟨.ref s.heap.objs.size, _, I1, rfl, ⟨_, x, y, rfl, I.hok.fresh (Nat.le_refl _), rfl, fun l hl => by rw [I.list_inj hl hqx]; exact hx, fun l hl => by rw [I.tuple_inj hl hqy]; exact hy⟩, ⟨z'', ?_, ⟨v1, v2, (sb.2 _ D.TOz).trans TO'⟩, h1'.1.at fun o q => (sb.2 _ (Ne.symm D.zi1)).trans q, h2'.1.at fun o q => (sb.2 _ (Ne.symm D.zi2)).trans q⟩, fun c hcm => ?_⟩
    · exact (sb.2 _ D.TIz).trans (hk _ _ D.TIz D.TITO D.TIi1 D.TIi2 hTI)
    · have hlt : c < s.heap.objs.size := by
        rcases (show c = z ∨ c = TI ∨ c = TO ∨ c = i1 ∨ c = i2 by simpa using hcm) with q | q | q | q | q <;> rw [q]
        · exact hzl
        · exact Heap.lt_size hTI
        · exact Heap.lt_size hTO
        · obtain ⟨_, e1, _⟩ := h1; exact Heap.lt_size e1
        · obtain ⟨_, e2, _⟩ := h2; exact Heap.lt_size e2
      rw [upd_ne (Nat.ne_of_lt hlt)]; exact (hf c hcm).1
  done := by
    intro X hP hw hK hc i pins s σ H E I hf st hg
    subst hP hw hK
    obtain ⟨hz, hTI, ⟨x0, y0, hTO⟩, h1, h2⟩ := st
    obtain ⟨xs, ys, hqx, hqy, le1, le2, hend⟩ := hg
    obtain ⟨its, rv, p, _⟩ := I.list hqx
    obtain ⟨its2, rv2, p2, _⟩ := I.tuple hqy
    have l1 := rv.length
    have l2 := rv2.length
    exact wpAny_pyNext_zipD2_end D (Draws.list (A := X.A.in1) (I.ok.hd hc) i1 a ha its.toArray) (Draws.tuple (A := X.A.in1) (I.ok.hd hc) i2 b hb its2.toArray) hz hTI hTO ⟨h1, p.isList⟩ ⟨h2, p2⟩ (by simp; omega) (by simp; omega) (by simp; omega) fun h' tk hk => ⟨rfl, I.turnedL (t' := tk) (ch := [z, TI, TO, i1, i2]) (fun c o hb q =>
      hk c o (fun q' => hb (by simp [q'])) (fun q' => hb (by simp [q'])) (fun q' => hb (by simp [q'])) (fun q' => hb (by simp [q'])) q) hf⟩
  self := fun A i s Q E st h => wpAny_pyIter_zip st.1 h
section
variable {X : Cx} {G : Gh} {a b : Expr} {p pos tpos : Pos} {elts : List Expr} {kk : Nat}
theorem pi_zipM {ta : TA} (hg : Gl X "zip") (hm : X.mg "zip" = none) (ha : PA X [a, b] ta) (hs : starEach [a, b] X.env = (false, eval a X.env) :: starEach [b] X.env := by rfl) (hpl : (backTo pos (starEach [b] X.env)).any (·.1) = false := by rfl) :
    PI X (.Tuple elts kk tpos) (.Call (.Name "zip" p) [a, b] [] pos) (fun σ H R => ta σ H fun vs H1 => ∃ a b xs ys, vs = [.ref a, .ref b] ∧ SqL X.K H1 a xs ∧ SqT X.K H1 b ys ∧ R (ItzM X.K a b) H1) := by
  refine ⟨fun pins s σ H R I h => Call_ (ld_blt I hg hm PyProof.Rows.boot_zip (PyProof.Rows.callWith_type1 (thn (ha.run pos pins s σ H _ I h) fun us s1 ⟨vs, H1, I1, r1, q1⟩ => ?_) hs hpl))⟩
  obtain ⟨a, b, xs, ys, rfl, hqx, hqy, q⟩ := q1
  obtain ⟨w1, w2, rfl, e1, e2⟩ := vals2 r1
  obtain rfl : w1 = Value.ref a := e1
  obtain rfl : w2 = Value.ref b := e2
  obtain ⟨its, rv, p, _⟩ := I1.list hqx
  obtain ⟨its2, rv2, p2, _⟩ := I1.tuple hqy
  have lta : a < s1.heap.objs.size := by obtain ⟨_, _, ho, _⟩ := p; exact Heap.lt_size ho
  have ltb : b < s1.heap.objs.size := by obtain ⟨_, ho, _⟩ := p2; exact Heap.lt_size ho
  refine zip_begins2 (begins_list a its.toArray) (begins_tuple b its2.toArray) p.isList p2 fun h' hz hTI hTO g1 g2 _ hk => wpAny_pyIter_zip hz ?_
  have I2 : Inv X pins σ H1 { s1 with heap := h' } := I1.kept (t' := s1.toks) hk
  refine ⟨s1.heap.objs.size + 4, [s1.heap.objs.size + 4, s1.heap.objs.size + 2, s1.heap.objs.size + 3, s1.heap.objs.size, s1.heap.objs.size + 1], _, _, H1, rfl, I2, turn_zipM (zip_sep2 (fp1 := [a]) (fp2 := [b]) (fun c hc => by rw [List.mem_singleton.mp hc]; exact lta) (fun c hc => by rw [List.mem_singleton.mp hc]; exact ltb)) (Nat.ne_of_lt lta) (Nat.ne_of_lt (Nat.lt_succ_of_lt ltb)), ⟨hz, hTI, ⟨_, _, hTO⟩, ⟨_, g1, rfl, rfl⟩, ⟨_, g2, rfl, rfl⟩⟩, fun c hc => ?_, q⟩
  have hle : s1.heap.objs.size ≤ c := by
    have := (show c = s1.heap.objs.size + 4 ∨ c = s1.heap.objs.size + 2 ∨ c = s1.heap.objs.size + 3 ∨ c = s1.heap.objs.size ∨ c = s1.heap.objs.size + 1 by simpa using hc)
    rcases this with z | z | z | z | z <;> rw [z]
    all_goals first | exact Nat.le_refl _ | exact Nat.le_add_right _ _
  exact I1.fpOk hle (I1.hok.fresh hle)
def iZipM (ta tb : TD) : TDs := fun E Q => ta E fun x E1 => tb E1 fun y E2 => match x, y with
  | .list xs, .tuple ys => Q (zipD xs ys) E2
  | _, _ => False
theorem walkD_zipM {K : PySem.W.Frag} {H : Hp} {a b : Addr} {vs us : List V} {ds es : List D} (h : LsF K H a vs) (h' : SqT K H b us) (l : RpL K H ds vs) (l' : RpL K H es us) : WalkD true K (ItzM K a b) H (zipD ds es) where
  goes := fun i H' x hi => by
    rw [zipD_len, l.length, l'.length] at hi
    exact ⟨vs, us, vs[i], us[i], (LsF.ext x h).sq, SqT.ext x h', List.getElem?_eq_getElem _, List.getElem?_eq_getElem _⟩
  yld := fun i H' v H2 x hi hy => by
    obtain ⟨T, v1, v2, rfl, hT, rfl, e1, e2⟩ := hy
    obtain ⟨d, hd, p⟩ := l.getV (e1 vs (LsF.ext x h).sq)
    obtain ⟨d', hd', p'⟩ := l'.getV (e2 us (SqT.ext x h'))
    have px := PExt.new (o := .tup [v1, v2]) hT
    exact ⟨px, _, zipD_get hd hd', .pair (SqT.of upd_same) (.cons ((p.ext x).ext px.ext) (.cons ((p'.ext x).ext px.ext) .nil))⟩
  stops := fun H' x => ⟨vs, us, (LsF.ext x h).sq, SqT.ext x h', by rw [zipD_len, l.length, l'.length]; omega, by rw [zipD_len, l.length, l'.length]; omega, by rw [zipD_len, l.length, l'.length]; omega⟩
theorem id_zipM {ta tb : TD} (ha : ED X G a ta) (hb : ED X G b tb) (hg : Gl X "zip") (hm : X.mg "zip" = none)
    (hs : starEach [a, b] X.env = (false, eval a X.env) :: starEach [b] X.env := by rfl) (hs2 : starEach [b] X.env = (false, eval b X.env) :: starEach [] X.env := by rfl) (hpl : (backTo pos (starEach [b] X.env)).any (·.1) = false := by rfl) :
    ID X G true (.Tuple elts kk tpos) (.Call (.Name "zip" p) [a, b] [] pos) (iZipM ta tb) := by
  refine ⟨PI.weak (pi_zipM hg hm (pa_cons ha.pe (pa_cons hb.pe pa_nil hs2) hs) hs hpl) fun σ H R ⟨E, QE, rel, q, k⟩ => ⟨E, _, rel, q, fun x E1 v H1 q1 x1 r1 p1 => ⟨E1, _, r1, q1, fun y E2 u H2 q2 x2 r2 p2 => ?_⟩⟩⟩
  have p1 := p1.ext x2
  cases p1 with
  | lst h1 l1 =>
    cases p2 with
    | tup h2 l2 => exact ⟨_, _, _, _, rfl, h1.sq, h2.1, k _ _ _ _ q2 (x1.trans x2) r2 (walkD_zipM h1 h2.1 l1 l2)⟩
    | _ => exact q2.elim
  | _ => cases p2 <;> exact q2.elim
end
end DL

set_option Elab.async false
set_option linter.all false
set_option maxRecDepth 100000
set_option maxHeartbeats 1000000
/-! DL22: t[::-1] of a tuple, str of an int, tuple * int, a chain of three comparisons, zip of three tuples, a comprehension with effects. -/
namespace DL
open PySem PySem.Spec PyProof.Rows L2
section
variable {prog : Program} {w : World} {A : Around} {E : Value → Shared → Prop} {s : Shared}
theorem sliceApplied_rev {sl : Addr} {vs : Value} {n : Nat} {Q : Int × Int × Nat → Shared → Prop} (hs : s.heap.IsSliceOf sl .none .none vs) (ps : IsPart vs (some (-1)))
    (h : Q ((n : Int) - 1, -1, n) s) : wpAny (model prog w) A (Builtin.Slice.sliceApplied (.ref sl) (pure (n : Int))) Q E s := by
  obtain ⟨os, hos, hcs, hds⟩ := id hs
  unfold Builtin.Slice.sliceApplied Builtin.Slice.sliceFields
  refine wpAny_bind (wpAny_bind (wpAny_field hos hds (x := .none) rfl (wpAny_bind (wpAny_field hos hds (x := .none) rfl (wpAny_bind (wpAny_field hos hds (x := vs) rfl (wpAny_pure ?_)))))))
  refine wpAny_bind (HT.slicePart_ ps ?_)
  show wpAny _ _ (if ((-1 : Int) == 0) = true then _ else _) _ _ s
  rw [if_neg (by decide)]
  refine wpAny_bind (slicePart_none (wpAny_bind (slicePart_none (wpAny_bind (wpAny_pure ?_)))))
  show wpAny _ _ (pure ((n : Int) - 1, (-1 : Int), Builtin.Slice.slicePlaces ((n : Int) - 1) (-1) (-1))) _ _ s
  have e : Builtin.Slice.slicePlaces ((n : Int) - 1) (-1) (-1) = n := by
    unfold Builtin.Slice.slicePlaces
    rw [if_neg (by decide)]
    split
    · have : ((n : Int) - 1 - -1 - 1) / (- -1) = n - 1 := by
        rw [show (- -1 : Int) = 1 from rfl, Int.ediv_one]; omega
      rw [this]; omega
    · omega
  rw [e]
  exact wpAny_pure h
theorem fm_congr {α β : Type} {f g : α → Option β} : ∀ {l : List α}, (∀ k ∈ l, f k = g k) → l.filterMap f = l.filterMap g
  | [], _ => rfl
  | a :: l, h => by rw [List.filterMap_cons, List.filterMap_cons, h a (List.mem_cons_self ..), fm_congr fun k hk => h k (List.mem_cons_of_mem _ hk)]
theorem pick_rev (xs : Array Value) : ((List.range xs.size).filterMap fun (k : Nat) => xs[(((xs.size : Int) - 1) + (k : Int) * (-1)).toNat]?).toArray = xs.toList.reverse.toArray := by
  congr 1
  have h : ∀ k ∈ List.range xs.size, xs[(((xs.size : Int) - 1) + (k : Int) * (-1)).toNat]? = xs.toList.reverse[k]? := fun k hk => by
    have hk := List.mem_range.mp hk
    rw [show ((((xs.size : Int) - 1) + (k : Int) * (-1)).toNat) = xs.size - 1 - k by omega, List.getElem?_reverse (by simpa using hk)]
    simp
  rw [fm_congr h]
  have g : ∀ (l : List Value), (List.range l.length).filterMap (fun k => l[k]?) = l := by
    intro l
    refine List.ext_getElem? fun i => ?_
    have : (List.range l.length).filterMap (fun k => l[k]?) = l := by
      have e2 : (List.range l.length).filterMap (fun k => l[k]?) = (List.range l.length).attach.map fun p => l[p.1]'(List.mem_range.mp p.2) := by
        have : ∀ (m : List Nat) (hm : ∀ k ∈ m, k < l.length), m.filterMap (fun k => l[k]?) = m.attach.map fun p => l[p.1]'(hm p.1 p.2) := by
          intro m
          induction m with
          | nil => intro _; rfl
          | cons a m ih =>
            intro hm
            rw [List.filterMap_cons, List.getElem?_eq_getElem (hm a (List.mem_cons_self ..)), List.attach_cons, List.map_cons]
            dsimp only
            rw [ih fun k hk => hm k (List.mem_cons_of_mem _ hk), List.map_map]
            rfl
        exact this _ fun k hk => List.mem_range.mp hk
      rw [e2]
      refine List.ext_getElem (by simp) fun i h1 h2 => ?_
      simp
    rw [this]
  have := g xs.toList.reverse
  rw [List.length_reverse, Array.length_toList] at this
  exact this
theorem rev_tuple {t sl : Addr} {items : Array Value} {vs : Value} {Q : Value → Shared → Prop} (ht : IsTup s.heap t items) (hs : s.heap.IsSliceOf sl .none .none vs) (ps : IsPart vs (some (-1)))
    (h : Q (.ref s.heap.objs.size) { s with heap := s.heap.push { cls := .type "tuple", data := .seq items.toList.reverse.toArray } }) (hsz : items.size ≤ sizeLine) : wpAny (model prog w) A (getItem (.ref t) (.ref sl)) Q E s := by
  have htake : sizeOk (.seq items.toList.reverse.toArray) := by
    show items.toList.reverse.toArray.size ≤ sizeLine
    rw [List.size_toArray, List.length_reverse, Array.length_toList]; exact hsz
  obtain ⟨os, hos, hcs, hds⟩ := id hs
  have hTs : s.TypeIs (.ref sl) "slice" := ⟨os, hos, hcs⟩
  unfold getItem
  try with_reducible refine wpAny_holding ?_
  first | refine wpAny_bind (wpAny_pure ?_) | skip
  refine wpAny_bind (wpAny_sequenceKey ht.typeIs (by decide) ?_)
  refine wpAny_bind (wpAny_callSpecial?_slot (name := Str.ofString "__getitem__") ht.typeIs PyProof.Rows.slot_tuple_getitem
    (wpAny_call_entry PyProof.Rows.slot_tuple_getitem ht.typeIs entry_tuple_getitem ?_ (args_tuple_getitem _ _)))
  show wpAny _ _ (Builtin.Tuple.tupleItemsOf (.ref t) >>= _) _ _ s
  refine wpAny_bind (tupleItemsOf_ ht ?_)
  refine wpAny_bind (wpAny_typeOf hTs ?_)
  rw [if_pos (by decide)]
  refine wpAny_bind (sliceApplied_rev hs ps ?_)
  have hno : ¬ (((((items.size : Int) - 1) == 0 && (-1 : Int) == 1 && items.size == items.size) = true)) := by simp
  show wpAny _ _ (if (((items.size : Int) - 1) == 0 && (-1 : Int) == 1 && items.size == items.size) = true then _ else _) _ _ s
  rw [if_neg hno, pick_rev]
  first
    | exact wpAny_bind (m := Builtin.Tuple.tupleExact _) (wpAny_newObj_type (wpAny_pure ⟨_, rfl, wpAny_pure h⟩) htake)
    | exact wpAny_bind (m := Builtin.Tuple.tupleExact _) (wpAny_newObj_type (wpAny_bind (wpAny_pure (wpAny_pure ⟨_, rfl, wpAny_pure h⟩))) htake)
    | exact wpAny_bind (wpAny_bind (m := Builtin.Tuple.tupleExact _) (wpAny_newObj_type (wpAny_pure (wpAny_pure ⟨_, rfl, wpAny_pure h⟩)) htake))
    | exact wpAny_bind (wpAny_bind (m := Builtin.Tuple.tupleExact _) (wpAny_newObj_type (wpAny_pure ⟨_, rfl, wpAny_pure h⟩) htake))
end
section
variable {X : Cx} {G : Gh} {a b c d e : Expr} {pos p p1 p2 p3 : Pos}
theorem pe_revT {te : TE} {k : Nat} (he : PE X e te) : PE X (.Subscript e (.Slice none none (some (.UnaryOp .USub (.Constant (.int 1) k p1) p2)) p3) pos)
    (fun σ H Q => te σ H fun x H1 => ∃ a xs, x = .ref a ∧ SqT X.K H1 a xs ∧ ∀ p o, H1 p = none → o.dict = none → Q (.ref p) (upd H1 p (.frz o (.tup xs.reverse)))) := by
  refine ⟨fun pins s σ H Q I h => ?_⟩
  refine Subscript_ (thn (he.run pins s σ H _ I h) fun v s1 ⟨x, H1, I1, r1, q1⟩ => ?_)
  obtain ⟨a, xs, ex, hx, q⟩ := q1
  subst ex
  cases r1
  have hst : PO X (some (.UnaryOp .USub (.Constant (.int 1) k p1) p2)) (tPart (tUn (rU fun i => .int (-i)) (tC (.int 1)))) := po_some (pe_un un_neg pe_int)
  refine wpAny_Slice (thn (po_none.run pins s1 σ H1 (fun o H2 => o = none ∧ H2 = H1) I1 ⟨rfl, rfl⟩) fun vl s2 ⟨l, H2, I2, pl, el, e2⟩ => ?_)
  subst el e2
  refine thn (po_none.run pins s2 σ H2 (fun o H3 => o = none ∧ H3 = H2) I2 ⟨rfl, rfl⟩) fun vu s3 ⟨u, H3, I3, pu, eu, e3⟩ => ?_
  subst eu e3
  refine thn (hst.run pins s3 σ H3 (fun o H4 => o = some (-1) ∧ H4 = H3) I3 ⟨1, rfl, -1, rfl, rfl, rfl⟩) fun vs s4 ⟨o, H4, I4, ps, eo, e4⟩ => ?_
  subst eo e4
  have I5 : Inv X pins σ H4 { s4 with heap := s4.heap.push { cls := .type "slice", data := .fields #[vl, vu, vs] } } := I4.kept (t' := s4.toks) fun b ob q => Heap.get?_push_of_some _ q
  obtain ⟨its, r, ht, hz⟩ := I5.tuple hx
  have hlen := r.length
  cases pl
  cases pu
  show wpAny (model X.prog X.w) X.A (subscriptTail e (.Slice none none (some (.UnaryOp .USub (.Constant (.int 1) k p1) p2)) p3) (.ref a) (.ref s4.heap.objs.size)) (EP X pins σ Q) X.xe { s4 with heap := s4.heap.push { cls := .type "slice", data := .fields #[.none, .none, vs] } }
  refine tail_any (ops := [.ref a, .ref s4.heap.objs.size]) ht.typeIs (PyProof.Rows.slot_tuple_getitem.lookup) ?_ (by with_unfolding_all rfl)
  refine rev_tuple ht (Heap.IsSliceOf.new _ .none .none vs) ps ?_ (by rw [List.size_toArray]; omega)
  exact ⟨.ref _, _, I5.laid (t' := s4.toks) (o := .frz _ (.tup xs.reverse)) (fun b ob q => Heap.get?_push_of_some _ q) (Nat.le_refl _) ⟨Heap.get?_push_size _ rfl, by rw [List.length_reverse]; exact hz, _, r.reverse, IsTup.new _ _⟩, rfl, q _ _ (I5.hok.fresh (Nat.le_refl _)) rfl⟩
/-- t[::-1] of a tuple -/
def tRevT (ta : TD) : TD := fun E Q => ta E fun x E1 => match x with
  | .tuple xs => Q (.tuple xs.reverse) E1
  | _ => False
theorem ed_revT {k : Nat} {ta : TD} (ha : ED X G a ta) : ED X G (.Subscript a (.Slice none none (some (.UnaryOp .USub (.Constant (.int 1) k p1) p2)) p3) pos) (tRevT ta) :=
  ⟨PE.weak (pe_revT ha.pe) fun σ H Q ⟨E, QE, rel, q, k⟩ => ⟨E, _, rel, q, fun x E1 v H1 q1 x1 r1 p1 => by
    cases p1 with
    | tup hs ll => exact ⟨_, _, rfl, hs.1, fun p o hp ho => k _ _ _ _ q1 (x1.trans (PExt.new hp).ext) (r1.pext (PExt.new hp)) (.tup (.new ho) (ll.reverse.ext (PExt.new hp).ext))⟩
    | _ => exact q1.elim⟩⟩
/-! ### str of an int -/
def caStr : CaT := fun ds Q => match ds with
  | [.int i] => i.natAbs.log2 < 1920 ∧ Q (.str (toString i))
  | _ => False
theorem cd_str : CaD X (.type "str") caStr := ⟨_, call_str_int, fun ds vs H QD Q hd q k => by
  match ds, q, hd with
  | [.int i], q, hd =>
    obtain ⟨v, rfl, h⟩ := hd.one
    rw [h.int]
    exact ⟨i, rfl, q.1, k _ _ _ q.2 (PExt.refl _) (.str _)⟩⟩
/-! ### tuple * int -/
theorem op_repTF : OpR X (binaryOp .Mult) (fun x y H Q => ∃ l k xs, x = .ref l ∧ y = .int k ∧ SqT X.K H l xs ∧ xs ≠ [] ∧ 2 ≤ k ∧ k ≤ 1000 ∧ xs.length ≤ 1000 ∧ ∀ p o, H p = none → o.dict = none → Q (.ref p) (upd H p (.frz o (.tup (List.replicate k.toNat xs).flatten)))) := by
  intro pins s σ H x y v u Q I rx ry h
  obtain ⟨l, k, xs, rfl, rfl, hT, hne, h1, h2, hz, q⟩ := h
  cases rx
  obtain ⟨t, rfl⟩ := ry
  obtain ⟨its, r, ⟨⟨cls, dd, data, sl⟩, ho, hc, n, hd⟩, hs⟩ := I.tuple hT
  simp only at hc hd
  subst hc hd
  have hle : its.length = xs.length := r.length.symm
  have hn : its ≠ [] := fun e => hne (by
    rw [e] at hle
    exact List.eq_nil_of_length_eq_zero hle.symm)
  have hi : its.toArray.isEmpty = false := by
    cases its with
    | nil => exact absurd rfl hn
    | cons a b => rfl
  have hsz0 : its.toArray.size = xs.length := by rw [List.size_toArray, hle]
  have hm : ((its.toArray.size : Nat) : Int) * k ≤ 1000000 := by
    rw [hsz0]
    have a1 : ((xs.length : Nat) : Int) * k ≤ 1000 * k := Int.mul_le_mul_of_nonneg_right (by omega) (by omega)
    omega
  have flen : (List.replicate k.toNat its).flatten.length ≤ sizeLine := by
    rw [PyProof.Rows.lm_len_rep_flat, hle, sizeLine_eq]
    have a1 : k.toNat * xs.length ≤ 1000 * 1000 := Nat.mul_le_mul (by omega) hz
    omega
  have c0 : (decide (k < -(2 ^ 63)) || decide (k ≥ 2 ^ 63)) = false := by
    rw [decide_eq_false (by omega), decide_eq_false (by omega)] <;> rfl
  have c1 : (its.toArray.isEmpty || k == 1) = false := by
    rw [hi, Bool.false_or]
    exact beq_eq_false_iff_ne.mpr (by omega)
  have c2 : (decide (k ≤ 0) || its.toArray.isEmpty) = false := by
    rw [hi, Bool.or_false]
    exact decide_eq_false (by omega)
  have c4 : Builtin.Tuple.tupleTooMany (((its.toArray.size : Nat) : Int) * k) = false := by
    unfold Builtin.Tuple.tupleTooMany
    rw [sizeLine_eq]
    exact decide_eq_false (by omega)
  refine wpAny_binaryOp_repeat_ref (T := "tuple") (U := "int") (by decide) ⟨_, ho, rfl⟩ (fun s' => typeIs_int s' k t) noFill_tuple_mul F.fills_int_mul F.slot_int_rmul repeat_tuple F.slot_int_index.lookup
    (call_meets F.slot_int_rmul (typeIs_int s k t) F.entry_int_rmul (F.args_int_rmul_2 _ _) (int_rmul_tuple k t l its.toArray n dd sl)
      ⟨ho, rfl, ⟨_, ho, rfl⟩, call_meets F.slot_tuple_mul ⟨_, ho, rfl⟩ F.entry_tuple_mul (F.args_tuple_mul_2 _ _) (tuple_mulW l its.toArray n dd sl k t c0 c1 c2 (by omega) c4 (by rw [size_rep, List.size_toArray]; exact flen)) ⟨ho, ?_⟩⟩)
  rw [size_rep]
  have fl : (List.replicate k.toNat xs).flatten.length ≤ sizeLine := by rw [PyProof.Rows.lm_len_rep_flat, sizeLine_eq]; have a1 : k.toNat * xs.length ≤ 1000 * 1000 := Nat.mul_le_mul (by omega) hz; omega
  exact ⟨.ref s.heap.objs.size, _, I.laid (t' := s.toks) (o := .frz _ (.tup (List.replicate k.toNat xs).flatten)) (fun b ob q => Heap.get?_push_of_some _ q) (Nat.le_refl _) ⟨Heap.get?_push_size _ rfl, fl, _, r.rep k.toNat, IsTup.new _ _⟩, rfl, q _ _ (I.hok.fresh (Nat.le_refl _)) rfl⟩
def opRepT : OpT := fun x y Q => match x, y with
  | .tuple xs, .int k => (xs ≠ [] ∧ 2 ≤ k ∧ k ≤ 1000 ∧ xs.length ≤ 1000) ∧ Q (.tuple (List.replicate k.toNat xs).flatten)
  | _, _ => False
theorem od_repT : OpD X (binaryOp .Mult) opRepT := ⟨_, op_repTF, fun x y v u H QD Q hx hy q k => by
  cases x with
  | tuple xs =>
    cases y with
    | int j =>
      obtain ⟨a, vs, rfl, sa, la⟩ := hx.tuple
      rw [hy.int]
      have hl := la.length
      refine ⟨a, j, vs, rfl, rfl, sa, fun e => q.1.1 ?_, q.1.2.1, q.1.2.2.1, by rw [← hl]; exact q.1.2.2.2, fun p o hp ho => k _ _ _ q.2 (PExt.new hp) (.tup (.new ho) ((la.rep _).ext (PExt.new hp).ext))⟩
      rw [e] at hl
      exact List.eq_nil_of_length_eq_zero hl
    | _ => exact q.elim
  | _ => exact q.elim⟩
/-! ### a op b op' c op'' d -/
def tChain3 (r r' r'' : R2) (ta tb tc td : TE) : TE := fun σ H Q => ta σ H fun x H1 => tb σ H1 fun y H2 => r x y H2 fun z H3 => ∃ k, z = .bl k ∧
  (if k = true then tc σ H3 fun w' H4 => r' y w' H4 fun z' H5 => ∃ k', z' = .bl k' ∧ (if k' = true then td σ H5 fun u' H6 => r'' w' u' H6 Q else Q (.bl false) H5) else Q (.bl false) H3)
theorem pe_chain3 {ta tb tc td : TE} {op op' op'' : CmpOp} {r r' r'' : R2} (ho : OpR X (compareOp op) r) (ho' : OpR X (compareOp op') r') (ho'' : OpR X (compareOp op'') r'') (ha : PE X a ta) (hb : PE X b tb) (hc : PE X c tc) (hd : PE X d td)
    (hm : lastMarks [op, op', op''] [b, c, d] = false := by with_unfolding_all rfl) : PE X (.Compare a [op, op', op''] [b, c, d] pos) (tChain3 r r' r'' ta tb tc td) := by
  refine ⟨fun pins s σ H Q I h => ?_⟩
  refine Compare_chain (thn (ha.run pins s σ H _ I h) fun v s1 ⟨x, H1, I1, r1, q1⟩ => chain_link (thn (hb.run pins s1 σ H1 _ I1 q1) fun u s2 ⟨y, H2, I2, r2, q2⟩ =>
    thn (ho pins s2 σ H2 x y v u _ I2 r1 r2 q2) fun d s3 ⟨z, H3, I3, r3, k, e, q3⟩ => ?_)) hm
  subst e
  cases r3
  refine wpAny_truthy_bool ?_
  cases k with
  | false => exact ite_ff ⟨.bl false, H3, I3, rfl, q3⟩
  | true =>
    refine ite_tt (chain_link (thn (hc.run pins s3 σ H3 _ I3 q3) fun w' s4 ⟨z', H4, I4, r4, q4⟩ => thn (ho' pins s4 σ H4 y z' u w' _ I4 r2 r4 q4) fun d s5 ⟨z, H5, I5, r5, k, e, q5⟩ => ?_))
    subst e
    cases r5
    refine wpAny_truthy_bool ?_
    cases k with
    | false => exact ite_ff ⟨.bl false, H5, I5, rfl, q5⟩
    | true => exact ite_tt (chain_last (thn (hd.run pins s5 σ H5 _ I5 q5) fun w'' s6 ⟨z'', H6, I6, r6, q6⟩ => ho'' pins s6 σ H6 z' z'' w' w'' Q I6 r4 r6 q6))
def tChain3D (o o' o'' : OpT) (ta tb tc td : TD) : TD := fun E Q => ta E fun x E1 => tb E1 fun y E2 => o x y fun z => match z with
  | .bool true => tc E2 fun w E3 => o' y w fun z' => match z' with
    | .bool true => td E3 fun u E4 => o'' w u fun r => Q r E4
    | .bool false => Q (.bool false) E3
    | _ => False
  | .bool false => Q (.bool false) E2
  | _ => False
theorem ed_chain3 {op op' op'' : CmpOp} {o o' o'' : OpT} {ta tb tc td : TD} (ho : OpD X (compareOp op) o) (ho' : OpD X (compareOp op') o') (ho'' : OpD X (compareOp op'') o'') (ha : ED X G a ta) (hb : ED X G b tb) (hc : ED X G c tc) (hd : ED X G d td)
    (h1 : lastMarks [op, op', op''] [b, c, d] = false := by with_unfolding_all rfl) : ED X G (.Compare a [op, op', op''] [b, c, d] pos) (tChain3D o o' o'' ta tb tc td) := by
  obtain ⟨r, hr, hq⟩ := ho
  obtain ⟨r', hr', hq'⟩ := ho'
  obtain ⟨r'', hr'', hq''⟩ := ho''
  refine ⟨PE.weak (pe_chain3 hr hr' hr'' ha.pe hb.pe hc.pe hd.pe h1) fun σ H Q ⟨E, QE, rel, q, k⟩ => ⟨E, _, rel, q, fun x E1 v H1 q1 x1 r1 p1 => ⟨E1, _, r1, q1, fun y E2 u H2 q2 x2 r2 p2 => ?_⟩⟩⟩
  refine hq x y v u H2 _ _ (.inl (p1.ext x2)) (.inl p2) q2 fun z w H3 q3 px rz => ?_
  cases rz with
  | bl b =>
    refine ⟨b, rfl, ?_⟩
    cases b with
    | true =>
      refine iteT ⟨E2, _, r2.pext px, q3, fun c E3 w H4 q4 x4 r4 p4 => ?_⟩
      refine hq' y c u w H4 _ _ (.inl ((p2.ext px.ext).ext x4)) (.inl p4) q4 fun z w' H5 q5 px5 rz5 => ?_
      cases rz5 with
      | bl b =>
        refine ⟨b, rfl, ?_⟩
        have xx := (((x1.trans x2).trans px.ext).trans x4).trans px5.ext
        cases b with
        | true =>
          refine iteT ⟨E3, _, r4.pext px5, q5, fun d E4 w6 H6 q6 x6 r6 p6 => ?_⟩
          exact hq'' c d w w6 H6 _ _ (.inl ((p4.ext px5.ext).ext x6)) (.inl p6) q6 fun z w7 H7 q7 px7 rz7 => k _ _ _ _ q7 ((xx.trans x6).trans px7.ext) (r6.pext px7) rz7
        | false => exact iteF (k _ _ _ _ q5 xx (r4.pext px5) (.bl false))
      | _ => exact q5.elim
    | false => exact iteF (k _ _ _ _ q3 ((x1.trans x2).trans px.ext) (r2.pext px) (.bl false))
  | _ => exact q3.elim
end
/-! ### a comprehension with effects: an invariant of what was found and the environment -/
theorem compD_inv {g : TGd} {tt : TTd} {te : TD} {ms : List Nat} (I : Nat → List D → Env → Prop) : ∀ (ds : List D) (k : Nat) (acc : List D) (E : Env) (Q : List D → Env → Prop), acc.length ≤ k → k + ds.length ≤ sizeLine → I k acc E →
    (∀ (i : Nat) (d : D) (acc : List D) (E : Env), ds[i]? = some d → I (k + i) acc E → ∀ R : Option D → Env → Prop, (∀ E', I (k + i + 1) acc E' → R none E') → (∀ y E', I (k + i + 1) (acc ++ [y]) E' → R (some y) E') → turnD g tt te d (wipeE E ms) R) →
    (∀ acc E, I (k + ds.length) acc E → Q acc E) → compD g tt te ms ds acc E Q
  | [], k, acc, E, Q, _, _, h0, _, hd => hd _ _ h0
  | d :: ds, k, acc, E, Q, hl, hz, h0, hs, hd => by
    show turnD g tt te d (wipeE E ms) _
    rw [List.length_cons] at hz
    have hs' : ∀ (i : Nat) (d : D) (acc : List D) (E : Env), ds[i]? = some d → I (k + 1 + i) acc E → ∀ R : Option D → Env → Prop, (∀ E', I (k + 1 + i + 1) acc E' → R none E') → (∀ y E', I (k + 1 + i + 1) (acc ++ [y]) E' → R (some y) E') → turnD g tt te d (wipeE E ms) R := fun i d acc E e h => by
      have := hs (i + 1) d acc E (by simpa using e) (by rw [show k + (i + 1) = k + 1 + i by omega]; exact h)
      rw [show k + (i + 1) = k + 1 + i by omega] at this
      exact this
    have hd' : ∀ acc E, I (k + 1 + ds.length) acc E → Q acc E := fun acc E h => hd acc E (by rw [List.length_cons, show k + (ds.length + 1) = k + 1 + ds.length by omega]; exact h)
    refine hs 0 d acc E rfl h0 _ (fun E' h => compD_inv I ds (k + 1) acc E' Q (by omega) (by omega) h hs' hd') fun y E' h => ⟨by omega, compD_inv I ds (k + 1) (acc ++ [y]) E' Q (by rw [List.length_append, List.length_cons, List.length_nil]; omega) (by omega) h hs' hd'⟩
theorem compD_inv0 {g : TGd} {tt : TTd} {te : TD} {ms : List Nat} {E : Env} {Q : List D → Env → Prop} {ds : List D} (I : Nat → List D → Env → Prop) (hz : ds.length ≤ sizeLine) (h0 : I 0 [] E)
    (hs : ∀ (i : Nat) (d : D) (acc : List D) (E : Env), ds[i]? = some d → I i acc E → ∀ R : Option D → Env → Prop, (∀ E', I (i + 1) acc E' → R none E') → (∀ y E', I (i + 1) (acc ++ [y]) E' → R (some y) E') → turnD g tt te d (wipeE E ms) R)
    (hd : ∀ acc E2, I ds.length acc E2 → Q acc E2) : compD g tt te ms ds [] E Q :=
  compD_inv I ds 0 [] E _ (Nat.le_refl _) (by omega) h0 (fun i d acc E e h => by rw [Nat.zero_add] at h ⊢; exact hs i d acc E e h) fun acc E2 h => hd acc E2 (by rw [Nat.zero_add] at h; exact h)
theorem comp_inv {ti : TDs} {g : TGd} {tt : TTd} {te : TD} {ms : List Nat} {E E1 : Env} {Q : List D → Env → Prop} (ds : List D) (I : Nat → List D → Env → Prop) (hi : ∀ R : List D → Env → Prop, R ds E1 → ti E R) (hz : ds.length ≤ sizeLine) (h0 : I 0 [] E1)
    (hs : ∀ (i : Nat) (d : D) (acc : List D) (E : Env), ds[i]? = some d → I i acc E → ∀ R : Option D → Env → Prop, (∀ E', I (i + 1) acc E' → R none E') → (∀ y E', I (i + 1) (acc ++ [y]) E' → R (some y) E') → turnD g tt te d (wipeE E ms) R)
    (hd : ∀ acc E2, I ds.length acc E2 → Q acc (restE E1 E2 ms)) : tComp ti g tt te ms E Q :=
  hi _ (compD_inv I ds 0 [] E1 _ (Nat.le_refl _) (by omega) h0 (fun i d acc E e h => by rw [Nat.zero_add] at h ⊢; exact hs i d acc E e h) fun acc E2 h => hd acc E2 (by rw [Nat.zero_add] at h; exact h))
end DL

set_option Elab.async false
set_option linter.all false
set_option maxRecDepth 100000
set_option maxHeartbeats 1000000
/-! DL23: zip of three tuples. -/
namespace DL
open PySem PySem.Spec PyProof.Rows L2
/-- the tuples at a, b, c, the items in new triples -/
def Itz3 (K : PySem.W.Frag) (a b c : Addr) : It :=
  ⟨fun i H => ∃ (xs ys zs : List V) (x y z : V), SqT K H a xs ∧ SqT K H b ys ∧ SqT K H c zs ∧ xs[i]? = some x ∧ ys[i]? = some y ∧ zs[i]? = some z,
    fun i H v H' => ∃ T x y z, v = .ref T ∧ H T = none ∧ H' = upd H T (.tup [x, y, z]) ∧ (∀ xs, SqT K H a xs → xs[i]? = some x) ∧ (∀ ys, SqT K H b ys → ys[i]? = some y) ∧ ∀ zs, SqT K H c zs → zs[i]? = some z,
    fun i H => ∃ xs ys zs : List V, SqT K H a xs ∧ SqT K H b ys ∧ SqT K H c zs ∧ i ≤ xs.length ∧ i ≤ ys.length ∧ i ≤ zs.length ∧ (i = xs.length ∨ i = ys.length ∨ i = zs.length)⟩
theorem turn_zip3 {P : Program} {w : World} {K : PySem.W.Frag} {elts : List Expr} {kk : Nat} {tpos : Pos} {a b c z TI TO i1 i2 i3 : Addr} (D : ZipSep3 z TI TO i1 i2 i3 [i1, a] [i2, b] [i3, c]) (ha : a ≠ i1) (hb : b ≠ i2) (hcc : c ≠ i3) :
    Turn P w K (.Tuple elts kk tpos) (Itz3 K a b c) [z, TI, TO, i1, i2, i3] z (fun i h => IsZip h z TI TO .none ∧ IsTupOf3 h TI (.ref i1) (.ref i2) (.ref i3) ∧ (∃ x y w, IsTupOf3 h TO x y w) ∧ h.IsTupleIter i1 a i ∧ h.IsTupleIter i2 b i ∧ h.IsTupleIter i3 c i) where
  mem := by simp
  obj := fun i h st c hc => by
    obtain ⟨hz, hTI, ⟨x, y, w, hTO⟩, ⟨o1, e1, _, d1⟩, ⟨o2, e2, _, d2⟩, ⟨o3, e3, _, d3⟩⟩ := st
    rcases (show c = z ∨ c = TI ∨ c = TO ∨ c = i1 ∨ c = i2 ∨ c = i3 by simpa using hc) with q | q | q | q | q | q <;> rw [q]
    · exact ⟨_, hz, fun v q => nomatch q⟩
    · exact ⟨_, hTI, fun v q => nomatch q⟩
    · exact ⟨_, hTO, fun v q => nomatch q⟩
    · exact ⟨o1, e1, fun v q => by rw [d1] at q; cases q⟩
    · exact ⟨o2, e2, fun v q => by rw [d2] at q; cases q⟩
    · exact ⟨o3, e3, fun v q => by rw [d3] at q; cases q⟩
  keep := fun i h h' st k => by
    obtain ⟨hz, hTI, ⟨x, y, w, hTO⟩, h1, h2, h3⟩ := st
    exact ⟨k z (by simp) _ hz, k TI (by simp) _ hTI, ⟨x, y, w, k TO (by simp) _ hTO⟩, h1.at fun o q => k i1 (by simp) o q, h2.at fun o q => k i2 (by simp) o q, h3.at fun o q => k i3 (by simp) o q⟩
  item := by
    intro X hP hw hK hc i pins s σ H E I hf st hg
    subst hP hw hK
    obtain ⟨hz, hTI, ⟨x0, y0, z0, hTO⟩, h1, h2, h3⟩ := st
    obtain ⟨xs, ys, zs, x, y, zz, hqx, hqy, hqz, hx, hy, hzz⟩ := hg
    obtain ⟨its, rv, p, _⟩ := I.tuple hqx
    obtain ⟨its2, rv2, p2, _⟩ := I.tuple hqy
    obtain ⟨its3, rv3, p3, _⟩ := I.tuple hqz
    obtain ⟨u, hu, ru⟩ := rv.get hx
    obtain ⟨u2, hu2, ru2⟩ := rv2.get hy
    obtain ⟨u3, hu3, ru3⟩ := rv3.get hzz
    have hzl : z < s.heap.objs.size := Heap.lt_size hz
    have t1 : i < its.toArray.size := by simpa using (List.getElem?_eq_some_iff.mp hu).1
    have t2 : i < its2.toArray.size := by simpa using (List.getElem?_eq_some_iff.mp hu2).1
    have t3 : i < its3.toArray.size := by simpa using (List.getElem?_eq_some_iff.mp hu3).1
    refine wpAny_pyNext_zipD3_item D (Draws.tuple (A := X.A.in1) (I.ok.hd hc) i1 a ha its.toArray) (Draws.tuple (A := X.A.in1) (I.ok.hd hc) i2 b hb its2.toArray) (Draws.tuple (A := X.A.in1) (I.ok.hd hc) i3 c hcc its3.toArray) hz hTI hTO ⟨h1, p⟩ ⟨h2, p2⟩ ⟨h3, p3⟩ t1 t2 t3 fun v1 v2 v3 h' tk g1 g2 g3 z' TO' h1' h2' h3' hT hsz hk => ?_
    have q1 : its[i]? = some v1 := by simpa using g1
    have q2 : its2[i]? = some v2 := by simpa using g2
    have q3 : its3[i]? = some v3 := by simpa using g3
    obtain rfl : v1 = u := by rw [hu] at q1; exact (Option.some.inj q1).symm
    obtain rfl : v2 = u2 := by rw [hu2] at q2; exact (Option.some.inj q2).symm
    obtain rfl : v3 = u3 := by rw [hu3] at q3; exact (Option.some.inj q3).symm
    refine ⟨_, rfl, wpAny_letOwnedTupleGo_zip (s := { s with heap := h', toks := tk }) z' fun h'' z'' sb => ?_⟩
    have hT2 : h''.get? s.heap.objs.size = some { cls := .type "tuple", data := .seq #[v1, v2, v3] } := (sb.2 _ (Nat.ne_of_gt hzl)).trans hT
    have new : ObjOk X.prog X.w (upd H s.heap.objs.size (.tup [x, y, zz])) h'' s.heap.objs.size (.tup [x, y, zz]) := ⟨by show 3 ≤ sizeLine; decide, [v1, v2, v3], .cons ru (.cons ru2 (.cons ru3 .nil)), ⟨_, hT2, rfl, _, rfl⟩⟩
    have I1 : Inv X pins σ (upd H s.heap.objs.size (.tup [x, y, zz])) { s with heap := h'', toks := tk } :=
      I.turnedNew (ch := [z, TI, TO, i1, i2, i3]) (fun c o hb q => (sb.2 c (fun q' => hb (by simp [q']))).trans (hk c o (fun q' => hb (by simp [q'])) (fun q' => hb (by simp [q'])) (fun q' => hb (by simp [q'])) (fun q' => hb (by simp [q'])) (fun q' => hb (by simp [q'])) q)) hf (Nat.le_refl _) new
    refine ⟨.ref s.heap.objs.size, _, I1, rfl, ⟨_, x, y, zz, rfl, I.hok.fresh (Nat.le_refl _), rfl, fun l hl => by rw [I.tuple_inj hl hqx]; exact hx, fun l hl => by rw [I.tuple_inj hl hqy]; exact hy, fun l hl => by rw [I.tuple_inj hl hqz]; exact hzz⟩, ⟨z'', ?_, ⟨v1, v2, v3, (sb.2 _ D.TOz).trans TO'⟩, h1'.1.at fun o q => (sb.2 _ (Ne.symm D.zi1)).trans q, h2'.1.at fun o q => (sb.2 _ (Ne.symm D.zi2)).trans q, h3'.1.at fun o q => (sb.2 _ (Ne.symm D.zi3)).trans q⟩, fun c hcm => ?_⟩
    · exact (sb.2 _ D.TIz).trans (hk _ _ D.TIz D.TITO D.TIi1 D.TIi2 D.TIi3 hTI)
    · have hlt : c < s.heap.objs.size := by
        rcases (show c = z ∨ c = TI ∨ c = TO ∨ c = i1 ∨ c = i2 ∨ c = i3 by simpa using hcm) with q | q | q | q | q | q <;> rw [q]
        · exact hzl
        · exact Heap.lt_size hTI
        · exact Heap.lt_size hTO
        · obtain ⟨_, e1, _⟩ := h1; exact Heap.lt_size e1
        · obtain ⟨_, e2, _⟩ := h2; exact Heap.lt_size e2
        · obtain ⟨_, e3, _⟩ := h3; exact Heap.lt_size e3
      rw [upd_ne (Nat.ne_of_lt hlt)]; exact (hf c hcm).1
  done := by
    intro X hP hw hK hc i pins s σ H E I hf st hg
    subst hP hw hK
    obtain ⟨hz, hTI, ⟨x0, y0, z0, hTO⟩, h1, h2, h3⟩ := st
    obtain ⟨xs, ys, zs, hqx, hqy, hqz, le1, le2, le3, hend⟩ := hg
    obtain ⟨its, rv, p, _⟩ := I.tuple hqx
    obtain ⟨its2, rv2, p2, _⟩ := I.tuple hqy
    obtain ⟨its3, rv3, p3, _⟩ := I.tuple hqz
    have l1 := rv.length
    have l2 := rv2.length
    have l3 := rv3.length
    exact wpAny_pyNext_zipD3_end D (Draws.tuple (A := X.A.in1) (I.ok.hd hc) i1 a ha its.toArray) (Draws.tuple (A := X.A.in1) (I.ok.hd hc) i2 b hb its2.toArray) (Draws.tuple (A := X.A.in1) (I.ok.hd hc) i3 c hcc its3.toArray) hz hTI hTO ⟨h1, p⟩ ⟨h2, p2⟩ ⟨h3, p3⟩ (by simp; omega) (by simp; omega) (by simp; omega) (by simp; omega) fun h' tk hk => ⟨rfl, I.turnedL (t' := tk) (ch := [z, TI, TO, i1, i2, i3]) (fun c o hb q =>
      hk c o (fun q' => hb (by simp [q'])) (fun q' => hb (by simp [q'])) (fun q' => hb (by simp [q'])) (fun q' => hb (by simp [q'])) (fun q' => hb (by simp [q'])) q) hf⟩
  self := fun A i s Q E st h => wpAny_pyIter_zip st.1 h
section
variable {X : Cx} {G : Gh} {a b c : Expr} {p pos tpos : Pos} {elts : List Expr} {kk : Nat}
theorem vals3 {v1 v2 v3 : V} {us : List Value} (r : Vals [v1, v2, v3] us) : ∃ w1 w2 w3, us = [w1, w2, w3] ∧ RelV v1 w1 ∧ RelV v2 w2 ∧ RelV v3 w3 := by
  cases r with
  | cons a r => cases r with
    | cons b r => cases r with
      | cons c r => cases r; exact ⟨_, _, _, rfl, a, b, c⟩
theorem pi_zip3 {ta : TA} (hg : Gl X "zip") (hm : X.mg "zip" = none) (ha : PA X [a, b, c] ta) (hs : starEach [a, b, c] X.env = (false, eval a X.env) :: starEach [b, c] X.env := by rfl) (hpl : (backTo pos (starEach [b, c] X.env)).any (·.1) = false := by rfl) :
    PI X (.Tuple elts kk tpos) (.Call (.Name "zip" p) [a, b, c] [] pos) (fun σ H R => ta σ H fun vs H1 => ∃ a b c xs ys zs, vs = [.ref a, .ref b, .ref c] ∧ SqT X.K H1 a xs ∧ SqT X.K H1 b ys ∧ SqT X.K H1 c zs ∧ R (Itz3 X.K a b c) H1) := by
  refine ⟨fun pins s σ H R I h => Call_ (ld_blt I hg hm PyProof.Rows.boot_zip (PyProof.Rows.callWith_type1 (thn (ha.run pos pins s σ H _ I h) fun us s1 ⟨vs, H1, I1, r1, q1⟩ => ?_) hs hpl))⟩
  obtain ⟨a, b, c, xs, ys, zs, rfl, hqx, hqy, hqz, q⟩ := q1
  obtain ⟨w1, w2, w3, rfl, e1, e2, e3⟩ := vals3 r1
  obtain rfl : w1 = Value.ref a := e1
  obtain rfl : w2 = Value.ref b := e2
  obtain rfl : w3 = Value.ref c := e3
  obtain ⟨its, rv, p, _⟩ := I1.tuple hqx
  obtain ⟨its2, rv2, p2, _⟩ := I1.tuple hqy
  obtain ⟨its3, rv3, p3, _⟩ := I1.tuple hqz
  have lta : a < s1.heap.objs.size := by obtain ⟨_, ho, _⟩ := p; exact Heap.lt_size ho
  have ltb : b < s1.heap.objs.size := by obtain ⟨_, ho, _⟩ := p2; exact Heap.lt_size ho
  have ltc : c < s1.heap.objs.size := by obtain ⟨_, ho, _⟩ := p3; exact Heap.lt_size ho
  refine zip_begins3 (begins_tuple a its.toArray) (begins_tuple b its2.toArray) (begins_tuple c its3.toArray) p p2 p3 fun h' hz hTI hTO g1 g2 g3 _ hk => wpAny_pyIter_zip hz ?_
  have I2 : Inv X pins σ H1 { s1 with heap := h' } := I1.kept (t' := s1.toks) hk
  refine ⟨s1.heap.objs.size + 5, [s1.heap.objs.size + 5, s1.heap.objs.size + 3, s1.heap.objs.size + 4, s1.heap.objs.size, s1.heap.objs.size + 1, s1.heap.objs.size + 2], _, _, H1, rfl, I2, turn_zip3 (zip_sep3 (fp1 := [a]) (fp2 := [b]) (fp3 := [c]) (fun c hc => by rw [List.mem_singleton.mp hc]; exact lta) (fun c hc => by rw [List.mem_singleton.mp hc]; exact ltb) (fun c hc => by rw [List.mem_singleton.mp hc]; exact ltc)) (Nat.ne_of_lt lta) (Nat.ne_of_lt (Nat.lt_succ_of_lt ltb)) (Nat.ne_of_lt (Nat.lt_succ_of_lt (Nat.lt_succ_of_lt ltc))), ⟨hz, hTI, ⟨_, _, _, hTO⟩, ⟨_, g1, rfl, rfl⟩, ⟨_, g2, rfl, rfl⟩, ⟨_, g3, rfl, rfl⟩⟩, fun c hc => ?_, q⟩
  have hle : s1.heap.objs.size ≤ c := by
    have := (show c = s1.heap.objs.size + 5 ∨ c = s1.heap.objs.size + 3 ∨ c = s1.heap.objs.size + 4 ∨ c = s1.heap.objs.size ∨ c = s1.heap.objs.size + 1 ∨ c = s1.heap.objs.size + 2 by simpa using hc)
    rcases this with z | z | z | z | z | z <;> rw [z]
    all_goals first | exact Nat.le_refl _ | exact Nat.le_add_right _ _
  exact I1.fpOk hle (I1.hok.fresh hle)
def zipD3 (xs ys zs : List D) : List D := (xs.zip (ys.zip zs)).map fun p => .tuple [p.1, p.2.1, p.2.2]
theorem zipD3_len (xs ys zs : List D) : (zipD3 xs ys zs).length = min xs.length (min ys.length zs.length) := by simp [zipD3]
theorem zipD3_get {xs ys zs : List D} {i : Nat} {x y z : D} (h1 : xs[i]? = some x) (h2 : ys[i]? = some y) (h3 : zs[i]? = some z) : (zipD3 xs ys zs)[i]? = some (.tuple [x, y, z]) := by
  unfold zipD3
  rw [List.getElem?_map, (List.getElem?_zip_eq_some (z := (x, (y, z)))).mpr ⟨h1, (List.getElem?_zip_eq_some (z := (y, z))).mpr ⟨h2, h3⟩⟩]; rfl
def iZip3 (ta tb tc : TD) : TDs := fun E Q => ta E fun x E1 => tb E1 fun y E2 => tc E2 fun z E3 => match x, y, z with
  | .tuple xs, .tuple ys, .tuple zs => Q (zipD3 xs ys zs) E3
  | _, _, _ => False
theorem walkD_zip3 {K : PySem.W.Frag} {H : Hp} {a b c : Addr} {vs us ws : List V} {ds es fs : List D} (h : SqT K H a vs) (h' : SqT K H b us) (h'' : SqT K H c ws) (l : RpL K H ds vs) (l' : RpL K H es us) (l'' : RpL K H fs ws) : WalkD true K (Itz3 K a b c) H (zipD3 ds es fs) where
  goes := fun i H' x hi => by
    rw [zipD3_len, l.length, l'.length, l''.length] at hi
    exact ⟨vs, us, ws, vs[i], us[i], ws[i], SqT.ext x h, SqT.ext x h', SqT.ext x h'', List.getElem?_eq_getElem _, List.getElem?_eq_getElem _, List.getElem?_eq_getElem _⟩
  yld := fun i H' v H2 x hi hy => by
    obtain ⟨T, v1, v2, v3, rfl, hT, rfl, e1, e2, e3⟩ := hy
    obtain ⟨d, hd, p⟩ := l.getV (e1 vs (SqT.ext x h))
    obtain ⟨d', hd', p'⟩ := l'.getV (e2 us (SqT.ext x h'))
    obtain ⟨d'', hd'', p''⟩ := l''.getV (e3 ws (SqT.ext x h''))
    have px := PExt.new (o := .tup [v1, v2, v3]) hT
    exact ⟨px, _, zipD3_get hd hd' hd'', .pair (SqT.of upd_same) (.cons ((p.ext x).ext px.ext) (.cons ((p'.ext x).ext px.ext) (.cons ((p''.ext x).ext px.ext) .nil)))⟩
  stops := fun H' x => ⟨vs, us, ws, SqT.ext x h, SqT.ext x h', SqT.ext x h'', by rw [zipD3_len, l.length, l'.length, l''.length]; omega, by rw [zipD3_len, l.length, l'.length, l''.length]; omega, by rw [zipD3_len, l.length, l'.length, l''.length]; omega, by rw [zipD3_len, l.length, l'.length, l''.length]; omega⟩
theorem id_zip3 {ta tb tc : TD} (ha : ED X G a ta) (hb : ED X G b tb) (hc : ED X G c tc) (hg : Gl X "zip") (hm : X.mg "zip" = none)
    (hs : starEach [a, b, c] X.env = (false, eval a X.env) :: starEach [b, c] X.env := by rfl) (hs2 : starEach [b, c] X.env = (false, eval b X.env) :: starEach [c] X.env := by rfl) (hs3 : starEach [c] X.env = (false, eval c X.env) :: starEach [] X.env := by rfl) (hpl : (backTo pos (starEach [b, c] X.env)).any (·.1) = false := by rfl) :
    ID X G true (.Tuple elts kk tpos) (.Call (.Name "zip" p) [a, b, c] [] pos) (iZip3 ta tb tc) := by
  refine ⟨PI.weak (pi_zip3 hg hm (pa_cons ha.pe (pa_cons hb.pe (pa_cons hc.pe pa_nil hs3) hs2) hs) hs hpl) fun σ H R ⟨E, QE, rel, q, k⟩ => ⟨E, _, rel, q, fun x E1 v H1 q1 x1 r1 p1 => ⟨E1, _, r1, q1, fun y E2 u H2 q2 x2 r2 p2 => ⟨E2, _, r2, q2, fun z E3 u3 H3 q3 x3 r3 p3 => ?_⟩⟩⟩⟩
  have p1 := (p1.ext x2).ext x3
  have p2 := p2.ext x3
  cases p1 with
  | tup h1 l1 =>
    cases p2 with
    | tup h2 l2 =>
      cases p3 with
      | tup h3 l3 => exact ⟨_, _, _, _, _, _, rfl, h1.1, h2.1, h3.1, k _ _ _ _ q3 ((x1.trans x2).trans x3) r3 (walkD_zip3 h1.1 h2.1 h3.1 l1 l2 l3)⟩
      | _ => exact q3.elim
    | _ => cases p3 <;> exact q3.elim
  | _ => cases p2 <;> cases p3 <;> exact q3.elim
end
end DL

set_option Elab.async false
set_option linter.all false
set_option maxRecDepth 100000
set_option maxHeartbeats 1000000
/-! DL24: the module's own constants. -/
namespace DL
open PySem PySem.Spec PyProof.Rows L2
def intsV : List Value → List Int → Bool
  | [], [] => true
  | .int i _ :: us, n :: ns => i == n && intsV us ns
  | _, _ => false
theorem intsV_vals : ∀ {us : List Value} {ns : List Int}, intsV us ns = true → Vals (ns.map V.int) us
  | [], [], _ => .nil
  | .int i t :: us, n :: ns, h => by
    have h : (i == n && intsV us ns) = true := h
    rw [Bool.and_eq_true] at h
    have e : i = n := by simpa using h.1
    subst e
    exact .cons ⟨t, rfl⟩ (intsV_vals h.2)
  | [], _ :: _, h => by cases h
  | .int _ _ :: _, [], h => by cases h
theorem const_tup {K : PySem.W.Frag} {a : Addr} {its : Array Value} {n : Nat} {sl : Array (Option Value)} {ns : List Int} (l : K.lookup a = some ⟨.type "tuple", none, .seq its n, sl⟩) (hv : intsV its.toList ns = true) (hz : ns.length ≤ 1000) : ∀ H, Rp K H (.tuple (ns.map PyData.int)) (.ref a) := fun H => by
  have v := intsV_vals hv
  have hl := v.length
  refine .tup ⟨.inr ⟨_, its, n, l, rfl, rfl, ?_, v⟩, .inr ⟨_, l, rfl⟩⟩ (RpL.ofInts ns)
  have hl2 : ns.length = its.size := by simpa using hl
  rw [← hl2, sizeLine_eq]; omega
end DL

set_option Elab.async false
set_option linter.all false
set_option maxRecDepth 100000
set_option maxHeartbeats 1000000
/-! DL25: max of a list of alike data, x < y of alike data. -/
namespace DL
open PySem PySem.Spec PyProof.Rows L2
section
variable {X : Cx}
theorem op_ltD (hu : X.A.units + 65 < cLine) : OpR X (compareOp .Lt) (fun x y H Q => ∃ d e, Dp X.K H x d ∧ Dp X.K H y e ∧ PySem.W.alike d e = true ∧ d ≠ .none ∧ d.depth ≤ 60 ∧ Q (.bl (PySem.W.dataLt d e)) H) := by
  intro pins s σ H x y v u Q I rx ry h
  obtain ⟨d, e, hd, he, al, nn, dp, q⟩ := h
  obtain ⟨as, r1⟩ := Dp.reads I d x v hd rx
  obtain ⟨bs, r2⟩ := Dp.reads I e y u he ry
  have : min d.depth e.depth ≤ d.depth := Nat.min_le_left _ _
  exact PySem.W.lt_data r1 r2 al nn (by omega) ⟨.bl _, H, I, rfl, q⟩
def opLtD : OpT := fun x y Q => (PySem.W.alike x y = true ∧ x ≠ .none ∧ x.depth ≤ 60 ∧ x.canLay0 = true ∧ y.canLay0 = true) ∧ Q (.bool (PySem.W.dataLt x y))
theorem od_ltD (hu : X.A.units + 65 < cLine) : OpD X (compareOp .Lt) opLtD := ⟨_, op_ltD hu, fun x y v u H QD Q hx hy q k => ⟨x, y, hx.dp q.1.2.2.2.1, hy.dp q.1.2.2.2.2, q.1.1, q.1.2.1, q.1.2.2.1, k _ _ _ q.2 (PExt.refl _) (.bl _)⟩⟩
theorem cr_maxD (hc : X.calm = true) (hu : X.A.units + 65 < cLine) : CallR X (.builtin "max") (fun vs H Q => ∃ (a : Addr) (us : List V) (x : D) (xs : List D), vs = [.ref a] ∧ SqL X.K H a us ∧ RpL X.K H (x :: xs) us ∧ PySem.W.AlikeAll (x :: xs) ∧ PyData.depthAll (x :: xs) ≤ 60 ∧ PyData.canLayAll0 (x :: xs) = true ∧ ∀ v, Rp X.K H (PySem.W.maxD x xs) v → Q v H) := by
  intro pins s σ H vs us0 Q I r h
  obtain ⟨a, us, x, xs, rfl, hs, l, ha, hdp, hcl, q⟩ := h
  obtain ⟨its, rv, hl, _⟩ := I.list hs
  rw [Vals.ref1 r]
  obtain ⟨as, hr⟩ := Dp.readsAll I _ _ _ (l.dp hcl) rv
  have hr : ReadsAll s.heap its.toArray.toList (x :: xs) as := hr
  have hn : its.toArray.size = xs.length + 1 := PySem.W.readsAll_len hr
  refine PySem.call_max_walkH (PySem.W.iter_listW (A := X.A.in1) (I.ok.hd hc) hl.isList fun s₂ e W st hfp hw hk => ?_)
  refine ⟨_, _, _, _, _, _, _, s.heap, _, rfl, W, st, hfp, by omega, hw, hk, PySem.W.cmpIn_gt (A := X.A.in1) hr ha (by show X.A.units + 1 + _ < _; omega), fun v s' hP m => ?_⟩
  obtain ⟨h', tk, rfl, hk'⟩ := PySem.W.moved_old e rfl m
  have e1 : its.toArray.size - 1 = xs.length := by omega
  have e2 := (PySem.W.argBest_fold (fun a b => PySem.W.dataLt b a) PyData.none x xs xs.length (Nat.le_refl _)).2
  rw [List.take_length] at e2
  have hP : its.toArray[argBest (fun i j => PySem.W.dataLt ((x :: xs).getD j PyData.none) ((x :: xs).getD i PyData.none)) (its.toArray.size - 1)]? = some v := hP
  rw [e1] at hP
  have hP : its[argBest (fun i j => PySem.W.dataLt ((x :: xs).getD j PyData.none) ((x :: xs).getD i PyData.none)) xs.length]? = some v := by simpa using hP
  generalize hbi : argBest (fun i j => PySem.W.dataLt ((x :: xs).getD j PyData.none) ((x :: xs).getD i PyData.none)) xs.length = bi at hP e2
  have hlt : bi < us.length := by
    have h1 := (List.getElem?_eq_some_iff.mp hP).1
    have h2 := rv.length
    omega
  obtain ⟨d, hd1, rd⟩ := l.getV (List.getElem?_eq_getElem hlt)
  obtain ⟨u, hu1, ru⟩ := rv.get (List.getElem?_eq_getElem hlt)
  rw [hP] at hu1
  cases hu1
  refine ⟨_, H, I.kept hk', ru, q _ ?_⟩
  have : d = PySem.W.maxD x xs := by
    unfold PySem.W.maxD
    rw [← e2, List.getD_eq_getElem?_getD, hd1]; rfl
  rw [← this]; exact rd
def caMaxD : CaT := fun ds Q => match ds with
  | [.list (x :: xs)] => (PySem.W.AlikeAll (x :: xs) ∧ PyData.depthAll (x :: xs) ≤ 60 ∧ PyData.canLayAll0 (x :: xs) = true) ∧ Q (PySem.W.maxD x xs)
  | _ => False
theorem cd_maxD (hc : X.calm = true) (hu : X.A.units + 65 < cLine) : CaD X (.builtin "max") caMaxD := ⟨_, cr_maxD hc hu, fun ds vs H QD Q hd q k => by
  match ds, q, hd with
  | [.list (x :: xs)], q, hd =>
    obtain ⟨v, rfl, h⟩ := hd.one
    obtain ⟨a, us, rfl, hs, l⟩ := h.list
    exact ⟨a, us, x, xs, rfl, hs, l, q.1.1, q.1.2.1, q.1.2.2, fun v hv => k _ _ _ q.2 (PExt.refl _) hv⟩⟩
end
end DL

set_option Elab.async false
set_option linter.all false
set_option maxRecDepth 100000
set_option maxHeartbeats 3200000
/-! DL26: set(t) of a tuple of pairs of ints, len and sorted of it. -/
namespace DL
open PySem PySem.Spec PyProof.Rows L2
section
variable {P : Program} {w : World} {A : Around} {E : Value → Shared → Prop} {s : Shared}
theorem set_of_tuple {l : Addr} {items : Array Value} (ks : List (Addr × List Int)) {Q : Value → Shared → Prop} (hh : A.handled = none) (hl : s.heap.IsTuple l items) (hit : items.toList = ks.map fun p => Value.ref p.1)
    (hk : ∀ p ∈ ks, IsT P w s.heap p.2 p.1) (hfew : ks.length < 64) (hu : A.units + 3 < cLine)
    (fin : ∀ (h' : Heap) (tk : Nat) L es ep t, SetTR P w h' s.heap.objs.size L es ep t → Got ks ks.length L → (∀ b o, s.heap.get? b = some o → h'.get? b = some o) → Q (.ref s.heap.objs.size) { s with heap := h', toks := tk }) :
    wpAny (model P w) A (call (.type "set") [.ref l]) Q E s := by
  have sz : items.size = ks.length := by
    have q := congrArg List.length hit
    rw [Array.length_toList, List.length_map] at q; exact q
  obtain ⟨cm, tlm, _⟩ := F.called_set.mro
  have made := F.called_set.made; have subs := F.called_set.sub
  refine wpAny_call (codeAny_of_tree ?_); show wpAny _ _ (callAny (.type "set") _) _ _ _
  refine wpAny_pure ⟨Code.quiet_builtin _ (by decide +kernel), codeAny_builtin F.entry_type_call ?_⟩; rw [Around.under_plain (weight_type_call_type "set" [.ref l] []) rfl]
  have n1 := F.called_set.notType; have n2 := F.called_set.canCreate; have n3 := F.typeCall_set_1 (.ref l)
  repeat (any_goals (first | assumption | wp_step))
  refine codeAny_mono (code_set_led1 (.ref l) (E := E) (Q₁ := fun ob s₁ => ob = .ref s.heap.objs.size ∧ s₁ = { s with heap := s.heap.push (nSet w) }) ⟨rfl, rfl⟩) fun res s₁ hres => ?_
  cases res with
  | error e => exact hres
  | ok fl =>
    cases fl with
    | ret ob =>
      obtain ⟨rfl, rfl⟩ := hres
      have there : (s.heap.push (nSet w)).get? s.heap.objs.size = some (nSet w) := Heap.get?_push_size _ rfl
      have isS : Shared.TypeIs { s with heap := s.heap.push (nSet w) } (.ref s.heap.objs.size) "set" := ⟨_, there, rfl⟩
      have i1 := F.called_set.init.lookup; have i2 := F.called_set.init.bind (.ref s.heap.objs.size)
      repeat (any_goals (first | assumption | wp_step))
      refine codeAny_mono (codeAny_call_builtin (R := wants (fun r s₂ => r = .none ∧ ∃ h' tk L es ep t, s₂ = { s with heap := h', toks := tk } ∧ SetTR P w h' s.heap.objs.size L es ep t ∧ Got ks ks.length L ∧ (∀ b o, s.heap.get? b = some o → h'.get? b = some o)) E) F.called_set.init.plain F.entry_set_init (check_set_init_1 isS ?_)) fun r₂ s₂ hr₂ => ?_
      · obtain ⟨⟨ocls, odict, odata, oslots⟩, hol, hcl, nl, hdl⟩ := id hl
        simp only at hcl hdl; subst hcl; subst hdl
        have lthere : (s.heap.push (nSet w)).get? l = some { cls := .type "tuple", dict := odict, data := .seq items nl, slots := oslots } := Heap.get?_push_of_some _ hol
        have s1 := F.sub_tuple_set; have s2 := F.sub_tuple_frozenset; have s3 : (Value.type "tuple" == Value.type "dict") = false := by decide
        have isL : (s.heap.push (nSet w)).IsTuple l items := hl.push _
        unfold Builtin.«set.__init__» noKeywords Builtin.Frozenset.updateFrom; generalize ePI : pyIter = PI
        wp_walk
        subst ePI
        refine wpAny_pyIter_tuple isL ?_; refine wpAny_bind (wpAny_runValue ?_)
        have lt : l < s.heap.objs.size := Heap.lt_size hol
        have calm3 : A.in1.in1.in1.handled = none := by simp [hh]
        have neI : l ≠ (s.heap.push (nSet w)).objs.size := by rw [Heap.size_push]; exact Nat.ne_of_lt (Nat.lt_succ_of_lt lt)
        have notin : s.heap.objs.size ∉ [(s.heap.push (nSet w)).objs.size, l] := by
          rw [Heap.size_push]; simp only [List.mem_cons, List.mem_singleton, List.not_mem_nil, or_false, not_or]; exact ⟨Nat.ne_of_lt (Nat.lt_succ_self _), Nat.ne_of_gt lt⟩
        have vals : ∀ (i : Nat) (v : Value), items[i]? = some v → ∃ p, ks[i]? = some p ∧ v = .ref p.1 := fun i v hv => by
          have q : items.toList[i]? = some v := by rw [Array.getElem?_toList]; exact hv
          rw [hit, List.getElem?_map, Option.map_eq_some_iff] at q
          obtain ⟨p, hp, e⟩ := q
          exact ⟨p, hp, e.symm⟩
        have none_of : ∀ b, s.heap.objs.size ≤ b → s.heap.get? b = none := fun b hb => by
          cases q : s.heap.get? b with
          | none => rfl
          | some o => exact absurd (Nat.lt_of_lt_of_le (Heap.lt_size q) hb) (Nat.lt_irrefl _)
        refine set_update_tups ((Walks.tuple calm3 _ l neI items).toS) s.heap.objs.size notin ks sz hfew vals s.heap hk (none_of _ (Nat.le_refl _)) (fun b hb => none_of b (by rw [List.mem_singleton.mp hb, Heap.size_push]; exact Nat.le_succ _)) hu (items.size - 0) 0 _ (by omega) (Nat.zero_le _) ⟨⟨_, Heap.get?_push_size _ rfl, rfl, rfl⟩, (isL.push _)⟩ (fun b o e => Heap.get?_push_of_some _ (Heap.get?_push_of_some _ e)) ⟨[], #[], 0, _, setTR_fresh (Heap.get?_push_of_some _ there), Got.zero ks⟩ fun s' L es ep t hm hS' g' hkp => ?_
        obtain ⟨h', g2, d', tk', os'⟩ := s'
        have eg : g2 = s.gens := hm.gens; have ed : d' = s.drawn := hm.drawn; have eo : os' = s.os := hm.os
        subst eg; subst ed; subst eo
        show wpAny _ _ _ _ _ _
        refine wpAny_pure ?_; show wpAny _ _ (ret Value.none) _ _ _
        rw [sz] at g'; exact wpAny_pure ⟨rfl, h', tk', L, es, ep, t, rfl, hS', g', hkp⟩
      · cases r₂ with
        | error e => exact hr₂
        | ok fl₂ =>
          cases fl₂ with
          | ret r =>
            obtain ⟨rfl, h', tk, L, es, ep, t, rfl, hS', g', hk'⟩ := hr₂
            repeat (any_goals (first | assumption | wp_step))
            exact fin _ _ _ _ _ _ hS' g' hk'
          | _ => exact hr₂.elim
    | _ => exact hres.elim
end
section
variable {X : Cx} {G : Gh} {a : Expr} {pos p p1 p2 p3 : Pos}
theorem cr_setTT (hc : X.calm = true) (hu : X.A.units + 64 < cLine) : CallR X (.type "set") (fun xs H Q => ∃ (l : Addr) (ks : List (Addr × List Int)), xs = [V.ref l] ∧ SqT X.K H l (ks.map fun p => V.ref p.1) ∧ (∀ p ∈ ks, SqT X.K H p.1 (p.2.map V.int)) ∧ ks.length < 64 ∧
    ∀ a L, H a = none → (∀ p ∈ L, p ∈ ks) → (∀ p ∈ ks, p.2 ∈ L.map (·.2)) → Q (.ref a) (upd H a (SetTO X.prog X.w a L))) := by
  intro pins s σ H xs us Q I r h
  obtain ⟨l, ks, rfl, hl, hk, hf, q⟩ := h
  rw [Vals.ref1 r]
  obtain ⟨its, rv, pl, hz⟩ := I.tuple hl
  have hn : H s.heap.objs.size = none := I.hok.fresh (Nat.le_refl _)
  refine set_of_tuple (P := X.prog) (w := X.w) ks (I.ok.hd hc) pl (by simpa using refs_of_vals rv) (fun p hp => I.isT (hk p hp)) hf (by omega) fun h' tk L es ep t R g k => ?_
  refine ⟨.ref s.heap.objs.size, upd H s.heap.objs.size (SetTO X.prog X.w s.heap.objs.size L), I.laid (t' := tk) k (Nat.le_refl _) (setTO_new R.t0), rfl, q _ L hn (fun p hp => ?_) fun p hp => ?_⟩
  · exact List.mem_of_mem_take (g.sub p hp)
  · exact g.all p (by rw [List.take_length]; exact hp)
theorem cr_lenT : CallR X (.builtin "len") (fun vs H Q => ∃ (a : Addr) (L : List (Addr × List Int)), vs = [V.ref a] ∧ H a = some (SetTO X.prog X.w a L) ∧ (∀ p ∈ L, SqT X.K H p.1 (p.2.map V.int)) ∧ ((L.map (·.2)).Nodup → Q (.int L.length) H)) := by
  intro pins s σ H vs us Q I r h
  obtain ⟨a, L, rfl, ha, hk, q⟩ := h
  have R0 : SetT0 X.prog X.w s.heap a L := (I.hok a _ ha).1
  obtain ⟨es, ep, t, R⟩ := R0.full fun p hp => I.isT (hk p hp)
  rw [Vals.ref1 r]
  obtain ⟨o, ho, hex, hd⟩ := R.ob
  have hs := R.size
  have hw := R.few
  exact call_len_set ho hex hd R.fits (by omega) ⟨.int L.length, H, I.tok _, ⟨_, by rw [hs]⟩, q R.nd⟩
end
end DL

set_option Elab.async false
set_option linter.all false
set_option maxRecDepth 100000
set_option maxHeartbeats 3200000
/-! DL27: len(set(t)), sorted(set(t)) of a tuple of pairs of ints. -/
namespace DL
open PySem PySem.Spec PyProof.Rows L2
def pE (c : Int × Int) : D := .tuple [.int c.1, .int c.2]
def prL (c : Int × Int) : List Int := [c.1, c.2]
def dP (l : List Int) : Int × Int := (l.getD 0 0, l.getD 1 0)
theorem dP_prL (c : Int × Int) : dP (prL c) = c := rfl
theorem prL_inj {c d : Int × Int} (h : prL c = prL d) : c = d := by rw [← dP_prL c, h, dP_prL]
def ltC (a b : Int × Int) : Prop := a.1 < b.1 ∨ (a.1 = b.1 ∧ a.2 < b.2)
/-- a row of pairs: where they stand -/
theorem pairs_ks {K : PySem.W.Frag} {H : Hp} : ∀ {cs : List (Int × Int)} {vs : List V}, RpL K H (cs.map pE) vs → ∃ ks : List (Addr × List Int), vs = ks.map (fun p => V.ref p.1) ∧ ks.map (·.2) = cs.map prL ∧ ∀ p ∈ ks, Rp K H (.tuple (p.2.map PyData.int)) (.ref p.1)
  | [], _, .nil => ⟨[], rfl, rfl, fun p hp => by cases hp⟩
  | c :: cs, _, .cons h l => by
    obtain ⟨ks, rfl, e, hk⟩ := pairs_ks l
    have h' : Rp K H (.tuple ((prL c).map PyData.int)) _ := h
    cases h' with
    | tup hs ll =>
      rename_i a vs
      refine ⟨(a, prL c) :: ks, rfl, by rw [List.map_cons, List.map_cons, e], fun p hp => ?_⟩
      rcases List.mem_cons.mp hp with rfl | hp
      · exact .tup hs ll
      · exact hk p hp
theorem Rp.ints_sq {K : PySem.W.Frag} {H : Hp} {ns : List Int} {a : Addr} (h : Rp K H (.tuple (ns.map PyData.int)) (.ref a)) : SqT K H a (ns.map V.int) := by
  generalize e : PyData.tuple (ns.map PyData.int) = d at h
  cases h with
  | tup hs ll =>
    injection e with e
    rw [← e] at ll
    rw [ll.ints] at hs
    exact hs.1
  | lst _ _ => cases e
  | dct _ _ _ _ => cases e
  | hdl _ => cases e
  | dck _ _ _ _ => cases e
section
variable {X : Cx} {G : Gh} {a : Expr} {pos p p1 p2 p3 : Pos}
def tLenSetP (ta : TD) : TD := fun E Q => ta E fun x E1 => match x with
  | .tuple xs => ∃ cs : List (Int × Int), xs = cs.map pE ∧ cs.length < 64 ∧ ∀ zs : List (Int × Int), zs.Nodup → (∀ c, c ∈ zs ↔ c ∈ cs) → Q (.int (zs.length : Nat)) E1
  | _ => False
theorem zs_of {cs : List (Int × Int)} {ks L : List (Addr × List Int)} (e : ks.map (·.2) = cs.map prL) (h1 : ∀ p ∈ L, p ∈ ks) (h2 : ∀ p ∈ ks, p.2 ∈ L.map (·.2)) : (∀ p ∈ L, p.2 = prL (dP p.2)) ∧ (∀ c, c ∈ L.map (fun p => dP p.2) ↔ c ∈ cs) := by
  have k : ∀ p ∈ ks, ∃ c ∈ cs, p.2 = prL c := fun p hp => by
    have : p.2 ∈ cs.map prL := by rw [← e]; exact List.mem_map_of_mem hp
    obtain ⟨c, hc, e⟩ := List.mem_map.mp this
    exact ⟨c, hc, e.symm⟩
  refine ⟨fun p hp => ?_, fun c => ⟨fun h => ?_, fun h => ?_⟩⟩
  · obtain ⟨c, _, e⟩ := k p (h1 p hp)
    rw [e, dP_prL]
  · obtain ⟨p, hp, rfl⟩ := List.mem_map.mp h
    obtain ⟨c, hc, e⟩ := k p (h1 p hp)
    rw [e, dP_prL]; exact hc
  · have : prL c ∈ ks.map (·.2) := by rw [e]; exact List.mem_map_of_mem h
    obtain ⟨p, hp, e2⟩ := List.mem_map.mp this
    obtain ⟨q, hq, e3⟩ := List.mem_map.mp (h2 p hp)
    refine List.mem_map.mpr ⟨q, hq, ?_⟩
    show dP q.2 = c
    rw [show q.2 = p.2 from e3, show p.2 = prL c from e2, dP_prL]
theorem nd_of_zs {L : List (Addr × List Int)} (h : ∀ p ∈ L, p.2 = prL (dP p.2)) (nd : (L.map (·.2)).Nodup) : (L.map (fun p => dP p.2)).Nodup := by
  have e : L.map (·.2) = (L.map (fun p => dP p.2)).map prL := by
    rw [List.map_map]; exact List.map_congr_left fun p hp => h p hp
  rw [e] at nd
  exact nd.of_map _ fun a b hne h => hne (by rw [h])
theorem ed_lenSetP {ta : TD} (ha : ED X G a ta) (hu : X.A.units + 65 < cLine) (hg : Gl X "len") (hm : X.mg "len" = none) (hg2 : Gl X "set") (hm2 : X.mg "set" = none) (hc : X.calm = true := by rfl)
    (hs : starEach [a] X.env = (false, eval a X.env) :: starEach [] X.env := by rfl) : ED X G (.Call (.Name "len" p) [.Call (.Name "set" p1) [a] [] p2] [] pos) (tLenSetP ta) := by
  refine ⟨PE.weak (pe_callB cr_lenT hg hm bb_len (pa_cons (pe_callTy (cr_setTT hc (by omega)) hg2 hm2 PyProof.Rows.boot_set (pa_cons ha.pe pa_nil hs) (by decide) (by decide) hs) pa_nil)) fun σ H Q ⟨E, QE, rel, q, k⟩ => ⟨E, _, rel, q, fun x E1 v H1 q1 x1 r1 p1 => ?_⟩⟩
  cases p1 with
  | tup h1 l1 =>
    obtain ⟨cs, rfl, hl, q1⟩ := q1
    obtain ⟨ks, rfl, e, hk⟩ := pairs_ks l1
    have hlen : ks.length = cs.length := by have := congrArg List.length e; simpa using this
    refine ⟨_, ks, rfl, h1.1, fun p hp => (hk p hp).ints_sq, by omega, fun a L hn m1 m2 => ⟨a, L, rfl, upd_same, fun p hp => SqT.ext (PExt.new hn).ext (hk p (m1 p hp)).ints_sq, fun nd => ?_⟩⟩
    obtain ⟨z1, z2⟩ := zs_of e m1 m2
    have := q1 _ (nd_of_zs z1 nd) z2
    rw [List.length_map] at this
    exact k _ _ _ _ this (x1.trans (PExt.new hn).ext) (r1.pext (PExt.new hn)) (.int _)
  | _ => exact q1.elim
def tSortSetP (ta : TD) : TLd := fun E Q => ta E fun x E1 => match x with
  | .tuple xs => ∃ cs : List (Int × Int), xs = cs.map pE ∧ cs.length < 64 ∧ (∀ c ∈ cs, (0 ≤ c.1 ∧ c.1 < 64) ∧ (0 ≤ c.2 ∧ c.2 < 64)) ∧ ∀ zs : List (Int × Int), zs.Pairwise ltC → (∀ c, c ∈ zs ↔ c ∈ cs) → Q (zs.map pE) E1
  | _ => False
theorem el_sortSetP {ta : TD} (ha : ED X G a ta) (hu : X.A.units + 65 < cLine) (hg : Gl X "sorted") (hm : X.mg "sorted" = none) (hg2 : Gl X "set") (hm2 : X.mg "set" = none) (hc : X.calm = true := by rfl)
    (hs : starEach [a] X.env = (false, eval a X.env) :: starEach [] X.env := by rfl) : EL X G (.Call (.Name "sorted" p) [.Call (.Name "set" p1) [a] [] p2] [] pos) (tSortSetP ta) := by
  refine ⟨PE.weak (pe_callB (cr_sortedT hc) hg hm bb_sorted (pa_cons (pe_callTy (cr_setTT hc (by omega)) hg2 hm2 PyProof.Rows.boot_set (pa_cons ha.pe pa_nil hs) (by decide) (by decide) hs) pa_nil)) fun σ H Q ⟨E, QE, rel, q, k⟩ => ⟨E, _, rel, q, fun x E1 v H1 q1 x1 r1 p1 => ?_⟩⟩
  cases p1 with
  | tup h1 l1 =>
    obtain ⟨cs, rfl, hl, hb, q1⟩ := q1
    obtain ⟨ks, rfl, e, hk⟩ := pairs_ks l1
    have hlen : ks.length = cs.length := by have := congrArg List.length e; simpa using this
    refine ⟨_, ks, rfl, h1.1, fun p hp => (hk p hp).ints_sq, by omega, fun a L hn m1 m2 => ?_⟩
    obtain ⟨z1, z2⟩ := zs_of e m1 m2
    have bd : ∀ p ∈ L, (0 ≤ (dP p.2).1 ∧ (dP p.2).1 < 64) ∧ (0 ≤ (dP p.2).2 ∧ (dP p.2).2 < 64) := fun p hp => hb _ ((z2 _).mp (List.mem_map.mpr ⟨p, hp, rfl⟩))
    refine ⟨a, L, 2, 64, rfl, upd_same, fun p hp => SqT.ext (PExt.new hn).ext (hk p (m1 p hp)).ints_sq, by decide, fun p hp => ⟨by rw [z1 p hp]; rfl, ?_⟩, fun L' p' pm nd _ pw hp' => ?_⟩
    · rw [z1 p hp]
      have := bd p hp
      intro n hn
      rcases List.mem_cons.mp hn with rfl | hn
      · exact this.1
      · rw [List.mem_singleton.mp hn]; exact this.2
    · have z1' : ∀ p ∈ L', p.2 = prL (dP p.2) := fun p hp => z1 p (pm.mem_iff.mp hp)
      have zz : (L'.map fun p => dP p.2).Pairwise ltC := by
        rw [List.pairwise_map]
        have nd2 := nd_of_zs z1' nd
        rw [List.Nodup, List.pairwise_map] at nd2
        refine (pw.and nd2).imp_of_mem fun {a b} ha hb h => ?_
        obtain ⟨hle, hne⟩ := h
        rw [z1' a ha, z1' b hb] at hle
        have ba := bd a (pm.mem_iff.mp ha)
        have bb := bd b (pm.mem_iff.mp hb)
        exact pair_lt hle (fun z => hne (prL_inj z)) ba.1 ba.2 bb.1 bb.2
      have zm : ∀ c, c ∈ L'.map (fun p => dP p.2) ↔ c ∈ cs := fun c => by rw [← z2 c]; exact (pm.map _).mem_iff
      have xx : PExt H1 (upd (upd H1 a (SetTO X.prog X.w a L)) p' (.lst (L'.map fun q => V.ref q.1))) := (PExt.new hn).trans (PExt.new hp')
      obtain ⟨r3, h30, n3⟩ := (r1.pext (PExt.new (o := SetTO X.prog X.w a L) hn)).fresh (o := .lst (L'.map fun q => V.ref q.1)) hp'
      refine k _ _ _ _ _ (q1 _ zz zm) (x1.trans xx.ext) r3 h30 n3 upd_same ?_
      have rp : ∀ (M : List (Addr × List Int)), (∀ p ∈ M, p ∈ L') → RpL X.K (upd (upd H1 a (SetTO X.prog X.w a L)) p' (.lst (L'.map fun q => V.ref q.1))) ((M.map fun p => dP p.2).map pE) (M.map fun q => V.ref q.1) := by
        intro M
        induction M with
        | nil => intro _; exact .nil
        | cons m M ih =>
          intro h
          have hm := h m (List.mem_cons_self ..)
          have r0 := (hk m (m1 m (pm.mem_iff.mp hm))).ext xx.ext
          rw [z1' m hm] at r0
          exact .cons r0 (ih fun p hp => h p (List.mem_cons_of_mem _ hp))
      exact rp L' fun _ h => h
  | _ => exact q1.elim
end
end DL

set_option Elab.async false
set_option linter.all false
set_option maxRecDepth 100000
set_option maxHeartbeats 1000000
/-! DL28: chains of comparisons as tests. -/
namespace DL
open PySem PySem.Spec PyProof.Rows L2
section
variable {X : Cx} {G : Gh} {a b c d e : Expr} {pos p p1 p2 p3 : Pos}
theorem pt_chain3 {ta tb tc td : TE} {op op' op'' : CmpOp} {r r' r'' : R2} (ho : OpR X (compareOp op) r) (ho' : OpR X (compareOp op') r') (ho'' : OpR X (compareOp op'') r'') (ha : PE X a ta) (hb : PE X b tb) (hc : PE X c tc) (hd : PE X d td)
    (hm : lastMarks [op, op', op''] [b, c, d] = false := by with_unfolding_all rfl) : PT X (.Compare a [op, op', op''] [b, c, d] pos) (tTest (tChain3 r r' r'' ta tb tc td)) := by
  refine ⟨fun pins s σ H Q I h => ?_⟩
  refine isTrue_chain (thn (ha.run pins s σ H _ I h) fun v s1 ⟨x, H1, I1, r1, q1⟩ => test_link (thn (hb.run pins s1 σ H1 _ I1 q1) fun u s2 ⟨y, H2, I2, r2, q2⟩ =>
    thn (ho pins s2 σ H2 x y v u _ I2 r1 r2 q2) fun d s3 ⟨z, H3, I3, r3, k, e, q3⟩ => ?_)) hm
  subst e
  cases r3
  refine wpAny_truthy_bool ?_
  cases k with
  | false =>
    obtain ⟨k', e', q'⟩ := q3
    cases e'
    exact ite_ff ⟨H3, I3, q'⟩
  | true =>
    refine ite_tt (test_link (thn (hc.run pins s3 σ H3 _ I3 q3) fun w' s4 ⟨z', H4, I4, r4, q4⟩ => thn (ho' pins s4 σ H4 y z' u w' _ I4 r2 r4 q4) fun d s5 ⟨z, H5, I5, r5, k, e, q5⟩ => ?_))
    subst e
    cases r5
    refine wpAny_truthy_bool ?_
    cases k with
    | false =>
      obtain ⟨k', e', q'⟩ := q5
      cases e'
      exact ite_ff ⟨H5, I5, q'⟩
    | true =>
      refine ite_tt (test_last (thn (hd.run pins s5 σ H5 _ I5 q5) fun w'' s6 ⟨z'', H6, I6, r6, q6⟩ => thn (ho'' pins s6 σ H6 z' z'' w' w'' _ I6 r4 r6 q6) fun d' s7 ⟨z2, H7, I7, r7, k2, e2, q7⟩ => ?_))
      subst e2
      cases r7
      exact wpAny_truthy_bool ⟨H7, I7, q7⟩
theorem tBo_lift {t : TD} {σ : St} {H : Hp} {Q : Bool → Hp → Prop} (h : liftT X.K G (tBo t) σ H Q) : liftE X.K G t σ H fun x H' => ∃ k, x = .bl k ∧ Q k H' := by
  obtain ⟨E, QE, rel, q, k⟩ := h
  refine ⟨E, _, rel, q, fun d E' v H' q1 x1 r1 p1 => ?_⟩
  cases p1 with
  | bl b => exact ⟨b, rfl, k b E' H' q1 x1 r1⟩
  | _ => exact q1.elim
theorem eb_chain3 {op op' op'' : CmpOp} {o o' o'' : OpT} {ta tb tc td : TD} (ho : OpD X (compareOp op) o) (ho' : OpD X (compareOp op') o') (ho'' : OpD X (compareOp op'') o'') (ha : ED X G a ta) (hb : ED X G b tb) (hc : ED X G c tc) (hd : ED X G d td)
    (h1 : lastMarks [op, op', op''] [b, c, d] = false := by with_unfolding_all rfl) : EB X G (.Compare a [op, op', op''] [b, c, d] pos) (tBo (tChain3D o o' o'' ta tb tc td)) := by
  obtain ⟨r, hr, hq⟩ := ho
  obtain ⟨r', hr', hq'⟩ := ho'
  obtain ⟨r'', hr'', hq''⟩ := ho''
  refine ⟨PT.weak (pt_chain3 hr hr' hr'' ha.pe hb.pe hc.pe hd.pe h1) fun σ H Q h => ?_⟩
  obtain ⟨E, QE, rel, q, k⟩ := tBo_lift h
  refine ⟨E, _, rel, q, fun x E1 v H1 q1 x1 r1 p1 => ⟨E1, _, r1, q1, fun y E2 u H2 q2 x2 r2 p2 => ?_⟩⟩
  refine hq x y v u H2 _ _ (.inl (p1.ext x2)) (.inl p2) q2 fun z w H3 q3 px rz => ?_
  cases rz with
  | bl b =>
    refine ⟨b, rfl, ?_⟩
    cases b with
    | true =>
      refine iteT ⟨E2, _, r2.pext px, q3, fun c E3 w H4 q4 x4 r4 p4 => ?_⟩
      refine hq' y c u w H4 _ _ (.inl ((p2.ext px.ext).ext x4)) (.inl p4) q4 fun z w' H5 q5 px5 rz5 => ?_
      cases rz5 with
      | bl b =>
        refine ⟨b, rfl, ?_⟩
        have xx := (((x1.trans x2).trans px.ext).trans x4).trans px5.ext
        cases b with
        | true =>
          refine iteT ⟨E3, _, r4.pext px5, q5, fun d E4 w6 H6 q6 x6 r6 p6 => ?_⟩
          exact hq'' c d w w6 H6 _ _ (.inl ((p4.ext px5.ext).ext x6)) (.inl p6) q6 fun z w7 H7 q7 px7 rz7 => k _ _ _ _ q7 ((xx.trans x6).trans px7.ext) (r6.pext px7) rz7
        | false => exact iteF (k _ _ _ _ q5 xx (r4.pext px5) (.bl false))
      | _ => exact q5.elim
    | false => exact iteF (k _ _ _ _ q3 ((x1.trans x2).trans px.ext) (r2.pext px) (.bl false))
  | _ => exact q3.elim
theorem eb_chain {op op' : CmpOp} {o o' : OpT} {ta tb tc : TD} (ho : OpD X (compareOp op) o) (ho' : OpD X (compareOp op') o') (ha : ED X G a ta) (hb : ED X G b tb) (hc : ED X G c tc)
    (h1 : lastMarks [op, op'] [b, c] = false := by with_unfolding_all rfl) : EB X G (.Compare a [op, op'] [b, c] pos) (tBo (tChainD o o' ta tb tc)) := by
  obtain ⟨r, hr, hq⟩ := ho
  obtain ⟨r', hr', hq'⟩ := ho'
  refine ⟨PT.weak (pt_chain hr hr' ha.pe hb.pe hc.pe h1) fun σ H Q h => ?_⟩
  obtain ⟨E, QE, rel, q, k⟩ := tBo_lift h
  refine ⟨E, _, rel, q, fun x E1 v H1 q1 x1 r1 p1 => ⟨E1, _, r1, q1, fun y E2 u H2 q2 x2 r2 p2 => ?_⟩⟩
  refine hq x y v u H2 _ _ (.inl (p1.ext x2)) (.inl p2) q2 fun z w H3 q3 px rz => ?_
  cases rz with
  | bl b =>
    refine ⟨b, rfl, ?_⟩
    cases b with
    | true =>
      refine iteT ⟨E2, _, r2.pext px, q3, fun c E3 w H4 q4 x4 r4 p4 => ?_⟩
      exact hq' y c u w H4 _ _ (.inl ((p2.ext px.ext).ext x4)) (.inl p4) q4 fun z w H5 q5 px5 rz5 => k _ _ _ _ q5 ((((x1.trans x2).trans px.ext).trans x4).trans px5.ext) (r4.pext px5) rz5
    | false => exact iteF (k _ _ _ _ q3 ((x1.trans x2).trans px.ext) (r2.pext px) (.bl false))
  | _ => exact q3.elim

end
end DL

set_option Elab.async false
set_option linter.all false
set_option maxRecDepth 100000
set_option maxHeartbeats 1000000
/-! DL29: dicts whose keys are tuples of ints (nested): look-up, store, in. -/
namespace DL
open PySem PySem.Spec PyProof.Rows L2
mutual
theorem nk_hash {w w' : World} : ∀ {d : D} {k : NestedKey}, nkOf d = some k → k.hash w = k.hash w'
  | .int i, k, h => by unfold nkOf at h; cases h; rfl
  | .tuple xs, k, h => by
    unfold nkOf at h
    obtain ⟨ks, h1, rfl⟩ := Option.map_eq_some_iff.mp h
    unfold NestedKey.hash; rw [nks_hash (w := w) (w' := w') h1]
  | .none, k, h => by simp [nkOf] at h
  | .bool _, k, h => by simp [nkOf] at h
  | .str _, k, h => by simp [nkOf] at h
  | .list _, k, h => by simp [nkOf] at h
  | .dict _, k, h => by simp [nkOf] at h
theorem nks_hash {w w' : World} : ∀ {ds : List D} {ks : List NestedKey}, nksOf ds = some ks → NestedKey.hashes w ks = NestedKey.hashes w' ks
  | [], ks, h => by unfold nksOf at h; cases h; rfl
  | d :: ds, ks, h => by
    unfold nksOf at h
    split at h
    · rename_i k ks' h1 h2
      cases h
      unfold NestedKey.hashes; rw [nk_hash (w := w) (w' := w') h1, nks_hash (w := w) (w' := w') h2]
    · cases h
end
mutual
theorem nk_inj : ∀ {d e : D} {k : NestedKey}, nkOf d = some k → nkOf e = some k → d = e
  | .int i, e, k, h, h' => by
    unfold nkOf at h; cases h
    cases e with
    | int j => unfold nkOf at h'; cases h'; rfl
    | tuple ys => unfold nkOf at h'; obtain ⟨ks, h1, h2⟩ := Option.map_eq_some_iff.mp h'; cases h2
    | _ => simp [nkOf] at h'
  | .tuple xs, e, k, h, h' => by
    unfold nkOf at h
    obtain ⟨ks, h1, rfl⟩ := Option.map_eq_some_iff.mp h
    cases e with
    | int j => unfold nkOf at h'; cases h'
    | tuple ys => unfold nkOf at h'; obtain ⟨ks', h3, h4⟩ := Option.map_eq_some_iff.mp h'; cases h4; rw [nks_inj h1 h3]
    | _ => simp [nkOf] at h'
  | .none, _, k, h, _ => by simp [nkOf] at h
  | .bool _, _, k, h, _ => by simp [nkOf] at h
  | .str _, _, k, h, _ => by simp [nkOf] at h
  | .list _, _, k, h, _ => by simp [nkOf] at h
  | .dict _, _, k, h, _ => by simp [nkOf] at h
theorem nks_inj : ∀ {ds es : List D} {ks : List NestedKey}, nksOf ds = some ks → nksOf es = some ks → ds = es
  | [], es, ks, h, h' => by
    unfold nksOf at h; cases h
    cases es with
    | nil => rfl
    | cons e es => unfold nksOf at h'; split at h' <;> cases h'
  | d :: ds, es, ks, h, h' => by
    unfold nksOf at h
    split at h
    · rename_i k ks' h1 h2
      cases h
      cases es with
      | nil => unfold nksOf at h'; cases h'
      | cons e es =>
        unfold nksOf at h'
        split at h'
        · rename_i k2 ks2 h3 h4
          cases h'
          rw [nk_inj h1 h3, nks_inj h2 h4]
        · cases h'
    · cases h
end
def valN (kvs : List (D × D)) (k : D) : Option D := (kvs.find? fun p => decide (nkOf p.1 = nkOf k)).map (·.2)
def putN (kvs : List (D × D)) (k v : D) : List (D × D) := if (valN kvs k).isSome then kvs.map (fun p => if nkOf p.1 = nkOf k then (p.1, v) else p) else kvs ++ [(k, v)]
theorem valN_cons (p : D × D) (kvs : List (D × D)) (k : D) : valN (p :: kvs) k = if nkOf p.1 = nkOf k then some p.2 else valN kvs k := by
  unfold valN
  rw [List.find?_cons]
  by_cases h : nkOf p.1 = nkOf k
  · simp [h]
  · simp [h]
theorem paired_app {α β : Type} {F : α → β → Prop} : ∀ {a c : List α} {b d : List β}, Paired F a b → Paired F c d → Paired F (a ++ c) (b ++ d)
  | _, _, _, _, .nil, h => h
  | _, _, _, _, .cons r t, h => .cons r (paired_app t h)
abbrev TR (K : PySem.W.Frag) (H : Hp) : List (D × D) → List (NestedKey × Addr × Value) → Prop :=
  Paired fun p x => (∃ l, p.1 = .tuple l) ∧ nkOf p.1 = some x.1 ∧ x.1.depth ≤ 8 ∧ Rp K H p.1 (.ref x.2.1) ∧ ∃ v, Rp K H p.2 v ∧ RelV v x.2.2
section
variable {K : PySem.W.Frag} {H : Hp} {P : Program} {w : World}
theorem RpD.tr (P : Program) (w : World) : ∀ {kvs : List (D × D)} {es : List DictEntry}, RpD K H kvs es → ∃ xs, TR K H kvs xs ∧ es = xs.map (entryOfKey (nestedKind P w))
  | _, _, .nil => ⟨[], .nil, rfl⟩
  | _, _, .cons (nk := nk) (b := b) (v := v) (e := e) t n1 n2 n3 e1 h g r l => by
    obtain ⟨xs, h1, rfl⟩ := RpD.tr P w l
    refine ⟨(nk, b, e.val) :: xs, .cons ⟨t, n1, n2, h, v, g, r⟩ h1, ?_⟩
    rw [List.map_cons]
    congr 1
    obtain ⟨eh, ek, ev⟩ := e
    have hh : eh = nk.hash w := n3 w
    have hk : ek = Value.ref b := e1
    subst hh hk
    rfl
theorem TR.rpd {kvs : List (D × D)} {xs : List (NestedKey × Addr × Value)} (h : TR K H kvs xs) : RpD K H kvs (xs.map (entryOfKey (nestedKind P w))) := by
  unfold TR at h
  induction h with
  | nil => exact .nil
  | @cons p x ps xs q t ih =>
    obtain ⟨h1, h2, h3, h4, v, h5, h6⟩ := q
    obtain ⟨k, d⟩ := p
    exact .cons h1 h2 h3 (fun w' => nk_hash h2) rfl h4 h5 h6 ih
theorem TR.ext {H' : Hp} (x : Ext H H') {kvs : List (D × D)} {xs : List (NestedKey × Addr × Value)} (h : TR K H kvs xs) : TR K H' kvs xs :=
  Paired.mapP h fun _ _ ⟨h1, h2, h3, h4, v, h5, h6⟩ => ⟨h1, h2, h3, h4.ext x, v, h5.ext x, h6⟩
theorem TR.keys {kvs : List (D × D)} {xs : List (NestedKey × Addr × Value)} (h : TR K H kvs xs) (nd : (kvs.map fun p => nkOf p.1).Nodup) : (xs.map (·.1)).Nodup := by
  have e : kvs.map (fun p => nkOf p.1) = (xs.map (·.1)).map some := by
    unfold TR at h
    induction h with
    | nil => rfl
    | cons q t ih => 
      rw [List.map_cons, List.map_cons, List.map_cons, q.2.1, ih (List.nodup_cons.mp (by simpa using nd)).2]
  rw [e] at nd
  exact (List.pairwise_map.mp nd).imp fun h z => h (by rw [z])
/-- what stands at a key -/
theorem TR.val {kvs : List (D × D)} {xs : List (NestedKey × Addr × Value)} (h : TR K H kvs xs) {k : D} {nk : NestedKey} (e : nkOf k = some nk) :
    (∀ d, valN kvs k = some d → ∃ p v, atKey xs nk = some p ∧ Rp K H d v ∧ RelV v p.2) ∧ (valN kvs k = none → atKey xs nk = none) := by
  unfold TR at h
  induction h with
  | nil => exact ⟨fun d hd => by simp [valN] at hd, fun _ => rfl⟩
  | @cons p x ps xs q t ih =>
    obtain ⟨h1, h2, h3, h4, v, h5, h6⟩ := q
    rw [valN_cons]
    by_cases hk : nkOf p.1 = nkOf k
    · have hx : x.1 = nk := by rw [h2, e] at hk; exact Option.some.inj hk
      rw [if_pos hk]
      refine ⟨fun d hd => ?_, fun z => nomatch z⟩
      cases hd
      exact ⟨x.2, v, by simp [atKey, hx], h5, h6⟩
    · have hx : ¬ x.1 = nk := fun z => hk (by rw [h2, e, z])
      rw [if_neg hk]
      have : atKey (x :: xs) nk = atKey xs nk := by simp [atKey, hx]
      rw [this]; exact ih
theorem TR.isSome {kvs : List (D × D)} {xs : List (NestedKey × Addr × Value)} (h : TR K H kvs xs) {k : D} {nk : NestedKey} (e : nkOf k = some nk) : (atKey xs nk).isSome = (valN kvs k).isSome := by
  obtain ⟨h1, h2⟩ := h.val e
  cases q : valN kvs k with
  | none => rw [h2 q]; rfl
  | some d => obtain ⟨p, v, hp, _⟩ := h1 d q; rw [hp]; rfl
theorem TR.put {kvs : List (D × D)} {xs : List (NestedKey × Addr × Value)} (h : TR K H kvs xs) {k d : D} {nk : NestedKey} {b : Addr} {v : V} {u : Value} (t : ∃ l, k = .tuple l) (e : nkOf k = some nk) (dp : nk.depth ≤ 8) (hk : Rp K H k (.ref b)) (hd : Rp K H d v) (r : RelV v u) :
    TR K H (putN kvs k d) (storedH xs nk b u) := by
  unfold putN storedH
  rw [h.isSome e]
  split
  · rename_i hs
    clear hs
    unfold TR at h ⊢
    induction h with
    | nil => exact .nil
    | @cons p x ps xs q tt ih =>
      obtain ⟨h1, h2, h3, h4, v', h5, h6⟩ := q
      rw [List.map_cons, List.map_cons]
      refine .cons ?_ ih
      by_cases hk' : nkOf p.1 = nkOf k
      · have hx : x.1 = nk := by rw [h2, e] at hk'; exact Option.some.inj hk'
        rw [if_pos hk', putAt, if_pos hx]
        exact ⟨h1, h2, h3, h4, v, hd, r⟩
      · have hx : ¬ x.1 = nk := fun z => hk' (by rw [h2, e, z])
        rw [if_neg hk', putAt, if_neg hx]
        exact ⟨h1, h2, h3, h4, v', h5, h6⟩
  · exact paired_app h (.cons ⟨t, e, dp, hk, v, hd, r⟩ .nil)
theorem putN_nodup {kvs : List (D × D)} {k v : D} (nd : (kvs.map fun p => nkOf p.1).Nodup) : ((putN kvs k v).map fun p => nkOf p.1).Nodup := by
  unfold putN
  split
  · have : (kvs.map (fun p => if nkOf p.1 = nkOf k then (p.1, v) else p)).map (fun p => nkOf p.1) = kvs.map fun p => nkOf p.1 := by
      rw [List.map_map]; refine List.map_congr_left fun p _ => ?_
      show nkOf (if nkOf p.1 = nkOf k then (p.1, v) else p).1 = nkOf p.1
      split <;> rfl
    rw [this]; exact nd
  · rename_i h
    rw [List.map_append, List.nodup_append]
    refine ⟨nd, by simp, fun a ha b hb => ?_⟩
    have hb : b = nkOf k := by simpa using hb
    subst hb
    obtain ⟨p, hp, rfl⟩ := List.mem_map.mp ha
    intro z
    apply h
    unfold valN
    rw [Option.isSome_map, List.find?_isSome]
    exact ⟨p, hp, by simpa using z⟩
theorem putN_len (kvs : List (D × D)) (k v : D) : (putN kvs k v).length ≤ kvs.length + 1 := by
  unfold putN
  split
  · rw [List.length_map]; omega
  · rw [List.length_append]; simp
end
end DL

set_option Elab.async false
set_option linter.all false
set_option maxRecDepth 100000
set_option maxHeartbeats 1000000
/-! DL30: rules for dicts whose keys are tuples of ints. -/
namespace DL
open PySem PySem.Spec PyProof.Rows L2
section
variable {X : Cx} {G : Gh} {pins : List (Addr × Obj)} {σ : St} {H : Hp} {s : Shared}
mutual
theorem nested_of (I : Inv X pins σ H s) : ∀ {d : D} {v : V} {u : Value} {k : NestedKey}, nkOf d = some k → Rp X.K H d v → RelV v u → NestedIs s.heap k u
  | .int i, v, u, k, h, r, q => by
    unfold nkOf at h; cases h; cases r
    obtain ⟨t, rfl⟩ := (show ∃ t, u = Value.int i t from q)
    exact .int i t
  | .tuple xs, v, u, k, h, r, q => by
    unfold nkOf at h
    obtain ⟨ks, h1, rfl⟩ := Option.map_eq_some_iff.mp h
    cases r with
    | tup hs l =>
      rename_i a vs
      obtain rfl : u = Value.ref a := q
      obtain ⟨its, rv, ⟨o, ho, hc, n, hd⟩, hz⟩ := I.tuple hs.1
      exact .tup ho hc hd (by simpa using nested_all I h1 l rv)
  | .none, _, _, k, h, _, _ => by simp [nkOf] at h
  | .bool _, _, _, k, h, _, _ => by simp [nkOf] at h
  | .str _, _, _, k, h, _, _ => by simp [nkOf] at h
  | .list _, _, _, k, h, _, _ => by simp [nkOf] at h
  | .dict _, _, _, k, h, _, _ => by simp [nkOf] at h
theorem nested_all (I : Inv X pins σ H s) : ∀ {ds : List D} {vs : List V} {us : List Value} {ks : List NestedKey}, nksOf ds = some ks → RpL X.K H ds vs → Vals vs us → NestedAll s.heap ks us
  | [], _, _, ks, h, r, q => by unfold nksOf at h; cases h; cases r; cases q; exact .nil
  | d :: ds, _, _, ks, h, r, q => by
    unfold nksOf at h
    split at h
    · rename_i k ks' h1 h2
      cases h
      cases r with
      | cons r1 r2 =>
        cases q with
        | cons q1 q2 => exact .cons (nested_of I h1 r1 q1) (nested_all I h2 r2 q2)
    · cases h
end
/-- a key -/
def keyB (d : D) : Bool := match d with
  | .tuple xs => match nksOf xs with
    | some ks => decide (NestedKey.depthAll ks ≤ 7)
    | none => false
  | _ => false
theorem keyB_ok {d : D} (h : keyB d = true) : (∃ l, d = .tuple l) ∧ ∃ k, nkOf d = some k ∧ k.depth ≤ 8 := by
  cases d with
  | tuple xs =>
    refine ⟨⟨xs, rfl⟩, ?_⟩
    unfold keyB at h
    dsimp only at h
    split at h
    · rename_i ks hk
      refine ⟨.tup ks, by unfold nkOf; rw [hk]; rfl, ?_⟩
      have := of_decide_eq_true h
      unfold NestedKey.depth; omega
    · cases h
  | _ => simp [keyB] at h
/-- a dict that is read -/
def DN (K : PySem.W.Frag) (H : Hp) (a : Addr) (kvs : List (D × D)) : Prop := ∃ es, Rd H a (dO a es) ∧ RpD K H kvs es ∧ (kvs.map fun p => nkOf p.1).Nodup ∧ (a == sysModules) = false
theorem DN.at (I : Inv X pins σ H s) {a : Addr} {kvs : List (D × D)} (h : DN X.K H a kvs) : ∃ xs, TR X.K H kvs xs ∧ s.heap.DictOfH (nestedKind X.prog X.w) a xs ∧ (a == sysModules) = false := by
  obtain ⟨es, e, l, nd, sm⟩ := h
  obtain ⟨xs, tr, rfl⟩ := l.tr X.prog X.w
  obtain ⟨⟨o, ep, h1, h2, h3⟩, _⟩ := e.ok I.hok
  refine ⟨xs, tr, ⟨o, _, ep, h1, h2, h3, by simp, ?_, tr.keys nd⟩, sm⟩
  intro x hx
  have : ∀ (kvs : List (D × D)) (xs : List (NestedKey × Addr × Value)), TR X.K H kvs xs → ∀ x ∈ xs, (nestedKind X.prog X.w).is s.heap x.1 x.2.1 := by
    intro kvs xs t
    unfold TR at t
    induction t with
    | nil => intro x hx; cases hx
    | cons q t ih =>
      intro x hx
      rcases List.mem_cons.mp hx with rfl | hx
      · exact ⟨nested_of I q.2.1 q.2.2.2.1 rfl, q.2.2.1⟩
      · exact ih x hx
  exact this kvs xs tr x hx
theorem key_is (I : Inv X pins σ H s) {d : D} {v : V} {u : Value} (hk : keyB d = true) (r : Rp X.K H d v) (q : RelV v u) : ∃ k b, nkOf d = some k ∧ k.depth ≤ 8 ∧ v = .ref b ∧ u = .ref b ∧ (nestedKind X.prog X.w).is s.heap k b := by
  obtain ⟨⟨l, rfl⟩, k, hk1, hk2⟩ := keyB_ok hk
  cases r with
  | tup hs ll =>
    rename_i b vs
    obtain rfl : u = Value.ref b := q
    exact ⟨k, b, hk1, hk2, rfl, rfl, nested_of I hk1 (.tup hs ll) rfl, hk2⟩
theorem room_n {A : Around} (hu : A.units + 65 < cLine) {P : Program} {w : World} : (nestedKind P w).room A.in1 := by show A.units + 1 + 8 < cLine; omega
theorem dn_type (I : Inv X pins σ H s) {a : Addr} {kvs : List (D × D)} (h : DN X.K H a kvs) : s.TypeIs (.ref a) "dict" ∧ ∀ b, Value.ref a = .ref b → ∃ ob, s.heap.get? b = some ob ∧ ob.dict = none := by
  obtain ⟨xs, tr, dd, sm⟩ := h.at I
  refine ⟨dd.typeIs, fun b q => ?_⟩
  cases q
  obtain ⟨ob, _, _, h1, h2, _⟩ := dd
  exact ⟨ob, h1, h2.2.1⟩

/-! ### expressions -/
variable {o i e f value : Expr} {pos pos' tpos apos cpos : Pos} {td ty tv tx : TE}
theorem pe_dgetN (hu : X.A.units + 65 < cLine) (ho : PE X o td) (hi : PE X i ty) (hs : NoSl i) : PE X (.Subscript o i pos)
    (fun σ H Q => td σ H fun x H1 => ty σ H1 fun y H2 => ∃ a kvs k d, x = .ref a ∧ DN X.K H2 a kvs ∧ keyB k = true ∧ Rp X.K H2 k y ∧ valN kvs k = some d ∧ ∀ v, Rp X.K H2 d v → Q v H2) := by
  refine ⟨fun pins s σ H Q I h => ?_⟩
  refine subD_of PySem.F.slot_dict_getitem.lookup hs (thn (ho.run pins s σ H _ I h) fun u s1 ⟨x, H1, I1, rx, q1⟩ => thn (hi.run pins s1 σ H1 _ I1 q1) fun iv s2 ⟨y, H2, I2, ry, a, kvs, k, d, ex, g, hk, rk, hv, q2⟩ => ?_)
  subst ex
  obtain rfl : u = Value.ref a := rx
  obtain ⟨xs, tr, dd, sm⟩ := g.at I2
  obtain ⟨nk, b, e1, e2, rfl, rfl, ki⟩ := key_is I2 hk rk ry
  obtain ⟨p, v, hp, rv, rl⟩ := (tr.val e1).1 d hv
  exact ⟨(dn_type I2 g).1, wpAny_getItem_heap (room_n hu) ki dd hp ⟨v, H2, I2.tok _, rl, q2 v rv⟩⟩
theorem pc_inN (hu : X.A.units + 65 < cLine) (hi : PE X i ty) (ho : PE X o td) : PC X .In i o
    (fun σ H Q => ty σ H fun y H1 => td σ H1 fun x H2 => ∃ a kvs k, x = .ref a ∧ DN X.K H2 a kvs ∧ keyB k = true ∧ Rp X.K H2 k y ∧ Q (.bl (valN kvs k).isSome) H2) := by
  refine ⟨fun pins s σ H Q I h => ?_⟩
  refine thn (hi.run pins s σ H _ I h) fun iv s1 ⟨y, H1, I1, ry, q1⟩ => thn (ho.run pins s1 σ H1 _ I1 q1) fun u s2 ⟨x, H2, I2, rx, a, kvs, k, ex, g, hk, rk, q2⟩ => ?_
  subst ex
  obtain rfl : u = Value.ref a := rx
  obtain ⟨xs, tr, dd, sm⟩ := g.at I2
  obtain ⟨nk, b, e1, e2, rfl, rfl, ki⟩ := key_is I2 hk rk ry
  refine wpAny_in_heap (room_n hu) ki sm dd ?_
  rw [tr.isSome e1]
  exact ⟨.bl _, H2, I2.tok _, rfl, q2⟩
theorem pc_notInN (hu : X.A.units + 65 < cLine) (hi : PE X i ty) (ho : PE X o td) : PC X .NotIn i o
    (fun σ H Q => ty σ H fun y H1 => td σ H1 fun x H2 => ∃ a kvs k, x = .ref a ∧ DN X.K H2 a kvs ∧ keyB k = true ∧ Rp X.K H2 k y ∧ Q (.bl (!(valN kvs k).isSome)) H2) := by
  refine ⟨fun pins s σ H Q I h => ?_⟩
  refine thn (hi.run pins s σ H _ I h) fun iv s1 ⟨y, H1, I1, ry, q1⟩ => thn (ho.run pins s1 σ H1 _ I1 q1) fun u s2 ⟨x, H2, I2, rx, a, kvs, k, ex, g, hk, rk, q2⟩ => ?_
  subst ex
  obtain rfl : u = Value.ref a := rx
  obtain ⟨xs, tr, dd, sm⟩ := g.at I2
  obtain ⟨nk, b, e1, e2, rfl, rfl, ki⟩ := key_is I2 hk rk ry
  refine wpAny_notIn_heap (room_n hu) ki sm dd ?_
  rw [tr.isSome e1]
  exact ⟨.bl _, H2, I2.tok _, rfl, q2⟩
theorem pe_dget2N (hu : X.A.units + 65 < cLine) (ho : PE X o td) (he : PE X e ty) (hf : PE X f tx) (m : M2 X o "get" apos e f cpos) : PE X (.Call (.Attribute o "get" apos) [e, f] [] cpos)
    (fun σ H Q => td σ H fun x H1 => ∃ a, x = .ref a ∧ (∃ kvs, DN X.K H1 a kvs) ∧ ty σ H1 fun y H2 => tx σ H2 fun z H3 => ∃ kvs k, DN X.K H3 a kvs ∧ keyB k = true ∧ Rp X.K H3 k y ∧ (∀ d v, valN kvs k = some d → Rp X.K H3 d v → Q v H3) ∧ (valN kvs k = none → Q z H3)) := by
  refine ⟨fun pins s σ H Q I h => ?_⟩
  refine wpAny_Call_method m.base m.few m.line PySem.F.plainAttrs_dict PySem.F.slot_dict_get PySem.F.type_dict_get (thn (ho.run pins s σ H _ I h) fun u s1 ⟨x, H1, I1, rx, a, ex, ⟨kvs0, d0⟩, q1⟩ => ?_)
  subst ex
  obtain rfl : u = Value.ref a := rx
  obtain ⟨t1, t2⟩ := dn_type I1 d0
  refine ⟨t1, t2, ?_⟩
  rw [m.trees]
  refine Calls.callWith_builtin rfl (Calls.evalArgs_plain (Calls.spliced_cons (thn (he.run pins s1 σ H1 _ I1 q1) fun iv s2 ⟨y, H2, I2, ry, q2⟩ =>
    Calls.spliced_cons (thn (hf.run pins s2 σ H2 _ I2 q2) fun fv s3 ⟨z, H3, I3, rz, q3⟩ => Calls.spliced_nil ?_))))
  obtain ⟨kvs, k, g, hk, rk, q4, q5⟩ := q3
  have hsome : ∃ xs nk b, TR X.K H3 kvs xs ∧ s3.heap.DictOfH (nestedKind X.prog X.w) a xs ∧ (a == sysModules) = false ∧ nkOf k = some nk ∧ iv = .ref b ∧ (nestedKind X.prog X.w).is s3.heap nk b := by
    obtain ⟨xs, tr, dd, sm⟩ := g.at I3
    obtain ⟨nk, b, e1, e2, e3, e4, ki⟩ := key_is I3 hk rk ry
    exact ⟨xs, nk, b, tr, dd, sm, e1, e4, ki⟩
  obtain ⟨xs, nk, b, tr, dd, sm, e1, rfl, ki⟩ := hsome
  refine getOr_keyed (room_n hu) ki sm ⟨xs, dd, rfl⟩ ?_
  rw [valueAt_pairsH]
  cases hv : valN kvs k with
  | none =>
    rw [(tr.val e1).2 hv]
    exact ⟨z, H3, I3.tok _, rz, q5 hv⟩
  | some d =>
    obtain ⟨p, v, hp, rv, rl⟩ := (tr.val e1).1 d hv
    rw [hp]
    exact ⟨v, H3, I3.tok _, rl, q4 d v hv rv⟩
/-- d[k] = v -/
theorem ps_dputN (hu : X.A.units + 65 < cLine) (ho : PE X o td) (hi : PE X i ty) (hv : PE X value tv) (hs : swapsWith value (some (.Subscript o i pos')) pos.line X.env = pure false) :
    PS X (.Assign [.Subscript o i pos'] value pos) (fun F σ H => tv σ H fun v H1 => td σ H1 fun x H2 => ty σ H2 fun y H3 => ∃ a es kvs k d, x = .ref a ∧ H3 a = some (dO a es) ∧ RpD X.K H3 kvs es ∧ (kvs.map fun p => nkOf p.1).Nodup ∧ (a == sysModules) = false ∧ keyB k = true ∧ Rp X.K H3 k y ∧ Rp X.K H3 d v ∧ kvs.length < sizeLine ∧
      ∀ es', RpD X.K (upd H3 a (dO a es')) (putN kvs k d) es' → F.nx σ (upd H3 a (dO a es'))) := by
  refine ⟨fun pins s σ H D I h => ?_⟩
  refine wpAny_Assign_Subscript (thn (hv.run pins s σ H _ I h) fun r s1 ⟨v, H1, I1, rv, q1⟩ => thn (ho.run pins s1 σ H1 _ I1 q1) fun u s2 ⟨x, H2, I2, rx, q2⟩ => thn (hi.run pins s2 σ H2 _ I2 q2) fun iv s3 ⟨y, H3, I3, ry, a, es, kvs, k, d, ex, ea, l, nd, sm, hk, rk, rd, hz, q3⟩ => ?_) hs
  subst ex
  obtain rfl : u = Value.ref a := rx
  obtain ⟨xs, tr, dd, _⟩ := DN.at I3 (⟨es, .inl ea, l, nd, sm⟩ : DN X.K H3 a kvs)
  have hk2 := hk
  obtain ⟨nk, b, e1, e2, rfl, rfl, ki⟩ := key_is I3 hk rk ry
  have hl : xs.length ≤ sizeLine := by rw [← Paired.length tr]; omega
  refine wpAny_setItem_heap (hsz := hl) (room_n hu) ki dd fun h' dd' hs => ?_
  obtain ⟨q, es', ep, hq, h2, h3, h4, _, h5⟩ := dd'
  have hes : es' = ((storedH xs nk b r).map (entryOfKey (nestedKind X.prog X.w))).toArray := by rw [← h4]
  have x : Ext H3 (upd H3 a (dO a ((storedH xs nk b r).map (entryOfKey (nestedKind X.prog X.w))))) := Ext.putS ea (fun _ z => by cases z) (fun _ _ z => by cases z)
  have tr' : TR X.K H3 (putN kvs k d) (storedH xs nk b r) := tr.put (keyB_ok hk2).1 e1 e2 rk rd rv
  refine ⟨σ, _, d_write I3 (ob := dO a ((storedH xs nk b r).map (entryOfKey (nestedKind X.prog X.w)))) (by rw [ea]; exact True.intro) hs ⟨q, hq⟩ ⟨⟨q, ep, hq, h2, by rw [h3, hes]⟩, ⟨q, hq⟩, fun h1 h2 ⟨o, ep, g1, g2, g3⟩ k => ⟨o, ep, k o g1, g2, g3⟩⟩, q3 _ ((tr'.rpd).ext x)⟩
/-- {}: empty -/
theorem pe_dnewN : PE X (.Dict [] [] pos) (fun _ H Q => ∀ p, H p = none → (p == sysModules) = false → Q (.ref p) (upd H p (dO p []))) := ⟨fun pins s σ H Q I h =>
  wpAny_Dict_empty ⟨.ref s.heap.objs.size, _, I.laid (a := s.heap.objs.size) (o := dO s.heap.objs.size []) (t' := s.toks) (fun _ _ q => Heap.get?_push_of_some _ q) (Nat.le_refl _) ⟨⟨_, 0, Heap.get?_push_size _ rfl, ⟨rfl, rfl, rfl⟩, rfl⟩, ⟨_, Heap.get?_push_size _ rfl⟩, fun h1 h2 ⟨o, ep, g1, g2, g3⟩ k => ⟨o, ep, k o g1, g2, g3⟩⟩, rfl, h _ (I.hok.fresh (Nat.le_refl _)) (beq_eq_false_iff_ne.mpr (Ne.symm (Nat.ne_of_lt I.big)))⟩⟩
end
end DL

set_option Elab.async false
set_option linter.all false
set_option maxRecDepth 100000
set_option maxHeartbeats 1000000
/-! DL31: dicts over data. -/
namespace DL
open PySem PySem.Spec PyProof.Rows L2
theorem keyB_2 (a b : Int) : keyB (.tuple [.int a, .int b]) = true := rfl
theorem keyB_3 (a b c : Int) : keyB (.tuple [.int a, .int b, .int c]) = true := rfl
theorem keyB_4 (a b c d : Int) : keyB (.tuple [.int a, .int b, .int c, .int d]) = true := rfl
def dictAt (E : Env) (i : Nat) : Option (List (D × D)) := match E[i]? with
  | some (.dt kvs) => some kvs
  | some (.d (.dict kvs)) => some kvs
  | _ => none
def tupKeys (kvs : List (D × D)) : Bool := kvs.all fun p => match p.1 with
  | .tuple _ => true
  | _ => false
def optQ {α : Type} (o : Option α) (Q : α → Prop) : Prop := match o with
  | some d => Q d
  | none => False
section
variable {K : PySem.W.Frag} {G : Gh} {H : Hp} {E : Env} {σ : St} {ex : List Addr}
/-- no tuple is a key -/
def NoT (kvs : List (D × D)) : Prop := (∀ k, keyB k = true → valN kvs k = none) ∧ tupKeys kvs = false
theorem valN_hdl {a : Addr} {k : D} (hk : keyB k = true) : valN [(.none, .int a)] k = none := by
  obtain ⟨_, nk, e, _⟩ := keyB_ok hk
  rw [valN_cons, if_neg]
  · rfl
  · rw [e]; simp [nkOf]
theorem noT_keys : ∀ {kvs : List (D × D)} {us : List (Key × V)}, kvs.map (·.1) = us.map (fun u => keyDt u.1) → ∀ k, keyB k = true → valN kvs k = none
  | [], _, _, _, _ => rfl
  | p :: kvs, [], e, _, _ => by cases e
  | p :: kvs, u :: us, e, k, hk => by
    rw [List.map_cons, List.map_cons] at e
    injection e with e1 e2
    obtain ⟨⟨l, rfl⟩, nk, h, _⟩ := keyB_ok hk
    rw [valN_cons, if_neg, noT_keys e2 _ hk]
    rw [e1]
    unfold nkOf at h
    obtain ⟨ks, _, rfl⟩ := Option.map_eq_some_iff.mp h
    cases u.1 with
    | inl i => intro z; rw [show nkOf (.tuple l) = some (.tup ks) from h] at z; simp [keyDt, nkOf] at z
    | inr x => intro z; rw [show nkOf (.tuple l) = some (.tup ks) from h] at z; simp [keyDt, nkOf] at z
theorem dict_of {kvs : List (D × D)} {v : V} (p : Rp K H (.dict kvs) v) : ∃ a, v = .ref a ∧ (DN K H a kvs ∨ NoT kvs) := by
  generalize e : PyData.dict kvs = d at p
  cases p with
  | dct h l n m => cases e; exact ⟨_, rfl, .inl ⟨_, .inr ⟨_, h⟩, l, n, m⟩⟩
  | hdl a => cases e; exact ⟨a, rfl, .inr ⟨fun k hk => valN_hdl hk, rfl⟩⟩
  | dck h e1 l n =>
    cases e
    refine ⟨_, rfl, .inr ⟨noT_keys e1, ?_⟩⟩
    cases kvs with
    | nil => exact absurd rfl n
    | cons p kvs =>
      rename_i us
      cases us with
      | nil => cases e1
      | cons u us =>
        rw [List.map_cons, List.map_cons] at e1
        injection e1 with e1 _
        unfold tupKeys
        rw [List.all_cons, e1]
        cases u.1 <;> rfl
  | _ => cases e
theorem own_dn {kvs : List (D × D)} {a : Addr} (h : RelM K H (.dt kvs) a) : DN K H a kvs := by
  obtain ⟨es, e, l, n, m⟩ := h
  exact ⟨es, .inl e, l, n, m⟩
theorem dict_read {i : Nat} {kvs : List (D × D)} (r : RelX K G ex H E σ) (e : dictAt E i = some kvs) : ∃ a, σ[i]? = some (some (.ref a)) ∧ (DN K H a kvs ∨ NoT kvs) := by
  unfold dictAt at e
  split at e
  · rename_i kvs' he
    cases e
    obtain ⟨a, e1, e2⟩ := r.mutAt he rfl
    exact ⟨a, e1, .inl (own_dn e2)⟩
  · rename_i kvs' he
    cases e
    obtain ⟨v, e1, p⟩ := r.data he
    obtain ⟨a, rfl, h⟩ := dict_of p
    exact ⟨a, e1, h⟩
  · cases e
theorem Rd.pext {H' : Hp} (p : PExt H H') {a : Addr} {u : HO} (h : Rd H a u) : Rd H' a u := by
  rcases h with h | ⟨o, h⟩
  · exact .inl (p _ _ h)
  · exact .inr ⟨o, p _ _ h⟩
end
section
variable {X : Cx} {G : Gh} {a b c e f : Expr} {es : List Expr} {pos pos' p0 apos cpos : Pos} {x : Str} {tk tv tx ta : TD}
/-- d[k], d a name -/
def tDGetV (i : Nat) (tk : TD) : TD := fun E Q => match dictAt E i with
  | some _ => tk E fun k E1 => match dictAt E1 i with
    | some kvs => keyB k = true ∧ optQ (valN kvs k) fun d => Q d E1
    | none => False
  | none => False
theorem ed_dgetV (i : Nat) (hu : X.A.units + 65 < cLine) (hk : ED X G e tk) (hN : X.N[i]? = some x := by rfl) (hv : Vis X.env.scope x := by first | exact Or.inl rfl | exact Or.inr (Or.inl rfl) | exact Or.inr (Or.inr rfl)) (hd : (x == ("__debug__" : Str)) = false := by decide)
    (hcd : (x == ("__classdict__" : Str)) = false := by decide) (hs : NoSl e := by intro _ _; rfl) : ED X G (.Subscript (.Name x p0) e pos) (tDGetV i tk) :=
  ⟨PE.weak (pe_dgetN hu (pe_var hN hv hd hcd) hk.pe hs) fun σ H Q ⟨E, QE, r, q, k⟩ => by
    unfold tDGetV at q
    split at q
    · rename_i kvs0 he0
      obtain ⟨p, e1, e2⟩ := dict_read r he0
      refine ⟨_, e1, E, _, r, q, fun kd E1 v H1 q1 x1 r1 p1 => ?_⟩
      split at q1
      · rename_i kvs he
        obtain ⟨p', f1, f2⟩ := dict_read r1 he
        rw [e1] at f1; cases f1
        obtain ⟨hk, q1⟩ := q1
        rcases f2 with f2 | f2
        · cases hv : valN kvs kd with
          | none => rw [hv] at q1; exact q1.elim
          | some d => rw [hv] at q1; exact ⟨p, kvs, kd, d, rfl, f2, hk, p1, hv, fun v rv => k _ _ _ _ q1 x1 r1 rv⟩
        · rw [f2.1 _ hk] at q1; exact q1.elim
      · exact q1.elim
    · exact q.elim⟩
/-- d[k], d data -/
def tDGetD (ta tk : TD) : TD := fun E Q => ta E fun x E1 => tk E1 fun k E2 => match x with
  | .dict kvs => keyB k = true ∧ optQ (valN kvs k) fun d => Q d E2
  | _ => False
theorem ed_dgetD (hu : X.A.units + 65 < cLine) (ha : ED X G a ta) (hk : ED X G e tk) (hs : NoSl e := by intro _ _; rfl) : ED X G (.Subscript a e pos) (tDGetD ta tk) :=
  ⟨PE.weak (pe_dgetN hu ha.pe hk.pe hs) fun σ H Q ⟨E, QE, r, q, k⟩ => ⟨E, _, r, q, fun x E1 v H1 q1 x1 r1 p1 => ⟨E1, _, r1, q1, fun kd E2 w H2 q2 x2 r2 p2 => by
    split at q2
    · rename_i kvs
      obtain ⟨hk, q2⟩ := q2
      obtain ⟨p, rfl, f2⟩ := dict_of (p1.ext x2)
      rcases f2 with f2 | f2
      · cases hv : valN kvs kd with
        | none => rw [hv] at q2; exact q2.elim
        | some d => rw [hv] at q2; exact ⟨p, kvs, kd, d, rfl, f2, hk, p2, hv, fun v rv => k _ _ _ _ q2 (x1.trans x2) r2 rv⟩
      · rw [f2.1 _ hk] at q2; exact q2.elim
    · exact q2.elim⟩⟩⟩
/-- d.get(k, x), d a name -/
def tDGet2V (i : Nat) (tk tx : TD) : TD := fun E Q => match dictAt E i with
  | some kvs0 => tupKeys kvs0 = true ∧ tk E fun k E1 => tx E1 fun z E2 => match dictAt E2 i with
    | some kvs => keyB k = true ∧ tupKeys kvs = true ∧ Q ((valN kvs k).getD z) E2
    | none => False
  | none => False
theorem ed_dget2V (i : Nat) (hu : X.A.units + 65 < cLine) (hk : ED X G e tk) (hx : ED X G f tx) (hN : X.N[i]? = some x := by rfl) (hv : Vis X.env.scope x := by first | exact Or.inl rfl | exact Or.inr (Or.inl rfl) | exact Or.inr (Or.inr rfl)) (hd : (x == ("__debug__" : Str)) = false := by decide)
    (hcd : (x == ("__classdict__" : Str)) = false := by decide) (m : M2 X (.Name x p0) "get" apos e f cpos := by exact ⟨rfl, rfl, rfl, rfl⟩) : ED X G (.Call (.Attribute (.Name x p0) "get" apos) [e, f] [] cpos) (tDGet2V i tk tx) :=
  ⟨PE.weak (pe_dget2N hu (pe_var hN hv hd hcd) hk.pe hx.pe m) fun σ H Q ⟨E, QE, r, q, k⟩ => by
    unfold tDGet2V at q
    split at q
    · rename_i kvs0 he0
      obtain ⟨p, e1, e2⟩ := dict_read r he0
      obtain ⟨t0, q⟩ := q
      have d0 : DN X.K H p kvs0 := by
        rcases e2 with e2 | e2
        · exact e2
        · rw [e2.2] at t0; cases t0
      refine ⟨_, e1, p, rfl, ⟨kvs0, d0⟩, E, _, r, q, fun kd E1 v H1 q1 x1 r1 p1 => ⟨E1, _, r1, q1, fun z E2 w H2 q2 x2 r2 p2 => ?_⟩⟩
      split at q2
      · rename_i kvs he
        obtain ⟨p', f1, f2⟩ := dict_read r2 he
        rw [e1] at f1; cases f1
        obtain ⟨hk, t2, q2⟩ := q2
        have d2 : DN X.K H2 p kvs := by
          rcases f2 with f2 | f2
          · exact f2
          · rw [f2.2] at t2; cases t2
        refine ⟨kvs, kd, d2, hk, p1.ext x2, fun d v hv rv => ?_, fun hv => ?_⟩
        · rw [hv] at q2; exact k _ _ _ _ q2 (x1.trans x2) r2 rv
        · rw [hv] at q2; exact k _ _ _ _ q2 (x1.trans x2) r2 p2
      · exact q2.elim
    · exact q.elim⟩
/-- k in d, d a name of a dict of one's own -/
def tInN (tk : TD) (i : Nat) : TTd := fun E Q => tk E fun k E1 => match E1[i]? with
  | some (.dt kvs) => keyB k = true ∧ Q (valN kvs k).isSome E1
  | _ => False
def tNotInN (tk : TD) (i : Nat) : TTd := fun E Q => tk E fun k E1 => match E1[i]? with
  | some (.dt kvs) => keyB k = true ∧ Q (!(valN kvs k).isSome) E1
  | _ => False
theorem eb_notInN (i : Nat) (hu : X.A.units + 65 < cLine) (hk : ED X G e tk) (hN : X.N[i]? = some x := by rfl) (hv : Vis X.env.scope x := by first | exact Or.inl rfl | exact Or.inr (Or.inl rfl) | exact Or.inr (Or.inr rfl)) (hd : (x == ("__debug__" : Str)) = false := by decide)
    (hcd : (x == ("__classdict__" : Str)) = false := by decide) : EB X G (.Compare e [.NotIn] [.Name x p0] pos) (tNotInN tk i) :=
  ⟨PT.weak (pt_cmp (pc_notInN hu hk.pe (pe_var hN hv hd hcd))) fun σ H Q ⟨E, QE, r, q, k⟩ => ⟨E, _, r, q, fun kd E1 v H1 q1 x1 r1 p1 => by
    split at q1
    · rename_i kvs he
      obtain ⟨p, e1, e2⟩ := r1.mutAt he rfl
      exact ⟨_, e1, p, kvs, kd, rfl, own_dn e2, q1.1, p1, _, rfl, k _ _ _ q1.2 x1 r1⟩
    · exact q1.elim⟩⟩
/-- d[k] = v -/
def sDPutV (i : Nat) (tk tv : TD) : TSd := fun DE E => tv E fun d E1 => match E1[i]? with
  | some (.dt _) => tk E1 fun k E2 => match E2[i]? with
    | some (.dt kvs) => keyB k = true ∧ kvs.length < sizeLine ∧ DE.nx (E2.set i (.dt (putN kvs k d)))
    | _ => False
  | _ => False
theorem sd_dputV (i : Nat) (hu : X.A.units + 65 < cLine) (hk : ED X G e tk) (hx : ED X G f tv) (hN : X.N[i]? = some x := by rfl) (hv : Vis X.env.scope x := by first | exact Or.inl rfl | exact Or.inr (Or.inl rfl) | exact Or.inr (Or.inr rfl)) (hd : (x == ("__debug__" : Str)) = false := by decide)
    (hcd : (x == ("__classdict__" : Str)) = false := by decide) (hs : swapsWith f (some (.Subscript (.Name x p0) e pos')) pos.line X.env = pure false := by rfl) : SD X G (.Assign [.Subscript (.Name x p0) e pos'] f pos) (sDPutV i tk tv) :=
  ⟨PS.weak (ps_dputN hu (pe_var hN hv hd hcd) hk.pe hx.pe hs) fun F σ H ⟨E, DE, r, q, k1, k2, k3, k4⟩ => ⟨E, _, r, q, fun d E1 v H1 q1 x1 r1 p1 => by
    split at q1
    · rename_i kvs0 he0
      obtain ⟨p, e1, e2⟩ := r1.mutAt he0 rfl
      refine ⟨_, e1, E1, _, r1, q1, fun kd E2 w H2 q2 x2 r2 p2 => ?_⟩
      split at q2
      · rename_i kvs he
        obtain ⟨p', f1, es, f2, l, nd, sm⟩ := r2.mutAt he rfl
        rw [e1] at f1; cases f1
        refine ⟨p, es, kvs, kd, d, rfl, f2, l, nd, sm, q2.1, p2, p1.ext x2, q2.2.1, fun es' l' => ?_⟩
        have x3 : Ext H2 (upd H2 p (dO p es')) := Ext.putS f2 (fun _ z => by cases z) (fun _ _ z => by cases z)
        exact k1 _ _ _ q2.2.2 ((x1.trans x2).trans x3) (r2.putM he rfl e1 (s1 := .dt _) ⟨es', upd_same, l', putN_nodup nd, sm⟩)
      · exact q2.elim
    · exact q1.elim⟩⟩

/-! ### new mutable things -/
abbrev TM := Env → (S → Env → Prop) → Prop
def liftM (K : PySem.W.Frag) (G : Gh) (t : TM) : TE := fun σ H Q => ∃ (E : Env) (QE : S → Env → Prop), RelE K G H E σ ∧ t E QE ∧
  ∀ s E' a H', QE s E' → Ext H H' → RelX K G [a] H' E' σ → G.H0 a = none → a ∉ G.addrs → RelM K H' s a → Q (.ref a) H'
structure EM (X : Cx) (G : Gh) (e : Expr) (t : TM) : Prop where
  pe : PE X e (liftM X.K G t)
def mDt : TM := fun E Q => Q (.dt []) E
theorem em_dt : EM X G (.Dict [] [] pos) mDt := ⟨PE.weak pe_dnewN fun σ H Q ⟨E, QE, r, q, k⟩ p hp sm => by
  obtain ⟨r2, h0, na⟩ := r.fresh (o := dO p []) hp
  exact k _ _ _ _ q (PExt.new hp).ext r2 h0 na ⟨[], upd_same, .nil, List.nodup_nil, sm⟩⟩
def mDk : TM := fun E Q => Q (.dk []) E
theorem em_dk : EM X G (.Dict [] [] pos) mDk := ⟨PE.weak pe_dnewK fun σ H Q ⟨E, QE, r, q, k⟩ p hp => by
  obtain ⟨r2, h0, na⟩ := r.fresh (o := .dK []) hp
  exact k _ _ _ _ q (PExt.new hp).ext r2 h0 na ⟨[], upd_same, rfl, .nil⟩⟩
def sSetM (i : Nat) (t : TM) : TSd := fun DE E => t E fun s E1 => DE.nx (E1.set i s)
theorem sd_setM {i : Nat} {t : TM} (hi : i ∉ G.slots) (hN : X.N.Nodup) (hx : X.N[i]? = some x) (hl : Loc X.env.scope x) (h : EM X G e t) (hs : swapsWith e (some (.Name x pos')) pos.line X.env = pure false := by rfl)
    (hf : X.fn x = true ∨ X.env.scope.names.lookup x = some .local := by first | exact .inl rfl | exact .inr rfl | assumption) : SD X G (.Assign [.Name x pos'] e pos) (sSetM i t) :=
  ⟨PS.weak (ps_set hN hx hl h.pe hs hf) fun F σ H ⟨E, DE, r, q, k1, k2, k3, k4⟩ => ⟨E, _, r, q, fun d E1 a H1 q1 x1 r1 h0 na p1 => k1 _ _ _ q1 x1 (r1.setM (by simp) hi h0 p1)⟩⟩
def pM (t : TM) (u : TPs) : TPs := fun E Q => t E fun s E1 => u E1 fun ss E2 => Q (s :: ss) E2
theorem eps_m {t : TM} {u : TPs} (h : EM X G e t) (hr : ∀ G' : Gh, G'.slots = G.slots → EPs X G' es u) (hs : starEach (e :: es) X.env = (false, eval e X.env) :: starEach es X.env := by rfl) : EPs X G (e :: es) (pM t u) := by
  have hp : PA X es (fun σ H Q => ∃ G' : Gh, G'.slots = G.slots ∧ liftPs X.K G' u σ H Q) := ⟨fun pos pins s σ H Q I ⟨G', hG', q⟩ => (hr G' hG').pa.run pos pins s σ H Q I q⟩
  refine ⟨PA.weak (pa_cons h.pe hp hs) fun σ H Q ⟨E, QE, r, q, k⟩ => ⟨E, _, r, q, fun s0 E1 a H1 q1 x1 r1 h0 na p1 => ?_⟩⟩
  obtain ⟨u0, ha, _⟩ := p1.soft
  refine ⟨pend G a u0, rfl, E1, _, r1.toPend ha na, q1, fun ss E2 vs H2 ex q2 x2 r2 p2 => ?_⟩
  obtain ⟨r3, ha3⟩ := RelX.ofPend r2 h0 na
  obtain ⟨p3, nx⟩ := PVs.ofPend p2
  exact k _ _ _ _ (a :: ex) q2 (x1.trans x2) r3 (.m (p1.move x2 (by rw [ha3, ha])) h0 na nx p3)
end
end DL

set_option Elab.async false
set_option linter.all false
set_option maxRecDepth 100000
set_option maxHeartbeats 1000000
/-! DL32: defs that may raise: raise X(), calls of such defs, try .. except X. -/
namespace DL
open PySem PySem.Spec PyProof.Rows L2
/-- X() -/
theorem pmk_own0 {X : Cx} {C : Addr} {bmB : List Value} {B newId initId : String} {x : Str} {p pos : Pos} (F : ExcBaseFacts B newId initId bmB) (q : PySem.W.excIn X.K C bmB newId = true) (gC : X.mg x = some (.ref C)) (kC : PySem.W.keepIn X.K (.ref C) = true) (r : Raises X (.ref C)) (hg : Gl X x)
    (hdb : (x == ("__debug__" : Str)) = false := by decide) : PMk X (.Call (.Name x p) [] [] pos) (fun _ H Q => Q (.ref C) none H) := by
  intro pins s σ H Q I h
  refine wpAny_Call_Name_kw (ld_glob I hg gC ?_ hdb)
  refine PySem.W.callWith_K0 I.kIn kC ?_
  show wpAny _ _ (call (.ref C) []) _ _ _
  obtain ⟨bm, N, nm, qn, bs, hdct, sn, sub, ab, col, dd, k0, k1, k2, k3, k5, mN, hC, hN, hni, T⟩ := exc_obj I.kIn q
  refine wpAny_call_exc_subT F T hC hN hni (fun h' e hm => ?_) (by show 0 ≤ sizeLine; exact Nat.zero_le _)
  exact mk_of I hm r h (I.hok.gone hm.new)
/-- an own class catches itself, and what stands below it -/
theorem exm_sub {K : PySem.W.Frag} {S T : Addr} {b : Bool} (h1 : PySem.W.subIn K (.ref T) (.type "BaseException") = some true) (h2 : PySem.W.isClsIn K T = true) (h3 : PySem.W.typeIn K (.ref T) = some (.type "type")) (h4 : PySem.W.subIn K (.ref S) (.ref T) = some b) : PySem.W.exmOne K (.ref S) (.ref T) = some b := by
  unfold PySem.W.exmOne
  rw [h1, if_pos (by rfl)]
  have e2 : ((PySem.W.clsIn K T).isSome && PySem.W.typeIn K (.ref T) == some (.type "type")) = true := by
    have h2' : (PySem.W.clsIn K T).isSome = true := h2
    rw [h2', h3] <;> rfl
  show (if ((PySem.W.clsIn K T).isSome && PySem.W.typeIn K (.ref T) == some (.type "type")) = true then PySem.W.subIn K (.ref S) (.ref T) else none) = some b
  rw [if_pos e2]
  exact h4
/-- a def's promise: what it gives, what it raises -/
abbrev SpX := List S → (D → List S → Prop) → (Value → List S → Prop) → Prop
def spLX (K : PySem.W.Frag) (sp : SpX) : Sp := fun vs H Q E => ∃ (ss : List S) (as : List Addr) (QD : D → List S → Prop) (QX : Value → List S → Prop), sp ss QD QX ∧ AR K H ss vs as ∧ as.Nodup ∧
  (∀ d outs v H', QD d outs → (∀ p o, H p = some o → p ∉ as → H' p = some o) → Paired (RelM K H') outs as → Rp K H' d v → Q v H') ∧
  ∀ cls outs H', QX cls outs → (∀ p o, H p = some o → p ∉ as → H' p = some o) → Paired (RelM K H') outs as → E cls none H'
/-- what is wished of an exception, over data -/
abbrev WDt := Value → Env → Prop
def Wish (K : PySem.W.Frag) (G : Gh) (WD : WDt) (W : WX) : Prop := ∀ cls E σ H, WD cls E → RelE K G H E σ → W cls none σ H
section
variable {X : Cx} {G : Gh} {e : Expr} {pos : Pos}
def sRaise (WD : WDt) (c : Value) : TSd := fun _ E => WD c E
theorem sd_raise {W : WX} {WD : WDt} {c : Value} (hc : X.calm = true) (tk : Takes X W) (hW : Wish X.K G WD W) (mk : PMk X e (fun _ H Q => Q c none H)) : SD X G (.Raise (some e) none pos) (sRaise WD c) :=
  ⟨PS.weak (ps_raise hc tk mk) fun F σ H ⟨E, DE, r, q, _⟩ => hW c E σ H q r⟩
theorem SDs.nox {st : List Stmt} {t : TSd} (h : SDs X.nox G st t) : SDs X G st t := ⟨PSs.nox h.pss⟩
theorem SD.nox {st : Stmt} {t : TSd} (h : SD X.nox G st t) : SDs X G [st] t := SDs.nox (sds_one h)
end
/-- THE RULE for a def that may raise -/
theorem fn_okX {P : Program} {w : World} {K : PySem.W.Frag} {mg : Str → Option Value} {base : Heap} {x qual : Str} {st : Stmt} {f : Addr} {fd : FuncData} {N ps : List Str} {k : Nat} {sp : SpX} {slots : List Nat} {tb : WDt → TSd}
    (F : Fun K x qual st f fd) (Sc : FnScope N ps (defScope st)) (shape : ∀ ss QD QX, sp ss QD QX → ss.length = ps.length ∧ mpos 0 ss = slots)
    (body : ∀ (cdv : Value) (A : Around) (outer : List PySem.Env) (s : Shared) (H : Hp) (E : XK), Room k (A.deeper (envOfC qual (defScope st) s.heap.objs.size f cdv)) → ∀ G : Gh, G.slots = slots → ∀ WD : WDt, Wish K G WD (fun cls d _ H' => E cls d H') →
      SDs (cxOf (L2.CX P w) P w K mg base N qual (defScope st) f cdv A outer s H E) G (defBody st) (tb WD))
    (read : ∀ ss QD QX, sp ss QD QX → tb (fun cls E' => finO slots E' (QX cls)) { nx := fun E' => finO slots E' (QD .none), rt := fun d E' => finO slots E' (QD d) } (ss ++ List.replicate (N.length - ps.length) .un)) :
    FnOk P w K mg base (L2.CX P w) (k + 1) f fd ps (spLX K sp) := by
  refine F.okX Sc (fun vs H Q E h => ?_) (fun cdv A outer s H vs Q E hr h => ?_)
  · obtain ⟨ss, as, QD, QX, h1, h2, _⟩ := h
    rw [← h2.length]; exact (shape ss QD QX h1).1
  · obtain ⟨ss, as, QD, QX, h1, h2, nd, h4, h5⟩ := h
    obtain ⟨hl, hm⟩ := shape ss QD QX h1
    have ml := h2.mlen 0
    have hG : (⟨H, (mpos 0 ss).zip as, fun _ => none, []⟩ : Gh).slots = slots := by show ((mpos 0 ss).zip as).map (·.1) = slots; rw [zip_fst ml, hm]
    have hA : (⟨H, (mpos 0 ss).zip as, fun _ => none, []⟩ : Gh).addrs = as := by show ((mpos 0 ss).zip as).map (·.2) ++ [] = as; rw [zip_snd ml, List.append_nil]
    have hW : Wish K ⟨H, (mpos 0 ss).zip as, fun _ => none, []⟩ (fun cls E' => finO slots E' (QX cls)) (fun cls d _ H' => E cls d H') := fun cls E' σ H' q r => by
      obtain ⟨outs, q1, p1⟩ := finO_rel r (as := as) (by rw [← hm]; exact ml) (by rw [← hm]; exact fun p hp => hp) q
      exact h5 cls outs H' q1 (fun p o e ne => r.keep p o e (by rw [hA]; exact ne)) p1
    refine ⟨_, (body cdv A outer s H E hr ⟨H, (mpos 0 ss).zip as, fun _ => none, []⟩ hG _ hW).pss, ?_⟩
    have hst : L2.start N vs = vs.map some ++ List.replicate (N.length - ps.length) none := by unfold L2.start; rw [← h2.length, hl]
    refine ⟨ss ++ List.replicate (N.length - ps.length) .un, { nx := fun E' => finO slots E' (QD .none), rt := fun d E' => finO slots E' (QD d) }, by rw [hst]; exact h2.start nd, read ss QD QX h1, fun E' σ' H' q x r => ?_, fun d E' v σ' H' q x r p => ?_, fun _ _ _ q => False.elim q, fun _ _ _ q => False.elim q⟩
    · obtain ⟨outs, q1, p1⟩ := finO_rel r (as := as) (by rw [← hm]; exact ml) (by rw [← hm]; exact fun p hp => hp) q
      exact h4 .none outs .non H' q1 (fun p o e ne => r.keep p o e (by rw [hA]; exact ne)) p1 .non
    · obtain ⟨outs, q1, p1⟩ := finO_rel r (as := as) (by rw [← hm]; exact ml) (by rw [← hm]; exact fun p hp => hp) q
      exact h4 d outs v H' q1 (fun p o e ne => r.keep p o e (by rw [hA]; exact ne)) p1 p
/-! ### a call of such a def -/
def tCallX (sp : SpX) (ta : TAd) (WD : WDt) : TD := fun E Q => ta E fun as E1 => match argS E1 as with
  | some ss => ndp (oixs as) = true ∧ sp ss (fun r outs => Q r (putO as outs E1)) (fun cls outs => WD cls (putO as outs E1))
  | none => False
section
variable {X : Cx} {G : Gh} {e : Expr} {es : List Expr} {pos p : Pos} {x : Str} {f : Addr} {fd : FuncData} {ps : List Str} {k : Nat} {sp : SpX} {ta : TAd}
theorem ed_callX {W : WX} {WD : WDt} (F : FnOk X.prog X.w X.K X.mg X.base (L2.CX X.prog X.w) k f fd ps (spLX X.K sp)) (tk : Takes X W) (hW : Wish X.K G WD W) (hr : Room k X.A) (hg : Gl X x) (hm : X.mg x = some (.ref f)) (hk : PySem.W.keepIn X.K (.ref f) = true) (hb : Binds X.K fd ps []) (ha : EA X G (e :: es) ta) (hdb : (x == ("__debug__" : Str)) = false := by decide)
    (hs : starEach (e :: es) X.env = (false, eval e X.env) :: starEach es X.env := by rfl) (hplain : (backTo pos (starEach es X.env)).any (·.1) = false := by rfl) : ED X G (.Call (.Name x p) (e :: es) [] pos) (tCallX sp ta WD) := by
  refine ⟨PE.weak (pe_callS (E := WE W) F hr hg hm hk hb (fun σ => passAt tk σ) ha.pa (hdb := hdb) (he := hs) (hpl := hplain)) fun σ H Q ⟨E0, QE, r, q, kk⟩ => ?_⟩
  refine ⟨E0, _, r, q, fun as E1 vs H1 q1 x1 r1 p1 => ?_⟩
  show spLX X.K sp vs H1 Q _
  split at q1
  · rename_i ss hs
    obtain ⟨nd, q1⟩ := q1
    obtain ⟨ad, ar, po⟩ := RelA.args r1 p1 hs
    have adn := addrs_nodup r1 nd po
    have islst : ∀ a ∈ ad, Soft H1 a := fun a ha => by
      obtain ⟨i, hi, e1, s, e2, m⟩ := Paired.mem2 po ha
      obtain ⟨b, f1, f2⟩ := r1.mutAt e2 m
      rw [e1] at f1; cases f1; exact f2.soft
    refine ⟨ss, ad, _, _, q1, ar, adn, fun d outs v H' q2 keep pr pd => ?_, fun cls outs H' q2 keep pr => ?_⟩
    · exact kk d _ v H' q2 (x1.trans (Ext.ofSoft keep islst)) (RelX.puts nd r1 keep islst pr po) pd
    · exact hW _ _ _ _ q2 (RelX.puts nd r1 keep islst pr po)
  · exact q1.elim
end
/-! ### try .. except X -/
section
variable {X : Cx} {G : Gh} {x : Str} {c : Value} {body suite : List Stmt} {b₀ : Stmt} {np pos pos' : Pos}
/-- m tells whether a class is caught -/
def sTry (m : Value → Option Bool) (Wo : WDt) (tb : WDt → TSd) (ts : TSd) : TSd := fun DE E => tb (fun cls E1 => match m cls with
  | some true => ts DE E1
  | some false => Wo cls E1
  | none => False) DE E
theorem RelX.mark {K : PySem.W.Frag} {H : Hp} {E : Env} {σ : St} (r : RelE K G H E σ) : RelE K { G with X0 := H } H E σ := by
  obtain ⟨l, k, pn, dm, x0, A, h1, h2, h3⟩ := r
  exact ⟨l, k, pn, dm, Ext.refl _, A, h1, h2, h3⟩
theorem RelX.unmark {K : PySem.W.Frag} {H0 H H1 : Hp} {E E0 : Env} {σ σ0 : St} (r0 : RelE K G H0 E0 σ0) (r : RelE K { G with X0 := H0 } H E σ) : RelE K G H E σ := by
  obtain ⟨l, k, pn, dm, x0, A, h1, h2, h3⟩ := r
  exact ⟨l, k, pn, dm, r0.ext.trans x0, A, h1, h2, h3⟩
theorem sd_try {m : Value → Option Bool} {Wo : WDt} {Wout : WX} {tb : WDt → TSd} {ts : TSd} (hm : ∀ cls b, m cls = some b → PySem.W.exmOne X.K cls c = some b) (hWo : Wish X.K G Wo Wout) (hs : X.stack = X.env :: X.outer) (hf : X.env.frame = some X.env.locals) (hc : Names X x c) (tk : Takes X Wout)
    (hb : ∀ (W : WX) (pn : List (Addr × Obj)) (xe : Value → Shared → Prop), Takes (X.tr pn xe) W → PassesOwn (model X.prog X.w) X.A X.env xe → ∀ G' : Gh, G'.slots = G.slots → ∀ WD : WDt, Wish X.K G' WD W → SDs (X.tr pn xe) G' body (tb WD))
    (hsu : ∀ (a : Addr) (oe : Obj) (pn : List (Addr × Obj)), SDs (X.suite a ((a, oe) :: pn)) G (b₀ :: suite) ts) :
    SD X G (.Try body [.ExceptHandler (some (.Name x np)) none (b₀ :: suite) pos'] [] [] pos) (sTry m Wo tb ts) := by
  let tB : WX → TS := fun W D σ H => ∃ (G' : Gh) (WD : WDt), G'.slots = G.slots ∧ Wish X.K G' WD W ∧ liftS X.K G' (tb WD) D σ H
  have hb' : ∀ (W : WX) (pn : List (Addr × Obj)) (xe : Value → Shared → Prop), Takes (X.tr pn xe) W → PassesOwn (model X.prog X.w) X.A X.env xe → PSs (X.tr pn xe) body (tB W) := fun W pn xe t p =>
    ⟨fun pins s σ H F I ⟨G', WD, hg, hw, q⟩ => (hb W pn xe t p G' hg WD hw).pss.run pins s σ H F I q⟩
  refine ⟨PS.weak (ps_try_only hs hf hc tk hb' (ts := fun _ _ _ => liftS X.K G ts) fun a oe cls d pn _ _ => (hsu a oe pn).pss) fun F σ H ⟨E, DE, r, q, k1, k2, k3, k4⟩ => ?_⟩
  refine ⟨{ G with X0 := H }, _, rfl, fun cls E1 σ1 H1 q1 r1 => ?_, E, DE, r.mark, q, fun E' σ' H' z x r' => k1 E' σ' H' z x (RelX.unmark (H1 := H) r r'), fun d E' v σ' H' z x r' p => k2 d E' v σ' H' z x (RelX.unmark (H1 := H) r r') p, fun E' σ' H' z x r' => k3 E' σ' H' z x (RelX.unmark (H1 := H) r r'), fun E' σ' H' z x r' => k4 E' σ' H' z x (RelX.unmark (H1 := H) r r')⟩
  have ext : Ext H H1 := r1.ext
  have r2 : RelE X.K G H1 E1 σ1 := RelX.unmark (H1 := H) r r1
  show wOnly X.K c _ Wout F cls none σ1 H1
  cases e : m cls with
  | none => rw [e] at q1; exact q1.elim
  | some b =>
    rw [e] at q1
    refine ⟨b, hm cls b e, fun hb a ha => ?_, fun hb => ?_⟩
    · subst hb
      exact ⟨E1, DE, r2, q1, fun E' σ' H' z x r => k1 E' σ' H' z (ext.trans x) r, fun d E' v σ' H' z x r => k2 d E' v σ' H' z (ext.trans x) r, fun E' σ' H' z x r => k3 E' σ' H' z (ext.trans x) r, fun E' σ' H' z x r => k4 E' σ' H' z (ext.trans x) r⟩
    · subst hb
      exact hWo _ _ _ _ q1 r2
end
end DL

set_option Elab.async false
set_option linter.all false
set_option maxRecDepth 100000
set_option maxHeartbeats 1000000
/-! DL33: a call without arguments. -/
namespace DL
open PySem PySem.Spec PyProof.Rows L2
def tCall0D (sp : SpD) : TD := fun E Q => sp [] fun r _ => Q r E
section
variable {X : Cx} {G : Gh} {pos p : Pos} {x : Str} {f : Addr} {fd : FuncData} {k : Nat} {sp : SpD}
theorem ed_call0 (F : FnOk X.prog X.w X.K X.mg X.base CX0 k f fd [] (spL X.K sp)) (hr : Room k X.A) (hg : Gl X x) (hm : X.mg x = some (.ref f)) (hk : PySem.W.keepIn X.K (.ref f) = true) (hb : Binds X.K fd [] []) (hdb : (x == ("__debug__" : Str)) = false := by decide) : ED X G (.Call (.Name x p) [] [] pos) (tCall0D sp) :=
  ⟨PE.weak (pe_call0 (dvs := []) (E := fun _ _ _ => False) F hr hg hm hk hb .nil pass0 (hdb := hdb)) fun σ H Q ⟨E, QE, r, q, k⟩ => by
    refine ⟨[], [], _, q, .nil, List.nodup_nil, fun d outs v H' q2 keep pr pd => ?_⟩
    have px : PExt H H' := fun p o e => keep p o e (by simp)
    exact k _ _ _ _ q2 px.ext (r.pext px) pd⟩
end
end DL

set_option Elab.async false
set_option linter.all false
set_option maxRecDepth 100000
set_option maxHeartbeats 1000000
/-! DL34: a call whose last argument is a new mutable thing; list(range(n)). -/
namespace DL
open PySem PySem.Spec PyProof.Rows L2
section
variable {K : PySem.W.Frag} {G : Gh} {H H' : Hp} {E : Env} {σ : St} {a : Addr}
theorem RelX.moveEx (r : RelX K G [a] H E σ) (keep : ∀ p o, H p = some o → p ∉ [a] → H' p = some o) (soft : Soft H a) (h0 : G.H0 a = none) (na : a ∉ G.addrs) : Ext H H' ∧ RelE K G H' E σ := by
  have ext : Ext H H' := Ext.ofSoft keep fun b hb => by rw [List.mem_singleton.mp hb]; exact soft
  refine ⟨ext, ?_⟩
  obtain ⟨l, k, pn, dm, x0, A, h1, h2, h3⟩ := r
  refine ⟨l, fun p o e ne => keep p o (k p o e ne) fun z => ?_, pn, fun b hb z => ?_, x0.trans ext, A, h1, fun i b e => ⟨(h2 i b e).1, by simp⟩, fun i s e => (h3 i s e).move ext fun b hb => ?_⟩
  · rw [List.mem_singleton.mp z, h0] at e; cases e
  · cases q : H b with
    | none => exact dm b hb q
    | some o =>
      have := keep b o q fun w => na (by rw [← List.mem_singleton.mp w]; exact hb)
      rw [z] at this; cases this
  · obtain ⟨u, hu, _⟩ := (h3 i s e).indom b hb
    rw [hu]; exact keep b u hu (h2 i b hb).2
end
abbrev TAm := Env → (List D → S → Env → Prop) → Prop
def liftAm (K : PySem.W.Frag) (G : Gh) (t : TAm) : TA := fun σ H Q => ∃ (E : Env) (QE : List D → S → Env → Prop), RelE K G H E σ ∧ t E QE ∧
  ∀ ds s E' vs a H', QE ds s E' → Ext H H' → RelX K G [a] H' E' σ → G.H0 a = none → a ∉ G.addrs → RelM K H' s a → s.isMut = true → RpL K H' ds vs → Q (vs ++ [.ref a]) H'
structure EAm (X : Cx) (G : Gh) (es : List Expr) (t : TAm) : Prop where
  pa : PA X es (liftAm X.K G t)
def amM (t : TM) : TAm := fun E Q => t E fun s E1 => s.isMut = true ∧ Q [] s E1
def amV (t : TD) (u : TAm) : TAm := fun E Q => t E fun d E1 => u E1 fun ds s E2 => Q (d :: ds) s E2
def tCallM (sp : SpD) (ta : TAm) : TD := fun E Q => ta E fun ds s E1 => sp (ds.map S.d ++ [s]) fun r _ => Q r E1
theorem AR.data {K : PySem.W.Frag} {H : Hp} {s : S} {a : Addr} (hm : s.isMut = true) (h : RelM K H s a) : ∀ {ds : List D} {vs : List V}, RpL K H ds vs → AR K H (ds.map S.d ++ [s]) (vs ++ [.ref a]) [a]
  | _, _, .nil => .o hm h .nil
  | _, _, .cons p t => .d p (AR.data hm h t)
section
variable {X : Cx} {G : Gh} {e : Expr} {es : List Expr} {pos p p1 p2 : Pos} {x : Str} {f : Addr} {fd : FuncData} {ps : List Str} {k : Nat} {sp : SpD} {ta : TAm}
theorem eam_m {t : TM} (h : EM X G e t) (hs : starEach [e] X.env = (false, eval e X.env) :: starEach [] X.env := by rfl) : EAm X G [e] (amM t) :=
  ⟨PA.weak (pa_cons h.pe pa_nil hs) fun σ H Q ⟨E, QE, r, q, k⟩ => ⟨E, _, r, q, fun s E1 a H1 q1 x1 r1 h0 na p1 => k [] s E1 [] a H1 q1.2 x1 r1 h0 na p1 q1.1 .nil⟩⟩
theorem eam_v {t : TD} {u : TAm} (h : ED X G e t) (hr : EAm X G es u) (hs : starEach (e :: es) X.env = (false, eval e X.env) :: starEach es X.env := by rfl) : EAm X G (e :: es) (amV t u) :=
  ⟨PA.weak (pa_cons h.pe hr.pa hs) fun σ H Q ⟨E, QE, r, q, k⟩ => ⟨E, _, r, q, fun d E1 v H1 q1 x1 r1 p1 => ⟨E1, _, r1, q1, fun ds s E2 vs a H2 q2 x2 r2 h0 na p2 hm l => k (d :: ds) s E2 (v :: vs) a H2 q2 (x1.trans x2) r2 h0 na p2 hm (.cons (p1.ext x2) l)⟩⟩⟩
theorem ed_callM (F : FnOk X.prog X.w X.K X.mg X.base CX0 k f fd ps (spL X.K sp)) (hr : Room k X.A) (hg : Gl X x) (hm : X.mg x = some (.ref f)) (hk : PySem.W.keepIn X.K (.ref f) = true) (hb : Binds X.K fd ps []) (ha : EAm X G (e :: es) ta) (hdb : (x == ("__debug__" : Str)) = false := by decide)
    (hs : starEach (e :: es) X.env = (false, eval e X.env) :: starEach es X.env := by rfl) (hplain : (backTo pos (starEach es X.env)).any (·.1) = false := by rfl) : ED X G (.Call (.Name x p) (e :: es) [] pos) (tCallM sp ta) :=
  ⟨PE.weak (pe_call (dvs := []) (E := fun _ _ _ => False) F hr hg hm hk hb .nil pass0 ha.pa (hdb := hdb) (he := hs) (hpl := hplain)) fun σ H Q h => by
    obtain ⟨E0, QE, r, q, kk⟩ := h
    refine ⟨E0, _, r, q, fun ds s E1 vs a H1 q1 x1 r1 h0 na p1 hmut l => ?_⟩
    show spL X.K sp ((vs ++ [.ref a]) ++ []) H1 Q _
    rw [List.append_nil]
    refine ⟨_, [a], _, q1, AR.data hmut p1 l, by simp, fun d outs v H' q2 keep pr pd => ?_⟩
    obtain ⟨x2, r2⟩ := r1.moveEx keep p1.soft h0 na
    exact kk d _ v H' q2 (x1.trans x2) r2 pd⟩
/-- list(range(n)) -/
def tListRg (ta : TD) : TLd := fun E Q => ta E fun d E1 => match d with
  | .int n => (0 ≤ n ∧ n ≤ 10000000) ∧ Q (rangeD 0 n.toNat) E1
  | _ => False
theorem rgV_rp {K : PySem.W.Frag} {H : Hp} (n : Int) : RpL K H (rangeD 0 n.toNat) (rgV 0 n) := by
  unfold rangeD rgV
  rw [Int.sub_zero]
  generalize List.range n.toNat = l
  induction l with
  | nil => exact .nil
  | cons i l ih => exact .cons (.int _) ih
theorem el_listRg {ta : TD} (hg : Gl X "list") (hm : X.mg "list" = none) (hg2 : Gl X "range") (hm2 : X.mg "range" = none) (ha : ED X G e ta) (hc : X.calm = true := by rfl) (na : starEach [e] X.env = (false, eval e X.env) :: starEach [] X.env := by rfl)
    (nb : starEach [Expr.Call (.Name "range" p1) [e] [] p2] X.env = (false, eval (Expr.Call (.Name "range" p1) [e] [] p2) X.env) :: starEach [] X.env := by rfl) : EL X G (.Call (.Name "list" p) [.Call (.Name "range" p1) [e] [] p2] [] pos) (tListRg ta) :=
  ⟨PE.weak (pe_listRg hc hg hm (prg_1 hg2 hm2 ha.pe na) nb) fun σ H Q ⟨E, QE, r, q, k⟩ => ⟨E, _, r, q, fun d E1 v H1 q1 x1 r1 p1 => by
    cases p1 with
    | int n =>
      obtain ⟨hn, q1⟩ := q1
      refine ⟨n, rfl, RgOk.of_le (by decide) (by omega) (by decide) hn.1, fun q hq => ?_⟩
      obtain ⟨r2, h0, na⟩ := r1.fresh (o := .lst (rgV 0 n)) hq
      exact k _ _ _ _ _ q1 (x1.trans (PExt.new hq).ext) r2 h0 na upd_same (rgV_rp n)
    | _ => exact q1.elim⟩⟩
end
end DL

set_option Elab.async false
set_option linter.all false
set_option maxRecDepth 100000
set_option maxHeartbeats 1000000
/-! DL35: a, b = a list -/
namespace DL
open PySem PySem.Spec PyProof.Rows L2
section
variable {X : Cx} {G : Gh} {e : Expr} {es : List Expr} {pos : Pos}
def gLstD (n : Nat) (u : TGsd) : TGd := fun d E Q => match d with
  | .list ds => ds.length = n ∧ u ds E Q
  | _ => False
theorem gd_lst {W : Bool} {ms : List Nat} {k n : Nat} {u : TGsd} (hc : X.calm = true) (h : GDs X G ms es u) (hn : (assignEach es X.env).length = n := by rfl) (hst : (assignEach es X.env).findIdx? (·.1) = none := by rfl) : GD X G W ms (.Tuple es k pos) (gLstD n u) :=
  ⟨PG.weak (pg_unl hc h.pg hn hst) fun v σ H Q ⟨E, d, QE, r, p, q, k⟩ => by
    have strong : Rp X.K H d v → gUnl X.K n (liftGs X.K G ms u) v σ H Q := fun p => by
      cases p with
      | lst hs l => exact ⟨_, _, rfl, hs.sq, by rw [← l.length]; exact q.1, E, _, QE, r, l, q.2, k⟩
      | _ => exact q.elim
    unfold RpB at p
    split at p
    · rcases p with p | ⟨ds, a, vs, rfl, rfl, hs, l⟩
      · exact strong p
      · exact q.elim
    · exact strong p⟩
end
end DL

set_option Elab.async false
set_option linter.all false
set_option maxRecDepth 100000
set_option maxHeartbeats 1000000
/-! DL36: dicts as data, walked: keys, values, pairs; list(d), list(d.values()). -/
namespace DL
open PySem PySem.Spec PyProof.Rows L2
/-- what stands in the entries -/
abbrev KVs (ps : List (V × V)) (es : List DictEntry) : Prop := Paired (fun p e => RelV p.1 e.key ∧ RelV p.2 e.val) ps es
theorem RpD.kvs {K : PySem.W.Frag} {H : Hp} : ∀ {kvs : List (D × D)} {es : List DictEntry}, RpD K H kvs es → ∃ ps, KVs ps es ∧ RpL K H (kvs.map (·.1)) (ps.map (·.1)) ∧ RpL K H (kvs.map (·.2)) (ps.map (·.2))
  | _, _, .nil => ⟨[], .nil, .nil, .nil⟩
  | _, _, .cons (b := b) (v := v) t n1 n2 n3 e1 h g r l => by
    obtain ⟨ps, h1, h2, h3⟩ := RpD.kvs l
    exact ⟨(.ref b, v) :: ps, .cons ⟨by rw [e1]; rfl, r⟩ h1, .cons h h2, .cons g h3⟩
section
variable {X : Cx} {pins : List (Addr × Obj)} {σ : St} {H : Hp} {s : Shared} {d : Addr} {o : Obj} {es : List DictEntry}
theorem frz_raw (I : Inv X pins σ H s) (h : H d = some (.frz o (dO d es))) : ∃ ep, o.data = .dict es.toArray ep ∧ s.heap.DictRaw d es.toArray ep ∧ d < s.heap.objs.size := by
  obtain ⟨g, ⟨q, ep, h1, h2, h3⟩, _⟩ := I.hok d _ h
  rw [g] at h1; cases h1
  exact ⟨ep, h3, ⟨o, g, h2, h3⟩, Heap.lt_size g⟩
end
/-- the walks: the dict stays as it is -/
def ItDk (d : Addr) (o : Obj) (es : List DictEntry) (ps : List (V × V)) : It :=
  ⟨fun i H => H d = some (.frz o (dO d es)) ∧ i < ps.length, fun i H x H' => H' = H ∧ ∃ p, ps[i]? = some p ∧ x = p.1, fun i H => H d = some (.frz o (dO d es)) ∧ ps.length ≤ i⟩
def ItDv (d : Addr) (o : Obj) (es : List DictEntry) (ps : List (V × V)) : It :=
  ⟨fun i H => H d = some (.frz o (dO d es)) ∧ i < ps.length, fun i H x H' => H' = H ∧ ∃ p, ps[i]? = some p ∧ x = p.2, fun i H => H d = some (.frz o (dO d es)) ∧ ps.length ≤ i⟩
def ItDi (d : Addr) (o : Obj) (es : List DictEntry) (ps : List (V × V)) : It :=
  ⟨fun i H => H d = some (.frz o (dO d es)) ∧ i < ps.length, fun i H x H' => ∃ T p, ps[i]? = some p ∧ x = .ref T ∧ H T = none ∧ H' = upd H T (.tup [p.1, p.2]), fun i H => H d = some (.frz o (dO d es)) ∧ ps.length ≤ i⟩
section
variable {P : Program} {w : World} {K : PySem.W.Frag} {tg : Expr} {d : Addr} {o : Obj} {es : List DictEntry} {ps : List (V × V)} {ep : Nat}
theorem kv_at (hp : KVs ps es) {i : Nat} (hi : i < ps.length) : ∃ p, ps[i]? = some p ∧ ∃ h : i < es.toArray.size, RelV p.1 (es.toArray[i]'h).key ∧ RelV p.2 (es.toArray[i]'h).val := by
  obtain ⟨e, h1, h2⟩ := paired_get hp (List.getElem?_eq_getElem hi)
  obtain ⟨hl, h3⟩ := List.getElem?_eq_some_iff.mp h1
  refine ⟨_, List.getElem?_eq_getElem hi, by simpa using hl, ?_⟩
  have : (es.toArray[i]'(by simpa using hl)) = e := by simpa using h3
  rw [this]; exact h2
theorem turn_dk (it : Addr) (hp : KVs ps es) (hod : o.data = .dict es.toArray ep) : Turn P w K tg (ItDk d o es ps) [it] it (fun i h => h.IsKeyIter it d i es.toArray.size ep) where
  mem := List.mem_singleton.mpr rfl
  obj := fun i h st b hb => by
    rw [List.mem_singleton.mp hb]
    obtain ⟨q, e, c, z⟩ := st
    exact ⟨q, e, fun v y => by rw [z] at y; cases y⟩
  keep := fun i h h' st k => st.at fun q e => k it (List.mem_singleton.mpr rfl) q e
  item := by
    intro X hP hw hK hc i pins s σ H E I hf st ⟨hd, hi⟩
    subst hP hw hK
    obtain ⟨f0, f1, f2, f3, f4, f5⟩ := hf it (List.mem_singleton.mpr rfl)
    obtain ⟨ep', h1, raw, _⟩ := frz_raw I hd
    have : ep' = ep := by rw [hod] at h1; injection h1 with _ z; exact z.symm
    subst this
    obtain ⟨p, hpi, hl, rk, rv⟩ := kv_at hp hi
    refine wpAny_pyNext_keys_item_raw st raw hl fun h' st' sb => ?_
    have I' : Inv X pins σ H { s with heap := h' } := I.turned (t' := s.toks) (fun b ob hb e => (sb.2 b hb).trans e) f0 f1 f3 f4 f5
    obtain ⟨q, e, c, z⟩ := id st'
    exact ⟨_, rfl, go_of (s := { s with heap := h' }) e c z (by decide) ⟨p.1, H, I', rk, ⟨rfl, p, hpi, rfl⟩, st', fun b hb => (hf b hb).1⟩⟩
  done := by
    intro X hP hw hK hc i pins s σ H E I hf st ⟨hd, hi⟩
    subst hP hw hK
    obtain ⟨f0, f1, f2, f3, f4, f5⟩ := hf it (List.mem_singleton.mpr rfl)
    obtain ⟨ep', h1, raw, _⟩ := frz_raw I hd
    have : ep' = ep := by rw [hod] at h1; injection h1 with _ z; exact z.symm
    subst this
    have hl : ps.length = es.length := Paired.length hp
    exact wpAny_pyNext_keys_end_raw (I.ok.hd hc) st raw (by simp; omega) fun h' eb => ⟨rfl, I.turned (t' := s.toks) (fun b ob hb e => eb b ob hb e) f0 f1 f3 f4 f5⟩
  self := fun A i s Q E st h => by
    refine wpAny_pyIter_slot st.typeIs F.slot_dict_keyiterator_iter (wpAny_call_entry F.slot_dict_keyiterator_iter st.typeIs F.entry_dict_keyiterator_iter ?_ (F.args_dict_keyiterator_iter_1 _))
    show wpAny (model P w) _ (ret (Value.ref it)) _ _ s
    exact wpAny_pure ⟨_, rfl, "dict_keyiterator", _, st.typeIs, F.slot_dict_keyiterator_next.lookup, h⟩
theorem turn_dv (it : Addr) (hp : KVs ps es) (hod : o.data = .dict es.toArray ep) : Turn P w K tg (ItDv d o es ps) [it] it (fun i h => h.IsValIter it d i es.toArray.size ep) where
  mem := List.mem_singleton.mpr rfl
  obj := fun i h st b hb => by
    rw [List.mem_singleton.mp hb]
    obtain ⟨q, e, c, z⟩ := st
    exact ⟨q, e, fun v y => by rw [z] at y; cases y⟩
  keep := fun i h h' st k => st.at fun q e => k it (List.mem_singleton.mpr rfl) q e
  item := by
    intro X hP hw hK hc i pins s σ H E I hf st ⟨hd, hi⟩
    subst hP hw hK
    obtain ⟨f0, f1, f2, f3, f4, f5⟩ := hf it (List.mem_singleton.mpr rfl)
    obtain ⟨ep', h1, raw, _⟩ := frz_raw I hd
    have : ep' = ep := by rw [hod] at h1; injection h1 with _ z; exact z.symm
    subst this
    obtain ⟨p, hpi, hl, rk, rv⟩ := kv_at hp hi
    refine wpAny_pyNext_values_item_raw st raw hl fun h' st' sb => ?_
    have I' : Inv X pins σ H { s with heap := h' } := I.turned (t' := s.toks) (fun b ob hb e => (sb.2 b hb).trans e) f0 f1 f3 f4 f5
    obtain ⟨q, e, c, z⟩ := id st'
    exact ⟨_, rfl, go_of (s := { s with heap := h' }) e c z (by decide) ⟨p.2, H, I', rv, ⟨rfl, p, hpi, rfl⟩, st', fun b hb => (hf b hb).1⟩⟩
  done := by
    intro X hP hw hK hc i pins s σ H E I hf st ⟨hd, hi⟩
    subst hP hw hK
    obtain ⟨f0, f1, f2, f3, f4, f5⟩ := hf it (List.mem_singleton.mpr rfl)
    obtain ⟨ep', h1, raw, _⟩ := frz_raw I hd
    have : ep' = ep := by rw [hod] at h1; injection h1 with _ z; exact z.symm
    subst this
    have hl : ps.length = es.length := Paired.length hp
    exact wpAny_pyNext_values_end_raw (I.ok.hd hc) st raw (by simp; omega) fun h' eb => ⟨rfl, I.turned (t' := s.toks) (fun b ob hb e => eb b ob hb e) f0 f1 f3 f4 f5⟩
  self := fun A i s Q E st h => wpAny_pyIter_valiter st h
theorem turn_di {elts : List Expr} {kk : Nat} {tpos : Pos} (it : Addr) (hp : KVs ps es) (hod : o.data = .dict es.toArray ep) : Turn P w K (.Tuple elts kk tpos) (ItDi d o es ps) [it] it (fun i h => ∃ a b, IsItemIter h it d i es.toArray.size ep a b) where
  mem := List.mem_singleton.mpr rfl
  obj := fun i h st b hb => by
    rw [List.mem_singleton.mp hb]
    obtain ⟨q, r, e⟩ := st
    exact ⟨_, e, fun v y => nomatch y⟩
  keep := fun i h h' st k => let ⟨q, r, e⟩ := st; ⟨q, r, k it (List.mem_singleton.mpr rfl) _ e⟩
  item := by
    intro X hP hw hK hc i pins s σ H E I hf st ⟨hd, hi⟩
    subst hP hw hK
    obtain ⟨ep', h1, raw, _⟩ := frz_raw I hd
    have : ep' = ep := by rw [hod] at h1; injection h1 with _ z; exact z.symm
    subst this
    obtain ⟨p, hpi, hl, rk, rv⟩ := kv_at hp hi
    obtain ⟨ak, av, he⟩ := st
    have ilt : it < s.heap.objs.size := Heap.lt_size he
    refine wpAny_pyNext_items_item_raw he raw hl fun h' ho hT hz hk => ?_
    refine ⟨_, rfl, wpAny_letOwnedTupleGo_items (s := { s with heap := h' }) ho fun h'' he' sb => ?_⟩
    generalize (es.toArray[i]'hl).key = ku at *
    generalize (es.toArray[i]'hl).val = vu at *
    have hT' : h''.get? s.heap.objs.size = some { cls := .type "tuple", data := .seq #[ku, vu] } := (sb.2 _ (Nat.ne_of_gt ilt)).trans hT
    have new : ObjOk X.prog X.w (upd H s.heap.objs.size (.tup [p.1, p.2])) h'' s.heap.objs.size (.tup [p.1, p.2]) := ⟨by show 2 ≤ sizeLine; decide, [ku, vu], .cons rk (.cons rv .nil), ⟨_, hT', rfl, _, rfl⟩⟩
    have I' : Inv X pins σ (upd H s.heap.objs.size (.tup [p.1, p.2])) { s with heap := h'' } :=
      I.turnedNew (t' := s.toks) (ch := [it]) (fun b ob hb e => (sb.2 b (fun z => hb (List.mem_singleton.mpr z))).trans (hk b ob (fun z => hb (List.mem_singleton.mpr z)) e)) hf (Nat.le_refl _) new
    refine ⟨.ref s.heap.objs.size, _, I', rfl, ⟨_, p, hpi, rfl, I.hok.fresh (Nat.le_refl _), rfl⟩, ⟨ku, vu, he'⟩, fun b hb => ?_⟩
    rw [List.mem_singleton.mp hb, upd_ne (Nat.ne_of_lt ilt)]
    exact (hf it (List.mem_singleton.mpr rfl)).1
  done := by
    intro X hP hw hK hc i pins s σ H E I hf st ⟨hd, hi⟩
    subst hP hw hK
    obtain ⟨f0, f1, f2, f3, f4, f5⟩ := hf it (List.mem_singleton.mpr rfl)
    obtain ⟨ep', h1, raw, _⟩ := frz_raw I hd
    have : ep' = ep := by rw [hod] at h1; injection h1 with _ z; exact z.symm
    subst this
    have hl : ps.length = es.length := Paired.length hp
    obtain ⟨ak, av, he⟩ := st
    exact wpAny_pyNext_items_end_raw (I.ok.hd hc) he raw (by simp; omega) fun h' eb => ⟨rfl, I.turned (t' := s.toks) (fun b ob hb e => eb b ob hb e) f0 f1 f3 f4 f5⟩
  self := fun A i s Q E st h => let ⟨_, _, e⟩ := st; PySem.W.kcp_self e h
end
section
variable {X : Cx} {tg e : Expr} {td : TE} {apos cpos : Pos}
theorem pi_dk (he : PE X e td) : PI X tg e (fun σ H R => td σ H fun x H1 => ∃ d o es ps, x = .ref d ∧ H1 d = some (.frz o (dO d es)) ∧ KVs ps es ∧ (d == sysModules) = false ∧ R (ItDk d o es ps) H1) := by
  refine ⟨fun pins s σ H R I h => ?_⟩
  refine thn (he.run pins s σ H _ I h) fun u s1 ⟨x, H1, I1, rx, d, o, es, ps, ex, hd, hp, sm, q⟩ => ?_
  subst ex
  obtain rfl : u = Value.ref d := rx
  obtain ⟨ep, h1, raw, _⟩ := frz_raw I1 hd
  exact wpAny_pyIter_dict_raw sm raw (pi_one (tk := s1.toks) I1 _ (turn_dk _ hp h1) ⟨_, Heap.get?_push_size _ rfl, rfl, rfl⟩ q)
theorem pi_dv (he : PE X e td) (hbase : attributeBase e "values" X.env (eval e X.env) = eval e X.env := by rfl) (hline : (apos.endLine == cpos.line) = true := by rfl) :
    PI X tg (.Call (.Attribute e "values" apos) [] [] cpos) (fun σ H R => td σ H fun x H1 => ∃ d o es ps, x = .ref d ∧ H1 d = some (.frz o (dO d es)) ∧ KVs ps es ∧ (d == sysModules) = false ∧ R (ItDv d o es ps) H1) := by
  refine ⟨fun pins s σ H R I h => ?_⟩
  refine wpAny_Call_method (T := "dict") (id := "dict.values") hbase rfl hline F.plainAttrs_dict F.slot_dict_values F.type_dict_values (thn (he.run pins s σ H _ I h) fun u s1 ⟨x, H1, I1, rx, d, o, es, ps, ex, hd, hp, sm, q⟩ => ?_)
  subst ex
  obtain rfl : u = Value.ref d := rx
  obtain ⟨ep, h1, raw, _⟩ := frz_raw I1 hd
  refine ⟨raw.typeIs, fun b z => ?_, ?_⟩
  · cases z; obtain ⟨q, g1, g2, _⟩ := raw; exact ⟨q, g1, g2.2.1⟩
  have I2 : Inv X pins σ H1 { s1 with heap := s1.heap.push { cls := .type "dict_values", data := .fields #[.ref d] } } := I1.kept (t' := s1.toks) fun b ob z => Heap.get?_push_of_some _ z
  have fin : wpAny (model X.prog X.w) X.A (pyIter (.ref s1.heap.objs.size)) (PIE X pins σ tg R) X.xe { s1 with heap := s1.heap.push { cls := .type "dict_values", data := .fields #[.ref d] } } :=
    wpAny_pyIter_values_raw (d := d) ⟨_, Heap.get?_push_size _ rfl, rfl, rfl⟩ (raw.push _) (pi_one (tk := s1.toks) I2 _ (turn_dv _ hp h1) ⟨_, Heap.get?_push_size _ rfl, rfl, rfl⟩ q)
  show wpAny _ _ (callWith cpos (.builtin "dict.values") [.ref d] [] []) _ X.xe s1
  exact method_meetsIn F.slot_dict_values F.entry_dict_values rfl (PySem.evalArgs_none ⟨rfl, raw.typeIs, F.args_dict_values_1 _, _, meets_dict_values_raw d sm, ⟨_, _, raw⟩, fin⟩)
theorem pi_di {elts : List Expr} {kk : Nat} {tpos : Pos} (he : PE X e td) (hbase : attributeBase e "items" X.env (eval e X.env) = eval e X.env := by rfl) (hline : (apos.endLine == cpos.line) = true := by rfl) :
    PI X (.Tuple elts kk tpos) (.Call (.Attribute e "items" apos) [] [] cpos) (fun σ H R => td σ H fun x H1 => ∃ d o es ps, x = .ref d ∧ H1 d = some (.frz o (dO d es)) ∧ KVs ps es ∧ (d == sysModules) = false ∧ R (ItDi d o es ps) H1) := by
  refine ⟨fun pins s σ H R I h => ?_⟩
  refine wpAny_Call_method (T := "dict") (id := "dict.items") hbase rfl hline F.plainAttrs_dict F.slot_dict_items F.type_dict_items (thn (he.run pins s σ H _ I h) fun u s1 ⟨x, H1, I1, rx, d, o, es, ps, ex, hd, hp, sm, q⟩ => ?_)
  subst ex
  obtain rfl : u = Value.ref d := rx
  obtain ⟨ep, h1, raw, _⟩ := frz_raw I1 hd
  refine ⟨raw.typeIs, fun b z => ?_, ?_⟩
  · cases z; obtain ⟨q, g1, g2, _⟩ := raw; exact ⟨q, g1, g2.2.1⟩
  have I2 : Inv X pins σ H1 { s1 with heap := s1.heap.push { cls := .type "dict_items", data := .fields #[.ref d] } } := I1.kept (t' := s1.toks) fun b ob z => Heap.get?_push_of_some _ z
  have fin : wpAny (model X.prog X.w) X.A (pyIter (.ref s1.heap.objs.size)) (PIE X pins σ (.Tuple elts kk tpos) R) X.xe { s1 with heap := s1.heap.push { cls := .type "dict_items", data := .fields #[.ref d] } } :=
    wpAny_pyIter_items_raw (d := d) ⟨_, Heap.get?_push_size _ rfl, rfl, rfl⟩ (raw.push _) (pi_one (tk := s1.toks) I2 _ (turn_di _ hp h1) ⟨.none, .none, Heap.get?_push_size _ rfl⟩ q)
  show wpAny _ _ (callWith cpos (.builtin "dict.items") [.ref d] [] []) _ X.xe s1
  exact method_meetsIn F.slot_dict_items F.entry_dict_items rfl (PySem.evalArgs_none ⟨rfl, raw.typeIs, F.args_dict_items_1 _, _, meets_dict_items_raw d sm, ⟨_, _, raw⟩, fin⟩)
end
/-! over data -/
section
variable {K : PySem.W.Frag} {H : Hp}
theorem dict_tup {kvs : List (D × D)} {v : V} (p : Rp K H (.dict kvs) v) (ht : tupKeys kvs = true) : ∃ a o es ps, v = .ref a ∧ H a = some (.frz o (dO a es)) ∧ KVs ps es ∧ (a == sysModules) = false ∧ RpL K H (kvs.map (·.1)) (ps.map (·.1)) ∧ RpL K H (kvs.map (·.2)) (ps.map (·.2)) := by
  generalize e : PyData.dict kvs = d at p
  cases p with
  | dct h l n m =>
    cases e
    obtain ⟨ps, h1, h2, h3⟩ := l.kvs
    exact ⟨_, _, _, ps, rfl, h, h1, m, h2, h3⟩
  | hdl a => cases e; cases ht
  | dck h e1 l n =>
    cases e
    cases kvs with
    | nil => exact absurd rfl n
    | cons p kvs =>
      rename_i us
      cases us with
      | nil => cases e1
      | cons u us =>
        rw [List.map_cons, List.map_cons] at e1
        injection e1 with e1 _
        unfold tupKeys at ht
        rw [List.all_cons, e1] at ht
        cases h : u.1 with
        | inl i => rw [h] at ht; simp [keyDt] at ht
        | inr x => rw [h] at ht; simp [keyDt] at ht
  | _ => cases e
theorem rpl_fst {kvs : List (D × D)} {ps : List (V × V)} (l : RpL K H (kvs.map (·.1)) (ps.map (·.1))) {i : Nat} {p : V × V} (h : ps[i]? = some p) : ∃ q, kvs[i]? = some q ∧ Rp K H q.1 p.1 := by
  obtain ⟨d, h1, h2⟩ := l.getV (i := i) (v := p.1) (by rw [List.getElem?_map, h]; rfl)
  rw [List.getElem?_map] at h1
  obtain ⟨q, h3, rfl⟩ := Option.map_eq_some_iff.mp h1
  exact ⟨q, h3, h2⟩
theorem rpl_snd {kvs : List (D × D)} {ps : List (V × V)} (l : RpL K H (kvs.map (·.2)) (ps.map (·.2))) {i : Nat} {p : V × V} (h : ps[i]? = some p) : ∃ q, kvs[i]? = some q ∧ Rp K H q.2 p.2 := by
  obtain ⟨d, h1, h2⟩ := l.getV (i := i) (v := p.2) (by rw [List.getElem?_map, h]; rfl)
  rw [List.getElem?_map] at h1
  obtain ⟨q, h3, rfl⟩ := Option.map_eq_some_iff.mp h1
  exact ⟨q, h3, h2⟩
def pairD (p : D × D) : D := .tuple [p.1, p.2]
variable {d : Addr} {o : Obj} {es : List DictEntry} {ps : List (V × V)} {kvs : List (D × D)}
theorem walk_dk (h : H d = some (.frz o (dO d es))) (l1 : RpL K H (kvs.map (·.1)) (ps.map (·.1))) : WalkD false K (ItDk d o es ps) H (kvs.map (·.1)) where
  goes := fun i H' x hi => ⟨x.frz _ _ _ h, by have := l1.length; simp at this hi; omega⟩
  yld := fun i H' v H2 x hi hy => by
    obtain ⟨rfl, p, hp, rfl⟩ := hy
    obtain ⟨q, h1, h2⟩ := rpl_fst l1 hp
    exact ⟨PExt.refl _, q.1, by rw [List.getElem?_map, h1]; rfl, h2.ext x⟩
  stops := fun H' x => ⟨x.frz _ _ _ h, by have := l1.length; simp at this ⊢; omega⟩
theorem walk_dv (h : H d = some (.frz o (dO d es))) (l2 : RpL K H (kvs.map (·.2)) (ps.map (·.2))) : WalkD false K (ItDv d o es ps) H (kvs.map (·.2)) where
  goes := fun i H' x hi => ⟨x.frz _ _ _ h, by have := l2.length; simp at this hi; omega⟩
  yld := fun i H' v H2 x hi hy => by
    obtain ⟨rfl, p, hp, rfl⟩ := hy
    obtain ⟨q, h1, h2⟩ := rpl_snd l2 hp
    exact ⟨PExt.refl _, q.2, by rw [List.getElem?_map, h1]; rfl, h2.ext x⟩
  stops := fun H' x => ⟨x.frz _ _ _ h, by have := l2.length; simp at this ⊢; omega⟩
theorem walk_di (h : H d = some (.frz o (dO d es))) (l1 : RpL K H (kvs.map (·.1)) (ps.map (·.1))) (l2 : RpL K H (kvs.map (·.2)) (ps.map (·.2))) : WalkD true K (ItDi d o es ps) H (kvs.map pairD) where
  goes := fun i H' x hi => ⟨x.frz _ _ _ h, by have := l1.length; simp at this hi; omega⟩
  yld := fun i H' v H2 x hi hy => by
    obtain ⟨T, p, hp, rfl, hT, rfl⟩ := hy
    obtain ⟨q, h1, h2⟩ := rpl_fst l1 hp
    obtain ⟨q', h1', h2'⟩ := rpl_snd l2 hp
    rw [h1] at h1'; cases h1'
    refine ⟨PExt.new hT, pairD q, by rw [List.getElem?_map, h1]; rfl, ?_⟩
    have x2 := x.trans (PExt.new (o := .tup [p.1, p.2]) hT).ext
    exact .pair (.inl (.inl upd_same)) (.cons (h2.ext x2) (.cons (h2'.ext x2) .nil))
  stops := fun H' x => ⟨x.frz _ _ _ h, by have := l1.length; simp at this ⊢; omega⟩
end
section
variable {X : Cx} {G : Gh} {tg e : Expr} {ta : TD} {apos cpos : Pos}
def iDk (ta : TD) : TDs := fun E Q => ta E fun x E1 => match x with
  | .dict kvs => tupKeys kvs = true ∧ Q (kvs.map (·.1)) E1
  | _ => False
def iDv (ta : TD) : TDs := fun E Q => ta E fun x E1 => match x with
  | .dict kvs => tupKeys kvs = true ∧ Q (kvs.map (·.2)) E1
  | _ => False
def iDi (ta : TD) : TDs := fun E Q => ta E fun x E1 => match x with
  | .dict kvs => tupKeys kvs = true ∧ Q (kvs.map pairD) E1
  | _ => False
theorem id_dk (h : ED X G e ta) : ID X G false tg e (iDk ta) :=
  ⟨PI.weak (pi_dk h.pe) fun σ H R ⟨E, QE, r, q, k⟩ => ⟨E, _, r, q, fun x E1 v H1 q1 x1 r1 p1 => by
    split at q1
    · obtain ⟨a, o, es, ps, rfl, h1, h2, h3, l1, l2⟩ := dict_tup p1 q1.1
      exact ⟨a, o, es, ps, rfl, h1, h2, h3, k _ _ _ _ q1.2 x1 r1 (walk_dk h1 l1)⟩
    · exact q1.elim⟩⟩
theorem id_dv (h : ED X G e ta) (hbase : attributeBase e "values" X.env (eval e X.env) = eval e X.env := by rfl) (hline : (apos.endLine == cpos.line) = true := by rfl) : ID X G false tg (.Call (.Attribute e "values" apos) [] [] cpos) (iDv ta) :=
  ⟨PI.weak (pi_dv h.pe hbase hline) fun σ H R ⟨E, QE, r, q, k⟩ => ⟨E, _, r, q, fun x E1 v H1 q1 x1 r1 p1 => by
    split at q1
    · obtain ⟨a, o, es, ps, rfl, h1, h2, h3, l1, l2⟩ := dict_tup p1 q1.1
      exact ⟨a, o, es, ps, rfl, h1, h2, h3, k _ _ _ _ q1.2 x1 r1 (walk_dv h1 l2)⟩
    · exact q1.elim⟩⟩
theorem id_di {elts : List Expr} {kk : Nat} {tpos : Pos} (h : ED X G e ta) (hbase : attributeBase e "items" X.env (eval e X.env) = eval e X.env := by rfl) (hline : (apos.endLine == cpos.line) = true := by rfl) : ID X G true (.Tuple elts kk tpos) (.Call (.Attribute e "items" apos) [] [] cpos) (iDi ta) :=
  ⟨PI.weak (pi_di h.pe hbase hline) fun σ H R ⟨E, QE, r, q, k⟩ => ⟨E, _, r, q, fun x E1 v H1 q1 x1 r1 p1 => by
    split at q1
    · obtain ⟨a, o, es, ps, rfl, h1, h2, h3, l1, l2⟩ := dict_tup p1 q1.1
      exact ⟨a, o, es, ps, rfl, h1, h2, h3, k _ _ _ _ q1.2 x1 r1 (walk_di h1 l1 l2)⟩
    · exact q1.elim⟩⟩
end
end DL

set_option Elab.async false
set_option linter.all false
set_option maxRecDepth 100000
set_option maxHeartbeats 1000000
/-! DL37: list(d), list(d.values()), if d, {k: v} of dicts with tuple keys; new mutable things frozen. -/
namespace DL
open PySem PySem.Spec PyProof.Rows L2
theorem RelX.putS {K : PySem.W.Frag} {G : Gh} {H : Hp} {E : Env} {σ : St} {a : Addr} {u u' : HO} (r : RelX K G [a] H E σ) (h0 : G.H0 a = none) (na : a ∉ G.addrs) (ha : H a = some u) (s1 : ∀ xs, u ≠ .tup xs) (s2 : ∀ o v, u ≠ .frz o v) : RelX K G [a] (upd H a u') E σ := by
  have x : Ext H (upd H a u') := Ext.putS ha s1 s2
  obtain ⟨l, k, pn, dm, x0, A, h1, h2, h3⟩ := r
  refine ⟨l, fun q w he ne => ?_, pn, fun q hq => ?_, x0.trans x, A, h1, h2, fun i s e => (h3 i s e).move x fun p hp => upd_ne (by rintro rfl; exact (h2 i p hp).2 (List.mem_singleton.mpr rfl))⟩
  · rw [upd_ne (by rintro rfl; rw [h0] at he; cases he)]; exact k q w he ne
  · rw [upd_ne (by rintro rfl; exact na hq)]; exact dm q hq
def vwO (p d : Addr) : HO := .ext fun h => h.IsValuesView p d
section
variable {X : Cx} {G : Gh} {e k v : Expr} {td tk tv : TE} {apos cpos pos : Pos}
theorem items_vals {P : Nat → Value → Prop} {acc : Array Value} {us : List V} (h : ItemsOf P acc us.length) (hp : ∀ i u w, us[i]? = some u → P i w → RelV u w) : Vals us acc.toList := by
  refine vals_of_at (by rw [Array.length_toList]; exact h.1.symm) fun j x u h1 h2 => hp j x u h1 (h.2 j u (by rw [← Array.getElem?_toList]; exact h2))
theorem call_list_dk (hc : X.calm = true) : CallR X (.type "list") (fun xs H Q => ∃ d o es ps, xs = [V.ref d] ∧ H d = some (.frz o (dO d es)) ∧ KVs ps es ∧ (d == sysModules) = false ∧ ps.length ≤ sizeLine ∧ ∀ p, H p = none → Q (.ref p) (upd H p (.lst (ps.map (·.1))))) := by
  intro pins s σ H xs us Q I r h
  obtain ⟨d, o, es, ps, rfl, hd, hp, sm, z, q⟩ := h
  rw [Vals.ref1 r]
  obtain ⟨ep, h1, raw, _⟩ := frz_raw I hd
  have hl : ps.length = es.length := Paired.length hp
  refine PySem.W.kdl_call (KdlSrc.rawDict (ep := ep) sm) (I.ok.hd hc) raw (by simpa [← hl] using z) fun h' tk acc c hk hS hacc => ?_
  refine ⟨.ref s.heap.objs.size, upd H s.heap.objs.size (.lst (ps.map (·.1))), I.laid hk (Nat.le_refl _) (show ObjOk X.prog X.w _ _ _ (.lst (ps.map (·.1))) from ⟨by rw [List.length_map]; exact z, acc.toList, c, ?_, by rw [Array.toArray_toList]; exact hS⟩), rfl, q _ (I.hok.fresh (Nat.le_refl _))⟩
  have hacc' : ItemsOf (fun i v => ∃ hi : i < es.toArray.size, v = es.toArray[i].key) acc (ps.map (·.1)).length := by rw [List.length_map, hl]; simpa using hacc
  refine items_vals hacc' fun i u w hu hw => ?_
  rw [List.getElem?_map] at hu
  obtain ⟨p, hpi, rfl⟩ := Option.map_eq_some_iff.mp hu
  obtain ⟨p', hp', hh, rk, rv⟩ := kv_at hp (List.getElem?_eq_some_iff.mp hpi).1
  rw [hpi] at hp'; cases hp'
  obtain ⟨hi, rfl⟩ := hw
  exact rk
theorem pe_valuesV (he : PE X e td) (hbase : attributeBase e "values" X.env (eval e X.env) = eval e X.env := by rfl) (hline : (apos.endLine == cpos.line) = true := by rfl) :
    PE X (.Call (.Attribute e "values" apos) [] [] cpos) (fun σ H Q => td σ H fun x H1 => ∃ d o es, x = .ref d ∧ H1 d = some (.frz o (dO d es)) ∧ (d == sysModules) = false ∧ ∀ p, H1 p = none → Q (.ref p) (upd H1 p (vwO p d))) := by
  refine ⟨fun pins s σ H Q I h => ?_⟩
  refine wpAny_Call_method (T := "dict") (id := "dict.values") hbase rfl hline F.plainAttrs_dict F.slot_dict_values F.type_dict_values (thn (he.run pins s σ H _ I h) fun u s1 ⟨x, H1, I1, rx, d, o, es, ex, hd, sm, q⟩ => ?_)
  subst ex
  obtain rfl : u = Value.ref d := rx
  obtain ⟨ep, h1, raw, _⟩ := frz_raw I1 hd
  refine ⟨raw.typeIs, fun b z => ?_, ?_⟩
  · cases z; obtain ⟨q, g1, g2, _⟩ := raw; exact ⟨q, g1, g2.2.1⟩
  show wpAny _ _ (callWith cpos (.builtin "dict.values") [.ref d] [] []) _ X.xe s1
  refine method_meetsIn F.slot_dict_values F.entry_dict_values rfl (PySem.evalArgs_none ⟨rfl, raw.typeIs, F.args_dict_values_1 _, _, meets_dict_values_raw d sm, ⟨_, _, raw⟩, ?_⟩)
  exact ⟨.ref s1.heap.objs.size, _, I1.laid (a := s1.heap.objs.size) (o := vwO s1.heap.objs.size d) (t' := s1.toks) (fun b ob z => Heap.get?_push_of_some _ z) (Nat.le_refl _) ⟨⟨_, Heap.get?_push_size _ rfl, rfl, rfl⟩, ⟨_, Heap.get?_push_size _ rfl⟩, fun g1 g2 ⟨ob, y1, y2⟩ kk => ⟨ob, kk ob y1, y2⟩⟩, rfl, q _ (I1.hok.fresh (Nat.le_refl _))⟩
theorem call_list_dv (hc : X.calm = true) : CallR X (.type "list") (fun xs H Q => ∃ r d o es ps, xs = [V.ref r] ∧ H r = some (vwO r d) ∧ H d = some (.frz o (dO d es)) ∧ KVs ps es ∧ (d == sysModules) = false ∧ ps.length ≤ sizeLine ∧ ∀ p, H p = none → Q (.ref p) (upd H p (.lst (ps.map (·.2))))) := by
  intro pins s σ H xs us Q I r h
  obtain ⟨rr, d, o, es, ps, rfl, hr, hd, hp, sm, z, q⟩ := h
  rw [Vals.ref1 r]
  obtain ⟨ep, h1, raw, _⟩ := frz_raw I hd
  have vw : s.heap.IsValuesView rr d := (I.hok rr _ hr).1
  have hl : ps.length = es.length := Paired.length hp
  refine PySem.W.kdl_call (KdlSrc.rawValues (ep := ep)) (I.ok.hd hc) ⟨vw, raw⟩ (by simpa [← hl] using z) fun h' tk acc c hk hS hacc => ?_
  refine ⟨.ref s.heap.objs.size, upd H s.heap.objs.size (.lst (ps.map (·.2))), I.laid hk (Nat.le_refl _) (show ObjOk X.prog X.w _ _ _ (.lst (ps.map (·.2))) from ⟨by rw [List.length_map]; exact z, acc.toList, c, ?_, by rw [Array.toArray_toList]; exact hS⟩), rfl, q _ (I.hok.fresh (Nat.le_refl _))⟩
  have hacc' : ItemsOf (fun i v => ∃ hi : i < es.toArray.size, v = es.toArray[i].val) acc (ps.map (·.2)).length := by rw [List.length_map, hl]; simpa using hacc
  refine items_vals hacc' fun i u w hu hw => ?_
  rw [List.getElem?_map] at hu
  obtain ⟨p, hpi, rfl⟩ := Option.map_eq_some_iff.mp hu
  obtain ⟨p', hp', hh, rk, rv⟩ := kv_at hp (List.getElem?_eq_some_iff.mp hpi).1
  rw [hpi] at hp'; cases hp'
  obtain ⟨hi, rfl⟩ := hw
  exact rv
/-! ### {k: v} -/
theorem pe_disp1N (hu : X.A.units + 65 < cLine) (hk : PE X k tk) (hv : PE X v tv) : PE X (.Dict [some k] [v] pos)
    (fun σ H Q => ∀ p, H p = none → (p == sysModules) = false → tk σ (upd H p (dO p [])) fun y H1 => tv σ H1 fun z H2 => ∃ kd d, keyB kd = true ∧ Rp X.K H2 kd y ∧ Rp X.K H2 d z ∧ H2 p = some (dO p []) ∧ ∀ es, RpD X.K (upd H2 p (dO p es)) [(kd, d)] es → Q (.ref p) (upd H2 p (dO p es))) := by
  refine ⟨fun pins s σ H Q I h => ?_⟩
  have hsm : (s.heap.objs.size == sysModules) = false := beq_eq_false_iff_ne.mpr (Ne.symm (Nat.ne_of_lt I.big))
  have hn := I.hok.fresh (Nat.le_refl s.heap.objs.size)
  have I1 : Inv X pins σ (upd H s.heap.objs.size (dO s.heap.objs.size [])) { s with heap := s.heap.push { cls := .type "dict", data := .dict #[] } } :=
    I.laid (a := s.heap.objs.size) (o := dO s.heap.objs.size []) (t' := s.toks) (fun _ _ q => Heap.get?_push_of_some _ q) (Nat.le_refl _) ⟨⟨_, 0, Heap.get?_push_size _ rfl, ⟨rfl, rfl, rfl⟩, rfl⟩, ⟨_, Heap.get?_push_size _ rfl⟩, fun h1 h2 ⟨o, ep, g1, g2, g3⟩ kk => ⟨o, ep, kk o g1, g2, g3⟩⟩
  rw [arm_eval_Dict, zip_pairTrees [some k] [v] X.env pos rfl rfl, dictDisplay_pairs _ (by simp [pairTrees]) (by simp [pairTrees])]
  refine wpAny_bind (wpAny_standAt (wpAny_bind (wpAny_subDictH (knd := nestedKind X.prog X.w) (show X.A.units + 8 < cLine by omega) (by simp [pairTrees]) ?_)))
  refine thn ((pps_cons hk hv pps_nil).run pins _ σ _ (fun ps H2 => match ps with
    | [(y, z)] => ∃ kd d, keyB kd = true ∧ Rp X.K H2 kd y ∧ Rp X.K H2 d z ∧ H2 s.heap.objs.size = some (dO s.heap.objs.size []) ∧ ∀ es, RpD X.K (upd H2 s.heap.objs.size (dO s.heap.objs.size es)) [(kd, d)] es → Q (.ref s.heap.objs.size) (upd H2 s.heap.objs.size (dO s.heap.objs.size es))
    | _ => False) I1 (h s.heap.objs.size hn hsm)) fun ws s2 ⟨ps, H2, I2, rel, q⟩ => ?_
  match ps, rel, q with
  | [(y, z)], rel, ⟨kd, d, hkb, rk, rd, hp, q⟩ =>
    cases rel with
    | @cons _ w _ _ r1 r2 =>
      cases r2
      obtain ⟨w1, w2⟩ := w
      obtain ⟨xs, tr, dd, _⟩ := DN.at I2 (⟨[], .inl hp, .nil, List.nodup_nil, hsm⟩ : DN X.K H2 s.heap.objs.size [])
      have hx : xs = [] := by cases tr; rfl
      subst hx
      obtain ⟨nk, b, e1, e2, rfl, eb, ki⟩ := key_is I2 hkb rk r1.1
      have eb : w1 = Value.ref b := eb
      subst eb
      refine ⟨[(nk, b, w2)], ⟨rfl, rfl, ki, trivial⟩, dd, fun h' tk2 dk hs => wpAny_pure ?_⟩
      obtain ⟨o', es', ep', g1, g2, g3, g4, g5, g6⟩ := dk
      have tr' : TR X.K H2 (putN [] kd d) (storedH [] nk b w2) := TR.put (kvs := []) .nil (keyB_ok hkb).1 e1 e2 rk rd r1.2
      have hes : es' = ((storedH [] nk b w2).map (entryOfKey (nestedKind X.prog X.w))).toArray := by
        have g4 : es'.toList = (storedH [] nk b w2).map (entryOfKey (nestedKind X.prog X.w)) := g4
        rw [← g4]
      have x2 : Ext H2 (upd H2 s.heap.objs.size (dO s.heap.objs.size ((storedH [] nk b w2).map (entryOfKey (nestedKind X.prog X.w))))) := Ext.putS hp (fun _ z => by cases z) (fun _ _ z => by cases z)
      refine ⟨.ref s.heap.objs.size, _, d_write I2 (ob := dO s.heap.objs.size ((storedH [] nk b w2).map (entryOfKey (nestedKind X.prog X.w)))) (by rw [hp]; exact True.intro) hs ⟨o', g1⟩ ⟨⟨o', ep', g1, g2, by rw [g3, hes]⟩, ⟨o', g1⟩, fun h1 h2 ⟨o, ep, y1, y2, y3⟩ kk => ⟨o, ep, kk o y1, y2, y3⟩⟩, rfl, q _ ((tr'.rpd).ext x2)⟩
end
/-! ### if d -/
section
variable {prog : Program} {w : World} {A : Around} {E : Value → Shared → Prop} {s : Shared} {d : Addr} {es : Array DictEntry} {ep : Nat}
theorem len_raw {Q : Value → Shared → Prop} (sm : (d == sysModules) = false) (hm : s.heap.DictRaw d es ep) (fit : (es.size : Int) < 2 ^ 63) (h : ∀ t s', s' = { s with toks := s.toks + 1 + 1 } → Q (.int es.size t) s') :
    wpAny (model prog w) A (Builtin.«len» ⟨[.ref d], []⟩) (fun fin s' => ∃ r, fin = .done (.ret r) ∧ Q r s') E s := by
  unfold Builtin.«len»
  refine wpAny_bind (m := oneArg "len" _) (wpAny_pure (wpAny_bind (m := callSpecial? (.ref d) (Str.ofString "__len__")) (wpAny_callSpecial?_slot (name := Str.ofString "__len__") hm.typeIs F.slot_dict_len
    (call_meetsIn F.slot_dict_len hm.typeIs F.entry_dict_len (F.args_dict_len_1 _) (meets_dict_len_raw d sm) ⟨es, ep, hm, ?_⟩))))
  show wpAny _ _ _ _ _ { s with toks := s.toks + 1 }
  refine wpAny_bind (wpAny_holding (wpAny_pure (wpAny_bind (wpAny_letGo ?_))))
  have n1 : ¬ ((es.size : Nat) : Int) < 0 := by omega
  have n2 : ¬ ((es.size : Nat) : Int) ≥ 2 ^ 63 := by omega
  show wpAny _ _ (if ((es.size : Nat) : Int) < 0 then _ else _) _ _ _
  rw [if_neg n1]
  show wpAny _ _ (if ((es.size : Nat) : Int) ≥ 2 ^ 63 then _ else _) _ _ _
  rw [if_neg n2]
  exact wpAny_bind (wpAny_mkInt (wpAny_pure ⟨_, rfl, h _ _ rfl⟩))
theorem truthy_raw {Q : Bool → Shared → Prop} (sm : (d == sysModules) = false) (hm : s.heap.DictRaw d es ep) (fit : (es.size : Int) < 2 ^ 63) (h : Q ((es.size : Int) != 0) { s with toks := s.toks + 1 + 1 }) : wpAny (model prog w) A (truthy (.ref d)) Q E s := by
  have key : wpAny (model prog w) A (runValue (.builtin "len" ⟨[.ref d], []⟩)) (fun r s' => (∃ t, r = .int es.size t) ∧ Q ((es.size : Int) != 0) s') E s := by
    refine wpAny_runValue (codeAny_builtin entry_len ?_)
    rw [Around.under_plainId plain_len _]
    refine wpAny_mono (len_raw (Q := fun r s' => (∃ t, r = .int es.size t) ∧ Q ((es.size : Int) != 0) s') sm hm fit fun t s' e => ⟨⟨t, rfl⟩, e ▸ h⟩) (fun fin s' h' => ?_) fun _ _ e => e
    obtain ⟨r, rfl, hq⟩ := h'
    exact hq
  unfold truthy
  first
    | refine wpAny_bind (wpAny_callSpecial?_none (name := Str.ofString "__bool__") hm.typeIs noBool_dict (wpAny_bind (wpAny_specialOf (name := Str.ofString "__len__") hm.typeIs F.slot_dict_len.lookup ?_)))
    | refine wpAny_bind (wpAny_pure (wpAny_bind (wpAny_callSpecial?_none (name := Str.ofString "__bool__") hm.typeIs noBool_dict (wpAny_bind (wpAny_specialOf (name := Str.ofString "__len__") hm.typeIs F.slot_dict_len.lookup ?_)))))
  exact wpAny_bind (wpAny_mono key (fun r s' h' => by obtain ⟨⟨t, rfl⟩, hq⟩ := h'; exact wpAny_pure hq) fun _ _ e => e)
end
section
variable {X : Cx} {G : Gh} {e : Expr} {ta : TD} {p p1 p2 apos cpos pos : Pos}
theorem tru_dk : TruR X (fun x H Q => ∃ d o es, x = .ref d ∧ H d = some (.frz o (dO d es)) ∧ (d == sysModules) = false ∧ es.length ≤ sizeLine ∧ Q (!es.isEmpty) H) := by
  intro pins s σ H x u Q I r h
  obtain ⟨d, o, es, rfl, hd, sm, hz, q⟩ := h
  obtain rfl : u = Value.ref d := r
  obtain ⟨ep, h1, raw, _⟩ := frz_raw I hd
  refine truthy_raw sm raw (by rw [sizeLine_eq] at hz; simp; omega) ⟨H, I.tok _, ?_⟩
  have : ((es.toArray.size : Int) != 0) = !es.isEmpty := by cases es <;> simp <;> omega
  rw [this]; exact q
def tTruDk (ta : TD) : TTd := fun E Q => ta E fun x E1 => match x with
  | .dict kvs => tupKeys kvs = true ∧ kvs.length ≤ sizeLine ∧ Q (!kvs.isEmpty) E1
  | _ => False
theorem eb_truDk (h : ED X G e ta) (he : ∀ whole, isTrue e X.env whole = (do let v ← whole; standAt e.pos; holding [v] (truthy v)) := by intro _; rfl) : EB X G e (tTruDk ta) :=
  ⟨PT.weak (pt_truthR h.pe tru_dk he) fun σ H Q ⟨E, QE, r, q, k⟩ => ⟨E, _, r, q, fun x E1 v H1 q1 x1 r1 p1 => by
    split at q1
    · rename_i kvs
      obtain ⟨a, o, es, ps, rfl, h1, h2, h3, l1, l2⟩ := dict_tup p1 q1.1
      have hl : ps.length = es.length := Paired.length h2
      have hl2 : kvs.length = ps.length := by have := l1.length; simpa using this
      refine ⟨a, o, es, rfl, h1, h3, by omega, ?_⟩
      have : es.isEmpty = kvs.isEmpty := by cases es <;> cases kvs <;> simp_all
      rw [this]
      exact k _ _ _ q1.2.2 x1 r1
    · exact q1.elim⟩⟩
/-! ### list(d), list(d.values()) -/
def tLDk (ta : TD) : TLd := fun E Q => ta E fun x E1 => match x with
  | .dict kvs => tupKeys kvs = true ∧ kvs.length ≤ sizeLine ∧ Q (kvs.map (·.1)) E1
  | _ => False
def tLDv (ta : TD) : TLd := fun E Q => ta E fun x E1 => match x with
  | .dict kvs => tupKeys kvs = true ∧ kvs.length ≤ sizeLine ∧ Q (kvs.map (·.2)) E1
  | _ => False
theorem el_listDk (h : ED X G e ta) (hg : Gl X "list") (hm : X.mg "list" = none) (hc : X.calm = true := by rfl) (hs : starEach [e] X.env = (false, eval e X.env) :: starEach [] X.env := by rfl) : EL X G (.Call (.Name "list" p) [e] [] pos) (tLDk ta) :=
  ⟨PE.weak (pe_callTy (call_list_dk hc) hg hm bb_list (pa_cons h.pe pa_nil hs) (by decide) (by decide) hs) fun σ H Q ⟨E, QE, r, q, k⟩ => ⟨E, _, r, q, fun x E1 v H1 q1 x1 r1 p1 => by
    split at q1
    · obtain ⟨a, o, es, ps, rfl, h1, h2, h3, l1, l2⟩ := dict_tup p1 q1.1
      refine ⟨a, o, es, ps, rfl, h1, h2, h3, by have := l1.length; simp at this; have := q1.2.1; omega, fun p hp => ?_⟩
      obtain ⟨r2, h0, na⟩ := r1.fresh (o := .lst (ps.map (·.1))) hp
      exact k _ _ _ _ _ q1.2.2 (x1.trans (PExt.new hp).ext) r2 h0 na upd_same (l1.ext (PExt.new hp).ext)
    · exact q1.elim⟩⟩
theorem el_listDv (h : ED X G e ta) (hg : Gl X "list") (hm : X.mg "list" = none) (hc : X.calm = true := by rfl) (hbase : attributeBase e "values" X.env (eval e X.env) = eval e X.env := by rfl) (hline : (apos.endLine == cpos.line) = true := by rfl)
    (hs : starEach [.Call (.Attribute e "values" apos) [] [] cpos] X.env = (false, eval (.Call (.Attribute e "values" apos) [] [] cpos) X.env) :: starEach [] X.env := by rfl) : EL X G (.Call (.Name "list" p) [.Call (.Attribute e "values" apos) [] [] cpos] [] pos) (tLDv ta) :=
  ⟨PE.weak (pe_callTy (call_list_dv hc) hg hm bb_list (pa_cons (pe_valuesV h.pe hbase hline) pa_nil hs) (by decide) (by decide) hs) fun σ H Q ⟨E, QE, r, q, k⟩ => ⟨E, _, r, q, fun x E1 v H1 q1 x1 r1 p1 => by
    split at q1
    · obtain ⟨a, o, es, ps, rfl, h1, h2, h3, l1, l2⟩ := dict_tup p1 q1.1
      refine ⟨a, o, es, rfl, h1, h3, fun p hp => ⟨p, a, o, es, ps, rfl, upd_same, by rw [upd_ne (ne_of_none h1 hp)]; exact h1, h2, h3, by have := l2.length; simp at this; have := q1.2.1; omega, fun p' hp' => ?_⟩⟩
      have x2 : PExt H1 (upd H1 p (vwO p a)) := PExt.new hp
      obtain ⟨r2, h0, na⟩ := (r1.pext x2).fresh (o := .lst (ps.map (·.2))) hp'
      exact k _ _ _ _ _ q1.2.2 (x1.trans (x2.trans (PExt.new hp')).ext) r2 h0 na upd_same (l2.ext (x2.trans (PExt.new hp')).ext)
    · exact q1.elim⟩⟩
/-! ### new mutable things: one entry; frozen -/
def mDt1 (tk tv : TD) : TM := fun E Q => tk E fun k E1 => tv E1 fun d E2 => keyB k = true ∧ Q (.dt [(k, d)]) E2
theorem em_dt1 {k v : Expr} {tk tv : TD} (hu : X.A.units + 65 < cLine) (hk : ∀ G' : Gh, G'.slots = G.slots → ED X G' k tk) (hv : ∀ G' : Gh, G'.slots = G.slots → ED X G' v tv) : EM X G (.Dict [some k] [v] pos) (mDt1 tk tv) := by
  have pk : PE X k (fun σ H Q => ∃ G' : Gh, G'.slots = G.slots ∧ liftE X.K G' tk σ H Q) := ⟨fun pins s σ H Q I ⟨G', hG, q⟩ => (hk G' hG).pe.run pins s σ H Q I q⟩
  have pv : PE X v (fun σ H Q => ∃ G' : Gh, G'.slots = G.slots ∧ liftE X.K G' tv σ H Q) := ⟨fun pins s σ H Q I ⟨G', hG, q⟩ => (hv G' hG).pe.run pins s σ H Q I q⟩
  refine ⟨PE.weak (pe_disp1N hu pk pv) fun σ H Q ⟨E, QE, r, q, kk⟩ p hp sm => ?_⟩
  obtain ⟨r2, h0, na⟩ := r.fresh (o := dO p []) hp
  have x0 : Ext H (upd H p (dO p [])) := (PExt.new hp).ext
  refine ⟨pend G p (dO p []), rfl, E, _, r2.toPend upd_same na, q, fun kd E1 y H1 q1 x1 r1 p1 => ⟨pend G p (dO p []), rfl, E1, _, r1, q1, fun d E2 z H2 q2 x2 r3 p2 => ?_⟩⟩
  obtain ⟨r4, hp2⟩ := RelX.ofPend r3 h0 na
  refine ⟨kd, d, q2.1, p1.ext x2, p2, hp2, fun es l => ?_⟩
  have x3 : Ext H2 (upd H2 p (dO p es)) := Ext.putS hp2 (fun _ z => by cases z) (fun _ _ z => by cases z)
  refine kk _ _ _ _ q2.2 (((x0.trans x1).trans x2).trans x3) (r4.putS (u' := dO p es) h0 na hp2 (fun _ z => by cases z) (fun _ _ z => by cases z)) h0 na ⟨es, upd_same, l, by simp, sm⟩
def tFzM (t : TM) : TD := fun E Q => t E fun s E1 => match s with
  | .dt kvs => Q (.dict kvs) E1
  | .ol xs => Q (.list xs) E1
  | _ => False
theorem EM.ed {t : TM} (h : EM X G e t) : ED X G e (tFzM t) :=
  ⟨PE.weak (PE.fzIf h.pe) fun σ H Q ⟨E, QE, r, q, k⟩ => ⟨E, _, r, q, fun s E1 a H1 q1 x1 r1 h0 na m => by
    split at q1
    · rename_i kvs
      obtain ⟨es, e2, l, nd, sm⟩ := m
      refine .inr ⟨a, _, rfl, e2, trivial, fun o => ?_⟩
      have x2 : Ext H1 (upd H1 a (.frz o (dO a es))) := Ext.putS e2 (fun _ z => by cases z) (fun _ _ z => by cases z)
      exact k _ _ _ _ q1 (x1.trans x2) (r1.freezeS h0 na e2 (fun _ z => by cases z) (fun _ _ z => by cases z)) (.dct upd_same (l.ext x2) nd sm)
    · rename_i xs
      obtain ⟨vs, e2, l⟩ := m
      refine .inr ⟨a, _, rfl, e2, trivial, fun o => ?_⟩
      exact k _ _ _ _ q1 (x1.trans (Ext.put e2)) (r1.freeze h0 na e2) (.lst (.of upd_same) (l.ext (Ext.put e2)))
    · exact q1.elim⟩⟩
end
end DL

set_option Elab.async false
set_option linter.all false
set_option maxRecDepth 100000
set_option maxHeartbeats 1000000
/-! DL38: objects: where they stand in the environment, and how they change. -/
namespace DL
open PySem PySem.Spec PyProof.Rows L2
/-- objects by their footprints -/
abbrev ObsR (K : PySem.W.Frag) (H : Hp) : List S → List (List Addr) → Prop := Paired fun s fp => ∃ a C fs, s = .ob a C fs ∧ RelOb K H a C fs fp
def obsAt (E : Env) : List Nat → Option (List S)
  | [] => some []
  | j :: js => match E[j]?, obsAt E js with
    | some (.ob a C fs), some os => some (.ob a C fs :: os)
    | _, _ => none
def putOb : List Nat → List S → Env → Env
  | j :: js, s :: os, E => putOb js os (E.set j s)
  | _, _, E => E
theorem putOb_len : ∀ (js : List Nat) (os : List S) (E : Env), (putOb js os E).length = E.length
  | [], _, _ => by unfold putOb; rfl
  | _ :: _, [], _ => by unfold putOb; rfl
  | j :: js, s :: os, E => by show (putOb js os (E.set j s)).length = _; rw [putOb_len, List.length_set]
theorem putOb_out {i : Nat} : ∀ (js : List Nat) (os : List S) (E : Env), i ∉ js → (putOb js os E)[i]? = E[i]?
  | [], _, _, _ => by unfold putOb; rfl
  | _ :: _, [], _, _ => by unfold putOb; rfl
  | j :: js, s :: os, E, h => by
    show (putOb js os (E.set j s))[i]? = _
    rw [putOb_out js os _ fun z => h (List.mem_cons_of_mem _ z), List.getElem?_set_ne fun z => h (by rw [z]; exact List.mem_cons_self ..)]
/-- which one stands at a place -/
theorem putOb_in {i : Nat} {s : S} : ∀ (js : List Nat) (os : List S) (E : Env), js.Nodup → js.length = os.length → i ∈ js → (putOb js os E)[i]? = some s → ∃ k : Nat, js[k]? = some i ∧ os[k]? = some s
  | [], _, _, _, _, h, _ => by cases h
  | _ :: _, [], _, _, h, _, _ => by cases h
  | j :: js, t :: os, E, nd, hl, h, e => by
    obtain ⟨n1, n2⟩ := List.nodup_cons.mp nd
    have e : (putOb js os (E.set j t))[i]? = some s := e
    rcases List.mem_cons.mp h with z | z
    · subst z
      rw [putOb_out js os _ n1] at e
      by_cases hi : i < E.length
      · rw [List.getElem?_set_self hi] at e
        exact ⟨0, rfl, e⟩
      · rw [List.getElem?_eq_none (by simpa using hi)] at e; cases e
    · obtain ⟨k, h1, h2⟩ := putOb_in js os (E.set j t) n2 (by simpa using hl) z e
      exact ⟨k + 1, h1, h2⟩
theorem obsAt_get {E : Env} : ∀ {js : List Nat} {os : List S}, obsAt E js = some os → js.length = os.length ∧ ∀ (k j : Nat) (s : S), js[k]? = some j → os[k]? = some s → E[j]? = some s ∧ ∃ a C fs, s = S.ob a C fs
  | [], os, h => by cases h; exact ⟨rfl, fun k j s h => by simp at h⟩
  | j :: js, os, h => by
    unfold obsAt at h
    split at h
    · rename_i a C fs os' h1 h2
      cases h
      obtain ⟨g1, g2⟩ := obsAt_get h2
      refine ⟨by simp [g1], fun k i s h3 h4 => ?_⟩
      cases k with
      | zero =>
        simp at h3 h4
        subst h3 h4
        exact ⟨h1, _, _, _, rfl⟩
      | succ k => exact g2 k i s (by simpa using h3) (by simpa using h4)
    · cases h
theorem paired_at {α β : Type} {F : α → β → Prop} : ∀ {xs : List α} {ys : List β}, Paired F xs ys → ∀ {k : Nat} {x : α}, xs[k]? = some x → ∃ y, ys[k]? = some y ∧ F x y
  | _, _, .nil, k, x, h => by simp at h
  | _, _, .cons r t, 0, x, h => by simp at h; subst h; exact ⟨_, rfl, r⟩
  | _, _, .cons r t, k + 1, x, h => by obtain ⟨y, h1, h2⟩ := paired_at t (k := k) (x := x) (by simpa using h); exact ⟨y, by simpa using h1, h2⟩
theorem RelOb.soft {K : PySem.W.Frag} {H : Hp} {a C : Addr} {fs : List (Str × FS)} {fp : List Addr} (h : RelOb K H a C fs fp) : ∀ p ∈ fp, Soft H p := RelS.indom (s := .ob a C fs) (o := none) h
theorem RelOb.nodup {K : PySem.W.Frag} {H : Hp} {a C : Addr} {fs : List (Str × FS)} {fp : List Addr} (h : RelOb K H a C fs fp) : fp.Nodup := by obtain ⟨_, _, _, _, n, _⟩ := h; exact n
theorem obs_soft {K : PySem.W.Frag} {H : Hp} : ∀ {os : List S} {fps : List (List Addr)}, ObsR K H os fps → ∀ p ∈ fps.flatten, Soft H p
  | _, _, .nil, p, h => by simp at h
  | _, _, .cons r t, p, h => by
    rw [List.flatten_cons] at h
    rcases List.mem_append.mp h with z | z
    · obtain ⟨a, C, fs, _, q⟩ := r; exact q.soft p z
    · exact obs_soft t p z
/-- distinct places lie in distinct footprints -/
theorem flat_one {fps : List (List Addr)} (nd : fps.flatten.Nodup) {i j : Nat} {f g : List Addr} {p : Addr} (hi : fps[i]? = some f) (hj : fps[j]? = some g) (pf : p ∈ f) (pg : p ∈ g) : i = j := by
  induction fps generalizing i j with
  | nil => simp at hi
  | cons x xs ih =>
    rw [List.flatten_cons] at nd
    obtain ⟨n1, n2, n3⟩ := List.nodup_append.mp nd
    cases i with
    | zero =>
      simp at hi; subst hi
      cases j with
      | zero => rfl
      | succ j =>
        have hj : xs[j]? = some g := by simpa using hj
        exact absurd rfl (n3 p pf p (List.mem_flatten.mpr ⟨g, List.mem_of_getElem? hj, pg⟩))
    | succ i =>
      have hi : xs[i]? = some f := by simpa using hi
      cases j with
      | zero =>
        simp at hj; subst hj
        exact absurd rfl (n3 p pg p (List.mem_flatten.mpr ⟨f, List.mem_of_getElem? hi, pf⟩))
      | succ j =>
        have hj : xs[j]? = some g := by simpa using hj
        rw [ih n2 hi hj]
section
variable {K : PySem.W.Frag} {G : Gh} {H : Hp} {E : Env} {σ : St} {ex : List Addr}
/-- THE LENS: some objects, seen and changed -/
theorem RelX.obs (r : RelX K G ex H E σ) {js : List Nat} {os : List S} (nd : js.Nodup) (h : obsAt E js = some os) : ∃ fps : List (List Addr), ObsR K H os fps ∧ fps.flatten.Nodup ∧ (∀ p ∈ fps.flatten, (p ∈ G.addrs ∨ G.H0 p = none) ∧ p ∉ ex) ∧
    ∀ (H' : Hp) (os' : List S) (fps' : List (List Addr)), os'.length = js.length → (∀ p o, H p = some o → p ∉ fps.flatten → H' p = some o) → (∀ p ∈ fps.flatten, H' p ≠ none) → ObsR K H' os' fps' → fps'.flatten.Nodup → (∀ p ∈ fps'.flatten, p ∈ fps.flatten ∨ H p = none ∨ (p ∈ ex ∧ G.H0 p = none)) →
      Ext H H' ∧ RelE K G H' (putOb js os' E) σ := by
  obtain ⟨l, k, pn, dm, x0, A, h1, h2, h3⟩ := r
  obtain ⟨g1, g2⟩ := obsAt_get h
  have mk : ∀ (js : List Nat) (os : List S), obsAt E js = some os → ObsR K H os (js.map A) := by
    intro js
    induction js with
    | nil => intro os h; cases h; exact .nil
    | cons j js ih =>
      intro os h
      unfold obsAt at h
      split at h
      · rename_i a C fs os' e1 e2
        cases h
        exact .cons ⟨a, C, fs, rfl, h3 j _ e1⟩ (ih os' e2)
      · cases h
  have fn : ∀ (js : List Nat) (os : List S), js.Nodup → obsAt E js = some os → (js.map A).flatten.Nodup := by
    intro js
    induction js with
    | nil => intro os _ _; exact List.nodup_nil
    | cons j js ih =>
      intro os nd h
      obtain ⟨n1, n2⟩ := List.nodup_cons.mp nd
      unfold obsAt at h
      split at h
      · rename_i a C fs os' e1 e2
        rw [List.map_cons, List.flatten_cons]
        refine List.nodup_append.mpr ⟨RelOb.nodup (h3 j _ e1), ih os' n2 e2, fun p hp q hq e => ?_⟩
        subst e
        obtain ⟨f, hf, hpf⟩ := List.mem_flatten.mp hq
        obtain ⟨i, hi, rfl⟩ := List.mem_map.mp hf
        exact n1 (by rw [h1 j i p hp hpf]; exact hi)
      · cases h
  have inA : ∀ p, p ∈ (js.map A).flatten → ∃ j ∈ js, p ∈ A j := fun p hp => by
    obtain ⟨f, hf, hpf⟩ := List.mem_flatten.mp hp
    obtain ⟨j, hj, rfl⟩ := List.mem_map.mp hf
    exact ⟨j, hj, hpf⟩
  refine ⟨js.map A, mk js os h, fn js os nd h, fun p hp => ?_, fun H' os' fps' hl keep still ob' nd' fr => ?_⟩
  · obtain ⟨j, hj, hpj⟩ := inA p hp
    exact h2 j p hpj
  have x : Ext H H' := Ext.ofSoft keep (obs_soft (mk js os h))
  have lf : os'.length = fps'.length := Paired.length ob'
  have ix : ∀ {i k : Nat}, js[k]? = some i → js.idxOf i = k := fun {i k} e => by
    have hk := (List.getElem?_eq_some_iff.mp e).1
    have hm : i ∈ js := List.mem_of_getElem? e
    have h5 := List.idxOf_lt_length_of_mem hm
    have h6 : js[js.idxOf i] = i := List.getElem_idxOf h5
    have h7 : js[k] = i := (List.getElem?_eq_some_iff.mp e).2
    rcases Nat.lt_trichotomy (js.idxOf i) k with z | z | z
    · exact absurd (h6.trans h7.symm) (List.pairwise_iff_getElem.mp nd _ _ h5 hk z)
    · exact z
    · exact absurd (h7.trans h6.symm) (List.pairwise_iff_getElem.mp nd _ _ hk h5 z)
  have at' : ∀ {i : Nat} {p : Addr}, i ∈ js → p ∈ fps'.getD (js.idxOf i) [] → ∃ f, fps'[js.idxOf i]? = some f ∧ p ∈ f := fun {i p} _ hp => by
    rw [List.getD_eq_getElem?_getD] at hp
    cases q : fps'[js.idxOf i]? with
    | none => rw [q] at hp; simp at hp
    | some f => rw [q] at hp; exact ⟨f, rfl, hp⟩
  have fl : ∀ {i : Nat} {p : Addr}, i ∈ js → p ∈ fps'.getD (js.idxOf i) [] → p ∈ fps'.flatten := fun hi hp => by
    obtain ⟨f, h5, h6⟩ := at' hi hp
    exact List.mem_flatten.mpr ⟨f, List.mem_of_getElem? h5, h6⟩
  -- no old place outside is met by a new footprint
  have apart : ∀ {i : Nat} {p : Addr}, i ∉ js → E[i]? ≠ none → p ∈ A i → p ∉ fps'.flatten := fun {i p} hi he hp z => by
    cases q : E[i]? with
    | none => exact he q
    | some s =>
      obtain ⟨u, hu, _⟩ := (h3 i s q).indom p hp
      rcases fr p z with w | w | w
      · obtain ⟨j, hj, hpj⟩ := inA p w
        exact hi (by rw [h1 i j p hp hpj]; exact hj)
      · rw [w] at hu; cases hu
      · exact (h2 i p hp).2 w.1
  refine ⟨x, by rw [putOb_len]; exact l, fun p o e ne => ?_, pn, fun a ha => ?_, x0.trans x, fun i => if i ∈ js then fps'.getD (js.idxOf i) [] else if E[i]? = none then [] else A i, fun i j p e1 e2 => ?_, fun i p e => ⟨?_, by simp⟩, fun i s e => ?_⟩
  · refine keep p o (k p o e ne) fun z => ?_
    obtain ⟨j, hj, hpj⟩ := inA p z
    rcases (h2 j p hpj).1 with w | w
    · exact ne w
    · rw [w] at e; cases e
  · by_cases z : a ∈ (js.map A).flatten
    · exact still a z
    · cases q : H a with
      | none => exact absurd q (dm a ha)
      | some o => rw [keep a o q z]; simp
  · dsimp only at e1 e2
    by_cases hi : i ∈ js
    · rw [if_pos hi] at e1
      by_cases hj : j ∈ js
      · rw [if_pos hj] at e2
        obtain ⟨f, f1, f2⟩ := at' hi e1
        obtain ⟨g, f3, f4⟩ := at' hj e2
        have := flat_one nd' f1 f3 f2 f4
        have a1 : js[js.idxOf i]'(List.idxOf_lt_length_of_mem hi) = i := List.getElem_idxOf _
        have a2 : js[js.idxOf j]'(List.idxOf_lt_length_of_mem hj) = j := List.getElem_idxOf _
        rw [← a1, ← a2]
        congr 1
      · rw [if_neg hj] at e2
        by_cases he : E[j]? = none
        · rw [if_pos he] at e2; cases e2
        · rw [if_neg he] at e2; exact absurd (fl hi e1) (apart hj he e2)
    · rw [if_neg hi] at e1
      by_cases he : E[i]? = none
      · rw [if_pos he] at e1; cases e1
      · rw [if_neg he] at e1
        by_cases hj : j ∈ js
        · rw [if_pos hj] at e2; exact absurd (fl hj e2) (apart hi he e1)
        · rw [if_neg hj] at e2
          by_cases he2 : E[j]? = none
          · rw [if_pos he2] at e2; cases e2
          · rw [if_neg he2] at e2; exact h1 i j p e1 e2
  · dsimp only at e
    by_cases hi : i ∈ js
    · rw [if_pos hi] at e
      rcases fr p (fl hi e) with w | w | w
      · obtain ⟨j, hj, hpj⟩ := inA p w
        exact (h2 j p hpj).1
      · cases q : G.H0 p with
        | none => exact .inr rfl
        | some o =>
          by_cases z : p ∈ G.addrs
          · exact .inl z
          · have := k p o q z; rw [w] at this; cases this
      · exact .inr w.2
    · rw [if_neg hi] at e
      by_cases he : E[i]? = none
      · rw [if_pos he] at e; cases e
      · rw [if_neg he] at e; exact (h2 i p e).1
  · by_cases hi : i ∈ js
    · obtain ⟨q, q1, q2⟩ := putOb_in js os' E nd hl.symm hi e
      obtain ⟨f, f1, a, C, fs, rfl, f3⟩ := paired_at ob' q2
      simp only [if_pos hi]
      rw [ix q1, List.getD_eq_getElem?_getD, f1]
      exact f3
    · rw [putOb_out js os' E hi] at e
      have he : E[i]? ≠ none := by rw [e]; simp
      simp only [if_neg hi, if_neg he]
      refine (h3 i s e).move x fun p hp => ?_
      obtain ⟨u, hu, _⟩ := (h3 i s e).indom p hp
      rw [hu]
      refine keep p u hu fun z => ?_
      obtain ⟨j, hj, hpj⟩ := inA p z
      exact hi (by rw [h1 i j p hp hpj]; exact hj)
end
end DL

set_option Elab.async false
set_option linter.all false
set_option maxRecDepth 100000
set_option maxHeartbeats 1000000
/-! DL39: defs and methods over objects: promises, calls. -/
namespace DL
open PySem PySem.Spec PyProof.Rows L2
/-- a promise: arguments (data), objects; what it gives, what it raises -/
abbrev SpO := List D → List S → (D → List S → Prop) → (Value → List S → Prop) → Prop
/-- nothing but these footprints changes -/
structure Ch (H H' : Hp) (ps : List Addr) : Prop where
  keep : ∀ p o, H p = some o → p ∉ ps → H' p = some o
  still : ∀ p ∈ ps, H' p ≠ none
structure ObNew (K : PySem.W.Frag) (H H' : Hp) (fps : List (List Addr)) (os' : List S) (fps' : List (List Addr)) : Prop where
  ch : Ch H H' fps.flatten
  obs : ObsR K H' os' fps'
  nd : fps'.flatten.Nodup
  fr : ∀ p ∈ fps'.flatten, p ∈ fps.flatten ∨ H p = none
def spO (K : PySem.W.Frag) (sp : SpO) : Sp := fun vs H Q E => ∃ (ds : List D) (os : List S) (fps : List (List Addr)) (QD : D → List S → Prop) (QX : Value → List S → Prop), sp ds os QD QX ∧ RpL K H ds vs ∧ ObsR K H os fps ∧ fps.flatten.Nodup ∧
  (∀ d os' fps' v H', QD d os' → ObNew K H H' fps os' fps' → Rp K H' d v → Q v H') ∧ ∀ cls os' fps' H', QX cls os' → ObNew K H H' fps os' fps' → E cls none H'
/-- the objects at the end -/
def finG (js : List Nat) (E : Env) (Q : List S → Prop) : Prop := match obsAt E js with
  | some os => Q os
  | none => False
def ghJs (n g : Nat) : List Nat := (List.range g).map fun i => n - g + i
theorem ghJs_nd (n g : Nat) : (ghJs n g).Nodup := by
  unfold ghJs
  refine List.Pairwise.map _ (fun a b h => ?_) List.nodup_range
  intro z; apply h; omega
section
variable {K : PySem.W.Frag} {H : Hp}
/-- the start of such a def's body -/
theorem startO {ds : List D} {vs : List V} {os : List S} {fps : List (List Addr)} (m : Nat) (l : RpL K H ds vs) (ob : ObsR K H os fps) (nd : fps.flatten.Nodup) :
    RelE K ⟨H, [], fun _ => none, fps.flatten⟩ H (ds.map S.d ++ List.replicate m .un ++ os) (vs.map some ++ List.replicate (m + os.length) none) := by
  have lo : os.length = fps.length := Paired.length ob
  have hl := l.length
  refine ⟨by simp [hl], fun p o h _ => h, (fun i a h => by cases h), fun a h => ?_, ⟨(fun _ _ z => by cases z), (fun _ _ _ z => by cases z)⟩, fun i => if ds.length + m ≤ i then fps.getD (i - (ds.length + m)) [] else [], fun i j a h1 h2 => ?_, fun i a h => ⟨.inl ?_, by simp⟩, fun i s h => ?_⟩
  · have h : a ∈ fps.flatten := by simpa [Gh.addrs] using h
    obtain ⟨u, e, _⟩ := obs_soft ob a h
    show H a ≠ none
    rw [e]; simp
  · dsimp only at h1 h2
    split at h1
    · split at h2
      · rw [List.getD_eq_getElem?_getD] at h1 h2
        cases q1 : fps[i - (ds.length + m)]? with
        | none => rw [q1] at h1; simp at h1
        | some f =>
          cases q2 : fps[j - (ds.length + m)]? with
          | none => rw [q2] at h2; simp at h2
          | some g =>
            rw [q1] at h1; rw [q2] at h2
            have := flat_one nd q1 q2 h1 h2
            omega
      · cases h2
    · cases h1
  · dsimp only at h
    split at h
    · rw [List.getD_eq_getElem?_getD] at h
      cases q1 : fps[i - (ds.length + m)]? with
      | none => rw [q1] at h; simp at h
      | some f =>
        rw [q1] at h
        show a ∈ [] ++ fps.flatten
        exact List.mem_flatten.mpr ⟨f, List.mem_of_getElem? q1, h⟩
    · cases h
  · rcases Nat.lt_or_ge i (ds.length + m) with hi | hi
    · simp only [if_neg (Nat.not_le.mpr hi)]
      rw [List.getElem?_append_left (by simpa using hi)] at h
      rcases Nat.lt_or_ge i ds.length with hd | hd
      · rw [List.getElem?_append_left (by simpa using hd), List.getElem?_map] at h
        obtain ⟨d, h1, rfl⟩ := Option.map_eq_some_iff.mp h
        obtain ⟨v, h2, h3⟩ := l.get h1
        refine ⟨rfl, v, ?_, h3⟩
        rw [List.getElem?_append_left (by simpa [← hl] using hd), List.getElem?_map, h2]; rfl
      · rw [List.getElem?_append_right (by simpa using hd)] at h
        have := List.mem_of_getElem? h
        rw [(List.mem_replicate.mp this).2]; rfl
    · simp only [if_pos hi]
      rw [List.getElem?_append_right (by simpa using hi)] at h
      simp only [List.length_append, List.length_map, List.length_replicate] at h
      obtain ⟨f, f1, a, C, fs, rfl, f3⟩ := paired_at ob h
      rw [List.getD_eq_getElem?_getD, f1]
      exact f3
end
section
variable {P : Program} {w : World} {K : PySem.W.Frag} {mg : Str → Option Value} {base : Heap} {x qual : Str} {st : Stmt} {f : Addr} {fd : FuncData} {N ps : List Str} {k g : Nat} {sp : SpO}
theorem endO {H H' : Hp} {E' : Env} {σ' : St} {fps : List (List Addr)} {js : List Nat} {Q : List S → Prop} (nj : js.Nodup) (r : RelE K ⟨H, [], fun _ => none, fps.flatten⟩ H' E' σ') (q : finG js E' Q) : ∃ os' fps', Q os' ∧ ObNew K H H' fps os' fps' := by
  unfold finG at q
  split at q
  · rename_i os' he
    obtain ⟨fps', h1, h2, h3, _⟩ := r.obs nj he
    refine ⟨os', fps', q, ⟨fun p o e ne => r.keep p o e (by show p ∉ [] ++ fps.flatten; exact ne), fun p hp => r.dom p (by show p ∈ [] ++ fps.flatten; exact hp)⟩, h1, h2, fun p hp => ?_⟩
    rcases (h3 p hp).1 with z | z
    · exact .inl (by have z : p ∈ [] ++ fps.flatten := z; exact z)
    · exact .inr z
  · exact q.elim
/-- THE RULE for a def over objects (g of them) -/
theorem fn_okO {tb : TSd} (F : Fun K x qual st f fd) (Sc : FnScope N ps (defScope st)) (hg : ps.length + g ≤ N.length) (shape : ∀ ds os QD QX, sp ds os QD QX → ds.length = ps.length ∧ os.length = g)
    (body : ∀ (cdv : Value) (A : Around) (outer : List PySem.Env) (s : Shared) (H : Hp) (E : XK), Room k (A.deeper (envOfC qual (defScope st) s.heap.objs.size f cdv)) → ∀ G : Gh, G.slots = [] → SDs (cxOf CX0 P w K mg base N qual (defScope st) f cdv A outer s H E).nox G (defBody st) tb)
    (read : ∀ ds os QD QX, sp ds os QD QX → tb { nx := fun E' => finG (ghJs N.length g) E' (QD .none), rt := fun d E' => finG (ghJs N.length g) E' (QD d) } (ds.map S.d ++ List.replicate (N.length - ps.length - g) .un ++ os)) :
    FnOk P w K mg base CX0 (k + 1) f fd ps (spO K sp) := by
  refine F.ok Sc (fun vs H Q E ⟨ds, os, fps, QD, QX, h1, h2, _⟩ => by rw [← h2.length]; exact (shape _ _ _ _ h1).1) (fun cdv A outer s H vs Q E hr ⟨ds, os, fps, QD, QX, h1, h2, h3, h4, h5, h6⟩ => ?_)
  obtain ⟨hl, hm⟩ := shape _ _ _ _ h1
  refine ⟨_, (body cdv A outer s H E hr ⟨H, [], fun _ => none, fps.flatten⟩ rfl).pss, _, { nx := fun E' => finG (ghJs N.length g) E' (QD .none), rt := fun d E' => finG (ghJs N.length g) E' (QD d) }, ?_, read ds os QD QX h1, fun E' σ' H' q x r => ?_, fun d E' v σ' H' q x r p => ?_, fun _ _ _ q => False.elim q, fun _ _ _ q => False.elim q⟩
  · have := startO (N.length - ps.length - g) h2 h3 h4
    have hst : L2.start N vs = vs.map some ++ List.replicate (N.length - ps.length - g + os.length) none := by
      unfold L2.start; rw [← h2.length, hl, hm]; congr 2; omega
    rw [hst]; exact this
  · obtain ⟨os', fps', q1, q2⟩ := endO (ghJs_nd _ _) r q
    exact h5 .none os' fps' .non H' q1 q2 .non
  · obtain ⟨os', fps', q1, q2⟩ := endO (ghJs_nd _ _) r q
    exact h5 d os' fps' v H' q1 q2 p
/-- .. that may raise -/
theorem fn_okOX {tb : WDt → TSd} (F : Fun K x qual st f fd) (Sc : FnScope N ps (defScope st)) (hg : ps.length + g ≤ N.length) (shape : ∀ ds os QD QX, sp ds os QD QX → ds.length = ps.length ∧ os.length = g)
    (body : ∀ (cdv : Value) (A : Around) (outer : List PySem.Env) (s : Shared) (H : Hp) (E : XK), Room k (A.deeper (envOfC qual (defScope st) s.heap.objs.size f cdv)) → ∀ G : Gh, G.slots = [] → ∀ WD : WDt, Wish K G WD (fun cls d _ H' => E cls d H') →
      SDs (cxOf (L2.CX P w) P w K mg base N qual (defScope st) f cdv A outer s H E) G (defBody st) (tb WD))
    (read : ∀ ds os QD QX, sp ds os QD QX → tb (fun cls E' => finG (ghJs N.length g) E' (QX cls)) { nx := fun E' => finG (ghJs N.length g) E' (QD .none), rt := fun d E' => finG (ghJs N.length g) E' (QD d) } (ds.map S.d ++ List.replicate (N.length - ps.length - g) .un ++ os)) :
    FnOk P w K mg base (L2.CX P w) (k + 1) f fd ps (spO K sp) := by
  refine F.okX Sc (fun vs H Q E ⟨ds, os, fps, QD, QX, h1, h2, _⟩ => by rw [← h2.length]; exact (shape _ _ _ _ h1).1) (fun cdv A outer s H vs Q E hr ⟨ds, os, fps, QD, QX, h1, h2, h3, h4, h5, h6⟩ => ?_)
  obtain ⟨hl, hm⟩ := shape _ _ _ _ h1
  have hW : Wish K ⟨H, [], fun _ => none, fps.flatten⟩ (fun cls E' => finG (ghJs N.length g) E' (QX cls)) (fun cls d _ H' => E cls d H') := fun cls E' σ H' q r => by
    obtain ⟨os', fps', q1, q2⟩ := endO (ghJs_nd _ _) r q
    exact h6 cls os' fps' H' q1 q2
  refine ⟨_, (body cdv A outer s H E hr ⟨H, [], fun _ => none, fps.flatten⟩ rfl _ hW).pss, _, { nx := fun E' => finG (ghJs N.length g) E' (QD .none), rt := fun d E' => finG (ghJs N.length g) E' (QD d) }, ?_, read ds os QD QX h1, fun E' σ' H' q x r => ?_, fun d E' v σ' H' q x r p => ?_, fun _ _ _ q => False.elim q, fun _ _ _ q => False.elim q⟩
  · have := startO (N.length - ps.length - g) h2 h3 h4
    have hst : L2.start N vs = vs.map some ++ List.replicate (N.length - ps.length - g + os.length) none := by
      unfold L2.start; rw [← h2.length, hl, hm]; congr 2; omega
    rw [hst]; exact this
  · obtain ⟨os', fps', q1, q2⟩ := endO (ghJs_nd _ _) r q
    exact h5 .none os' fps' .non H' q1 q2 .non
  · obtain ⟨os', fps', q1, q2⟩ := endO (ghJs_nd _ _) r q
    exact h5 d os' fps' v H' q1 q2 p
end
/-! ### calls -/
/-- the objects that go along: js says where they stand -/
def tObs (sp : SpO) (ds : List D) (E : Env) (Q : D → Env → Prop) (WD : WDt) : Prop := ∃ js os, js.Nodup ∧ obsAt E js = some os ∧
  sp ds os (fun d os' => os'.length = js.length ∧ Q d (putOb js os' E)) (fun cls os' => os'.length = js.length ∧ WD cls (putOb js os' E))
def tCallO (sp : SpO) (ta : TDs) (WD : WDt) : TD := fun E Q => ta E fun ds E1 => tObs sp ds E1 Q WD
section
variable {K : PySem.W.Frag} {G : Gh} {H : Hp} {E : Env} {σ : St}
theorem obs_call {sp : SpO} {ds : List D} {vs : List V} {Q : D → Env → Prop} {WD : WDt} {QV : VK} {EX : XK} (r : RelE K G H E σ) (l : RpL K H ds vs) (h : tObs sp ds E Q WD)
    (k1 : ∀ d E' v H', Q d E' → Ext H H' → RelE K G H' E' σ → Rp K H' d v → QV v H') (k2 : ∀ cls E' H', WD cls E' → RelE K G H' E' σ → EX cls none H') : spO K sp vs H QV EX := by
  obtain ⟨js, os, nj, ho, q⟩ := h
  obtain ⟨fps, o1, o2, o3, up⟩ := r.obs nj ho
  have mv : ∀ {os' : List S} {fps' : List (List Addr)} {H' : Hp}, os'.length = js.length → ObNew K H H' fps os' fps' → Ext H H' ∧ RelE K G H' (putOb js os' E) σ := fun hl n =>
    up _ _ _ hl n.ch.keep n.ch.still n.obs n.nd fun p hp => (n.fr p hp).elim .inl fun z => .inr (.inl z)
  refine ⟨ds, os, fps, _, _, q, l, o1, o2, fun d os' fps' v H' q2 n p => ?_, fun cls os' fps' H' q2 n => ?_⟩
  · obtain ⟨x, r'⟩ := mv q2.1 n
    exact k1 d _ v H' q2.2 x r' p
  · exact k2 cls _ H' q2.2 (mv q2.1 n).2
end
section
variable {X : Cx} {G : Gh} {o e : Expr} {es : List Expr} {pos p apos : Pos} {x m : Str} {f C : Addr} {fd : FuncData} {ps : List Str} {k : Nat} {sp : SpO} {ta : TDs} {to : TD}
theorem ed_callO (F : FnOk X.prog X.w X.K X.mg X.base CX0 k f fd ps (spO X.K sp)) (hr : Room k X.A) (hg : Gl X x) (hm : X.mg x = some (.ref f)) (hk : PySem.W.keepIn X.K (.ref f) = true) (hb : Binds X.K fd ps []) (ha : EDs X G (e :: es) ta) (hdb : (x == ("__debug__" : Str)) = false := by decide)
    (hs : starEach (e :: es) X.env = (false, eval e X.env) :: starEach es X.env := by rfl) (hplain : (backTo pos (starEach es X.env)).any (·.1) = false := by rfl) : ED X G (.Call (.Name x p) (e :: es) [] pos) (tCallO sp ta fun _ _ => False) :=
  ⟨PE.weak (pe_call (dvs := []) (E := fun _ _ _ => False) F hr hg hm hk hb .nil pass0 ha.pa (hdb := hdb) (he := hs) (hpl := hplain)) fun σ H Q ⟨E0, QE, r, q, kk⟩ => ⟨E0, _, r, q, fun ds E1 vs H1 q1 x1 r1 p1 => by
    show spO X.K sp (vs ++ []) H1 Q _
    rw [List.append_nil]
    exact obs_call r1 p1 q1 (fun d E' v H' z x r p => kk d E' v H' z (x1.trans x) r p) fun _ _ _ z _ => z.elim⟩⟩
theorem ed_callOX {W : WX} {WD : WDt} (F : FnOk X.prog X.w X.K X.mg X.base (L2.CX X.prog X.w) k f fd ps (spO X.K sp)) (tk : Takes X W) (hW : Wish X.K G WD W) (hr : Room k X.A) (hg : Gl X x) (hm : X.mg x = some (.ref f)) (hk : PySem.W.keepIn X.K (.ref f) = true) (hb : Binds X.K fd ps []) (ha : EDs X G (e :: es) ta)
    (hdb : (x == ("__debug__" : Str)) = false := by decide) (hs : starEach (e :: es) X.env = (false, eval e X.env) :: starEach es X.env := by rfl) (hplain : (backTo pos (starEach es X.env)).any (·.1) = false := by rfl) : ED X G (.Call (.Name x p) (e :: es) [] pos) (tCallO sp ta WD) :=
  ⟨PE.weak (pe_callS (E := WE W) F hr hg hm hk hb (fun σ => passAt tk σ) ha.pa (hdb := hdb) (he := hs) (hpl := hplain)) fun σ H Q ⟨E0, QE, r, q, kk⟩ => ⟨E0, _, r, q, fun ds E1 vs H1 q1 x1 r1 p1 =>
    obs_call r1 p1 q1 (fun d E' v H' z x r p => kk d E' v H' z (x1.trans x) r p) fun _ _ _ z r => hW _ _ _ _ z r⟩⟩
end
end DL

set_option Elab.async false
set_option linter.all false
set_option maxRecDepth 100000
set_option maxHeartbeats 1000000
/-! DL40: objects: fields read and written, their lists, methods. -/
namespace DL
open PySem PySem.Spec PyProof.Rows L2
/-- whose name it is -/
def unH : D → Option Addr
  | .dict [(.none, .int (.ofNat a))] => some a
  | _ => none
theorem unH_hdl (a : Addr) : unH (hdl a) = some a := rfl
theorem unH_some {d : D} {a : Addr} (h : unH d = some a) : d = hdl a := by
  unfold unH at h
  split at h
  · cases h; rfl
  · cases h
def obGet (a : Addr) : Env → Option (Addr × List (Str × FS))
  | [] => none
  | .ob b C fs :: E => if b = a then some (C, fs) else obGet a E
  | _ :: E => obGet a E
def setOb (a : Addr) (fs : List (Str × FS)) : Env → Env
  | [] => []
  | .ob b C gs :: E => if b = a then .ob b C fs :: E else .ob b C gs :: setOb a fs E
  | s :: E => s :: setOb a fs E
theorem obGet_ix {a C : Addr} {fs : List (Str × FS)} : ∀ {E : Env}, obGet a E = some (C, fs) → ∃ j : Nat, E[j]? = some (.ob a C fs) ∧ ∀ gs, setOb a gs E = E.set j (.ob a C gs)
  | [], h => by cases h
  | s :: E, h => by
    have step : obGet a E = some (C, fs) → (∀ gs, setOb a gs (s :: E) = s :: setOb a gs E) → ∃ j : Nat, (s :: E)[j]? = some (.ob a C fs) ∧ ∀ gs, setOb a gs (s :: E) = (s :: E).set j (.ob a C gs) := fun h1 h2 => by
      obtain ⟨j, e1, e2⟩ := obGet_ix h1
      exact ⟨j + 1, by simpa using e1, fun gs => by rw [h2, e2]; rfl⟩
    cases s with
    | ob b C' gs =>
      unfold obGet at h
      split at h
      · rename_i hb
        subst hb
        cases h
        exact ⟨0, rfl, fun gs => by unfold setOb; rw [if_pos rfl]; rfl⟩
      · rename_i hb
        exact step h fun gs => by
          show (if b = a then _ else _) = _
          rw [if_neg hb]
    | _ => exact step h fun _ => rfl
/-- the fields of the object that d names, of the class at C -/
def obD (C : Addr) (d : D) (E : Env) : Option (List (Str × FS)) := match unH d with
  | some a => match obGet a E with
    | some (C', fs) => if C' = C then some fs else none
    | none => none
  | none => none
def putOD (d : D) (fs : List (Str × FS)) (E : Env) : Env := match unH d with
  | some a => setOb a fs E
  | none => E
theorem obD_some {C : Addr} {d : D} {E : Env} {fs : List (Str × FS)} (h : obD C d E = some fs) : ∃ a j, d = hdl a ∧ E[j]? = some (.ob a C fs) ∧ ∀ gs, putOD d gs E = E.set j (.ob a C gs) := by
  unfold obD at h
  split at h
  · rename_i a ha
    split at h
    · rename_i C' fs' hb
      split at h
      · rename_i hC
        subst hC
        cases h
        obtain ⟨j, e1, e2⟩ := obGet_ix hb
        exact ⟨a, j, unH_some ha, e1, fun gs => by unfold putOD; rw [ha]; exact e2 gs⟩
      · cases h
    · cases h
  · cases h
def putFS (f : Str) (x : FS) : List (Str × FS) → List (Str × FS)
  | [] => [(f, x)]
  | (g, y) :: r => if g = f then (g, x) :: r else (g, y) :: putFS f x r
section
variable {K : PySem.W.Frag} {H H' : Hp}
theorem lk_cons {α : Type} {f g : Str} {x : α} {r : List (Str × α)} : ((g, x) :: r).lookup f = if f = g then some x else r.lookup f := by
  by_cases h : f = g
  · subst h; simp [List.lookup]
  · have hb : (f == g) = false := beq_eq_false_iff_ne.mpr h
    rw [if_neg h]; simp only [List.lookup, hb]
theorem FsR.getD {f : Str} {x : D} : ∀ {fs : List (Str × FS)} {vs : List (Str × V)} {ls : List Addr}, FsR K H fs vs ls → fs.lookup f = some (.d x) → ∃ v, vs.lookup f = some v ∧ Rp K H x v
  | _, _, _, .nil, h => by cases h
  | _, _, _, FsR.d r t, h => by
    rw [lk_cons] at h ⊢
    split at h
    · rename_i e; cases h; rw [if_pos e]; exact ⟨_, rfl, r⟩
    · rename_i e; rw [if_neg e]; exact FsR.getD t h
  | _, _, _, FsR.l r q t, h => by
    rw [lk_cons] at h ⊢
    split at h
    · cases h
    · rename_i e; rw [if_neg e]; exact FsR.getD t h
theorem FsR.getL {f : Str} {xs : List D} : ∀ {fs : List (Str × FS)} {vs : List (Str × V)} {ls : List Addr}, FsR K H fs vs ls → fs.lookup f = some (.l xs) → ∃ l us, vs.lookup f = some (.ref l) ∧ l ∈ ls ∧ H l = some (.lst us) ∧ RpL K H xs us
  | _, _, _, .nil, h => by cases h
  | _, _, _, FsR.d r t, h => by
    rw [lk_cons] at h ⊢
    split at h
    · cases h
    · rename_i e; rw [if_neg e]; exact FsR.getL t h
  | _, _, _, FsR.l r q t, h => by
    rw [lk_cons] at h ⊢
    split at h
    · rename_i e; cases h; rw [if_pos e]; exact ⟨_, _, rfl, List.mem_cons_self .., r, q⟩
    · rename_i e; rw [if_neg e]
      obtain ⟨l, us, h1, h2, h3⟩ := FsR.getL t h
      exact ⟨l, us, h1, List.mem_cons_of_mem _ h2, h3⟩
theorem FsR.getN {f : Str} : ∀ {fs : List (Str × FS)} {vs : List (Str × V)} {ls : List Addr}, FsR K H fs vs ls → fs.lookup f = none → vs.lookup f = none
  | _, _, _, .nil, h => rfl
  | _, _, _, FsR.d r t, h => by
    rw [lk_cons] at h ⊢
    split at h
    · cases h
    · rename_i e; rw [if_neg e]; exact FsR.getN t h
  | _, _, _, FsR.l r q t, h => by
    rw [lk_cons] at h ⊢
    split at h
    · cases h
    · rename_i e; rw [if_neg e]; exact FsR.getN t h
theorem FsR.len : ∀ {fs : List (Str × FS)} {vs : List (Str × V)} {ls : List Addr}, FsR K H fs vs ls → fs.length = vs.length
  | _, _, _, .nil => rfl
  | _, _, _, FsR.d _ t => by simp [FsR.len t]
  | _, _, _, FsR.l _ _ t => by simp [FsR.len t]
theorem FsR.putD {f : Str} {x : D} {v : V} (p : Rp K H x v) : ∀ {fs : List (Str × FS)} {vs : List (Str × V)} {ls : List Addr}, FsR K H fs vs ls → ∃ ls', FsR K H (putFS f (.d x) fs) (putF f v vs) ls' ∧ ls'.Sublist ls
  | _, _, _, .nil => ⟨[], FsR.d p .nil, .slnil⟩
  | _, _, _, FsR.d (f := g) r t => by
    unfold putFS putF
    by_cases e : g = f
    · rw [if_pos e, if_pos e]; exact ⟨_, FsR.d p t, List.Sublist.refl _⟩
    · rw [if_neg e, if_neg e]
      obtain ⟨ls', h1, h2⟩ := FsR.putD (f := f) p t
      exact ⟨_, FsR.d r h1, h2⟩
  | _, _, _, FsR.l (f := g) r q t => by
    unfold putFS putF
    by_cases e : g = f
    · rw [if_pos e, if_pos e]; exact ⟨_, FsR.d p t, List.sublist_cons_self ..⟩
    · rw [if_neg e, if_neg e]
      obtain ⟨ls', h1, h2⟩ := FsR.putD (f := f) p t
      exact ⟨_, FsR.l r q h1, h2.cons_cons _⟩
theorem FsR.putL {f : Str} {xs : List D} {l : Addr} {us : List V} (hl : H l = some (.lst us)) (p : RpL K H xs us) : ∀ {fs : List (Str × FS)} {vs : List (Str × V)} {ls : List Addr}, FsR K H fs vs ls → ls.Nodup → l ∉ ls → ∃ ls', FsR K H (putFS f (.l xs) fs) (putF f (.ref l) vs) ls' ∧ ls'.Nodup ∧ ∀ b ∈ ls', b ∈ ls ∨ b = l
  | _, _, _, .nil, _, _ => ⟨[l], FsR.l hl p .nil, by simp, by simp⟩
  | _, _, _, FsR.d (f := g) r t, nd, ni => by
    unfold putFS putF
    by_cases e : g = f
    · rw [if_pos e, if_pos e]; exact ⟨_, FsR.l hl p t, List.nodup_cons.mpr ⟨ni, nd⟩, fun b hb => (List.mem_cons.mp hb).elim .inr .inl⟩
    · rw [if_neg e, if_neg e]
      obtain ⟨ls', h1, h2, h3⟩ := FsR.putL (f := f) hl p t nd ni
      exact ⟨_, FsR.d r h1, h2, h3⟩
  | _, _, _, FsR.l (f := g) (a := b0) r q t, nd, ni => by
    obtain ⟨n1, n2⟩ := List.nodup_cons.mp nd
    have ni2 : l ∉ _ := fun z => ni (List.mem_cons_of_mem _ z)
    unfold putFS putF
    by_cases e : g = f
    · rw [if_pos e, if_pos e]; exact ⟨_, FsR.l hl p t, List.nodup_cons.mpr ⟨ni2, n2⟩, fun b hb => (List.mem_cons.mp hb).elim .inr fun z => .inl (List.mem_cons_of_mem _ z)⟩
    · rw [if_neg e, if_neg e]
      obtain ⟨ls', h1, h2, h3⟩ := FsR.putL (f := f) hl p t n2 ni2
      refine ⟨_, FsR.l r q h1, List.nodup_cons.mpr ⟨fun z => ?_, h2⟩, fun b hb => ?_⟩
      · rcases h3 _ z with w | w
        · exact n1 w
        · exact ni (by rw [w]; exact List.mem_cons_self ..)
      · rcases List.mem_cons.mp hb with w | w
        · exact .inl (by rw [w]; exact List.mem_cons_self ..)
        · exact (h3 b w).elim (fun z => .inl (List.mem_cons_of_mem _ z)) .inr
/-- a field's list changes -/
theorem FsR.chg {f : Str} {xs ys : List D} {l : Addr} {us : List V} (x : Ext H (upd H l (.lst us))) (p : RpL K (upd H l (.lst us)) ys us) : ∀ {fs : List (Str × FS)} {vs : List (Str × V)} {ls : List Addr}, FsR K H fs vs ls → ls.Nodup → fs.lookup f = some (.l xs) → vs.lookup f = some (.ref l) → l ∈ ls → FsR K (upd H l (.lst us)) (putFS f (.l ys) fs) vs ls
  | _, _, _, .nil, _, h, _, _ => by cases h
  | _, _, _, FsR.d (f := g) r t, nd, h, hv, hl => by
    rw [lk_cons] at h hv
    unfold putFS
    by_cases e : f = g
    · rw [if_pos e] at h; cases h
    · rw [if_neg e] at h hv
      rw [if_neg fun z => e z.symm]
      exact FsR.d (r.ext x) (FsR.chg x p t nd h hv hl)
  | _, _, _, FsR.l (f := g) (a := b0) r q t, nd, h, hv, hl => by
    obtain ⟨n1, n2⟩ := List.nodup_cons.mp nd
    rw [lk_cons] at h hv
    unfold putFS
    by_cases e : f = g
    · rw [if_pos e] at hv
      rw [if_pos e.symm]
      cases hv
      exact FsR.l upd_same p (t.move x fun b hb => upd_ne (by rintro rfl; exact n1 hb))
    · rw [if_neg e] at h hv
      rw [if_neg fun z => e z.symm]
      have hl2 : l ∈ _ := (FsR.getL t h).elim fun l' ⟨us', a1, a2, _⟩ => by rw [hv] at a1; cases a1; exact a2
      have ne : b0 ≠ l := by rintro rfl; exact n1 hl2
      exact FsR.l (by rw [upd_ne ne]; exact r) (q.ext x) (FsR.chg x p t n2 h hv hl2)
end
section
variable {K : PySem.W.Frag} {G : Gh} {H : Hp} {E : Env} {σ : St} {ex : List Addr} {a C : Addr} {j : Nat} {fs : List (Str × FS)}
/-- the lens, for one object -/
theorem RelX.ob1 (r : RelX K G ex H E σ) (e : E[j]? = some (.ob a C fs)) : ∃ fp, RelOb K H a C fs fp ∧ (∀ p ∈ fp, (p ∈ G.addrs ∨ G.H0 p = none) ∧ p ∉ ex) ∧
    ∀ (H' : Hp) (fs' : List (Str × FS)) (fp' : List Addr), (∀ p o, H p = some o → p ∉ fp → H' p = some o) → (∀ p ∈ fp, H' p ≠ none) → RelOb K H' a C fs' fp' → (∀ p ∈ fp', p ∈ fp ∨ H p = none ∨ (p ∈ ex ∧ G.H0 p = none)) → Ext H H' ∧ RelE K G H' (E.set j (.ob a C fs')) σ := by
  have h : obsAt E [j] = some [.ob a C fs] := by unfold obsAt; rw [e]; rfl
  obtain ⟨fps, h1, h2, h3, h4⟩ := r.obs (by simp : ([j] : List Nat).Nodup) h
  cases h1 with
  | cons q t =>
    cases t
    obtain ⟨a', C', fs', e1, q⟩ := q
    cases e1
    refine ⟨_, q, fun p hp => h3 p (by simpa using hp), fun H' fs' fp' k1 k2 k3 k4 => ?_⟩
    exact h4 H' [.ob a C fs'] [fp'] rfl (fun p o z n => k1 p o z (by simpa using n)) (fun p hp => k2 p (by simpa using hp)) (.cons ⟨_, _, _, rfl, k3⟩ .nil) (by simpa using k3.nodup) fun p hp => by simpa using k4 p (by simpa using hp)
/-- a field is written: data -/
theorem RelX.fldD {f : Str} {x : D} {v : V} (r : RelE K G H E σ) (e : E[j]? = some (.ob a C fs)) (p : Rp K H x v) : ∃ dx vs, H a = some (.ins C dx vs) ∧ vs.length = fs.length ∧ Ext H (upd H a (.ins C dx (putF f v vs))) ∧ RelE K G (upd H a (.ins C dx (putF f v vs))) (E.set j (.ob a C (putFS f (.d x) fs))) σ := by
  obtain ⟨fp, ⟨dx, vs, ls, rfl, nd, h1, h2, h3⟩, _, up⟩ := r.ob1 e
  have x1 : Ext H (upd H a (.ins C dx (putF f v vs))) := Ext.putS h1 (fun _ z => by cases z) fun _ _ z => by cases z
  obtain ⟨ls', g1, g2⟩ := FsR.putD (f := f) p h3
  obtain ⟨n1, n2⟩ := List.nodup_cons.mp nd
  obtain ⟨n3, n4⟩ := List.nodup_cons.mp n2
  refine ⟨dx, vs, h1, h3.len.symm, up _ _ (a :: dx :: ls') (fun q o z n => by rw [upd_ne fun w => n (by simp [w])]; exact z) (fun q hq => ?_) ⟨dx, putF f v vs, ls', rfl, ?_, upd_same, ?_, ?_⟩ fun q hq => .inl ?_⟩
  · by_cases w : q = a
    · subst w; rw [upd_same]; simp
    · rw [upd_ne w]
      obtain ⟨u, hu, _⟩ := RelOb.soft (⟨dx, vs, ls, rfl, nd, h1, h2, h3⟩ : RelOb K H a C fs (a :: dx :: ls)) q hq
      rw [hu]; simp
  · refine List.nodup_cons.mpr ⟨fun z => n1 ?_, List.nodup_cons.mpr ⟨fun z => n3 (g2.subset z), n4.sublist g2⟩⟩
    rcases List.mem_cons.mp z with w | w
    · rw [w]; exact List.mem_cons_self ..
    · exact List.mem_cons_of_mem _ (g2.subset w)
  · rw [upd_ne fun w => n1 (by rw [w]; exact List.mem_cons_self ..)]; exact h2
  · exact g1.move x1 fun q hq => upd_ne (by rintro rfl; exact n1 (List.mem_cons_of_mem _ (g2.subset hq)))
  · rcases List.mem_cons.mp hq with w | w
    · rw [w]; exact List.mem_cons_self ..
    · rcases List.mem_cons.mp w with w | w
      · rw [w]; simp
      · exact List.mem_cons_of_mem _ (List.mem_cons_of_mem _ (g2.subset w))
/-- .. a new list -/
theorem RelX.fldL {f : Str} {xs : List D} {l : Addr} {us : List V} (r : RelX K G [l] H E σ) (h0 : G.H0 l = none) (e : E[j]? = some (.ob a C fs)) (hl : H l = some (.lst us)) (p : RpL K H xs us) : ∃ dx vs, H a = some (.ins C dx vs) ∧ vs.length = fs.length ∧ Ext H (upd H a (.ins C dx (putF f (.ref l) vs))) ∧ RelE K G (upd H a (.ins C dx (putF f (.ref l) vs))) (E.set j (.ob a C (putFS f (.l xs) fs))) σ := by
  obtain ⟨fp, ⟨dx, vs, ls, rfl, nd, h1, h2, h3⟩, ow, up⟩ := r.ob1 e
  have x1 : Ext H (upd H a (.ins C dx (putF f (.ref l) vs))) := Ext.putS h1 (fun _ z => by cases z) fun _ _ z => by cases z
  obtain ⟨n1, n2⟩ := List.nodup_cons.mp nd
  obtain ⟨n3, n4⟩ := List.nodup_cons.mp n2
  have nl : l ∉ a :: dx :: ls := fun z => (ow l z).2 (List.mem_singleton.mpr rfl)
  obtain ⟨ls', g1, g2, g3⟩ := FsR.putL (f := f) hl p h3 n4 fun z => nl (List.mem_cons_of_mem _ (List.mem_cons_of_mem _ z))
  refine ⟨dx, vs, h1, h3.len.symm, up _ _ (a :: dx :: ls') (fun q o z n => by rw [upd_ne fun w => n (by simp [w])]; exact z) (fun q hq => ?_) ⟨dx, putF f (.ref l) vs, ls', rfl, ?_, upd_same, ?_, ?_⟩ fun q hq => ?_⟩
  · by_cases w : q = a
    · subst w; rw [upd_same]; simp
    · rw [upd_ne w]
      obtain ⟨u, hu, _⟩ := RelOb.soft (⟨dx, vs, ls, rfl, nd, h1, h2, h3⟩ : RelOb K H a C fs (a :: dx :: ls)) q hq
      rw [hu]; simp
  · refine List.nodup_cons.mpr ⟨fun z => ?_, List.nodup_cons.mpr ⟨fun z => ?_, g2⟩⟩
    · rcases List.mem_cons.mp z with w | w
      · exact n1 (by rw [w]; exact List.mem_cons_self ..)
      · rcases g3 _ w with w | w
        · exact n1 (List.mem_cons_of_mem _ w)
        · exact nl (by rw [← w]; exact List.mem_cons_self ..)
    · rcases g3 _ z with w | w
      · exact n3 w
      · exact nl (by rw [← w]; simp)
  · rw [upd_ne fun w => n1 (by rw [w]; exact List.mem_cons_self ..)]; exact h2
  · refine g1.move x1 fun q hq => upd_ne ?_
    rintro rfl
    rcases g3 _ hq with w | w
    · exact n1 (List.mem_cons_of_mem _ w)
    · exact nl (by rw [← w]; exact List.mem_cons_self ..)
  · rcases List.mem_cons.mp hq with w | w
    · exact .inl (by rw [w]; exact List.mem_cons_self ..)
    · rcases List.mem_cons.mp w with w | w
      · exact .inl (by rw [w]; simp)
      · rcases g3 _ w with w | w
        · exact .inl (List.mem_cons_of_mem _ (List.mem_cons_of_mem _ w))
        · exact .inr (.inr ⟨by simp [w], by rw [w]; exact h0⟩)
/-- a field's list changes -/
theorem RelX.fldC {f : Str} {xs ys : List D} {us : List V} (r : RelE K G H E σ) (e : E[j]? = some (.ob a C fs)) (hf : fs.lookup f = some (.l xs)) : ∃ dx vs l ws, H a = some (.ins C dx vs) ∧ vs.lookup f = some (.ref l) ∧ H l = some (.lst ws) ∧ RpL K H xs ws ∧
    (RpL K H ys us → Ext H (upd H l (.lst us)) ∧ RelE K G (upd H l (.lst us)) (E.set j (.ob a C (putFS f (.l ys) fs))) σ) := by
  obtain ⟨fp, ⟨dx, vs, ls, rfl, nd, h1, h2, h3⟩, ow, up⟩ := r.ob1 e
  obtain ⟨l, ws, g1, g2, g3, g4⟩ := h3.getL hf
  refine ⟨dx, vs, l, ws, h1, g1, g3, g4, fun p => ?_⟩
  have x1 : Ext H (upd H l (.lst us)) := Ext.putS g3 (fun _ z => by cases z) fun _ _ z => by cases z
  obtain ⟨n1, n2⟩ := List.nodup_cons.mp nd
  obtain ⟨n3, n4⟩ := List.nodup_cons.mp n2
  refine up _ _ (a :: dx :: ls) (fun q o z n => by rw [upd_ne fun w => n (by simp [w, g2])]; exact z) (fun q hq => ?_) ⟨dx, vs, ls, rfl, nd, ?_, ?_, ?_⟩ fun q hq => .inl hq
  · by_cases w : q = l
    · subst w; rw [upd_same]; simp
    · rw [upd_ne w]
      obtain ⟨u, hu, _⟩ := RelOb.soft (⟨dx, vs, ls, rfl, nd, h1, h2, h3⟩ : RelOb K H a C fs (a :: dx :: ls)) q hq
      rw [hu]; simp
  · rw [upd_ne fun w => n1 (by rw [w]; exact List.mem_cons_of_mem _ g2)]; exact h1
  · rw [upd_ne fun w => n3 (by rw [w]; exact g2)]; exact h2
  · exact FsR.chg x1 (p.ext x1) h3 n4 hf g1 g2
theorem RelX.insAt {fs : List (Str × FS)} (r : RelX K G ex H E σ) (e : E[j]? = some (.ob a C fs)) : ∃ dx vs ls, H a = some (.ins C dx vs) ∧ FsR K H fs vs ls := by
  obtain ⟨fp, ⟨dx, vs, ls, rfl, nd, h1, h2, h3⟩, _⟩ := r.ob1 e
  exact ⟨dx, vs, ls, h1, h3⟩
end
/-! ### rules -/
def fldD (C : Addr) (f : Str) (d : D) (E : Env) : Option D := match obD C d E with
  | some fs => match fs.lookup f with
    | some (.d x) => some x
    | _ => none
  | none => none
def fldL (C : Addr) (f : Str) (d : D) (E : Env) : Option (List D) := match obD C d E with
  | some fs => match fs.lookup f with
    | some (.l x) => some x
    | _ => none
  | none => none
/-- x.f, data -/
def tFldD (C : Addr) (f : Str) (i : Nat) : TD := fun E Q => match E[i]? with
  | some (.d d) => match fldD C f d E with
    | some x => Q x E
    | none => False
  | _ => False
/-- x.f, a list of its own, read now -/
def tFldR (C : Addr) (f : Str) (i : Nat) : TD := fun E Q => match E[i]? with
  | some (.d d) => match fldL C f d E with
    | some xs => Q (.list xs) E
    | none => False
  | _ => False
/-- x.f = e -/
def sFldD (C : Addr) (f : Str) (i : Nat) (tv : TD) : TSd := fun DE E => tv E fun x E1 => match E1[i]? with
  | some (.d d) => match obD C d E1 with
    | some fs => fs.length < 1000 ∧ DE.nx (putOD d (putFS f (.d x) fs) E1)
    | none => False
  | _ => False
/-- x.f = a new list -/
def sFldL (C : Addr) (f : Str) (i : Nat) (tv : TLd) : TSd := fun DE E => tv E fun xs E1 => match E1[i]? with
  | some (.d d) => match obD C d E1 with
    | some fs => fs.length < 1000 ∧ DE.nx (putOD d (putFS f (.l xs) fs) E1)
    | none => False
  | _ => False
/-- x.f.append((x.g, y)) -/
def tAppF (C : Addr) (f g : Str) (i k : Nat) : TD := fun E Q => match E[i]? with
  | some (.d d) => match obD C d E, fldL C f d E, fldD C g d E, E[k]? with
    | some fs, some xs, some x, some (.d y) => xs.length < sizeLine ∧ Q .none (putOD d (putFS f (.l (xs ++ [.tuple [x, y]])) fs) E)
    | _, _, _, _ => False
  | _ => False
/-- x.f.pop() -/
def tPopF (C : Addr) (f : Str) (i : Nat) : TD := fun E Q => match E[i]? with
  | some (.d d) => match obD C d E, fldL C f d E with
    | some fs, some xs => match xs.getLast? with
      | some y => Q y (putOD d (putFS f (.l xs.dropLast) fs) E)
      | none => False
    | _, _ => False
  | _ => False
/-- o.m(..) -/
def tMethO (C : Addr) (m : Str) (sp : SpO) (to : TD) (ta : TDs) (WD : WDt) : TD := fun E Q => to E fun d E1 => (match obD C d E1 with
  | some fs => fs.lookup m = none
  | none => False) ∧ ta E1 fun ds E2 => tObs sp (d :: ds) E2 Q WD
section
variable {X : Cx} {G : Gh} {o e value : Expr} {es : List Expr} {pos pos' p0 p1 p2 p3 p4 apos cpos npos tpos : Pos} {x f g y m : Str} {C : Addr} {i k : Nat}
theorem fldD_some {d : D} {E : Env} {z : D} (h : fldD C f d E = some z) : ∃ fs, obD C d E = some fs ∧ fs.lookup f = some (.d z) := by
  unfold fldD at h
  split at h
  · rename_i fs hf
    split at h
    · rename_i x hx; cases h; exact ⟨fs, hf, hx⟩
    · cases h
  · cases h
theorem fldL_some {d : D} {E : Env} {z : List D} (h : fldL C f d E = some z) : ∃ fs, obD C d E = some fs ∧ fs.lookup f = some (.l z) := by
  unfold fldL at h
  split at h
  · rename_i fs hf
    split at h
    · rename_i x hx; cases h; exact ⟨fs, hf, hx⟩
    · cases h
  · cases h
theorem hdl_ref {K : PySem.W.Frag} {H : Hp} {a : Addr} {v : V} (h : Rp K H (hdl a) v) : v = .ref a := by
  generalize hd : hdl a = d at h
  cases h with
  | dct _ l _ _ =>
    unfold hdl at hd
    cases hd
    cases l with
    | cons t => obtain ⟨xs, t⟩ := t; cases t
  | hdl b =>
    unfold hdl at hd
    have hd := PyData.dict.inj hd
    simp at hd
    have hd : a = b := Int.ofNat.inj hd
    rw [hd]
  | dck _ e _ _ =>
    unfold hdl at hd
    cases hd
    rename_i us _ _ _
    cases us with
    | nil => cases e
    | cons u us =>
      have e := (List.cons.inj e).1
      obtain ⟨kk, vv⟩ := u
      cases kk <;> cases e
  | _ => unfold hdl at hd; cases hd
/-- the object that a name's data tells -/
theorem obV {K : PySem.W.Frag} {ex : List Addr} {H : Hp} {E : Env} {σ : St} {d : D} {fs : List (Str × FS)} (r : RelX K G ex H E σ) (e : E[i]? = some (.d d)) (h : obD C d E = some fs) : ∃ a j, σ[i]? = some (some (.ref a)) ∧ d = hdl a ∧ E[j]? = some (.ob a C fs) ∧ ∀ gs, putOD d gs E = E.set j (.ob a C gs) := by
  obtain ⟨a, j, rfl, h2, h3⟩ := obD_some h
  obtain ⟨v, e1, p⟩ := r.data e
  rw [hdl_ref p] at e1
  exact ⟨a, j, e1, rfl, h2, h3⟩
theorem ed_fld (i : Nat) (hC : Cls X.K C) (hn : NoAttr X.K C f) (hN : X.N[i]? = some x := by rfl) (hv : Vis X.env.scope x := by first | exact Or.inl rfl | exact Or.inr (Or.inl rfl) | exact Or.inr (Or.inr rfl)) (hd : (x == ("__debug__" : Str)) = false := by decide)
    (hcd : (x == ("__classdict__" : Str)) = false := by decide) (hb : attributeBase (.Name x p0) f X.env (eval (.Name x p0) X.env) = eval (.Name x p0) X.env := by rfl) : ED X G (.Attribute (.Name x p0) f pos) (tFldD C f i) :=
  ⟨PE.weak (pe_fld (pe_var hN hv hd hcd) hb) fun σ H Q ⟨E, QE, r, q, kk⟩ => by
    unfold tFldD at q
    split at q
    · rename_i d he
      split at q
      · rename_i z hz
        obtain ⟨fs, h1, h2⟩ := fldD_some hz
        obtain ⟨a, j, e1, _, e2, _⟩ := obV r he h1
        obtain ⟨dx, vs, ls, g1, g2⟩ := r.insAt e2
        obtain ⟨v, g3, g4⟩ := g2.getD h2
        exact ⟨_, e1, a, C, dx, vs, v, rfl, g1, hC, hn, g3, kk _ _ _ _ q (Ext.refl _) r g4⟩
      · exact q.elim
    · exact q.elim⟩
theorem er_fld (i : Nat) (hC : Cls X.K C) (hn : NoAttr X.K C f) (hN : X.N[i]? = some x := by rfl) (hv : Vis X.env.scope x := by first | exact Or.inl rfl | exact Or.inr (Or.inl rfl) | exact Or.inr (Or.inr rfl)) (hd : (x == ("__debug__" : Str)) = false := by decide)
    (hcd : (x == ("__classdict__" : Str)) = false := by decide) (hb : attributeBase (.Name x p0) f X.env (eval (.Name x p0) X.env) = eval (.Name x p0) X.env := by rfl) : ER X G (.Attribute (.Name x p0) f pos) (tFldR C f i) :=
  ⟨PE.weak (pe_fld (pe_var hN hv hd hcd) hb) fun σ H Q ⟨E, QE, r, q, kk⟩ => by
    unfold tFldR at q
    split at q
    · rename_i d he
      split at q
      · rename_i z hz
        obtain ⟨fs, h1, h2⟩ := fldL_some hz
        obtain ⟨a, j, e1, _, e2, _⟩ := obV r he h1
        obtain ⟨dx, vs, ls, g1, g2⟩ := r.insAt e2
        obtain ⟨l, us, g3, _, g4, g5⟩ := g2.getL h2
        exact ⟨_, e1, a, C, dx, vs, _, rfl, g1, hC, hn, g3, kk _ _ _ _ q (Ext.refl _) r (.inr ⟨_, _, _, rfl, rfl, g4, g5⟩)⟩
      · exact q.elim
    · exact q.elim⟩
theorem sd_fld (i : Nat) {tv : TD} (hC : Cls X.K C) (hn : NoAttr X.K C f) (he : ED X G value tv) (hN : X.N[i]? = some x := by rfl) (hv : Vis X.env.scope x := by first | exact Or.inl rfl | exact Or.inr (Or.inl rfl) | exact Or.inr (Or.inr rfl)) (hd : (x == ("__debug__" : Str)) = false := by decide)
    (hcd : (x == ("__classdict__" : Str)) = false := by decide) (hs : swapsWith value (some (.Attribute (.Name x p0) f pos')) pos.line X.env = pure false := by rfl) : SD X G (.Assign [.Attribute (.Name x p0) f pos'] value pos) (sFldD C f i tv) :=
  ⟨PS.weak (ps_fld (pe_var hN hv hd hcd) he.pe hs) fun F σ H ⟨E, DE, r, q, k1, k2, k3, k4⟩ => ⟨E, _, r, q, fun z E1 v H1 q1 x1 r1 p1 => by
    split at q1
    · rename_i d hd1
      split at q1
      · rename_i fs hfs
        obtain ⟨a, j, e1, _, e2, e3⟩ := obV r1 hd1 hfs
        obtain ⟨dx, vs, g1, g2, g3, g4⟩ := r1.fldD (f := f) e2 p1
        exact ⟨_, e1, a, C, dx, vs, rfl, g1, hC, hn, by rw [g2]; exact q1.1, k1 _ _ _ q1.2 (x1.trans g3) (by rw [e3]; exact g4)⟩
      · exact q1.elim
    · exact q1.elim⟩⟩
theorem sd_fldL (i : Nat) {tv : TLd} (hC : Cls X.K C) (hn : NoAttr X.K C f) (he : EL X G value tv) (hN : X.N[i]? = some x := by rfl) (hv : Vis X.env.scope x := by first | exact Or.inl rfl | exact Or.inr (Or.inl rfl) | exact Or.inr (Or.inr rfl)) (hd : (x == ("__debug__" : Str)) = false := by decide)
    (hcd : (x == ("__classdict__" : Str)) = false := by decide) (hs : swapsWith value (some (.Attribute (.Name x p0) f pos')) pos.line X.env = pure false := by rfl) : SD X G (.Assign [.Attribute (.Name x p0) f pos'] value pos) (sFldL C f i tv) :=
  ⟨PS.weak (ps_fld (pe_var hN hv hd hcd) he.pe hs) fun F σ H ⟨E, DE, r, q, k1, k2, k3, k4⟩ => ⟨E, _, r, q, fun zs E1 b us H1 q1 x1 r1 h0 na hb p1 => by
    split at q1
    · rename_i d hd1
      split at q1
      · rename_i fs hfs
        obtain ⟨a, j, e1, _, e2, e3⟩ := obV r1 hd1 hfs
        obtain ⟨dx, vs, g1, g2, g3, g4⟩ := r1.fldL (f := f) h0 e2 hb p1
        exact ⟨_, e1, a, C, dx, vs, rfl, g1, hC, hn, by rw [g2]; exact q1.1, k1 _ _ _ q1.2 (x1.trans g3) (by rw [e3]; exact g4)⟩
      · exact q1.elim
    · exact q1.elim⟩⟩
theorem ed_appF (i k : Nat) {kk : Nat} {q0 q1 q2 q3 : Pos} (hC : Cls X.K C) (hf : NoAttr X.K C f) (hg : NoAttr X.K C g) (hN : X.N[i]? = some x := by rfl) (hM : X.N[k]? = some y := by rfl) (hv : Vis X.env.scope x := by first | exact Or.inl rfl | exact Or.inr (Or.inl rfl) | exact Or.inr (Or.inr rfl)) (hw : Vis X.env.scope y := by first | exact Or.inl rfl | exact Or.inr (Or.inl rfl) | exact Or.inr (Or.inr rfl))
    (hd : (x == ("__debug__" : Str)) = false := by decide) (hcd : (x == ("__classdict__" : Str)) = false := by decide) (hd2 : (y == ("__debug__" : Str)) = false := by decide) (hcd2 : (y == ("__classdict__" : Str)) = false := by decide)
    (hb1 : attributeBase (.Name x p0) f X.env (eval (.Name x p0) X.env) = eval (.Name x p0) X.env := by rfl) (hb2 : attributeBase (.Name x q0) g X.env (eval (.Name x q0) X.env) = eval (.Name x q0) X.env := by rfl)
    (hbase : attributeBase (.Attribute (.Name x p0) f p1) "append" X.env (eval (.Attribute (.Name x p0) f p1) X.env) = eval (.Attribute (.Name x p0) f p1) X.env := by rfl)
    (hfew : ((backTo cpos (starEach [.Tuple [.Attribute (.Name x q0) g q1, .Name y q2] kk q3] X.env)).all (fun x => !x.1) && (backToKw cpos (keywordEach [] X.env)).all (fun x => x.1.isSome)
      && decide (([.Tuple [.Attribute (.Name x q0) g q1, .Name y q2] kk q3] : List Expr).length + ([] : List Keyword).length + (if ([] : List Keyword).isEmpty then 0 else 1) < 30)) = true := by rfl)
    (hline : (apos.endLine == cpos.line) = true := by rfl) (hs : starEach [.Tuple [.Attribute (.Name x q0) g q1, .Name y q2] kk q3] X.env = (false, eval (.Tuple [.Attribute (.Name x q0) g q1, .Name y q2] kk q3) X.env) :: starEach [] X.env := by rfl) (hplain : (backTo cpos (starEach [] X.env)).any (·.1) = false := by rfl)
    (hs1 : starEach [.Attribute (.Name x q0) g q1, .Name y q2] X.env = (false, eval (.Attribute (.Name x q0) g q1) X.env) :: starEach [.Name y q2] X.env := by rfl) (hs2 : starEach [.Name y q2] X.env = (false, eval (.Name y q2) X.env) :: starEach [] X.env := by rfl) :
    ED X G (.Call (.Attribute (.Attribute (.Name x p0) f p1) "append" apos) [.Tuple [.Attribute (.Name x q0) g q1, .Name y q2] kk q3] [] cpos) (tAppF C f g i k) :=
  ⟨PE.weak (pe_bm PySem.F.plainAttrs_list PySem.F.slot_list_append PySem.F.type_list_append mt_append (pe_fld (pe_var hN hv hd hcd) hb1) (pa_cons (pe_tupF (pa_cons (pe_fld (pe_var hN hv hd hcd) hb2) (pa_cons (pe_var hM hw hd2 hcd2) pa_nil hs2) hs1)) pa_nil hs) hbase hfew hline hs hplain) fun σ H Q ⟨E, QE, r, q, kk⟩ => by
    unfold tAppF at q
    split at q
    · rename_i d he
      split at q
      · rename_i fs xs z d2 h1 h2 h3 h4
        obtain ⟨fs', i1, i2⟩ := fldL_some h2
        rw [h1] at i1; cases i1
        obtain ⟨fs', i1, i3⟩ := fldD_some h3
        rw [h1] at i1; cases i1
        obtain ⟨a, j, e1, _, e2, e3⟩ := obV r he h1
        obtain ⟨dx, vs, ls, g1, g2⟩ := r.insAt e2
        obtain ⟨v, g3, g4⟩ := g2.getD i3
        obtain ⟨l, us, g5, _, g6, g7⟩ := g2.getL i2
        obtain ⟨w, e4, p4⟩ := r.data h4
        refine ⟨_, e1, a, C, dx, vs, _, rfl, g1, hC, hf, g5, .inl ⟨rfl, _, SqL.of g6⟩, ⟨_, e1, a, C, dx, vs, v, rfl, g1, hC, hg, g3, _, e4, by show 2 ≤ sizeLine; decide, fun p o hp ho => ?_⟩⟩
        have x1 : PExt H (upd H p (.frz o (.tup [v, w]))) := PExt.new hp
        have r1 := r.pext x1
        have pt : Rp X.K (upd H p (.frz o (.tup [v, w]))) (.tuple [z, d2]) (.ref p) := .tup (.new ho) (.cons (g4.ext x1.ext) (.cons (p4.ext x1.ext) .nil))
        obtain ⟨dx', vs', l', us', k1, k2, k3, k4, k5⟩ := r1.fldC (ys := xs ++ [.tuple [z, d2]]) (us := us ++ [.ref p]) e2 i2
        rw [x1 _ _ g1] at k1; cases k1
        rw [g5] at k2; cases k2
        rw [x1 _ _ g6] at k3; cases k3
        obtain ⟨k6, k7⟩ := k5 (RpL.append k4 (.cons pt .nil))
        exact ⟨l, us, _, rfl, rfl, x1 _ _ g6, by rw [← g7.length]; exact q.1, kk _ _ _ _ q.2 (x1.ext.trans k6) (by rw [e3]; exact k7) .non⟩
      · exact q.elim
    · exact q.elim⟩
theorem ed_popF (i : Nat) (hC : Cls X.K C) (hf : NoAttr X.K C f) (hN : X.N[i]? = some x := by rfl) (hv : Vis X.env.scope x := by first | exact Or.inl rfl | exact Or.inr (Or.inl rfl) | exact Or.inr (Or.inr rfl)) (hd : (x == ("__debug__" : Str)) = false := by decide) (hcd : (x == ("__classdict__" : Str)) = false := by decide)
    (hb1 : attributeBase (.Name x p0) f X.env (eval (.Name x p0) X.env) = eval (.Name x p0) X.env := by rfl)
    (hbase : attributeBase (.Attribute (.Name x p0) f p1) "pop" X.env (eval (.Attribute (.Name x p0) f p1) X.env) = eval (.Attribute (.Name x p0) f p1) X.env := by rfl) (hline : (apos.endLine == cpos.line) = true := by rfl) :
    ED X G (.Call (.Attribute (.Attribute (.Name x p0) f p1) "pop" apos) [] [] cpos) (tPopF C f i) :=
  ⟨PE.weak (pe_bm0 PySem.F.plainAttrs_list PySem.F.slot_list_pop PySem.F.type_list_pop mt_pop (pe_fld (pe_var hN hv hd hcd) hb1) hbase hline) fun σ H Q ⟨E, QE, r, q, kk⟩ => by
    unfold tPopF at q
    split at q
    · rename_i d he
      split at q
      · rename_i fs xs h1 h2
        split at q
        · rename_i y hy
          obtain ⟨fs', i1, i2⟩ := fldL_some h2
          rw [h1] at i1; cases i1
          obtain ⟨a, j, e1, _, e2, e3⟩ := obV r he h1
          obtain ⟨dx, vs, ls, g1, g2⟩ := r.insAt e2
          obtain ⟨l, us, g5, _, g6, g7⟩ := g2.getL i2
          obtain ⟨dx', vs', l', us', k1, k2, k3, k4, k5⟩ := r.fldC (ys := xs.dropLast) (us := us.dropLast) e2 i2
          rw [g1] at k1; cases k1
          rw [g5] at k2; cases k2
          rw [g6] at k3; cases k3
          rw [List.getLast?_eq_getElem?] at hy
          obtain ⟨v, hv1, hv2⟩ := g7.get hy
          obtain ⟨k6, k7⟩ := k5 (by rw [List.dropLast_eq_take, List.dropLast_eq_take, g7.length]; exact g7.take _)
          refine ⟨_, e1, a, C, dx, vs, _, rfl, g1, hC, hf, g5, .inl ⟨rfl, _, SqL.of g6⟩, l, us, v, rfl, rfl, g6, by rw [← g7.length]; exact hv1, kk _ _ _ _ q k6 (by rw [e3]; exact k7) (hv2.ext k6)⟩
        · exact q.elim
      · exact q.elim
    · exact q.elim⟩
end
/-! ### methods -/
section
variable {X : Cx} {CX : CXT} {G : Gh} {o e : Expr} {es : List Expr} {pos apos : Pos} {m : Str} {C f : Addr} {fd : FuncData} {ps : List Str} {n : Nat} {to : TD} {ta : TDs} {sp : SpO} {tE : TE} {tA : TA} {spv : Sp} {EW : L2.St → XK}
/-- how a method's call runs -/
abbrev MethEq (X : Cx) (o : Expr) (m : Str) (es : List Expr) (apos pos : Pos) (pl : Sem Bool) : Prop := eval (.Call (.Attribute o m apos) es [] pos) X.env = (do let vo ← eval o X.env; standAt apos.atName; let (mf, m0) ← holding [vo] (getMethod vo m pl); callWith pos mf m0 (backTo pos (starEach es X.env)) (backToKw pos (keywordEach [] X.env)))
/-- o.m(..), what is raised wished for at the caller's slots -/
def tMethW (C : Addr) (m : Str) (sp : Sp) (EW : L2.St → XK) (ta : TE) (t : TA) : TE := fun σ H Q => ta σ H fun x H1 => ∃ a dx fs, x = .ref a ∧ H1 a = some (.ins C dx fs) ∧ fs.lookup m = none ∧ t σ H1 fun vs H2 => sp (x :: vs) H2 Q (EW σ)
theorem pe_methW {pl : Sem Bool} (he : PE X o tE) (c : Cls X.K C) (hm : Meth X.K C m f) (F : FnOk X.prog X.w X.K X.mg X.base CX n f fd ps spv) (hr : Room n X.A) (hb : Binds X.K fd ps []) (hx : ∀ σ, PassesAt CX X σ (EW σ)) (ha : PA X (e :: es) tA)
    (hst : starEach (e :: es) X.env = (false, eval e X.env) :: starEach es X.env := by rfl) (hpl : (backTo pos (starEach es X.env)).any (·.1) = false := by rfl)
    (ht : MethEq X o m (e :: es) apos pos pl := by rfl) :
    PE X (.Call (.Attribute o m apos) (e :: es) [] pos) (tMethW C m spv EW tE tA) := by
  refine ⟨fun pins s σ H Q I h => PySem.W.methodCall_KW (pl := pl) (thn (he.run pins s σ H _ I h) ?_) ht⟩
  rintro u s1 ⟨x, H1, I1, rx, a, dx, fs, rfl, ea, l, q⟩
  cases (show u = Value.ref a from rx)
  refine getmeth_ok I1 ea c hm l (PySem.W.callWith_K (first := [.ref a]) (h₀ := X.base) I.ok.mod.kin hm.kp (thn (ha.run pos pins s1 σ H1 _ I1 q) ?_) hst hpl)
  rintro us s2 ⟨vs, H2, I2, r, q2⟩
  exact ⟨I2.kIn, run_fnS (us := .ref a :: us) (vs := .ref a :: vs) F hr hb (hx σ) I2 (.cons rfl r) q2⟩
theorem pe_methW0 {pl : Sem Bool} (he : PE X o tE) (c : Cls X.K C) (hm : Meth X.K C m f) (F : FnOk X.prog X.w X.K X.mg X.base CX n f fd ps spv) (hr : Room n X.A) (hb : Binds X.K fd ps []) (hx : ∀ σ, PassesAt CX X σ (EW σ))
    (ht : MethEq X o m [] apos pos pl := by rfl) :
    PE X (.Call (.Attribute o m apos) [] [] pos) (tMethW C m spv EW tE tNil) := by
  refine ⟨fun pins s σ H Q I h => PySem.W.methodCall_KW (pl := pl) (thn (he.run pins s σ H _ I h) ?_) ht⟩
  rintro u s1 ⟨x, H1, I1, rx, a, dx, fs, rfl, ea, l, q⟩
  cases (show u = Value.ref a from rx)
  exact getmeth_ok I1 ea c hm l (PySem.W.callWith_K0 (first := [.ref a]) I1.kIn hm.kp (run_fnS (us := [.ref a]) (vs := [.ref a]) F hr hb (hx σ) I1 (.cons rfl .nil) q))
theorem lift_methO {W : WX} {WD : WDt} {K : PySem.W.Frag} (hW : ∀ cls E σ H, WD cls E → RelE K G H E σ → W cls none σ H) {te : TE} {tA : TA} (h1 : ∀ σ H Q, liftE K G to σ H Q → te σ H Q) (h2 : ∀ σ H Q, liftDs K G ta σ H Q → tA σ H Q) (σ : L2.St) (H : Hp) (Q : VK) (h : liftE K G (tMethO C m sp to ta WD) σ H Q) :
    tMethW C m (spO K sp) (WE W) te tA σ H Q := by
  obtain ⟨E0, QE, r, q, kk⟩ := h
  refine h1 σ H _ ⟨E0, _, r, q, fun d E1 v H1 q1 x1 r1 p1 => ?_⟩
  obtain ⟨q0, q1⟩ := q1
  split at q0
  · rename_i fs hfs
    obtain ⟨a, j, rfl, e2, _⟩ := obD_some hfs
    have ev := hdl_ref p1
    subst ev
    obtain ⟨dx, vs, ls, g1, g2⟩ := r1.insAt e2
    refine ⟨a, dx, vs, rfl, g1, g2.getN q0, h2 σ H1 _ ⟨E1, _, r1, q1, fun ds E2 ws H2 q2 x2 r2 p2 => ?_⟩⟩
    exact obs_call r2 (.cons (p1.ext x2) p2) q2 (fun d E' v H' z x r p => kk d E' v H' z ((x1.trans x2).trans x) r p) fun cls E' H' z r => hW _ _ _ _ z r
  · exact q0.elim
theorem ed_methO {pl : Sem Bool} (he : ED X G o to) (c : Cls X.K C) (hm : Meth X.K C m f) (F : FnOk X.prog X.w X.K X.mg X.base CX0 n f fd ps (spO X.K sp)) (hr : Room n X.A) (hb : Binds X.K fd ps []) (ha : EDs X G (e :: es) ta)
    (hst : starEach (e :: es) X.env = (false, eval e X.env) :: starEach es X.env := by rfl) (hpl : (backTo pos (starEach es X.env)).any (·.1) = false := by rfl)
    (ht : MethEq X o m (e :: es) apos pos pl := by rfl) : ED X G (.Call (.Attribute o m apos) (e :: es) [] pos) (tMethO C m sp to ta fun _ _ => False) :=
  ⟨PE.weak (pe_methW (EW := WE fun _ _ _ _ => False) he.pe c hm F hr hb (fun σ => fun pins H s e s' I c => pass0 pins σ H s e s' I c) ha.pa hst hpl ht) (lift_methO (fun _ _ _ _ z _ => z) (fun _ _ _ h => h) fun _ _ _ h => h)⟩
theorem ed_methO0 {pl : Sem Bool} (he : ED X G o to) (c : Cls X.K C) (hm : Meth X.K C m f) (F : FnOk X.prog X.w X.K X.mg X.base CX0 n f fd ps (spO X.K sp)) (hr : Room n X.A) (hb : Binds X.K fd ps [])
    (ht : MethEq X o m [] apos pos pl := by rfl) : ED X G (.Call (.Attribute o m apos) [] [] pos) (tMethO C m sp to dNil fun _ _ => False) :=
  ⟨PE.weak (pe_methW0 (EW := WE fun _ _ _ _ => False) he.pe c hm F hr hb (fun σ => fun pins H s e s' I c => pass0 pins σ H s e s' I c) ht) (lift_methO (fun _ _ _ _ z _ => z) (fun _ _ _ h => h) fun σ H Q ⟨E, QE, r, q, kk⟩ => kk _ _ _ _ q (Ext.refl _) r .nil)⟩
theorem ed_methOX {pl : Sem Bool} {W : WX} {WD : WDt} (he : ED X G o to) (c : Cls X.K C) (hm : Meth X.K C m f) (F : FnOk X.prog X.w X.K X.mg X.base (L2.CX X.prog X.w) n f fd ps (spO X.K sp)) (tk : Takes X W) (hW : Wish X.K G WD W) (hr : Room n X.A) (hb : Binds X.K fd ps []) (ha : EDs X G (e :: es) ta)
    (hst : starEach (e :: es) X.env = (false, eval e X.env) :: starEach es X.env := by rfl) (hpl : (backTo pos (starEach es X.env)).any (·.1) = false := by rfl)
    (ht : MethEq X o m (e :: es) apos pos pl := by rfl) : ED X G (.Call (.Attribute o m apos) (e :: es) [] pos) (tMethO C m sp to ta WD) :=
  ⟨PE.weak (pe_methW (EW := WE W) he.pe c hm F hr hb (fun σ => passAt tk σ) ha.pa hst hpl ht) (lift_methO hW (fun _ _ _ h => h) fun _ _ _ h => h)⟩
theorem ed_methOX0 {pl : Sem Bool} {W : WX} {WD : WDt} (he : ED X G o to) (c : Cls X.K C) (hm : Meth X.K C m f) (F : FnOk X.prog X.w X.K X.mg X.base (L2.CX X.prog X.w) n f fd ps (spO X.K sp)) (tk : Takes X W) (hW : Wish X.K G WD W) (hr : Room n X.A) (hb : Binds X.K fd ps [])
    (ht : MethEq X o m [] apos pos pl := by rfl) : ED X G (.Call (.Attribute o m apos) [] [] pos) (tMethO C m sp to dNil WD) :=
  ⟨PE.weak (pe_methW0 (EW := WE W) he.pe c hm F hr hb (fun σ => passAt tk σ) ht) (lift_methO hW (fun _ _ _ h => h) fun σ H Q ⟨E, QE, r, q, kk⟩ => kk _ _ _ _ q (Ext.refl _) r .nil)⟩
end
end DL

set_option Elab.async false
set_option linter.all false
set_option maxRecDepth 100000
set_option maxHeartbeats 1000000
/-! DL41: objects are made; a def with defaults; a comprehension over a field's list. -/
namespace DL
open PySem PySem.Spec PyProof.Rows L2
section
variable {P : Program} {w : World} {K : PySem.W.Frag} {mg : Str → Option Value} {base : Heap} {x qual : Str} {st : Stmt} {f : Addr} {fd : FuncData} {N ps : List Str} {k g : Nat} {sp : SpO}
/-- a def over objects, with defaults -/
theorem fn_okOD {tb : TSd} {dvs : List V} {kws : List (Str × V)} (F : FunD K x qual (defArgs st) (defBody st) (defScope st) dvs kws f fd) (Sc : FnScope N ps (defScope st)) (hg : ps.length + g ≤ N.length) (shape : ∀ ds os QD QX, sp ds os QD QX → ds.length = ps.length ∧ os.length = g)
    (body : ∀ (cdv : Value) (A : Around) (outer : List PySem.Env) (s : Shared) (H : Hp) (E : XK), Room k (A.deeper (envOfC qual (defScope st) s.heap.objs.size f cdv)) → ∀ G : Gh, G.slots = [] → SDs (cxOf CX0 P w K mg base N qual (defScope st) f cdv A outer s H E).nox G (defBody st) tb)
    (read : ∀ ds os QD QX, sp ds os QD QX → tb { nx := fun E' => finG (ghJs N.length g) E' (QD .none), rt := fun d E' => finG (ghJs N.length g) E' (QD d) } (ds.map S.d ++ List.replicate (N.length - ps.length - g) .un ++ os)) :
    FnOk P w K mg base CX0 (k + 1) f fd ps (spO K sp) := by
  refine F.ok Sc (fun vs H Q E ⟨ds, os, fps, QD, QX, h1, h2, _⟩ => by rw [← h2.length]; exact (shape _ _ _ _ h1).1) (fun cdv A outer s H vs Q E hr ⟨ds, os, fps, QD, QX, h1, h2, h3, h4, h5, h6⟩ => ?_)
  obtain ⟨hl, hm⟩ := shape _ _ _ _ h1
  refine ⟨_, PSs.nox (body cdv A outer s H E hr ⟨H, [], fun _ => none, fps.flatten⟩ rfl).pss, _, { nx := fun E' => finG (ghJs N.length g) E' (QD .none), rt := fun d E' => finG (ghJs N.length g) E' (QD d) }, ?_, read ds os QD QX h1, fun E' σ' H' q x r => ?_, fun d E' v σ' H' q x r p => ?_, fun _ _ _ q => False.elim q, fun _ _ _ q => False.elim q⟩
  · have := startO (N.length - ps.length - g) h2 h3 h4
    have hst : L2.start N vs = vs.map some ++ List.replicate (N.length - ps.length - g + os.length) none := by
      unfold L2.start; rw [← h2.length, hl, hm]; congr 2; omega
    rw [hst]; exact this
  · obtain ⟨os', fps', q1, q2⟩ := endO (ghJs_nd _ _) r q
    exact h5 .none os' fps' .non H' q1 q2 .non
  · obtain ⟨os', fps', q1, q2⟩ := endO (ghJs_nd _ _) r q
    exact h5 d os' fps' v H' q1 q2 p
end
/-! ### a new object -/
section
variable {K : PySem.W.Frag} {G : Gh} {H H' : Hp} {E : Env} {σ : St} {a C : Addr} {j : Nat} {fs : List (Str × FS)} {fp : List Addr}
theorem RelX.newOb (r : RelE K G H E σ) (x : PExt H H') (o : RelOb K H' a C fs fp) (fr : ∀ p ∈ fp, H p = none) : RelE K G H' (E.set j (.ob a C fs)) σ := by
  obtain ⟨l, k, pn, dm, x0, _⟩ := r.pext x
  obtain ⟨_, k0, _, dm0, _, A, g1, g2, g3⟩ := r
  have old : ∀ {i p}, E[i]? ≠ none → p ∈ A i → p ∉ fp := fun {i p} e hp z => by
    cases q : E[i]? with
    | none => exact e q
    | some s =>
      obtain ⟨u, hu, _⟩ := (g3 i s q).indom p hp
      rw [fr p z] at hu; cases hu
  refine ⟨by simpa using l, k, pn, dm, x0, fun i => if i = j then fp else if E[i]? = none then [] else A i, fun i m p e1 e2 => ?_, fun i p e => ⟨?_, by simp⟩, fun i s e => ?_⟩
  · dsimp only at e1 e2
    by_cases hi : i = j
    · rw [if_pos hi] at e1
      by_cases hm : m = j
      · rw [hi, hm]
      · rw [if_neg hm] at e2
        by_cases he : E[m]? = none
        · rw [if_pos he] at e2; cases e2
        · rw [if_neg he] at e2; exact absurd e1 (old he e2)
    · rw [if_neg hi] at e1
      by_cases he : E[i]? = none
      · rw [if_pos he] at e1; cases e1
      · rw [if_neg he] at e1
        by_cases hm : m = j
        · rw [if_pos hm] at e2; exact absurd e2 (old he e1)
        · rw [if_neg hm] at e2
          by_cases he2 : E[m]? = none
          · rw [if_pos he2] at e2; cases e2
          · rw [if_neg he2] at e2; exact g1 i m p e1 e2
  · dsimp only at e
    by_cases hi : i = j
    · rw [if_pos hi] at e
      by_cases na : p ∈ G.addrs
      · exact .inl na
      · cases q : G.H0 p with
        | none => exact .inr rfl
        | some u => have := k0 p u q na; rw [fr p e] at this; cases this
    · rw [if_neg hi] at e
      by_cases he : E[i]? = none
      · rw [if_pos he] at e; cases e
      · rw [if_neg he] at e; exact (g2 i p e).1
  · by_cases hi : i = j
    · subst hi
      simp only [if_true]
      by_cases hl : i < E.length
      · rw [List.getElem?_set_self hl] at e; cases e; exact o
      · rw [List.getElem?_eq_none (by simpa using hl)] at e; cases e
    · rw [List.getElem?_set_ne (Ne.symm hi)] at e
      have he : E[i]? ≠ none := by rw [e]; simp
      simp only [if_neg hi, if_neg he]
      exact (g3 i s e).pext x
theorem obGet_none {x : Addr} (r : RelE K G H E σ) (hx : H x = none) : obGet x E = none := by
  cases q : obGet x E with
  | none => rfl
  | some p =>
    obtain ⟨C, fs⟩ := p
    obtain ⟨j, e, _⟩ := obGet_ix q
    obtain ⟨dx, vs, ls, h1, _⟩ := r.insAt e
    rw [hx] at h1; cases h1
end
/-- C(..): the new object stands at the ghost slot j; dd: defaults that fill up -/
def tMakeO (C : Addr) (sp : SpO) (dd : List D) (j : Nat) (ta : TDs) : TD := fun E Q => ta E fun ds E1 => ∀ x, obGet x E1 = none →
  sp (hdl x :: (ds ++ dd)) [.ob x C []] (fun d os' => d = .none ∧ ∃ fs, os' = [.ob x C fs] ∧ Q (hdl x) (E1.set j (.ob x C fs))) (fun _ _ => False)
section
variable {X : Cx} {G : Gh} {e : Expr} {es : List Expr} {pos p : Pos} {x : Str} {C f : Addr} {fd : FuncData} {ps : List Str} {k : Nat} {sp : SpO} {ta : TDs} {dvs : List V} {dv : List Value} {dd : List D}
theorem make_lift {G : Gh} {K : PySem.W.Frag} {H1 : Hp} {E1 : Env} {σ : L2.St} {j : Nat} {ds : List D} {vs : List V} {Q : D → Env → Prop} {QV : VK} (r : RelE K G H1 E1 σ) (p : RpL K H1 ds vs) (y dx : Addr) (hy : H1 y = none) (hx : H1 dx = none) (ne : dx ≠ y)
    (q : obGet y E1 = none → sp (hdl y :: ds) [.ob y C []] (fun d os' => d = .none ∧ ∃ fs, os' = [.ob y C fs] ∧ Q (hdl y) (E1.set j (.ob y C fs))) (fun _ _ => False))
    (kk : ∀ E' H', Q (hdl y) E' → Ext H1 H' → RelE K G H' E' σ → QV (.ref y) H') : spO K sp (.ref y :: vs) (upd (upd H1 dx (.own y)) y (.ins C dx [])) (fun v H2 => v = .non ∧ QV (.ref y) H2) (fun _ _ _ => False) := by
  have x1 : PExt H1 (upd H1 dx (.own y)) := PExt.new hx
  have x2 : PExt (upd H1 dx (.own y)) (upd (upd H1 dx (.own y)) y (.ins C dx [])) := PExt.new (by rw [upd_ne (Ne.symm ne)]; exact hy)
  have xx := PExt.trans x1 x2
  refine ⟨hdl y :: ds, [.ob y C []], [[y, dx]], _, _, q (obGet_none r hy), .cons (.hdl y) (p.ext xx.ext), .cons ⟨y, C, [], rfl, dx, [], [], rfl, by simp [ne.symm], upd_same, by rw [upd_ne ne, upd_same], .nil⟩ .nil, by simp [ne.symm], fun d os' fps' v H' q2 n pv => ?_, fun _ _ _ _ z _ => z⟩
  obtain ⟨rfl, fs, rfl, q2⟩ := q2
  refine ⟨by cases pv; rfl, ?_⟩
  have keep : PExt H1 H' := fun b o e => n.ch.keep b o (xx b o e) (by
    simp only [List.flatten_cons, List.flatten_nil, List.append_nil, List.mem_cons, List.not_mem_nil, or_false]
    rintro (rfl | rfl)
    · rw [hy] at e; cases e
    · rw [hx] at e; cases e)
  have ob := n.obs
  have frr := n.fr
  cases ob with
  | cons o1 t =>
    cases t
    obtain ⟨a', C', fs', e1, o1⟩ := o1
    cases e1
    refine kk _ _ q2 keep.ext (RelX.newOb r keep o1 fun b hb => ?_)
    rcases frr b (by simpa using hb) with z | z
    · simp only [List.flatten_cons, List.flatten_nil, List.append_nil, List.mem_cons, List.not_mem_nil, or_false] at z
      rcases z with rfl | rfl
      · exact hy
      · exact hx
    · cases w : H1 b with
      | none => rfl
      | some o => have := xx b o w; rw [z] at this; cases this
theorem ed_makeO (j : Nat) (M : Mk X.K C f) (F : FnOk X.prog X.w X.K X.mg X.base CX0 k f fd ps (spO X.K sp)) (hr : Room (k + 1) X.A) (hg : Gl X x) (hm : X.mg x = some (.ref C)) (hb : Binds X.K fd ps dv) (hd : Vals dvs dv) (hdd : ∀ H, RpL X.K H dd dvs) (ha : EDs X G (e :: es) ta)
    (hdb : (x == ("__debug__" : Str)) = false := by decide) (he : starEach (e :: es) X.env = (false, eval e X.env) :: starEach es X.env := by rfl) (hpl : (backTo pos (starEach es X.env)).any (·.1) = false := by rfl) : ED X G (.Call (.Name x p) (e :: es) [] pos) (tMakeO C sp dd j ta) :=
  ⟨PE.weak (pe_make (E := fun _ _ _ => False) M F hr hg hm hb hd pass0 ha.pa hdb he hpl) fun σ H Q ⟨E0, QE, r, q, kk⟩ => ⟨E0, _, r, q, fun ds E1 vs H1 q1 x1 r1 p1 y dx hy hx ne =>
    make_lift (j := j) r1 (p1.append (hdd H1)) y dx hy hx ne (q1 y) fun E' H' z x2 r2 => kk _ _ _ _ z (x1.trans x2) r2 (.hdl y)⟩⟩
end
/-! ### a comprehension over a list that stands in the heap and may change later -/
structure WalkP (W : Bool) (K : PySem.W.Frag) (J : It) (H0 : Hp) (ds : List D) : Prop where
  goes : ∀ i H, PExt H0 H → i < ds.length → J.go i H
  yld : ∀ i H x H', PExt H0 H → i < ds.length → J.yld i H x H' → PExt H H' ∧ ∃ d, ds[i]? = some d ∧ RpB W K H' d x
  stops : ∀ H, PExt H0 H → J.stop ds.length H
theorem walkP_lst {K : PySem.W.Frag} {H : Hp} {a : Addr} {vs : List V} {ds : List D} (h : H a = some (.lst vs)) (l : RpL K H ds vs) : WalkP false K (Itl K a) H ds where
  goes := fun i H' x hi => by
    rw [l.length] at hi
    exact ⟨vs, vs[i], SqL.of (x _ _ h), List.getElem?_eq_getElem hi⟩
  yld := fun i H' v H2 x hi hy => by
    obtain ⟨e1, e2⟩ := hy
    subst e1
    have hv := e2 vs (SqL.of (x _ _ h))
    obtain ⟨d, hd, p⟩ := l.getV hv
    exact ⟨PExt.refl _, d, hd, p.ext x.ext⟩
  stops := fun H' x => ⟨vs, SqL.of (x _ _ h), by rw [l.length]; exact Nat.le_refl _⟩
def onlyD : S → S
  | .d x => .d x
  | _ => .un
def freshG (H : Hp) : Gh := ⟨H, [], fun _ => none, []⟩
theorem relD {K : PySem.W.Frag} {G : Gh} {H : Hp} {E : Env} {σ : St} (r : RelE K G H E σ) : RelE K (freshG H) H (E.map onlyD) σ := by
  refine ⟨by rw [List.length_map]; exact r.len, fun p o h _ => h, (fun i a h => by cases h), (fun a h => by cases h), ⟨(fun _ _ z => by cases z), (fun _ _ _ z => by cases z)⟩, fun _ => [], (fun i j a h => by cases h), (fun i a h => by cases h), fun i s e => ?_⟩
  rw [List.getElem?_map] at e
  obtain ⟨s0, e1, e2⟩ := Option.map_eq_some_iff.mp e
  subst e2
  cases s0 with
  | d y => obtain ⟨v, e3, p⟩ := r.data e1; exact ⟨rfl, v, e3, p⟩
  | _ => exact rfl
theorem relD_pext {K : PySem.W.Frag} {ex : List Addr} {H H' : Hp} {E : Env} {σ : St} (r : RelX K (freshG H) ex H' E σ) : PExt H H' := fun p o e => r.keep p o e (by show p ∉ [] ++ []; simp)
section
variable {X : Cx} {G : Gh} {tg iter e : Expr} {pos : Pos}
theorem comp_loopP {W : Bool} {K : PySem.W.Frag} {J : It} {ds : List D} {E1 : Env} {g : TGd} {tt : TTd} {te : TD} {ms : List Nat} {σ : L2.St} {H1 : Hp} {QE : List D → Prop} {Q : VK} (r1 : RelE K (freshG H1) H1 E1 σ) (wk : WalkP W K J H1 ds) (q1 : compD g tt te ms ds [] E1 fun xs _ => QE xs)
    (k : ∀ xs L vs H', QE xs → H1 L = none → PExt H1 H' → H' L = some (.lst vs) → RpL K H' xs vs → Q (.ref L) H') :
    ∀ L, H1 L = none → ∃ Wv : Nat → Nat → Hp → Prop, (∃ m, Wv 0 m (upd H1 L (.lst []))) ∧ ∀ i m H, Wv i m H →
      (J.stop i H ∧ Q (.ref L) H) ∨ (J.go i H ∧ ∃ Nx : Hp → Prop, (∀ H', Nx H' → ∃ m', m' < m ∧ Wv (i + 1) m' H') ∧ ∀ x H', J.yld i H x H' → anyG W K (freshG H1) ms g x (L2.wipe σ ms) H' fun σ2 H2 => L2.wipe σ2 ms = L2.wipe σ ms ∧ anyT K (freshG H1) tt σ2 H2 fun b H3 =>
        if b = true then anyE K (freshG H1) te σ2 H3 fun y H4 => ∃ acc, H4 L = some (.lst acc) ∧ acc.length < sizeLine ∧ Nx (upd H4 L (.lst (acc ++ [y]))) else Nx H3) := by
  intro L hL
  have hm : ∀ i ∈ ms, i ∉ (freshG H1).slots := fun i _ z => by cases z
  obtain ⟨rL, h0, na⟩ := r1.fresh (o := .lst []) hL
  refine ⟨fun i m H' => ∃ (E' : Env) (σ' : L2.St) (acc : List D) (vs : List V), i + m = ds.length ∧ RelX K (freshG H1) [L] H' E' σ' ∧ L2.wipe σ' ms = L2.wipe σ ms ∧ H' L = some (.lst vs) ∧ RpL K H' acc vs ∧
    compD g tt te ms (ds.drop i) acc E' fun xs _ => QE xs, ⟨ds.length, E1, σ, [], [], by omega, rL, rfl, upd_same, .nil, q1⟩, fun i m H2 hW => ?_⟩
  obtain ⟨E2, σ2, acc, vs, hm2, r2, w2, a2, p2, q2⟩ := hW
  have xL : PExt H1 H2 := relD_pext r2
  by_cases hi : i < ds.length
  · obtain ⟨d, hd⟩ : ∃ d, ds[i]? = some d := ⟨ds[i], List.getElem?_eq_getElem hi⟩
    have hdr : ds.drop i = d :: ds.drop (i + 1) := by
      rw [List.drop_eq_getElem_cons hi]
      rw [List.getElem?_eq_getElem hi] at hd
      rw [Option.some.inj hd]
    rw [hdr] at q2
    refine .inr ⟨wk.goes i H2 xL hi, fun H' => ∃ (E' : Env) (σ' : L2.St) (acc : List D) (vs : List V), RelX K (freshG H1) [L] H' E' σ' ∧ L2.wipe σ' ms = L2.wipe σ ms ∧ H' L = some (.lst vs) ∧ RpL K H' acc vs ∧
      compD g tt te ms (ds.drop (i + 1)) acc E' fun xs _ => QE xs, fun H' ⟨E', σ', acc, vs, b2, b3, b4, b5, b6⟩ => ⟨m - 1, by omega, E', σ', acc, vs, by omega, b2, b3, b4, b5, b6⟩, fun x H3 hy => ?_⟩
    obtain ⟨px, d', hd', p⟩ := wk.yld i H2 x H3 xL hi hy
    rw [hd] at hd'; cases hd'
    have hs0 : (pend (freshG H1) L (.lst vs)).slots = (freshG H1).slots := rfl
    have r3 : RelE K (pend (freshG H1) L (.lst vs)) H3 (wipeE E2 ms) (L2.wipe σ ms) := by
      have := ((r2.pext px).wipe hm).toPend (px _ _ a2) na
      rw [w2] at this; exact this
    refine ⟨pend (freshG H1) L (.lst vs), hs0, _, d, _, r3, p, q2, fun E4 σ4 H4 q4 x4 r4 w4 => ?_⟩
    have ww : ∀ (l : List Nat), L2.wipe (L2.wipe σ l) l = L2.wipe σ l := by
      intro l
      have : ∀ (τ : L2.St) (l k : List Nat), (∀ j ∈ l, j ∈ k) → (∀ j ∈ k, ∀ v, τ[j]? = some v → v = none) → L2.wipe τ l = τ := by
        intro τ l
        induction l with
        | nil => intro _ _ _; rfl
        | cons v vs ih =>
          intro k hk hn
          show (L2.wipe τ vs).set v none = τ
          rw [ih k (fun j hj => hk j (List.mem_cons_of_mem _ hj)) hn]
          refine List.ext_getElem? fun j => ?_
          by_cases hv : v = j
          · subst hv
            by_cases hl : v < τ.length
            · rw [List.getElem?_set_self hl]
              have := hn v (hk v (List.mem_cons_self ..)) _ (List.getElem?_eq_getElem hl)
              rw [List.getElem?_eq_getElem hl, this]
            · rw [List.getElem?_eq_none (by simpa using hl), List.getElem?_eq_none (by simpa using hl)]
          · rw [List.getElem?_set_ne hv]
      refine this _ l l (fun j hj => hj) fun j hj v e => ?_
      cases v with
      | none => rfl
      | some y => exact absurd hj (wipe_some e).2
    refine ⟨by rw [w4]; exact ww ms, pend (freshG H1) L (.lst vs), hs0, E4, _, r4, q4, fun b E5 H5 q5 x5 r5 => ?_⟩
    have w45 : L2.wipe σ4 ms = L2.wipe σ ms := by rw [w4]; exact ww ms
    cases b with
    | false =>
      rw [if_neg Bool.false_ne_true] at q5
      refine iteF ?_
      obtain ⟨r6, a6⟩ := RelX.ofPend r5 h0 na
      exact ⟨E5, σ4, acc, vs, r6, w45, a6, p2.ext ((px.ext.trans x4).trans x5), q5⟩
    | true =>
      rw [if_pos rfl] at q5
      refine iteT ?_
      refine ⟨pend (freshG H1) L (.lst vs), hs0, E5, _, r5, q5, fun y E6 u H6 q6 x6 r6 p6 => ?_⟩
      obtain ⟨r7, a7⟩ := RelX.ofPend r6 h0 na
      have pv := p2.ext (((px.ext.trans x4).trans x5).trans x6)
      have xp : Ext H6 (upd H6 L (.lst (vs ++ [u]))) := Ext.put a7
      refine ⟨vs, a7, by rw [← pv.length]; exact q6.1, E6, σ4, acc ++ [y], vs ++ [u], ?_, w45, upd_same, (RpL.append pv (.cons p6 .nil)).ext xp, q6.2⟩
      obtain ⟨l, kk, pn, dm, x0, A, h1, h2, h3⟩ := r7
      refine ⟨l, fun p o e ne => ?_, pn, fun p hp => ?_, x0.trans xp, fun j => if E6[j]? = none then [] else A j, fun i j b e1 e2 => ?_, fun i b e => ?_, fun j s e => ?_⟩
      · have : p ≠ L := by rintro rfl; rw [h0] at e; cases e
        rw [upd_ne this]; exact kk p o e ne
      · have : p ≠ L := by rintro rfl; exact na hp
        rw [upd_ne this]; exact dm p hp
      · dsimp only at e1 e2
        split at e1
        · cases e1
        · split at e2
          · cases e2
          · exact h1 i j b e1 e2
      · dsimp only at e
        split at e
        · cases e
        · exact h2 i b e
      · have : E6[j]? ≠ none := by rw [e]; simp
        simp only [this, if_false]
        exact (h3 j s e).move xp fun p hp => upd_ne (by rintro rfl; exact (h2 j p hp).2 (by simp))
  · have e0 : ds.drop i = [] := List.drop_eq_nil_of_le (by omega)
    have ei : i = ds.length := by omega
    rw [e0] at q2
    exact .inl ⟨by rw [ei]; exact wk.stops H2 xL, k _ _ _ _ q2 hL xL a2 p2⟩
/-- [elt for target in x.f if ..] -/
def tCompF (C : Addr) (f : Str) (i : Nat) (g : TGd) (tt : TTd) (te : TD) (ms : List Nat) : TLd := fun E Q => match E[i]? with
  | some (.d d) => match fldL C f d E with
    | some xs => compD g tt te ms xs [] (E.map onlyD) fun ys _ => Q ys E
    | none => False
  | _ => False
theorem RelX.aside {K : PySem.W.Frag} {H H' : Hp} {E : Env} {σ : L2.St} {L : Addr} {o : HO} (r : RelE K G H E σ) (x : PExt H H') (hL : H L = none) (h : H' L = some o) : RelX K G [L] H' E σ ∧ G.H0 L = none ∧ L ∉ G.addrs := by
  obtain ⟨r1, h1, h2⟩ := r.fresh (o := o) hL
  refine ⟨r1.pext fun p u e => ?_, h1, h2⟩
  by_cases z : p = L
  · subst z; rw [upd_same] at e; cases e; exact h
  · rw [upd_ne z] at e; exact x p u e
section
variable {elt : Expr} {ifs : List Expr} {scope : Scope} {g : TGd} {tt : TTd} {te : TD} {ms : List Nat} {x f : Str} {p0 p1 : Pos} {C : Addr} {i : Nat}
theorem el_compF (i : Nat) (own : List (Str × Nat)) (hC : Cls X.K C) (hf : NoAttr X.K C f) (hc : X.calm = true) (hN : X.N.Nodup) (hms : own.map (·.2) = ms) (ok : BlkOk X.N X.env.scope scope own)
    (hg : ∀ (G' : Gh), G'.slots = [] → ∀ (s : Shared) (H : Hp) (C : Addr) (cl : List (Str × Addr)) (fp : List Addr), GD (X.blk s H scope (compEnvC scope cl C X.env) fp) G' false ms tg g)
    (ht : ∀ (G' : Gh), G'.slots = [] → ∀ (s : Shared) (H : Hp) (C : Addr) (cl : List (Str × Addr)) (fp : List Addr), EBs (X.blk s H scope (compEnvC scope cl C X.env) fp) G' ifs tt)
    (he : ∀ (G' : Gh), G'.slots = [] → ∀ (s : Shared) (H : Hp) (C : Addr) (cl : List (Str × Addr)) (fp : List Addr), ED (X.blk s H scope (compEnvC scope cl C X.env) fp) G' elt te)
    (hx : X.N[i]? = some x := by rfl) (hv : Vis X.env.scope x := by first | exact Or.inl rfl | exact Or.inr (Or.inl rfl) | exact Or.inr (Or.inr rfl)) (hd : (x == ("__debug__" : Str)) = false := by decide)
    (hcd : (x == ("__classdict__" : Str)) = false := by decide) (hb : attributeBase (.Name x p0) f X.env (eval (.Name x p0) X.env) = eval (.Name x p0) X.env := by rfl)
    (hs : ∀ y, foldedSetIterable (.Attribute (.Name x p0) f p1) X.env y = pure y := by intro _; rfl) :
    EL X G (.ListComp elt [⟨tg, .Attribute (.Name x p0) f p1, ifs, 0⟩] scope pos) (tCompF C f i g tt te ms) := by
  obtain ⟨Pg, Pt, Pe⟩ := comp_parts (G := freshG fun _ => none) hg ht he
  refine ⟨PE.weak (pe_lc hc hN (pi_list (pe_fld (pe_var hx hv hd hcd) hb)) ok Pg Pt Pe hs) fun σ H Q ⟨E, QE, r, q, k⟩ => ?_⟩
  unfold tCompF at q
  split at q
  · rename_i d hd1
    split at q
    · rename_i xs hz
      obtain ⟨fs, h1, h2⟩ := fldL_some hz
      obtain ⟨a, j, e1, _, e2, _⟩ := obV r hd1 h1
      obtain ⟨dx, vs, ls, g1, g2⟩ := r.insAt e2
      obtain ⟨l, us, g3, _, g4, g5⟩ := g2.getL h2
      rw [hms]
      refine ⟨_, e1, a, C, dx, vs, _, rfl, g1, hC, hf, g3, l, rfl, ⟨_, SqL.of g4⟩, ?_⟩
      refine comp_loopP (QE := fun ys => QE ys E) (relD r) (walkP_lst g4 g5) q fun ys L ws H' z hL x2 hw p => ?_
      obtain ⟨r2, h0, na⟩ := r.aside x2 hL hw
      exact k _ _ _ _ _ z x2.ext r2 h0 na hw p
    · exact q.elim
  · exact q.elim
end
end
end DL

set_option Elab.async false
set_option linter.all false
set_option maxRecDepth 100000
set_option maxHeartbeats 1000000
/-! DL42: except X as e: got = word(e); a def that tells an exception's class by a text. -/
namespace DL
open PySem PySem.Spec PyProof.Rows L2
/-- called with the exception that is handled, of the class cls, it gives the text x -/
structure FnW (P : Program) (w : World) (K : PySem.W.Frag) (mg : Str → Option Value) (base : Heap) (k : Nat) (f : Addr) (fd : FuncData) (y : Str) (cls : Value) (x : Str) : Prop where
  run : ∀ (A : Around) (outer : List PySem.Env) (s : Shared) (H : Hp) (args : Args) (a : Addr) (oe : Obj) (Q : VK), L2H.RoomH k A → Zc cls none oe → (∃ vs, oe.data = .fields vs) → L2H.PinOk outer H s (a, oe) → Env0 P w K mg base A outer s H → BindsTo s fd args [(y, .ref a)] →
    (∀ H', PExt H H' → Q (.str x) H') → codeAny (model P w) A (.call (.ref f) args) (CR CX0 outer P w H s Q fun _ _ _ => False) s
theorem fnW_ok {P : Program} {w : World} {K : PySem.W.Frag} {mg : Str → Option Value} {base : Heap} {nm qual y x : Str} {st : Stmt} {f : Addr} {fd : FuncData} {N : List Str} {k : Nat} {cls : Value} {tb : Addr → TSd} (F : Fun K nm qual st f fd) (Sc : FnScope N [y] (defScope st))
    (body : ∀ (cdv : Value) (A : Around) (outer : List PySem.Env) (s : Shared) (H : Hp) (a : Addr) (oe : Obj), L2H.RoomH k (A.deeper (envOfC qual (defScope st) s.heap.objs.size f cdv)) → Zc cls none oe → (∃ vs, oe.data = .fields vs) → ∀ G : Gh, G.slots = [] →
      SDs (L2H.cxH CX0 P w K mg base N qual (defScope st) f cdv A outer s H (fun _ _ _ => False) (a, oe)) G (defBody st) (tb a))
    (read : ∀ a, tb a { nx := fun _ => False, rt := fun d _ => d = .str x } (.d (hdl a) :: List.replicate (N.length - 1) .un)) : FnW P w K mg base (k + 1) f fd y cls x := by
  obtain ⟨oc, od, kV, doc, pm, an, cdv, ct, osl, rfl, lk, hcd⟩ := F.ex
  refine ⟨fun A outer s H args a oe Q hr hz hf hpin env hb hQ => ?_⟩
  have inK : K.In s.heap := env.mod.kin.keeps fun b o e => (env.bs b o e).1
  have vs1 : Vals [V.ref a] [Value.ref a] := .cons rfl .nil
  have kinds : ∀ n ∈ [(y, Value.ref a)], (defScope st).names.lookup n.1 = some .local ∨ ((defScope st).names.lookup n.1 = some .cell ∧ ((cellsFrom (s.heap.objs.size + 1) (defScope st).names []).lookup n.1).isSome = true) := fun n hn => by
    rw [List.mem_singleton.mp hn]
    rcases Sc.par y (List.mem_singleton.mpr rfl) with z | z
    · exact .inl z
    · exact .inr ⟨z, PySem.W.cellsFrom_some _ _ _ (.inl z)⟩
  refine codeAny_call_function hr.depth (inK _ _ lk) rfl Sc.co Sc.gen rfl (PySem.W.codeRec_of inK hcd) (hb _ _ _ _ (wpAny_newFunctionEnv_cells Sc.kind kinds fun env1 he s1 ic => ?_))
  subst he
  refine ⟨(env.mod.nolimit.keeps fun b o e => (env.bs b o e).1).keeps ic.toInCall.keep, codeAny_func ?_⟩
  have I := L2H.inv_startH (CX := CX0) (cd := cdv) (qual := qual) (f := f) (E := fun _ _ _ => False) (ps := [y]) (us := [.ref a]) (vs := [.ref a]) Sc hpin env rfl vs1 ic
  have B := body cdv A outer s H a oe (hr.deeper _) hz hf (freshG H) rfl
  have r0 : RelE K (freshG H) H (.d (hdl a) :: List.replicate (N.length - 1) .un) (L2.start N [.ref a]) := by
    have := startO (K := K) (H := H) (ds := [hdl a]) (vs := [.ref a]) (os := []) (fps := []) (N.length - 1) (.cons (.hdl a) .nil) .nil (by simp)
    simpa [L2.start, freshG] using this
  refine wpAny_mono (B.pss.run [] s1 _ H { nx := fun _ H' => Q .non H', rt := Q } I ⟨_, { nx := fun _ => False, rt := fun d _ => d = .str x }, r0, read a, (fun _ _ _ z => z.elim), fun d E' v σ' H' z x1 r1 p1 => ?_, (fun _ _ _ z => z.elim), fun _ _ _ z => z.elim⟩) (fun fl s' hs => ?_) fun e s' z => ?_
  · subst z
    cases p1
    exact hQ _ (relD_pext r1)
  · have done : ∀ {σ' : L2.St} {H' : Hp} {v : V} {u : Value}, Inv (L2H.cxH CX0 P w K mg base N qual (defScope st) f cdv A outer s H (fun _ _ _ => False) (a, oe)) [] σ' H' s' → RelV v u → Q v H' → CE outer P w H s Q u s' :=
      fun {σ' H' v u} J rv q => ⟨v, H', J.os, J.bare, J.base, J.hok, rv, q⟩
    cases fl with
    | ret u => obtain ⟨v, σ', H', J, rv, q⟩ := hs; exact done J rv q
    | next => obtain ⟨σ', H', J, q⟩ := hs; exact done (v := V.non) (u := Value.none) J rfl q
    | brk => obtain ⟨_, _, _, q⟩ := hs; exact q.elim
    | cont => obtain ⟨_, _, _, q⟩ := hs; exact q.elim
  · exact z
/-! ### isinstance of it -/
theorem call_isP {X : Cx} {a D : Addr} {oe : Obj} (C : ExcC X.K D) (hp : (a, oe) ∈ X.pn) (hz : Zc (.ref D) none oe) (hf : ∃ vs, oe.data = .fields vs) : CallR X (.builtin "isinstance") (rIsE X.K D a) := by
  rintro pins s σ H xs us Q I r ⟨c, cv, b, rfl, hcv, e, q⟩
  obtain ⟨u1, u2, rfl, rx, rt⟩ : ∃ u1 u2, us = [u1, u2] ∧ RelV (V.ref a) u1 ∧ RelV c u2 := by
    cases r with
    | cons rx rr => cases rr with
      | cons rt rr => cases rr; exact ⟨_, _, rfl, rx, rt⟩
  cases rx
  cases hcv _ rt
  obtain ⟨hget, _⟩ := I.pin (a, oe) (List.mem_append.mpr (.inl hp))
  have J : PySem.W.InstAt s.heap a oe D none := by
    obtain ⟨vs, hv⟩ := hf
    obtain ⟨oc, od, oda, osl⟩ := oe
    obtain ⟨h1, h2⟩ := hz
    dsimp only at h1 h2 hv
    subst h1 h2 hv
    exact ⟨hget, rfl, rfl, trivial⟩
  exact PySem.W.kia_one (PySem.W.handS_kitx_exc C.hg C.hk C.hs C.hd C.ha C.hn C.ht C.hm) I.kIn J e (fun z => nomatch z) fun tk => ⟨.bl b, H, I.kept (t' := tk) fun _ _ z => z, rfl, q⟩
/-- isinstance(e, C) where e names the exception -/
def tIsE (i : Nat) (a : Addr) (b : Bool) : TD := fun E Q => E[i]? = some (.d (hdl a)) ∧ Q (.bool b) E
section
variable {X : Cx} {G : Gh} {a D : Addr} {oe : Obj} {x c : Str} {p p1 p2 pos : Pos} {b : Bool} {v : V} {cv : Value}
theorem ed_isE (i : Nat) (C : ExcC X.K D) (hp : (a, oe) ∈ X.pn) (hz : Zc (.ref D) none oe) (hf : ∃ vs, oe.data = .fields vs) (he : PE X (.Name c p2) (tC v)) (hcv : ∀ u, RelV v u → u = cv) (hk : PySem.W.kitOne X.K (.ref D) cv = some b) (hg : Gl X "isinstance") (hm : X.mg "isinstance" = none)
    (hN : X.N[i]? = some x := by rfl) (hv : Vis X.env.scope x := by first | exact Or.inl rfl | exact Or.inr (Or.inl rfl) | exact Or.inr (Or.inr rfl)) (hd : (x == ("__debug__" : Str)) = false := by decide) (hcd : (x == ("__classdict__" : Str)) = false := by decide)
    (hs : starEach [.Name x p1, .Name c p2] X.env = (false, eval (.Name x p1) X.env) :: starEach [.Name c p2] X.env := by rfl) (hs2 : starEach [.Name c p2] X.env = (false, eval (.Name c p2) X.env) :: starEach [] X.env := by rfl) (hpl : (backTo pos (starEach [.Name c p2] X.env)).any (·.1) = false := by rfl) :
    ED X G (.Call (.Name "isinstance" p) [.Name x p1, .Name c p2] [] pos) (tIsE i a b) :=
  ⟨PE.weak (pe_callB (call_isP C hp hz hf) hg hm (by decide +kernel) (pa_cons (pe_var hN hv hd hcd) (pa_cons he pa_nil hs2) hs) (he := hs) (hpl := hpl)) fun σ H Q ⟨E, QE, r, ⟨q0, q⟩, k⟩ => by
    obtain ⟨w, e1, p⟩ := r.data q0
    have := hdl_ref p
    subst this
    exact ⟨_, e1, v, cv, b, rfl, hcv, hk, k _ _ _ _ q (Ext.refl _) r (.bl b)⟩⟩
end
/-! ### try .. except X as e: got = word(e) -/
section
variable {X : Cx} {G : Gh} {x n got wn : Str} {c : Value} {i j k : Nat} {body : List Stmt} {np pos pos' pg pw pe pc pa : Pos} {f : Addr} {fd : FuncData} {wd : Value → Option Str}
def sTryW (m : Value → Option Bool) (wd : Value → Option Str) (i j : Nat) (Wo : WDt) (tb : WDt → TSd) : TSd := fun DE E => tb (fun cls E1 => match m cls with
  | some true => match wd cls with
    | some y => i < E1.length ∧ DE.nx ((E1.set j (.d (.str y))).set i .un)
    | none => False
  | some false => Wo cls E1
  | none => False) DE E
theorem pe_word {X : Cx} {a : Addr} {oe : Obj} {pn : List (Addr × Obj)} {cls : Value} {d : Option Addr} {y : Str} (hw : ∀ cls y', wd cls = some y' → FnW X.prog X.w X.K X.mg X.base k f fd y cls y') (hr : L2H.RoomH k X.A) (hg : Gl X wn) (hm : X.mg wn = some (.ref f)) (hk : PySem.W.keepIn X.K (.ref f) = true) (hb : Binds X.K fd [y] [])
    (hz : Zc cls d oe) (hf : ∃ vs, oe.data = .fields vs) (hi : X.N[i]? = some n) (hv : Vis X.env.scope n) (hdn : (n == ("__debug__" : Str)) = false) (hcd : (n == ("__classdict__" : Str)) = false) (hdb : (wn == ("__debug__" : Str)) = false)
    (hs : starEach [.Name n pe] X.env = (false, eval (.Name n pe) X.env) :: starEach [] X.env) (hpl : (backTo pc (starEach [] X.env)).any (·.1) = false) :
    PE (X.suite a ((a, oe) :: pn)) (.Call (.Name wn pw) [.Name n pe] [] pc) (fun σ H Q => ∃ y', wd cls = some y' ∧ d = none ∧ σ[i]? = some (some (.ref a)) ∧ ∀ H', PExt H H' → Q (.str y') H') := by
  refine ⟨fun pins s σ H Q I ⟨y', hy, hd, hσ, hQ⟩ => ?_⟩
  subst hd
  have pav := pa_cons (X := X.suite a ((a, oe) :: pn)) (pe_var (i := i) (pos := pe) hi hv hdn hcd) pa_nil hs
  refine wpAny_Call_Name_kw (ld_glob I hg hm (PySem.W.callWith_K (h₀ := X.base) I.ok.mod.kin hk (thn (pav.run pc pins s σ H (fun vs H1 => vs = [.ref a] ∧ H1 = H) I ⟨_, hσ, rfl, rfl⟩) ?_) hs hpl) hdb)
  rintro us s1 ⟨vs, H1, I1, r, rfl, rfl⟩
  refine ⟨I1.kIn, ?_⟩
  obtain ⟨u, rfl, ru⟩ : ∃ u, us = [u] ∧ RelV (V.ref a) u := by
    cases r with
    | cons ru rr => cases rr; exact ⟨_, rfl, ru⟩
  cases ru
  have hpin := I1.pin (a, oe) (List.mem_append_left _ List.mem_cons_self)
  have P1 : L2H.PinOk X.stack H1 s1 (a, oe) := ⟨hpin.1, hpin.2.1, fun z => (List.mem_cons.mp (I1.stkSub a z)).elim hpin.2.2.1 hpin.2.2.2.1, hpin.2.2.2.2⟩
  have bnd := hb s1 [.ref a] I1.kIn rfl
  refine wpAny_call (codeAny_mono ((hw cls y' hy).run _ X.stack s1 H1 ⟨[.ref a], []⟩ a oe Q ⟨hr.dp, hr.un⟩ hz hf P1 I1.env0 bnd hQ) fun r s' hq => ?_)
  cases r with
  | error e => exact (hq : False).elim
  | ok fl =>
    cases fl with
    | ret u => exact I1.after hq
    | _ => exact (hq : False).elim
theorem set3 {α : Type} (l : List α) (i j : Nat) (a b c : α) : ((l.set i a).set j b).set i c = (l.set j b).set i c := by
  by_cases h : i = j
  · subst h; simp
  · rw [List.set_comm _ _ h, List.set_set]
theorem sd_tryW {m : Value → Option Bool} {Wo : WDt} {Wout : WX} {tb : WDt → TSd} {y : Str} (hm : ∀ cls b, m cls = some b → PySem.W.exmOne X.K cls c = some b) (hWo : Wish X.K G Wo Wout) (hs : X.stack = X.env :: X.outer) (hf : X.env.frame = some X.env.locals) (hc : Names X x c) (tk : Takes X Wout)
    (hb : ∀ (W : WX) (pn : List (Addr × Obj)) (xe : Value → Shared → Prop), Takes (X.tr pn xe) W → PassesOwn (model X.prog X.w) X.A X.env xe → ∀ G' : Gh, G'.slots = G.slots → ∀ WD : WDt, Wish X.K G' WD W → SDs (X.tr pn xe) G' body (tb WD))
    (hw : ∀ cls y', wd cls = some y' → FnW X.prog X.w X.K X.mg X.base k f fd y cls y') (hr : L2H.RoomH k X.A) (hgw : Gl X wn) (hmw : X.mg wn = some (.ref f)) (hkw : PySem.W.keepIn X.K (.ref f) = true) (hbw : Binds X.K fd [y] [])
    (hN : X.N.Nodup) (hi : X.N[i]? = some n) (hln : X.env.kindOf n = some .local) (hj : X.N[j]? = some got) (hlj : Loc X.env.scope got) (hfj : X.fn got = true ∨ X.env.scope.names.lookup got = some .local) (si : i ∉ G.slots) (sj : j ∉ G.slots) (hv : Vis X.env.scope n)
    (hdn : (n == ("__debug__" : Str)) = false := by decide) (hcd : (n == ("__classdict__" : Str)) = false := by decide) (hdb : (wn == ("__debug__" : Str)) = false := by decide)
    (hst : starEach [.Name n pe] X.env = (false, eval (.Name n pe) X.env) :: starEach [] X.env := by rfl) (hpl : (backTo pc (starEach [] X.env)).any (·.1) = false := by rfl)
    (hsw : swapsWith (.Call (.Name wn pw) [.Name n pe] [] pc) (some (.Name got pg)) pa.line X.env = pure false := by rfl) :
    SD X G (.Try body [.ExceptHandler (some (.Name x np)) (some n) [.Assign [.Name got pg] (.Call (.Name wn pw) [.Name n pe] [] pc) pa] pos'] [] [] pos) (sTryW m wd i j Wo tb) := by
  let tB : WX → TS := fun W D σ H => ∃ (G' : Gh) (WD : WDt), G'.slots = G.slots ∧ Wish X.K G' WD W ∧ liftS X.K G' (tb WD) D σ H
  have hb' : ∀ (W : WX) (pn : List (Addr × Obj)) (xe : Value → Shared → Prop), Takes (X.tr pn xe) W → PassesOwn (model X.prog X.w) X.A X.env xe → PSs (X.tr pn xe) body (tB W) := fun W pn xe t p =>
    ⟨fun pins s σ H F I ⟨G', WD, hg, hw, q⟩ => (hb W pn xe t p G' hg WD hw).pss.run pins s σ H F I q⟩
  let ts : Addr → Value → Option Addr → TS := fun a cls d D σ H => ∃ y', wd cls = some y' ∧ d = none ∧ σ[i]? = some (some (.ref a)) ∧ ∀ H', PExt H H' → D.nx (σ.set j (some (.str y'))) H'
  have hsu : ∀ (a : Addr) (oe : Obj) (cls : Value) (d : Option Addr) (pn : List (Addr × Obj)), Zc cls d oe → (∃ vs, oe.data = .fields vs) → PSs (X.suite a ((a, oe) :: pn)) [.Assign [.Name got pg] (.Call (.Name wn pw) [.Name n pe] [] pc) pa] (ts a cls d) := fun a oe cls d pn hz hfo =>
    pss_one (PS.weak (ps_set (X := X.suite a ((a, oe) :: pn)) hN hj hlj (pe_word (a := a) (pn := pn) hw hr hgw hmw hkw hbw hz hfo hi hv hdn hcd hdb hst hpl) hsw hfj) fun F σ H h => h)
  refine ⟨PS.weak (ps_try_as hs hf hN hi hln hc tk hb' hsu) fun F σ H ⟨E, DE, r, q, k1, k2, k3, k4⟩ => ?_⟩
  refine ⟨{ G with X0 := H }, _, rfl, fun cls E1 σ1 H1 q1 r1 => ?_, E, DE, r.mark, q, fun E' σ' H' z x r' => k1 E' σ' H' z x (RelX.unmark (H1 := H) r r'), fun d E' v σ' H' z x r' p => k2 d E' v σ' H' z x (RelX.unmark (H1 := H) r r') p, fun E' σ' H' z x r' => k3 E' σ' H' z x (RelX.unmark (H1 := H) r r'), fun E' σ' H' z x r' => k4 E' σ' H' z x (RelX.unmark (H1 := H) r r')⟩
  have ext : Ext H H1 := r1.ext
  have r2 : RelE X.K G H1 E1 σ1 := RelX.unmark (H1 := H) r r1
  show wAs X.K c i ts Wout F cls none σ1 H1
  cases e : m cls with
  | none => rw [e] at q1; exact q1.elim
  | some b =>
    rw [e] at q1
    refine ⟨b, hm cls b e, fun hbt a ha => ?_, fun hbf => ?_⟩
    · subst hbt
      dsimp only at q1
      split at q1
      · rename_i y' hy
        obtain ⟨li, q1⟩ := q1
        rw [r2.len] at li
        refine ⟨y', hy, rfl, List.getElem?_set_self li, fun H' x2 => ?_⟩
        refine k1 _ _ _ q1 (ext.trans x2.ext) ?_
        rw [set3]
        exact ((r2.pext x2).setD sj (.str y')).wipe1 si
      · exact q1.elim
    · subst hbf
      exact hWo _ _ _ _ q1 r2
end
end DL

set_option Elab.async false
set_option linter.all false
set_option maxRecDepth 100000
/-! DL43: small things for defs over objects. -/
namespace DL
open PySem PySem.Spec PyProof.Rows L2
theorem u65H {k : Nat} {A : Around} (r : L2H.RoomH k A) : A.units + 65 < cLine := by have := r.un; omega
theorem u64H {k : Nat} {A : Around} (r : L2H.RoomH k A) : A.units + 64 < cLine := by have := r.un; omega
/-- the defaults 0, None -/
def dflB : List Value → Bool
  | [.int 0 _, .none] => true
  | _ => false
theorem dfl_ok {l : List Value} (h : dflB l = true) : Vals [V.int 0, V.non] l := by
  unfold dflB at h
  split at h
  · exact .cons ⟨_, rfl⟩ (.cons rfl .nil)
  · cases h
theorem funD_mk {K : PySem.W.Frag} {x qual : Str} {st : Stmt} {f T : Addr} {oc kV doc pm cdv ct : Value} {od an : Option Addr} {osl : Array (Option Value)} {tc : Value} {td : Option Addr} {its : Array Value} {n : Nat} {ts : Array (Option Value)}
    (l : K.lookup f = some ⟨oc, od, .func (PySem.W.fnOf x qual (defArgs st) (defBody st) (defScope st) (.ref T) kV doc pm an cdv ct), osl⟩) (c : PySem.W.codeIn K cdv qual = true) (k : PySem.W.keepIn K (.ref f) = true)
    (lT : K.lookup T = some ⟨tc, td, .seq its n, ts⟩) (v : dflB its.toList = true) : FunD K x qual (defArgs st) (defBody st) (defScope st) [V.int 0, V.non] [] f (PySem.W.fnOf x qual (defArgs st) (defBody st) (defScope st) (.ref T) kV doc pm an cdv ct) :=
  ⟨⟨oc, od, .ref T, kV, doc, pm, an, cdv, ct, osl, rfl, l, c, .inr ⟨by simp, T, _, its.toList, n, rfl, lT, by simp, dfl_ok v⟩, .inl rfl⟩, k⟩
end DL

set_option Elab.async false
set_option linter.all false
set_option maxRecDepth 100000
set_option maxHeartbeats 3200000
/-! DL44: tuple * int, any int from 0 on. -/
namespace DL
open PySem PySem.Spec PyProof.Rows L2
theorem tuple_mul1 (l : Addr) (items : Array Value) (n : Nat) (dd : Option Addr) (sl : Array (Option Value)) (u : Tok) :
    Meets (Builtin.«tuple.__mul__» ⟨[.ref l, .int 1 u], []⟩) (fun _ R s => s.heap.get? l = some { cls := .type "tuple", dict := dd, data := .seq items n, slots := sl } ∧ R (.ok (.ret (Value.ref l))) { s with heap := s.heap, toks := s.toks }) :=
  .of_wp fun prog w A R s h => by
    obtain ⟨hp, g, d, tk, os⟩ := s
    obtain ⟨hl, h⟩ := h
    have f1 := AutoSeq1.idx_int
    have c1 : (items.isEmpty || (1 : Int) == 1) = true := by rw [show ((1 : Int) == 1) = true from rfl, Bool.or_true]
    wp_walk using wpAny_loadPart' hl
    repeat (first
      | (refine wpAny_ite_true (decide_eq_true c1) ?_; wp_walk using wpAny_loadPart' hl))
    exact ⟨_, rfl, h⟩
theorem tuple_mul0 (l : Addr) (items : Array Value) (n : Nat) (dd : Option Addr) (sl : Array (Option Value)) (u : Tok) (hi : items.isEmpty = false) :
    Meets (Builtin.«tuple.__mul__» ⟨[.ref l, .int 0 u], []⟩) (fun _ R s => s.heap.get? l = some { cls := .type "tuple", dict := dd, data := .seq items n, slots := sl } ∧
      R (.ok (.ret (Value.ref s.heap.objs.size))) { s with heap := s.heap.push { cls := Value.type "tuple", data := Data.seq #[] }, toks := s.toks }) :=
  .of_wp fun prog w A R s h => by
    obtain ⟨hp, g, d, tk, os⟩ := s
    obtain ⟨hl, h⟩ := h
    have f1 := AutoSeq1.idx_int
    have c1 : (items.isEmpty || (0 : Int) == 1) = false := by rw [hi]; rfl
    have c2 : (decide ((0 : Int) ≤ 0) || items.isEmpty) = true := by rw [decide_eq_true (Int.le_refl 0)]; rfl
    wp_walk using wpAny_loadPart' hl
    repeat (first
      | (refine wpAny_ite_false (decide_eq_false (by rw [c1]; exact Bool.false_ne_true)) ?_; wp_walk using wpAny_loadPart' hl)
      | (refine wpAny_ite_true (decide_eq_true c2) ?_; wp_walk using wpAny_loadPart' hl))
    exact ⟨_, rfl, h⟩
section
variable {X : Cx}
theorem op_repT1 : OpR X (binaryOp .Mult) (fun x y H Q => ∃ l xs, x = .ref l ∧ y = .int 1 ∧ SqT X.K H l xs ∧ Q (.ref l) H) := by
  intro pins s σ H x y v u Q I rx ry h
  obtain ⟨l, xs, rfl, rfl, hT, q⟩ := h
  cases rx
  obtain ⟨t, rfl⟩ := ry
  obtain ⟨its, r, ⟨⟨cls, dd, data, sl⟩, ho, hc, n, hd⟩, hs⟩ := I.tuple hT
  simp only at hc hd
  subst hc hd
  refine wpAny_binaryOp_repeat_ref (T := "tuple") (U := "int") (by decide) ⟨_, ho, rfl⟩ (fun s' => typeIs_int s' 1 t) noFill_tuple_mul F.fills_int_mul F.slot_int_rmul repeat_tuple F.slot_int_index.lookup
    (call_meets F.slot_int_rmul (typeIs_int s 1 t) F.entry_int_rmul (F.args_int_rmul_2 _ _) (int_rmul_tuple 1 t l its.toArray n dd sl)
      ⟨ho, rfl, ⟨_, ho, rfl⟩, call_meets F.slot_tuple_mul ⟨_, ho, rfl⟩ F.entry_tuple_mul (F.args_tuple_mul_2 _ _) (tuple_mul1 l its.toArray n dd sl t) ⟨ho, ?_⟩⟩)
  exact ⟨.ref l, H, I, rfl, q⟩
theorem op_repT0 : OpR X (binaryOp .Mult) (fun x y H Q => ∃ l xs, x = .ref l ∧ y = .int 0 ∧ SqT X.K H l xs ∧ xs ≠ [] ∧ ∀ p o, H p = none → o.dict = none → Q (.ref p) (upd H p (.frz o (.tup [])))) := by
  intro pins s σ H x y v u Q I rx ry h
  obtain ⟨l, xs, rfl, rfl, hT, hne, q⟩ := h
  cases rx
  obtain ⟨t, rfl⟩ := ry
  obtain ⟨its, r, ⟨⟨cls, dd, data, sl⟩, ho, hc, n, hd⟩, hs⟩ := I.tuple hT
  simp only at hc hd
  subst hc hd
  have hle : its.length = xs.length := r.length.symm
  have hi : its.toArray.isEmpty = false := by
    cases its with
    | nil => exact absurd (List.eq_nil_of_length_eq_zero hle.symm) hne
    | cons a b => rfl
  refine wpAny_binaryOp_repeat_ref (T := "tuple") (U := "int") (by decide) ⟨_, ho, rfl⟩ (fun s' => typeIs_int s' 0 t) noFill_tuple_mul F.fills_int_mul F.slot_int_rmul repeat_tuple F.slot_int_index.lookup
    (call_meets F.slot_int_rmul (typeIs_int s 0 t) F.entry_int_rmul (F.args_int_rmul_2 _ _) (int_rmul_tuple 0 t l its.toArray n dd sl)
      ⟨ho, rfl, ⟨_, ho, rfl⟩, call_meets F.slot_tuple_mul ⟨_, ho, rfl⟩ F.entry_tuple_mul (F.args_tuple_mul_2 _ _) (tuple_mul0 l its.toArray n dd sl t hi) ⟨ho, ?_⟩⟩)
  exact ⟨.ref s.heap.objs.size, _, I.laid (t' := s.toks) (o := .frz _ (.tup [])) (fun b ob q => Heap.get?_push_of_some _ q) (Nat.le_refl _) ⟨Heap.get?_push_size _ rfl, Nat.zero_le _, _, .nil, IsTup.new _ _⟩, rfl, q _ _ (I.hok.fresh (Nat.le_refl _)) rfl⟩
def opRepA : OpT := fun x y Q => match x, y with
  | .tuple xs, .int k => (xs ≠ [] ∧ 0 ≤ k ∧ k ≤ 1000 ∧ xs.length ≤ 1000) ∧ Q (.tuple (List.replicate k.toNat xs).flatten)
  | _, _ => False
theorem od_repA : OpD X (binaryOp .Mult) opRepA := ⟨_, op_repTF.or (op_repT1.or op_repT0), fun x y v u H QD Q hx hy q k => by
  cases x with
  | tuple xs =>
    cases y with
    | int j =>
      obtain ⟨a, vs, rfl, sd, la⟩ := hx.tupD
      have sa := sd.1
      rw [hy.int]
      have hl := la.length
      have hne : vs ≠ [] := fun e => q.1.1 (by
        rw [e] at hl
        exact List.eq_nil_of_length_eq_zero hl)
      have h0 := q.1.2.1
      by_cases h2 : 2 ≤ j
      · exact .inl ⟨a, j, vs, rfl, rfl, sa, hne, h2, q.1.2.2.1, by rw [← hl]; exact q.1.2.2.2, fun p o hp ho => k _ _ _ q.2 (PExt.new hp) (.tup (.new ho) ((la.rep _).ext (PExt.new hp).ext))⟩
      · by_cases h1 : j = 1
        · subst h1
          refine .inr (.inl ⟨a, vs, rfl, rfl, sa, k _ _ _ q.2 (PExt.refl _) ?_⟩)
          rw [show (List.replicate (1 : Int).toNat xs).flatten = xs by show xs ++ [] = xs; rw [List.append_nil]]
          exact .tup sd la
        · have e0 : j = 0 := by omega
          subst e0
          exact .inr (.inr ⟨a, vs, rfl, rfl, sa, hne, fun p o hp ho => k _ _ _ q.2 (PExt.new hp) (.tup (.new ho) .nil)⟩)
    | _ => exact q.elim
  | _ => exact q.elim⟩
end
end DL

set_option Elab.async false
set_option linter.all false
set_option maxRecDepth 100000
set_option maxHeartbeats 3200000
/-! DL45: len(o), str(o) by own __len__, __str__; f-strings. -/
namespace DL
open PySem PySem.Spec PyProof.Rows L2
section
variable {X : Cx} {C f : Addr} {fd : FuncData} {ps : List Str} {n : Nat} {sp : SpO} {spv : Sp} {pins : List (Addr × Obj)} {σ : St} {H : Hp} {s : Shared}
/-- a def is called somewhere below the running body -/
theorem run_in {A1 : Around} {Q : VK} {us : List Value} {vs : List V} {E : XK} (F : FnOk X.prog X.w X.K X.mg X.base CX0 n f fd ps spv) (sb : Sub X n A1) (hb : Binds X.K fd ps []) (I : Inv X pins σ H s) (r : Vals vs us) (h : spv vs H Q E) :
    wpAny (model X.prog X.w) A1 (call (.ref f) us) (EP X pins σ Q) X.xe s := by
  have e0 : Env0 X.prog X.w X.K X.mg X.base A1 X.stack s H := by
    have e := I.env0
    exact ⟨by rw [sb.fr]; exact e.frames, e.mod, e.bs, e.bsz, e.funs, e.frf, e.hok, e.bare⟩
  have hl : us.length = ps.length := by rw [← r.length]; exact F.len _ _ _ _ h
  have b := hb s us I.kIn (by rw [List.append_nil]; exact hl)
  rw [List.append_nil] at b
  refine wpAny_call (codeAny_mono (F.run A1 X.stack s H ⟨us, []⟩ us vs Q E sb.room e0 b r h) fun r s' hq => ?_)
  cases r with
  | error e => exact False.elim hq
  | ok fl =>
    cases fl with
    | ret u => exact I.after hq
    | next => exact False.elim hq
    | brk => exact False.elim hq
    | cont => exact False.elim hq
theorem sub_self (h : Room n X.A) : Sub X n X.A := ⟨h, rfl⟩
theorem cr_lenO (F : FnOk X.prog X.w X.K X.mg X.base CX0 n f fd ps spv) (hm : Meth X.K C "__len__" f) (hb : Binds X.K fd ps []) (hr : Room (n + 1) X.A) :
    CallR X (.builtin "len") (fun xs H Q => ∃ (a dx : Addr) (fs : List (Str × V)), xs = [.ref a] ∧ H a = some (.ins C dx fs) ∧ spv [.ref a] H (fun v H' => ∃ k : Int, v = .int k ∧ (0 ≤ k ∧ k < 2 ^ 63) ∧ Q (.int k) H') E0) := by
  intro pins s σ H xs us Q I r h
  obtain ⟨a, dx, fs, rfl, ha, q⟩ := h
  rw [Vals.ref1 r]
  obtain ⟨mA, J, _⟩ := ins_get I.hok ha
  obtain ⟨od, J, _⟩ := J.look
  obtain ⟨m, hF⟩ := I.fr
  refine PySem.W.len_K hF I.ok.mod.kin J hm.at_ hm.fn (wpAny_mono (run_in (vs := [.ref a]) F (sub_self hr).in1 hb I (.cons rfl .nil) q) (fun v s' hv => ?_) fun _ _ y => y)
  obtain ⟨x, H', I', rx, k, rfl, hk, qk⟩ := hv
  obtain ⟨t, rfl⟩ := rx
  exact ⟨hk, .int k, H', I'.tok _, ⟨_, rfl⟩, qk⟩
theorem cr_strO (F : FnOk X.prog X.w X.K X.mg X.base CX0 n f fd ps spv) (hm : Meth X.K C "__str__" f) (hb : Binds X.K fd ps []) (hr : Room (n + 2) X.A) :
    CallR X (.type "str") (fun xs H Q => ∃ (a dx : Addr) (fs : List (Str × V)), xs = [.ref a] ∧ H a = some (.ins C dx fs) ∧ spv [.ref a] H (fun v H' => ∃ y : Str, v = .str y ∧ Q (.str y) H') E0) := by
  intro pins s σ H xs us Q I r h
  obtain ⟨a, dx, fs, rfl, ha, q⟩ := h
  rw [Vals.ref1 r]
  obtain ⟨mA, J, _⟩ := ins_get I.hok ha
  obtain ⟨od, J, _⟩ := J.look
  have sb : Sub X n X.A.in1.in1 := (sub_self hr).in1.in1
  refine PySem.W.kso_call sb.room.units0 I.kIn J hm.at_ hm.fn (wpAny_mono (run_in (vs := [.ref a]) F sb hb I (.cons rfl .nil) q) (fun v s' hv => ?_) fun _ _ y => y)
  obtain ⟨x, H', I', rx, y, rfl, qk⟩ := hv
  obtain ⟨t, rfl⟩ := rx
  exact ⟨.str y, H', I', ⟨_, rfl⟩, qk⟩
end
def lenB (x : D) (Q : D → Prop) : Prop := match x with
  | .int k => (0 ≤ k ∧ k < 2 ^ 63) ∧ Q (.int k)
  | _ => False
def strB (x : D) (Q : D → Prop) : Prop := match x with
  | .str y => Q (.str y)
  | _ => False
/-- len(o), str(o) -/
def tOwnO (C : Addr) (bk : D → (D → Prop) → Prop) (sp : SpO) (to : TD) : TD := fun E Q => to E fun d E1 => (match obD C d E1 with
  | some _ => True
  | none => False) ∧ tObs sp [d] E1 (fun x E2 => bk x fun z => Q z E2) fun _ _ => False
section
variable {X : Cx} {G : Gh} {o : Expr} {pos p : Pos} {x : Str} {C f : Addr} {fd : FuncData} {ps : List Str} {n : Nat} {sp : SpO} {to : TD}
theorem ed_lenO (he : ED X G o to) (hm : Meth X.K C "__len__" f) (F : FnOk X.prog X.w X.K X.mg X.base CX0 n f fd ps (spO X.K sp)) (hr : Room (n + 1) X.A) (hb : Binds X.K fd ps []) (hg : Gl X "len") (hmg : X.mg "len" = none)
    (hs : starEach [o] X.env = (false, eval o X.env) :: starEach [] X.env := by rfl) (hpl : (backTo pos (starEach [] X.env)).any (·.1) = false := by rfl) : ED X G (.Call (.Name "len" p) [o] [] pos) (tOwnO C lenB sp to) :=
  ⟨PE.weak (pe_callB (cr_lenO F hm hb hr) hg hmg rfl (pa_cons he.pe pa_nil hs) (by decide) (by decide) hs hpl) fun σ H Q ⟨E, QE, r, q, kk⟩ => by
    refine ⟨E, _, r, q, fun d E1 v H1 q1 x1 r1 p1 => ?_⟩
    obtain ⟨q0, q1⟩ := q1
    split at q0
    · rename_i fs hfs
      obtain ⟨a, j, rfl, e2, _⟩ := obD_some hfs
      have ev := hdl_ref p1
      subst ev
      obtain ⟨dx, vs, ls, g1, g2⟩ := r1.insAt e2
      refine ⟨a, dx, vs, rfl, g1, ?_⟩
      refine obs_call r1 (.cons p1 .nil) q1 (fun d E' v H' z xx rr pp => ?_) fun cls E' H' z rr => z
      unfold lenB at z
      split at z
      · cases pp
        exact ⟨_, rfl, z.1, kk _ _ _ _ z.2 (x1.trans xx) rr (.int _)⟩
      · exact z.elim
    · exact q0.elim⟩
theorem ed_strO (he : ED X G o to) (hm : Meth X.K C "__str__" f) (F : FnOk X.prog X.w X.K X.mg X.base CX0 n f fd ps (spO X.K sp)) (hr : Room (n + 2) X.A) (hb : Binds X.K fd ps []) (hg : Gl X "str") (hmg : X.mg "str" = none)
    (hs : starEach [o] X.env = (false, eval o X.env) :: starEach [] X.env := by rfl) (hpl : (backTo pos (starEach [] X.env)).any (·.1) = false := by rfl) : ED X G (.Call (.Name "str" p) [o] [] pos) (tOwnO C strB sp to) :=
  ⟨PE.weak (pe_callTy (cr_strO F hm hb hr) hg hmg rfl (pa_cons he.pe pa_nil hs) (by decide) (by decide) hs hpl) fun σ H Q ⟨E, QE, r, q, kk⟩ => by
    refine ⟨E, _, r, q, fun d E1 v H1 q1 x1 r1 p1 => ?_⟩
    obtain ⟨q0, q1⟩ := q1
    split at q0
    · rename_i fs hfs
      obtain ⟨a, j, rfl, e2, _⟩ := obD_some hfs
      have ev := hdl_ref p1
      subst ev
      obtain ⟨dx, vs, ls, g1, g2⟩ := r1.insAt e2
      refine ⟨a, dx, vs, rfl, g1, ?_⟩
      refine obs_call r1 (.cons p1 .nil) q1 (fun d E' v H' z xx rr pp => ?_) fun cls E' H' z rr => z
      unfold strB at z
      split at z
      · cases pp
        exact ⟨_, rfl, kk _ _ _ _ z (x1.trans xx) rr (.str _)⟩
      · exact z.elim
    · exact q0.elim⟩
end
/-! ### f-strings -/
def tFmtD (t : TD) : TD := fun E Q => t E fun d E1 => match d with
  | .str y => y.length ≤ sizeLine ∧ Q (.str y) E1
  | .int i => i.natAbs.log2 < 1920 ∧ Q (.str (toString i)) E1
  | _ => False
def tJd : List TD → Str → Env → (Str → Env → Prop) → Prop
  | [], acc, E, Q => Q acc E
  | t :: ts, acc, E, Q => t E fun d E1 => match d with
    | .str y => (acc ++ y).length ≤ sizeLine ∧ tJd ts (acc ++ y) E1 Q
    | _ => False
def tJoinD (ts : List TD) : TD := fun E Q => tJd ts Str.empty E fun out E1 => Q (.str out) E1
section
variable {X : Cx} {G : Gh}
inductive EJ (X : Cx) (G : Gh) : List Expr → List TD → Prop where
  | nil : EJ X G [] []
  | cons {e : Expr} {t : TD} {es : List Expr} {ts : List TD} (h : ED X G e t) (r : EJ X G es ts) : EJ X G (e :: es) (t :: ts)
theorem EJ.pj {es : List Expr} {ts : List TD} (h : EJ X G es ts) : PJ X es (ts.map (liftE X.K G)) := by
  induction h with
  | nil => exact .nil
  | cons h r ih => exact .cons h.pe ih
theorem ed_fmt {e : Expr} {t : TD} {pos : Pos} (h : ED X G e t) : ED X G (.FormattedValue e (-1) none pos) (tFmtD t) :=
  ⟨PE.weak (pe_fmt h.pe) fun σ H Q ⟨E, QE, r, q, kk⟩ => by
    refine ⟨E, _, r, q, fun d E1 v H1 q1 x1 r1 p1 => ?_⟩
    split at q1
    · cases p1
      exact .inl ⟨_, rfl, q1.1, kk _ _ _ _ q1.2 x1 r1 (.str _)⟩
    · cases p1
      exact .inr ⟨_, rfl, q1.1, kk _ _ _ _ q1.2 x1 r1 (.str _)⟩
    · exact q1.elim⟩
theorem jd_lift {K : PySem.W.Frag} {σ : L2.St} : ∀ (ts : List TD) (acc : Str) (E : Env) (H : Hp) (QE : Str → Env → Prop) (Q : Str → Hp → Prop), RelE K G H E σ → tJd ts acc E QE → (∀ out E' H', QE out E' → Ext H H' → RelE K G H' E' σ → Q out H') → tJs (ts.map (liftE K G)) acc σ H Q
  | [], acc, E, H, QE, Q, r, q, kk => kk acc E H q (Ext.refl _) r
  | t :: ts, acc, E, H, QE, Q, r, q, kk => by
    refine ⟨E, _, r, q, fun d E1 v H1 q1 x1 r1 p1 => ?_⟩
    split at q1
    · cases p1
      exact ⟨_, rfl, q1.1, jd_lift ts _ E1 H1 QE Q r1 q1.2 fun out E' H' z x r' => kk out E' H' z (x1.trans x) r'⟩
    · exact q1.elim
theorem ed_joined {v1 v2 : Expr} {rest : List Expr} {ts : List TD} {pos : Pos} (h : EJ X G (v1 :: v2 :: rest) ts) : ED X G (.JoinedStr (v1 :: v2 :: rest) pos) (tJoinD ts) :=
  ⟨PE.weak (pe_joined h.pj) fun σ H Q ⟨E, QE, r, q, kk⟩ => jd_lift ts _ E H _ _ r q fun out E' H' z x r' => kk _ _ _ _ z x r' (.str _)⟩
end
end DL

set_option Elab.async false
set_option linter.all false
set_option maxRecDepth 100000
set_option maxHeartbeats 3200000
/-! DL46: own dicts with int and text keys: d[k]. -/
namespace DL
open PySem PySem.Spec PyProof.Rows L2
def keyOf : D → Option Key
  | .int i => some (.inl i)
  | .str x => some (.inr x)
  | _ => none
def valK (kvs : List (Key × D)) (k : Key) : Option D := (kvs.find? fun kv => decide (kv.1 = k)).map (·.2)
theorem valK_rel {K : PySem.W.Frag} {H : Hp} {k : Key} : ∀ {kvs : List (Key × D)} {us : List (Key × V)} {d : D}, us.map (·.1) = kvs.map (·.1) → RpL K H (kvs.map (·.2)) (us.map (·.2)) → valK kvs k = some d → ∃ v, valV us k = some v ∧ Rp K H d v
  | [], us, d, _, _, h => by simp [valK] at h
  | p :: kvs, [], d, h1, _, _ => by simp at h1
  | p :: kvs, u :: us, d, h1, h2, h3 => by
    simp only [List.map_cons, List.cons.injEq] at h1
    simp only [List.map_cons] at h2
    cases h2 with
    | cons r rs =>
      by_cases e : p.1 = k
      · have : valK (p :: kvs) k = some p.2 := by simp [valK, List.find?_cons, e]
        rw [this] at h3
        cases h3
        exact ⟨u.2, valV_pos (h1.1.trans e), r⟩
      · have : valK (p :: kvs) k = valK kvs k := by simp [valK, List.find?_cons, e]
        rw [this] at h3
        obtain ⟨v, a, b⟩ := valK_rel h1.2 rs h3
        exact ⟨v, (valV_neg (by rw [h1.1]; exact e)).trans a, b⟩
theorem keyOf_rel {K : PySem.W.Frag} {H : Hp} {d : D} {v : V} {k : Key} (h : keyOf d = some k) (r : Rp K H d v) : v = kV k := by
  cases d with
  | int i => cases h; cases r; rfl
  | str x => cases h; cases r; rfl
  | _ => cases h
def tDkGet (i : Nat) (tk : TD) : TD := fun E Q => match E[i]? with
  | some (.dk _) => tk E fun k E1 => match E1[i]?, keyOf k with
    | some (.dk kvs), some ky => optQ (valK kvs ky) fun d => Q d E1
    | _, _ => False
  | _ => False
section
variable {X : Cx} {G : Gh} {e : Expr} {pos p0 : Pos} {x : Str} {tk : TD}
theorem ed_dkGet (i : Nat) (hu : X.A.units + 65 < cLine) (hk : ED X G e tk) (hN : X.N[i]? = some x := by rfl) (hv : Vis X.env.scope x := by first | exact Or.inl rfl | exact Or.inr (Or.inl rfl) | exact Or.inr (Or.inr rfl)) (hd : (x == ("__debug__" : Str)) = false := by decide)
    (hcd : (x == ("__classdict__" : Str)) = false := by decide) (hs : NoSl e := by intro _ _; rfl) : ED X G (.Subscript (.Name x p0) e pos) (tDkGet i tk) :=
  ⟨PE.weak (pe_dget (by omega) (pe_var hN hv hd hcd) hk.pe hs) fun σ H Q ⟨E, QE, r, q, k⟩ => by
    unfold tDkGet at q
    split at q
    · rename_i kvs0 he0
      obtain ⟨p, e1, e2⟩ := r.mutAt he0 rfl
      refine ⟨_, e1, E, _, r, q, fun kd E1 v H1 q1 x1 r1 p1 => ?_⟩
      split at q1
      · rename_i kvs ky he hky
        obtain ⟨p', f1, us, f2, f3, f4⟩ := r1.mutAt he rfl
        rw [e1] at f1; cases f1
        cases hv : valK kvs ky with
        | none => rw [hv] at q1; exact q1.elim
        | some d =>
          rw [hv] at q1
          obtain ⟨v', g1, g2⟩ := valK_rel f3 f4 hv
          rw [keyOf_rel hky p1]
          exact ⟨p, v', rfl, by rw [← g1]; exact .k f2, k _ _ _ _ q1 x1 r1 g2⟩
      · exact q1.elim
    · exact q.elim⟩
end
end DL

set_option Elab.async false
set_option linter.all false
set_option maxRecDepth 100000
set_option maxHeartbeats 3200000
/-! DL47: {k: v, ..}: a new dict with int and text keys. -/
namespace DL
open PySem PySem.Spec PyProof.Rows L2
def putD2 (kvs : List (Key × D)) (k : Key) (v : D) : List (Key × D) :=
  if (kvs.any fun kv => decide (kv.1 = k)) = true then kvs.map (fun kv => if kv.1 = k then (kv.1, v) else kv) else kvs ++ [(k, v)]
def mergeD (kvs more : List (Key × D)) : List (Key × D) := more.foldl (fun acc kv => putD2 acc kv.1 kv.2) kvs
/-- keys alike, values stand for data -/
def KR (K : PySem.W.Frag) (H : Hp) (kvs : List (Key × D)) (us : List (Key × V)) : Prop := us.map (·.1) = kvs.map (·.1) ∧ RpL K H (kvs.map (·.2)) (us.map (·.2))
theorem KR.nil {K : PySem.W.Frag} {H : Hp} : KR K H [] [] := ⟨rfl, .nil⟩
theorem KR.cons {K : PySem.W.Frag} {H : Hp} {k : Key} {d : D} {v : V} {kvs : List (Key × D)} {us : List (Key × V)} (h : Rp K H d v) (r : KR K H kvs us) : KR K H ((k, d) :: kvs) ((k, v) :: us) := ⟨by simp [r.1], .cons h r.2⟩
theorem KR.ext {K : PySem.W.Frag} {H H' : Hp} {kvs : List (Key × D)} {us : List (Key × V)} (r : KR K H kvs us) (x : Ext H H') : KR K H' kvs us := ⟨r.1, r.2.ext x⟩
theorem KR.any {K : PySem.W.Frag} {H : Hp} {kvs : List (Key × D)} {us : List (Key × V)} (r : KR K H kvs us) (k : Key) : (us.any fun kv => decide (kv.1 = k)) = kvs.any fun kv => decide (kv.1 = k) := by
  have e1 : (us.any fun kv => decide (kv.1 = k)) = (us.map (·.1)).any fun j => decide (j = k) := by rw [List.any_map]; rfl
  have e2 : (kvs.any fun kv => decide (kv.1 = k)) = (kvs.map (·.1)).any fun j => decide (j = k) := by rw [List.any_map]; rfl
  rw [e1, e2, r.1]
theorem KR.mapPut {K : PySem.W.Frag} {H : Hp} {k : Key} {d : D} {v : V} (h : Rp K H d v) : ∀ {kvs : List (Key × D)} {us : List (Key × V)}, KR K H kvs us → KR K H (kvs.map fun kv => if kv.1 = k then (kv.1, d) else kv) (us.map fun kv => if kv.1 = k then (kv.1, v) else kv)
  | [], [], _ => .nil
  | [], u :: us, r => by have := r.1; simp at this
  | p :: kvs, [], r => by have := r.1; simp at this
  | (a, x) :: kvs, (b, y) :: us, r => by
    obtain ⟨r1, r2⟩ := r
    simp only [List.map_cons, List.cons.injEq] at r1
    obtain ⟨e, r1⟩ := r1
    have e : b = a := e
    subst e
    cases r2 with
    | cons q qs =>
      have ih := KR.mapPut (k := k) h (kvs := kvs) (us := us) ⟨r1, qs⟩
      simp only [List.map_cons]
      split
      · exact .cons h ih
      · exact .cons q ih
theorem KR.put {K : PySem.W.Frag} {H : Hp} {k : Key} {d : D} {v : V} {kvs : List (Key × D)} {us : List (Key × V)} (r : KR K H kvs us) (h : Rp K H d v) : KR K H (putD2 kvs k d) (putK us k v) := by
  unfold putD2 putK
  rw [r.any k]
  split
  · exact r.mapPut h
  · exact ⟨by simp [r.1], by rw [List.map_append, List.map_append]; exact r.2.append (.cons h .nil)⟩
theorem KR.merge {K : PySem.W.Frag} {H : Hp} : ∀ {ms : List (Key × D)} {ns : List (Key × V)} {kvs : List (Key × D)} {us : List (Key × V)}, KR K H ms ns → KR K H kvs us → KR K H (mergeD kvs ms) (mergeK us ns)
  | [], [], _, _, _, r => r
  | [], u :: us, _, _, r, _ => by have := r.1; simp at this
  | p :: kvs, [], _, _, r, _ => by have := r.1; simp at this
  | (a, x) :: ms, (b, y) :: ns, kvs, us, m, r => by
    obtain ⟨m1, m2⟩ := m
    simp only [List.map_cons, List.cons.injEq] at m1
    obtain ⟨e, m1⟩ := m1
    have e : b = a := e
    subst e
    cases m2 with
    | cons q qs => exact KR.merge (ms := ms) (ns := ns) ⟨m1, qs⟩ (r.put q)
end DL

set_option Elab.async false
set_option linter.all false
set_option maxRecDepth 100000
set_option maxHeartbeats 3200000
/-! DL48: {k: v, ..} as a new dict of one's own; d.update({..}); d[k] = v; d.get(k, x). -/
namespace DL
open PySem PySem.Spec PyProof.Rows L2
abbrev TDP := Env → (List (D × D) → Env → Prop) → Prop
def dpNil : TDP := fun E Q => Q [] E
def dpCons (tk tv : TD) (u : TDP) : TDP := fun E Q => tk E fun k E1 => tv E1 fun d E2 => u E2 fun r E3 => Q ((k, d) :: r) E3
/-- pairs of values for pairs of data -/
inductive PRp (K : PySem.W.Frag) (H : Hp) : List (D × D) → List (V × V) → Prop
  | nil : PRp K H [] []
  | cons {k d : D} {x y : V} {r : List (D × D)} {ps : List (V × V)} : Rp K H k x → Rp K H d y → PRp K H r ps → PRp K H ((k, d) :: r) ((x, y) :: ps)
structure EPP (X : Cx) (S : List Nat) (pos : Pos) (keys : List (Option Expr)) (values : List Expr) (t : TDP) : Prop where
  of : ∃ trs, PPs X pos keys values trs ∧ ∀ G : Gh, G.slots = S → ∀ σ H Q, (∃ (E : Env) (QE : List (D × D) → Env → Prop), RelE X.K G H E σ ∧ t E QE ∧ ∀ kds E' ps H', QE kds E' → Ext H H' → RelE X.K G H' E' σ → PRp X.K H' kds ps → Q ps H') → tPairs trs σ H Q
section
variable {X : Cx} {S : List Nat} {pos : Pos} {k v : Expr} {ks : List (Option Expr)} {vs : List Expr} {tk tv : TD} {u : TDP}
theorem epp_nil : EPP X S pos [] [] dpNil := ⟨[], pps_nil, fun G hG σ H Q ⟨E, QE, r, q, kk⟩ => kk _ _ _ _ q (Ext.refl _) r .nil⟩
theorem epp_cons (hk : ∀ G : Gh, G.slots = S → ED X G k tk) (hv : ∀ G : Gh, G.slots = S → ED X G v tv) (hr : EPP X S pos ks vs u) : EPP X S pos (some k :: ks) (v :: vs) (dpCons tk tv u) := by
  obtain ⟨trs, hp, ht⟩ := hr
  have pk : PE X k (fun σ H Q => ∃ G' : Gh, G'.slots = S ∧ liftE X.K G' tk σ H Q) := ⟨fun pins s σ H Q I ⟨G', hG, q⟩ => (hk G' hG).pe.run pins s σ H Q I q⟩
  have pv : PE X v (fun σ H Q => ∃ G' : Gh, G'.slots = S ∧ liftE X.K G' tv σ H Q) := ⟨fun pins s σ H Q I ⟨G', hG, q⟩ => (hv G' hG).pe.run pins s σ H Q I q⟩
  refine ⟨_, pps_cons pk pv hp, fun G hG σ H Q ⟨E, QE, r, q, kk⟩ => ?_⟩
  refine ⟨G, hG, E, _, r, q, fun kd E1 x H1 q1 x1 r1 p1 => ⟨G, hG, E1, _, r1, q1, fun d E2 y H2 q2 x2 r2 p2 => ?_⟩⟩
  exact ht G hG σ H2 _ ⟨E2, _, r2, q2, fun kds E3 ps H3 q3 x3 r3 p3 => kk _ _ _ _ q3 ((x1.trans x2).trans x3) r3 (.cons ((p1.ext x2).ext x3) (p2.ext x3) p3)⟩
end
/-- the keys of pairs -/
def keysOf : List (D × D) → Option (List (Key × D))
  | [] => some []
  | (k, d) :: r => match keyOf k, keysOf r with
    | some y, some l => some ((y, d) :: l)
    | _, _ => none
theorem keysOf_rel {K : PySem.W.Frag} {H : Hp} : ∀ {kds : List (D × D)} {ps : List (V × V)} {l : List (Key × D)}, PRp K H kds ps → keysOf kds = some l → ∃ us : List (Key × V), ps = us.map (fun kv => (kV kv.1, kv.2)) ∧ KR K H l us
  | _, _, _, .nil, h => by cases h; exact ⟨[], rfl, .nil⟩
  | (k, d) :: r, _, l, .cons p1 p2 p3, h => by
    unfold keysOf at h
    split at h
    · rename_i y l' hk hl
      cases h
      obtain ⟨us, e, kr⟩ := keysOf_rel p3 hl
      have := keyOf_rel hk p1
      subst this
      exact ⟨(y, _) :: us, by rw [e]; rfl, .cons p2 kr⟩
    · cases h
theorem KR.length {K : PySem.W.Frag} {H : Hp} {l : List (Key × D)} {us : List (Key × V)} (r : KR K H l us) : us.length = l.length := by
  have := congrArg List.length r.1
  simpa using this
theorem length_mergeD (K : PySem.W.Frag) (H : Hp) {l : List (Key × D)} {us : List (Key × V)} (r : KR K H l us) : (mergeK [] us).length ≤ l.length := by
  have := length_mergeK us []
  rw [r.length] at this
  simpa using this
def mDkD (t : TDP) : TM := fun E Q => t E fun kds E1 => optQ (keysOf kds) fun l => l.length ≤ 15 ∧ Q (.dk (mergeD [] l)) E1
section
variable {X : Cx} {G : Gh} {e : Expr} {pos p0 apos cpos : Pos} {keys : List (Option Expr)} {values : List Expr} {t : TDP} {x : Str}
theorem em_disp (h : EPP X G.slots pos keys values t) (hall : keys.all (·.isSome) = true := by rfl) (hl : keys.length = values.length := by rfl) (h0 : keys ≠ [] := by simp) (h15 : keys.length ≤ 15 := by decide) : EM X G (.Dict keys values pos) (mDkD t) := by
  obtain ⟨trs, hp, ht⟩ := h
  refine ⟨PE.weak (pe_disp hp hall hl h0 h15) fun σ H Q ⟨E, QE, r, q, kk⟩ p hp => ?_⟩
  obtain ⟨r2, h0, na⟩ := r.fresh (o := .dK []) hp
  have x0 : Ext H (upd H p (.dK [])) := (PExt.new hp).ext
  refine ht (pend G p (.dK [])) rfl σ _ _ ⟨E, _, r2.toPend upd_same na, q, fun kds E1 ps H1 q1 x1 r1 p1 => ?_⟩
  obtain ⟨r4, hp2⟩ := RelX.ofPend r1 h0 na
  cases hk : keysOf kds with
  | none => rw [hk] at q1; exact q1.elim
  | some l =>
    rw [hk] at q1
    obtain ⟨q1, q2⟩ := q1
    obtain ⟨us, e1, kr⟩ := keysOf_rel p1 hk
    refine ⟨hp2, us, e1, by rw [kr.length]; exact q1, ?_⟩
    have x3 : Ext H1 (upd H1 p (.dK (mergeK [] us))) := Ext.putS hp2 (fun _ z => by cases z) (fun _ _ z => by cases z)
    have kr2 := (KR.merge kr (KR.nil (K := X.K) (H := H1))).ext x3
    exact kk _ _ _ _ q2 ((x0.trans x1).trans x3) (r4.putS (u' := .dK (mergeK [] us)) h0 na hp2 (fun _ z => by cases z) (fun _ _ z => by cases z)) h0 na ⟨_, upd_same, kr2.1, kr2.2⟩
/-! ### d.update(other) -/
theorem pe_dupd {o e : Expr} {td ty : TE} (ho : PE X o td) (he : PE X e ty) (m : M1 X o "update" apos e cpos) : PE X (.Call (.Attribute o "update" apos) [e] [] cpos)
    (fun σ H Q => td σ H fun x H1 => ∃ a, x = .ref a ∧ IsD H1 a ∧ ty σ H1 fun y H2 => ∃ b kvs more, y = .ref b ∧ H2 a = some (.dK kvs) ∧ H2 b = some (.dK more) ∧ a ≠ b ∧ kvs.length + more.length ≤ sizeLine ∧ Q .non (upd H2 a (.dK (mergeK kvs more)))) := by
  refine ⟨fun pins s σ H Q I h => ?_⟩
  refine wpAny_Call_method m.base m.few m.line PySem.F.plainAttrs_dict PySem.F.slot_dict_update PySem.F.type_dict_update (thn (ho.run pins s σ H _ I h) fun u s1 ⟨x, H1, I1, rx, a, ex, d, q1⟩ => ?_)
  subst ex
  obtain rfl : u = Value.ref a := rx
  obtain ⟨t1, t2, _⟩ := isD_at I1 d
  refine ⟨t1, t2, ?_⟩
  rw [m.trees]
  refine Calls.callWith_builtin rfl (Calls.evalArgs_plain (Calls.spliced_cons (thn (he.run pins s1 σ H1 _ I1 q1) fun iv s2 ⟨y, H2, I2, ry, b, kvs, more, ey, ea, eb, ne, hz, q2⟩ => Calls.spliced_nil ?_)))
  subst ey
  obtain rfl : iv = Value.ref b := ry
  obtain ⟨z, hd, vs, rel, dd⟩ := dk_of I2.hok ea
  obtain ⟨z', hd', vs', rel', dd'⟩ := dk_of I2.hok eb
  refine call_meetsIn PySem.F.slot_dict_update dd.typeIs PySem.F.entry_dict_update (PySem.F.args_dict_update_2 _ _) (meets_dict_update (mixKind X.prog X.w) a b ne hd')
    ⟨vs, vs', dd, dd', by rw [← rel.length, ← rel'.length]; exact hz, fun h' dd1 _ hs => ⟨.non, _, ?_, rfl, q2⟩⟩
  have he : ∃ q, h'.get? a = some q := let ⟨q, _, _, hq, _⟩ := dd1; ⟨q, hq⟩
  exact d_write I2 (by rw [ea]; exact True.intro) hs he (dk_new (Nat.le_trans (length_mergeK more kvs) hz) hd (rel'.merge rel) dd1)
def tDkUpd (i : Nat) (t : TM) : TD := fun E Q => match E[i]? with
  | some (.dk _) => t E fun s E1 => match E1[i]?, s with
    | some (.dk kvs), .dk more => kvs.length + more.length ≤ sizeLine ∧ Q .none (E1.set i (.dk (mergeD kvs more)))
    | _, _ => False
  | _ => False
theorem ed_dkUpd (i : Nat) {t : TM} (h : EM X G e t) (hN : X.N[i]? = some x := by rfl) (hv : Vis X.env.scope x := by first | exact Or.inl rfl | exact Or.inr (Or.inl rfl) | exact Or.inr (Or.inr rfl)) (hd : (x == ("__debug__" : Str)) = false := by decide)
    (hcd : (x == ("__classdict__" : Str)) = false := by decide) (m : M1 X (.Name x p0) "update" apos e cpos := by exact ⟨rfl, rfl, rfl, rfl⟩) : ED X G (.Call (.Attribute (.Name x p0) "update" apos) [e] [] cpos) (tDkUpd i t) :=
  ⟨PE.weak (pe_dupd (pe_var hN hv hd hcd) h.pe m) fun σ H Q ⟨E, QE, r, q, k⟩ => by
    unfold tDkUpd at q
    split at q
    · rename_i kvs0 he0
      obtain ⟨p, e1, us0, e2, _⟩ := r.mutAt he0 rfl
      refine ⟨_, e1, p, rfl, .inl ⟨us0, .inl e2⟩, E, _, r, q, fun s E1 b H1 q1 x1 r1 h0 na p1 => ?_⟩
      split at q1
      · rename_i kvs more he
        obtain ⟨p', f1, us, f2, f3, f4⟩ := r1.mutAt he rfl
        rw [e1] at f1; cases f1
        obtain ⟨ms, g2, g3, g4⟩ := p1
        have ne : p ≠ b := by
          obtain ⟨l, kk, pn, dm, x0, A, h1, h2, h3⟩ := r1
          obtain ⟨a', w1, w2, w3⟩ := (h3 i _ he).mut rfl
          rw [e1] at w2; cases w2
          intro z
          exact (h2 i p (by rw [w1]; simp)).2 (by simp [z])
        have kr1 : KR X.K H1 kvs us := ⟨f3, f4⟩
        have kr2 : KR X.K H1 more ms := ⟨g3, g4⟩
        refine ⟨b, us, ms, rfl, f2, g2, ne, by rw [kr1.length, kr2.length]; exact q1.1, ?_⟩
        have x3 : Ext H1 (upd H1 p (.dK (mergeK us ms))) := Ext.putS f2 (fun _ z => by cases z) (fun _ _ z => by cases z)
        have kr3 := (KR.merge kr2 kr1).ext x3
        exact k _ _ _ _ q1.2 (x1.trans x3) (r1.weak.putM he rfl e1 (s1 := .dk _) ⟨_, upd_same, kr3.1, kr3.2⟩) .non
      · exact q1.elim
    · exact q.elim⟩
end
end DL

set_option Elab.async false
set_option linter.all false
set_option maxRecDepth 100000
set_option maxHeartbeats 3200000
/-! DL49: sets of things on the heap that are alike by a key of any kind; up to 76 of them. -/
namespace DL
open PySem PySem.Spec PyProof.Rows L2
/-- what a kind of keys must know beside, to lie in sets -/
structure SetK {P : Program} {w : World} {κ : Type} [DecidableEq κ] (kd : HeapKind P w κ) : Prop where
  cls : ∀ {A : Around} {E : Value → Shared → Prop} {s : Shared} {k : κ} {a : Addr} {Q : Bool → Shared → Prop}, kd.is s.heap k a → Q false s → wpAny (model P w) A (ofAClassStatement 8 (.ref a)) Q E s
  byv : ∀ {A : Around} {E : Value → Shared → Prop} {s : Shared} {k : κ} {a : Addr} {Q : Bool → Shared → Prop}, kd.is s.heap k a → Q true s → wpAny (model P w) A (hashByValue 8 (.ref a)) Q E s
  stay : ∀ {h h' : Heap} {k : κ} {a : Addr}, (∀ b o vs n, h.get? b = some o → o.data = .seq vs n → h'.get? b = some o) → kd.is h k a → kd.is h' k a
section
variable {P : Program} {w : World} {κ : Type} [DecidableEq κ] {kd : HeapKind P w κ} {A : Around} {E : Value → Shared → Prop} {s : Shared}
abbrev Ent (κ : Type) := Addr × κ
def ents (kd : HeapKind P w κ) (M : List (Ent κ)) : List (Int × Value) := M.map fun q => (kd.hash q.2, Value.ref q.1)
def hshs (kd : HeapKind P w κ) (M : List (Ent κ)) : List Int := M.map fun q => kd.hash q.2
/-- at a stands a set with these members -/
structure SetG (kd : HeapKind P w κ) (h : Heap) (a : Addr) (M : List (Ent κ)) (ws : Array (Int × Value)) (g : Nat) (T : SetTable) : Prop where
  at_ : ∃ o, h.get? a = some o ∧ o.ExactSet ∧ o.data = .set ws g T
  ent : ws.toList = ents kd M
  tb : TabOk T (hshs kd M)
  nd : (M.map (·.2)).Nodup
  mem : ∀ q ∈ M, kd.is h q.2 q.1
  pl : T.plain = true
  ld : w.params.followText "set-order" = true ∨ T.led = true
  rm : M.length * 5 < T.mask * 3
variable {a : Addr} {M : List (Ent κ)} {ws : Array (Int × Value)} {g : Nat} {T : SetTable}
theorem SetG.sz {h : Heap} (R : SetG kd h a M ws g T) : ws.size = M.length := by
  have z := congrArg List.length R.ent
  unfold ents at z
  rwa [Array.length_toList, List.length_map] at z
theorem hshs_len : (hshs kd M).length = M.length := List.length_map ..
theorem SetG.fit {h : Heap} (R : SetG kd h a M ws g T) : T.fits ws.size = true := by
  have z1 := R.tb.sz
  rw [hshs_len] at z1
  have z2 := R.sz
  have z3 := R.rm
  unfold SetTable.fits SetTable.fill
  rw [R.tb.dm, Bool.and_eq_true, beq_iff_eq, decide_eq_true_eq]
  exact ⟨by omega, by show T.place.size + 0 ≤ T.mask; omega⟩
theorem SetG.few {h : Heap} (R : SetG kd h a M ws g T) : M.length ≤ 76 := by
  have z := R.rm
  rcases R.tb.mok with e | e | e <;> rw [e] at z <;> omega
theorem SetG.get {h : Heap} (R : SetG kd h a M ws g T) {i : Nat} {q : Ent κ} (z : M[i]? = some q) : ws[i]? = some (kd.hash q.2, Value.ref q.1) := by
  rw [← Array.getElem?_toList, R.ent]
  unfold ents
  rw [List.getElem?_map, z]; rfl
theorem SetG.stands {h : Heap} (R : SetG kd h a M ws g T) : ¬ T.gaveWay = true := by
  unfold SetTable.gaveWay
  rw [mask_odd R.tb.mok]; decide
theorem SetG.moved (sk : SetK kd) {h h' : Heap} (R : SetG kd h a M ws g T) (ha : ∀ o, h.get? a = some o → h'.get? a = some o) (hm : ∀ q ∈ M, kd.is h' q.2 q.1) : SetG kd h' a M ws g T := by
  obtain ⟨o, e, rest⟩ := R.at_
  exact ⟨⟨o, ha o e, rest⟩, R.ent, R.tb, R.nd, hm, R.pl, R.ld, R.rm⟩
/-- members stay, while the set itself is written -/
theorem SetK.but (sk : SetK kd) {h h' : Heap} {k : κ} {b : Addr} {o : Obj} (x : kd.is h k b) (ho : h.get? a = some o) (hd : o.data = .set ws g T) (sb : Heap.SameBut a h h') : kd.is h' k b :=
  sk.stay (fun c oc vs n e ed => (sb.2 c (by
    rintro rfl
    rw [ho] at e; cases e
    rw [hd] at ed; cases ed)).trans e) x
theorem seenG (sk : SetK kd) {k : κ} {x : Addr} {Q : Bool → Shared → Prop} (hx : kd.is s.heap k x) : ∀ {ys : List Value}, (∀ y ∈ ys, ∃ k' c, y = Value.ref c ∧ kd.is s.heap k' c) → Q false s → wpAny (model P w) A (searchCouldBeSeen (.ref x) ys) Q E s := by
  intro ys hy hq
  unfold searchCouldBeSeen
  refine wpAny_bind (wpAny_forIn_list _ (fun more r u => r.1 = none ∧ u = s ∧ ∀ y ∈ more, ∃ k' c, y = Value.ref c ∧ kd.is s.heap k' c) _ ?_ ?_ _ _ ⟨rfl, rfl, hy⟩)
  · rintro y more r u ⟨_, rfl, al⟩
    obtain ⟨k', c, rfl, hc⟩ := al y (List.mem_cons_self ..)
    have al' : ∀ y ∈ more, ∃ k' c, y = Value.ref c ∧ kd.is u.heap k' c := fun z hz => al z (List.mem_cons_of_mem _ hz)
    dsimp only
    by_cases same : (x == c || (carriedByValue (.ref x) && carriedByValue (.ref c))) = true
    · exact wp_if_pos same (wpAny_pure ⟨rfl, rfl, al'⟩)
    · refine wp_if_neg same (wpAny_bind (kd.quiet hx ?_))
      simp only [Bool.not_true, Bool.false_eq_true, if_false]
      refine wpAny_bind (kd.quiet hc ?_)
      simp only [Bool.not_true, Bool.false_eq_true, if_false]
      refine wpAny_bind (sk.cls hx ?_)
      simp only [Bool.false_eq_true, if_false]
      refine wpAny_bind (sk.cls hc ?_)
      simp only [Bool.false_eq_true, if_false]
      exact wpAny_pure ⟨rfl, rfl, al'⟩
  · rintro ⟨r1, r2⟩ u ⟨z, rfl, _⟩
    simp only at z
    subst z
    exact wpAny_pure hq
abbrev step0 (T : SetTable) (H : Int) (c : Nat) : SetTable.Probe := nth T.mask (runAt T.mask (SetTable.bits H % (T.mask + 1)) (SetTable.bits H)) c
theorem dummy0 (T : SetTable) (H : Int) (c : Nat) : (step0 T H c).dummy = none := by
  have all : ∀ (n : Nat) (p : SetTable.Probe), p.dummy = none → (nth T.mask p n).dummy = none := by
    intro n
    induction n with
    | zero => exact fun _ z => z
    | succ n ih =>
      intro p z
      exact ih (adv T.mask p) (by unfold adv; split <;> exact z)
  exact all c _ rfl
/-- the search from the c-th step on -/
theorem searchG (sk : SetK kd) (R : SetG kd s.heap a M ws g T) {x : Addr} {k : κ} (hx : kd.is s.heap k x) (ro : kd.room A) {K : Nat} (big : K < 10 * SetTable.turns T.mask)
    (out : way T.mask (kd.hash k) K ∉ T.place.toList) (inn : ∀ c, c < K → way T.mask (kd.hash k) c ∈ T.place.toList) {Q : SetFound → Shared → Prop}
    (yes : k ∈ M.map (·.2) → Q (.there none) s) (no : k ∉ M.map (·.2) → Q (.free (way T.mask (kd.hash k) K) false) s) :
    ∀ (f c : Nat) (st : Option SetTable.Probe), st.getD (T.probeStart (kd.hash k)) = step0 T (kd.hash k) c → c ≤ K → K - c < f →
      (∀ (i : Nat) q, M[i]? = some q → q.2 = k → ∃ c', c ≤ c' ∧ c' < K ∧ T.place.toList[i]? = some (way T.mask (kd.hash k) c')) →
      wpAny (model P w) A (setSearchFrom a (.ref x) (kd.hash k) true f st) Q E s
  | 0, _, _, _, _, z, _ => absurd z (Nat.not_lt_zero _)
  | f + 1, c, st, e0, le, lt, ahead => by
    obtain ⟨o, ho, hex, hd⟩ := R.at_
    have sh : ∀ n, nth T.mask (step0 T (kd.hash k) c) n = step0 T (kd.hash k) (c + n) := fun n => (nth_add T.mask c _ n).symm
    have shj : ∀ n, (nth T.mask (step0 T (kd.hash k) c) n).j = way T.mask (kd.hash k) (c + n) := fun n => congrArg SetTable.Probe.j (sh n)
    have hashOf : ∀ (i : Nat) q, M[i]? = some q → (ws[i]?.map (·.1)).getD 0 = kd.hash q.2 := fun i q z => by rw [R.get z]; rfl
    have look := go_spec T R.tb.ris R.tb.dm (fun i => (ws[i]?.map (·.1)).getD 0) (kd.hash k) (10 * SetTable.turns T.mask) (K - c) _ (dummy0 T (kd.hash k) c) (by omega) (fun n z => by rw [shj]; exact inn (c + n) (by omega)) (by rw [shj, show c + (K - c) = K by omega]; exact out)
    rw [setSearchFrom_succ]
    refine wpAny_bind (wpAny_setState_of ho hd R.fit ?_)
    dsimp only
    refine wp_if_neg R.stands ?_
    try refine wpAny_bind (wpAny_pure ?_)
    rcases look with ⟨n, i, ln, li, lh, lno, lp⟩ | ⟨lno, lp⟩
    · have lp' : T.probe (fun i => (ws[i]?.map (·.1)).getD 0) (kd.hash k) (st.getD (T.probeStart (kd.hash k))) = some (.candidate (way T.mask (kd.hash k) (c + n)) i (step0 T (kd.hash k) (c + (n + 1)))) := by
        rw [e0, ← shj, ← sh]; exact lp
      rw [lp']
      dsimp only
      rw [shj] at li
      have il : i < M.length := by
        have z1 := (List.getElem?_eq_some_iff.mp li).1
        have z2 := R.tb.sz
        rw [hshs_len] at z2
        rw [Array.length_toList] at z1
        omega
      obtain ⟨q, hq⟩ : ∃ q, M[i]? = some q := ⟨_, List.getElem?_eq_getElem il⟩
      have qm : q ∈ M := List.mem_of_getElem? hq
      have live : T.slot (way T.mask (kd.hash k) (c + n)) = .live i := slot_live R.tb.ris li
      have rest : wpAny (model P w) A (searchRest a (.ref x) (kd.hash k) true f ws T (way T.mask (kd.hash k) (c + n)) i (step0 T (kd.hash k) (c + (n + 1)))) Q E s := by
        unfold searchRest
        rw [R.get hq]
        dsimp only
        refine wpAny_bind (wpAny_holding (kd.eqBool ro (R.mem q qm) hx (wpAny_bind (wpAny_setState_of ho hd R.fit ?_))))
        dsimp only
        by_cases al : q.2 = k
        · exact wp_if_pos (by simp [al]) (wpAny_pure (yes (List.mem_map.mpr ⟨q, qm, al⟩)))
        · refine wp_if_neg (by simp [al]) ?_
          try refine wpAny_bind (wpAny_pure ?_)
          rw [sameMem]
          dsimp only
          simp only [if_true, live, R.get hq]
          refine wpAny_bind (wpAny_isSame_ref_self (wpAny_bind (wpAny_pure ?_)))
          simp only [if_true]
          refine wp_if_neg (by simp [al]) (searchG sk R hx ro big out inn yes no f (c + (n + 1)) _ rfl (by omega) (by omega) fun i1 q1 z1 z2 => ?_)
          obtain ⟨c', y1, y2, y3⟩ := ahead i1 q1 z1 z2
          refine ⟨c', ?_, y2, y3⟩
          rcases Nat.lt_trichotomy c' (c + n) with y | y | y
          · exact (lno (c' - c) i1 (by omega) (by rw [shj, show c + (c' - c) = c' by omega]; exact y3) ((hashOf i1 q1 z1).trans (congrArg kd.hash z2))).elim
          · rw [y] at y3
            have := slot_live R.tb.ris y3
            rw [live] at this
            injection this with this
            rw [← this, hq] at z1
            cases z1
            exact absurd z2 al
          · omega
      by_cases hl : T.led = true
      · refine wp_if_neg (by simp [hl]) ?_
        try refine wpAny_bind (wpAny_pure ?_)
        exact rest
      · refine wp_if_pos (by simp [hl]) (wpAny_bind (seenG sk hx (fun y hy => ?_) ?_))
        · obtain ⟨en, he, rfl⟩ := List.mem_map.mp hy
          have he : en ∈ ws ∧ en.1 = kd.hash k := by simpa using he
          have he : en ∈ ws.toList := by simpa using he.1
          rw [R.ent] at he
          obtain ⟨q2, hq2, rfl⟩ := List.mem_map.mp he
          exact ⟨q2.2, q2.1, rfl, R.mem q2 hq2⟩
        · refine wp_if_neg (by decide) ?_
          try refine wpAny_bind (wpAny_pure ?_)
          exact rest
    · have lp' : T.probe (fun i => (ws[i]?.map (·.1)).getD 0) (kd.hash k) (st.getD (T.probeStart (kd.hash k))) = some (.empty (way T.mask (kd.hash k) K) none) := by
        have z : way T.mask (kd.hash k) K = (nth T.mask (step0 T (kd.hash k) c) (K - c)).j := by rw [shj, show c + (K - c) = K by omega]
        rw [e0, z]; exact lp
      rw [lp']
      dsimp only
      refine wpAny_pure (no fun hm => ?_)
      obtain ⟨q1, m1, z2⟩ := List.mem_map.mp hm
      obtain ⟨i1, b1, e1⟩ := List.getElem_of_mem m1
      have z1 : M[i1]? = some q1 := by rw [List.getElem?_eq_getElem b1, e1]
      obtain ⟨c', y1, y2, y3⟩ := ahead i1 q1 z1 z2
      exact lno (c' - c) i1 (by omega) (by rw [shj, show c + (c' - c) = c' by omega]; exact y3) ((hashOf i1 q1 z1).trans (congrArg kd.hash z2))
theorem searchG0 (sk : SetK kd) (R : SetG kd s.heap a M ws g T) {x : Addr} {k : κ} (hx : kd.is s.heap k x) (ro : kd.room A) {Q : SetFound → Shared → Prop} (yes : k ∈ M.map (·.2) → Q (.there none) s)
    (no : ∀ K, k ∉ M.map (·.2) → way T.mask (kd.hash k) K ∉ T.place.toList → (∀ c, c < K → way T.mask (kd.hash k) c ∈ T.place.toList) → Q (.free (way T.mask (kd.hash k) K) false) s) :
    wpAny (model P w) A (setSearch a (.ref x) (kd.hash k) true) Q E s := by
  have room := R.rm
  obtain ⟨K, big, out, inn⟩ := R.tb.first (by rw [hshs_len]; omega) (kd.hash k)
  have hK : K < 100000 := by
    have : 10 * SetTable.turns T.mask ≤ 1420 := by
      unfold SetTable.turns
      rcases R.tb.mok with z | z | z <;> rw [z] <;> decide
    omega
  unfold setSearch
  refine searchG sk R hx ro big out inn yes (fun z => no K z out inn) 100000 0 none rfl (Nat.zero_le _) (by omega) fun i q z1 z2 => ?_
  have zi : (hshs kd M)[i]? = some (kd.hash k) := by unfold hshs; rw [List.getElem?_map, z1, ← z2]; rfl
  have il : i < T.place.toList.length := by
    have y1 := (List.getElem?_eq_some_iff.mp z1).1
    have y2 := R.tb.sz
    rw [hshs_len] at y2
    rw [Array.length_toList]; omega
  have zj := List.getElem?_eq_getElem il
  obtain ⟨c, y1, y2⟩ := R.tb.before out zi zj
  exact ⟨c, Nat.zero_le _, y1, by rw [zj, y2]⟩
end
end DL

set_option Elab.async false
set_option linter.all false
set_option maxRecDepth 100000
set_option maxHeartbeats 3200000
/-! DL50: adding to sets of any keys; set(xs). -/
namespace DL
open PySem PySem.Spec PyProof.Rows L2
section
variable {P : Program} {w : World} {κ : Type} [DecidableEq κ] {kd : HeapKind P w κ} {A : Around} {E : Value → Shared → Prop} {s : Shared}
variable {a : Addr} {M : List (Ent κ)} {ws : Array (Int × Value)} {g : Nat} {T : SetTable}
theorem filterMap_all {α : Type} (M : List α) : (List.range M.length).filterMap (fun i => M[i]?) = M := by
  have all : ∀ n, n ≤ M.length → (List.range n).filterMap (fun i => M[i]?) = M.take n := by
    intro n
    induction n with
    | zero => exact fun _ => rfl
    | succ n ih =>
      intro z
      rw [List.range_succ, List.filterMap_append, ih (by omega), List.take_add_one, List.getElem?_eq_getElem (by omega), List.filterMap_cons_some (List.getElem?_eq_getElem (by omega))]
      rfl
  rw [all _ (Nat.le_refl _), List.take_length]
/-- entries in another order -/
theorem ents_order (ord : Array Nat) (he : ws.toList = ents kd M) (hp : ord.toList.Perm (List.range M.length)) :
    ∃ M2, (ord.filterMap (ws[·]?)).toList = ents kd M2 ∧ M2.Perm M ∧ hshs kd M2 = ord.toList.map fun i => (ws.map (·.1)).getD i 0 := by
  have at_ : ∀ i (z : i < M.length), ws[i]? = some (kd.hash (M[i]).2, Value.ref (M[i]).1) := fun i z => by
    rw [← Array.getElem?_toList, he]
    unfold ents
    rw [List.getElem?_map, List.getElem?_eq_getElem z]; rfl
  have go : ∀ l : List Nat, (∀ i ∈ l, i < M.length) → l.filterMap (fun i => ws[i]?) = ents kd (l.filterMap fun i => M[i]?) ∧ hshs kd (l.filterMap fun i => M[i]?) = l.map fun i => (ws.map (·.1)).getD i 0 := by
    intro l
    induction l with
    | nil => exact fun _ => ⟨rfl, rfl⟩
    | cons i l ih =>
      intro z
      have zi := z i (List.mem_cons_self ..)
      obtain ⟨e1, e2⟩ := ih fun j hj => z j (List.mem_cons_of_mem _ hj)
      rw [List.filterMap_cons_some (at_ i zi), List.filterMap_cons_some (List.getElem?_eq_getElem zi), e1]
      refine ⟨rfl, ?_⟩
      show kd.hash (M[i]).2 :: hshs kd (l.filterMap fun i => M[i]?) = _
      rw [e2, List.map_cons]
      congr 1
      have : (ws.map (·.1))[i]? = some (kd.hash (M[i]).2) := by rw [Array.getElem?_map, at_ i zi]; rfl
      simp [Array.getD_eq_getD_getElem?, this]
  obtain ⟨e1, e2⟩ := go ord.toList fun i hi => List.mem_range.mp (hp.mem_iff.mp hi)
  refine ⟨ord.toList.filterMap fun i => M[i]?, ?_, ?_, e2⟩
  · first
      | (rw [Array.toList_filterMap]; exact e1)
      | simpa using e1
  · have := hp.filterMap fun i => M[i]?
    rwa [filterMap_all] at this
/-- the table laid anew -/
theorem relayG (sk : SetK kd) {o : Obj} (ho : s.heap.get? a = some o) (hex : o.ExactSet) (hd : o.data = .set ws g T) (he : ws.toList = ents kd M) (tsz : T.place.size = ws.size) (tdm : T.dummies = #[]) (tfl : ws.size ≤ T.mask)
    (nd : (M.map (·.2)).Nodup) (mem : ∀ q ∈ M, kd.is s.heap q.2 q.1) (pl : T.plain = true) (ld : w.params.followText "set-order" = true ∨ T.led = true) {want B : Nat}
    (hw : SetTable.sizeAbove want - 1 = B) (hB : MaskOk B) (hs : SetTable.sizeAbove want ≤ 128) (rm : M.length * 5 < B * 3) {Q : Unit → Shared → Prop}
    (hQ : ∀ h' M' ws' g' T', Heap.SameBut a s.heap h' → SetG kd h' a M' ws' g' T' → M'.Perm M → Q () { s with heap := h' }) : wpAny (model P w) A (setRelay a want) Q E s := by
  have wl : ws.size = M.length := by
    have z := congrArg List.length he
    unfold ents at z
    rwa [Array.length_toList, List.length_map] at z
  have ml : M.length ≤ B := by omega
  have m76 : M.length ≤ 128 := by rcases hB with z | z | z <;> omega
  have fit : T.fits ws.size = true := by
    unfold SetTable.fits SetTable.fill
    rw [tdm, Bool.and_eq_true, beq_iff_eq, decide_eq_true_eq]
    exact ⟨tsz, by show T.place.size + 0 ≤ T.mask; omega⟩
  obtain ⟨T', ord, e, perm, tb, em, el, epl, edm⟩ := relaid_ok T (hs := ws.map (·.1)) (wanted := want) hw hB (by rw [Array.size_map, wl]; exact ml)
  rw [Array.size_map, wl] at perm
  obtain ⟨M2, o1, o2, o3⟩ := ents_order ord he perm
  rw [← o3] at tb
  have osz : (ord.filterMap (ws[·]?)).size = ws.size := by
    have z := congrArg List.length o1
    unfold ents at z
    rw [Array.length_toList, List.length_map, o2.length_eq] at z
    rw [z, wl]
  rw [setRelay_eq]
  refine wpAny_bind (wpAny_setState_of ho hd fit ?_)
  dsimp only
  refine wp_if_neg (by rw [sizeLine_eq]; omega) ?_
  try refine wpAny_bind (wpAny_pure ?_)
  rw [e]
  dsimp only
  refine wpAny_bind (wp_if_neg (by rw [osz]; simp) ?_)
  try refine wpAny_bind (wpAny_pure ?_)
  refine wpAny_pure ?_
  dsimp only
  refine wpAny_storeSet_of ho hd ?_ (by rw [osz, wl, sizeLine_eq]; omega)
  have sb : Heap.SameBut a s.heap (s.heap.update a (Obj.putSet (ord.filterMap (ws[·]?)) T')) := Heap.SameBut.update ..
  refine hQ _ M2 (ord.filterMap (ws[·]?)) (g + 1) T' sb ⟨⟨_, store_at ho hd, ⟨hex.1, hex.2.1, hex.2.2⟩, rfl⟩, o1, tb, (o2.map (·.2)).nodup_iff.mpr nd, fun q hq => sk.but (mem q (o2.mem_iff.mp hq)) ho hd sb, by rw [epl]; exact pl, by rw [el]; exact ld, by rw [o2.length_eq, em]; exact rm⟩ o2
/-- adding -/
theorem addG (sk : SetK kd) (R : SetG kd s.heap a M ws g T) {x : Addr} {k : κ} (hx : kd.is s.heap k x) (ro : kd.room A) (few : M.length + 1 ≤ 76) {Q : Bool → Shared → Prop}
    (hQ : ∀ b h' M' ws' g' T', Heap.SameBut a s.heap h' → SetG kd h' a M' ws' g' T' → (k ∈ M.map (·.2) → M' = M) → (k ∉ M.map (·.2) → M'.Perm ((x, k) :: M)) → Q b { s with heap := h' }) :
    wpAny (model P w) A (setAddHashed a (.ref x) (kd.hash k)) Q E s := by
  obtain ⟨o, ho, hex, hd⟩ := R.at_
  have wl := R.sz
  have room := R.rm
  unfold setAddHashed
  refine wpAny_holding ?_
  rw [show (100000 : Nat) = 99999 + 1 from rfl, setAddHashedIn_succ]
  refine wpAny_bind (wpAny_setState_of ho hd R.fit ?_)
  dsimp only
  refine wp_if_neg (by simp [byScan, Value.scannable]) ?_
  try refine wpAny_bind (wpAny_pure ?_)
  refine wpAny_bind (searchG0 sk R hx ro (fun yes => ?_) fun K no out inn => ?_)
  · dsimp only
    exact wpAny_pure (hQ false s.heap M ws g T (Heap.SameBut.refl a s.heap) R (fun _ => rfl) fun z => absurd yes z)
  dsimp only
  refine wpAny_bind (wpAny_setState_of ho hd R.fit ?_)
  dsimp only
  obtain ⟨p1, p2, p3, p4, p5, p6, p7, p8, p9⟩ := R.tb.put out inn
  have pl1 : (T.put (way T.mask (kd.hash k) K)).1.plain = true := by rw [p6]; exact R.pl
  generalize ept : T.put (way T.mask (kd.hash k) K) = pt at p1 p3 p4 p5 p6 p7 p8 p9 pl1 ⊢
  obtain ⟨T1, j⟩ := pt
  dsimp only at p1 p3 p4 p5 p6 p7 p8 p9 pl1 ⊢
  subst p1
  first
    | (refine wpAny_bind (wp_if_pos pl1 (sk.byv hx ?_)))
    | refine wp_if_pos pl1 (wpAny_bind (sk.byv hx ?_))
  simp only [if_true]
  have ent1 : (SetTable.insertAt ws (SetTable.below T.place (way T.mask (kd.hash k) K)) (kd.hash k, Value.ref x)).toList = ents kd (M.take (SetTable.below T.place (way T.mask (kd.hash k) K)) ++ (x, k) :: M.drop (SetTable.below T.place (way T.mask (kd.hash k) K))) := by
    rw [SetTable.toList_insertAt, R.ent]
    unfold ents
    rw [List.map_append, List.map_cons, List.map_take, List.map_drop]
  generalize SetTable.below T.place (way T.mask (kd.hash k) K) = j at p2 p3 ent1 ⊢
  have pm : (M.take j ++ (x, k) :: M.drop j).Perm ((x, k) :: M) := by
    have z : (M.take j ++ (x, k) :: M.drop j).Perm ((x, k) :: (M.take j ++ M.drop j)) := List.perm_middle
    rwa [List.take_append_drop] at z
  have tb1 : TabOk T1 (hshs kd (M.take j ++ (x, k) :: M.drop j)) := by
    have z : hshs kd (M.take j ++ (x, k) :: M.drop j) = (hshs kd M).take j ++ kd.hash k :: (hshs kd M).drop j := by
      unfold hshs
      rw [List.map_append, List.map_cons, List.map_take, List.map_drop]
    rw [z]; exact p3
  have nd1 : ((M.take j ++ (x, k) :: M.drop j).map (·.2)).Nodup := (pm.map (·.2)).nodup_iff.mpr (List.nodup_cons.mpr ⟨no, R.nd⟩)
  have len1 : (M.take j ++ (x, k) :: M.drop j).length = M.length + 1 := pm.length_eq
  generalize M.take j ++ (x, k) :: M.drop j = M1 at pm tb1 nd1 len1 ent1
  have wl1 : (SetTable.insertAt ws j (kd.hash k, Value.ref x)).size = M.length + 1 := by
    have z := congrArg List.length ent1
    unfold ents at z
    rwa [Array.length_toList, List.length_map, len1] at z
  generalize SetTable.insertAt ws j (kd.hash k, Value.ref x) = ws1 at ent1 wl1 ⊢
  refine wpAny_bind (wpAny_storeSet_of ho hd ?_ (by rw [wl1, sizeLine_eq]; omega))
  have sb : Heap.SameBut a s.heap (s.heap.update a (Obj.putSet ws1 T1)) := Heap.SameBut.update ..
  have ho1 := store_at (es' := ws1) (t' := T1) ho hd
  generalize s.heap.update a (Obj.putSet ws1 T1) = h1 at sb ho1 ⊢
  have mem1 : ∀ q ∈ M1, kd.is h1 q.2 q.1 := fun q hq => by
    rcases List.mem_cons.mp (pm.mem_iff.mp hq) with z | z
    · rw [z]; exact sk.but hx ho hd sb
    · exact sk.but (R.mem q z) ho hd sb
  have ld1 : w.params.followText "set-order" = true ∨ T1.led = true := by rw [p5]; exact R.ld
  rw [hshs_len] at p9
  by_cases full : T1.tooFull = true
  · first
      | refine wpAny_bind (wp_if_pos (by simp [full]) ?_)
      | refine wp_if_pos (by simp [full]) (wpAny_bind ?_)
    have hfull : (M.length + 1) * 5 ≥ T1.mask * 3 := by
      have z := full
      unfold SetTable.tooFull at z
      rwa [decide_eq_true_eq, p9] at z
    rw [wl]
    have tsz : T1.place.size = ws1.size := by
      have z := tb1.sz
      rw [hshs_len, len1] at z
      rw [z, wl1]
    have two : (T.mask = 7 ∧ M.length = 4) ∨ (T.mask = 31 ∧ M.length = 18) := by
      rcases R.tb.mok with z | z | z
      · exact .inl ⟨z, by rw [p4, z] at hfull; rw [z] at room; omega⟩
      · exact .inr ⟨z, by rw [p4, z] at hfull; rw [z] at room; omega⟩
      · rw [p4, z] at hfull; omega
    have go : ∀ B, SetTable.sizeAbove (SetTable.grown (M.length + 1)) - 1 = B → MaskOk B → SetTable.sizeAbove (SetTable.grown (M.length + 1)) ≤ 128 → (M.length + 1) * 5 < B * 3 →
        wpAny (model P w) A (setRelay a (SetTable.grown (M.length + 1))) (fun _ u => wpAny (model P w) A (pure true) Q E u) E { s with heap := h1 } := fun B y1 y2 y3 y4 =>
      relayG sk (s := { s with heap := h1 }) ho1 ⟨hex.1, hex.2.1, hex.2.2⟩ rfl ent1 tsz tb1.dm (by rw [wl1, p4]; rcases two with ⟨z1, z2⟩ | ⟨z1, z2⟩ <;> omega) nd1 mem1 pl1 ld1 y1 y2 y3 (by rw [len1]; exact y4)
        fun h2 M2 ws2 g2 T2 sb2 R2 pm2 => wpAny_pure (hQ true h2 M2 ws2 g2 T2 (sb.trans sb2) R2 (fun z => absurd z no) fun _ => pm2.trans pm)
    rcases two with ⟨_, z⟩ | ⟨_, z⟩
    · exact go 31 (by rw [z, size_20]) (.inr (.inl rfl)) (by rw [z, size_20]; decide) (by omega)
    · exact go 127 (by rw [z, size_76]) (.inr (.inr rfl)) (by rw [z, size_76]; decide) (by omega)
  · first
      | refine wp_if_neg (by simp [full]) ?_
      | refine wpAny_bind (wp_if_neg (by simp [full]) (wpAny_pure ?_))
    refine wpAny_pure (hQ true h1 M1 ws1 (g + 1) T1 sb ⟨⟨_, ho1, ⟨hex.1, hex.2.1, hex.2.2⟩, rfl⟩, ent1, tb1, nd1, mem1, pl1, ld1, ?_⟩ (fun z => absurd z no) fun _ => pm)
    have z := full
    unfold SetTable.tooFull at z
    rw [decide_eq_true_eq, p9] at z
    rw [len1]; omega
end
end DL

set_option Elab.async false
set_option linter.all false
set_option maxRecDepth 100000
set_option maxHeartbeats 3200000
/-! DL51: set(xs) of lists and tuples of things that are alike by keys. -/
namespace DL
open PySem PySem.Spec PyProof.Rows L2
section
variable {P : Program} {w : World} {κ : Type} [DecidableEq κ] {kd : HeapKind P w κ} {A : Around} {E : Value → Shared → Prop} {s : Shared}
/-- what the first i things made -/
structure GotG (ks : List (Ent κ)) (i : Nat) (M : List (Ent κ)) : Prop where
  sub : ∀ q ∈ M, q ∈ ks.take i
  all : ∀ q ∈ ks.take i, q.2 ∈ M.map (·.2)
theorem GotG.zero (ks : List (Ent κ)) : GotG ks 0 [] := ⟨(fun q z => nomatch z), fun q z => by simp at z⟩
theorem GotG.next {ks M M' : List (Ent κ)} {i : Nat} {q : Ent κ} (y : GotG ks i M) (z : ks[i]? = some q) (c1 : q.2 ∈ M.map (·.2) → M' = M) (c2 : q.2 ∉ M.map (·.2) → M'.Perm (q :: M)) : GotG ks (i + 1) M' := by
  have tk : ks.take (i + 1) = ks.take i ++ [q] := by rw [List.take_add_one, z]; rfl
  by_cases c : q.2 ∈ M.map (·.2)
  · rw [c1 c]
    refine ⟨fun r hr => by rw [tk]; exact List.mem_append_left _ (y.sub r hr), fun r hr => ?_⟩
    rw [tk] at hr
    rcases List.mem_append.mp hr with hr | hr
    · exact y.all r hr
    · rw [List.mem_singleton.mp hr]; exact c
  · have pm := c2 c
    refine ⟨fun r hr => ?_, fun r hr => ?_⟩
    · rw [tk]
      rcases List.mem_cons.mp (pm.mem_iff.mp hr) with e | hr
      · rw [e]; exact List.mem_append_right _ (List.mem_singleton.mpr rfl)
      · exact List.mem_append_left _ (y.sub r hr)
    · rw [(pm.map (·.2)).mem_iff, List.map_cons]
      rw [tk] at hr
      rcases List.mem_append.mp hr with hr | hr
      · exact List.mem_cons_of_mem _ (y.all r hr)
      · rw [List.mem_singleton.mp hr]; exact List.mem_cons_self
/-- no more than 75 unlike ones -/
def FewG (ks : List (Ent κ)) : Prop := ∀ M : List (Ent κ), (M.map (·.2)).Nodup → (∀ q ∈ M, q ∈ ks) → M.length ≤ 75
theorem set_loopG (sk : SetK kd) {J : Addr} {fp wr : List Addr} {Gn : Array GenState → Array GenState → Prop} {n : Nat} {Pv : Nat → Value → Prop} {St : Nat → Shared → Prop} {R : Result → Shared → Prop}
    (W : WalksS P w A.in1 J fp wr Gn n Pv St) (S : Addr) (hSf : S ∉ fp) (ks : List (Ent κ)) (hn : n = ks.length) (few : FewG ks) (val : ∀ i v, Pv i v → ∃ q, ks[i]? = some q ∧ v = .ref q.1)
    (h0 : Heap) (hk : ∀ q ∈ ks, kd.is h0 q.2 q.1) (hS0 : h0.get? S = none) (hw0 : ∀ b ∈ wr, h0.get? b = none) (ro : kd.room A.in1) :
    ∀ (m i : Nat) (s : Shared), n - i = m → i ≤ n → St i s → (∀ b o, h0.get? b = some o → s.heap.get? b = some o) → (∃ M ws g T, SetG kd s.heap S M ws g T ∧ GotG ks i M) →
      (∀ s' M ws g T, Moved (S :: wr) Gn s s' → SetG kd s'.heap S M ws g T → GotG ks n M → (∀ b o, h0.get? b = some o → s'.heap.get? b = some o) → R (.ok (.ret .none)) s') →
      codeAny (model P w) A (.builtin "set.update.loop" ⟨[.ref S, .ref J], []⟩) R s := by
  have hSw : S ∉ wr := fun z => hSf (W.sub _ z)
  have wider : ∀ b ∈ wr, b ∈ S :: wr := fun b z => List.mem_cons_of_mem _ z
  have keep : ∀ {s s' : Shared}, Moved wr Gn s s' → (∀ b o, h0.get? b = some o → s.heap.get? b = some o) → ∀ b o, h0.get? b = some o → s'.heap.get? b = some o := fun mv kp b o e =>
    mv.heap b o (fun z => by rw [hw0 b z] at e; cases e) (kp b o e)
  have still : ∀ {h' : Heap}, (∀ b o, h0.get? b = some o → h'.get? b = some o) → ∀ q ∈ ks, kd.is h' q.2 q.1 := fun kp q hq => sk.stay (fun b o vs n e _ => kp b o e) (hk q hq)
  intro m
  induction m with
  | zero =>
    intro i s e le st kp ⟨M, ws, g, T, R0, got⟩ fin
    obtain rfl : i = n := by omega
    refine codeAny_builtin F.entry_set_update_loop ?_
    rw [Around.under_plainId F.plain_set_update_loop _]
    show wpAny _ A.in1 (pyNext (.ref J) >>= _) _ _ s
    refine wpAny_bind (W.done s _ _ st fun s' mv => ?_)
    have kp' := keep mv kp
    show wpAny _ A.in1 (ret Value.none) _ _ s'
    exact wpAny_pure (fin s' M ws g T (mv.mono wider) (R0.moved sk (fun o e => mv.heap S o hSw e) fun q hq => still kp' q (List.mem_of_mem_take (got.sub q hq))) got kp')
  | succ m ih =>
    intro i s e le st kp ⟨M, ws, g, T, R0, got⟩ fin
    have lt : i < n := by omega
    refine codeAny_builtin F.entry_set_update_loop ?_
    rw [Around.under_plainId F.plain_set_update_loop _]
    show wpAny _ A.in1 (pyNext (.ref J) >>= _) _ _ s
    refine wpAny_bind (W.item i s _ _ lt st fun v s' pv st' mv => ?_)
    obtain ⟨q, hq, rfl⟩ := val i v pv
    have kp' := keep mv kp
    have R1 : SetG kd s'.heap S M ws g T := R0.moved sk (fun o e => mv.heap S o hSw e) fun r hr => still kp' r (List.mem_of_mem_take (got.sub r hr))
    have hx : kd.is s'.heap q.2 q.1 := still kp' q (List.mem_of_getElem? hq)
    have hl := few M R0.nd fun r hr => List.mem_of_mem_take (got.sub r hr)
    show wpAny _ A.in1 (holding [Value.ref q.1] (setAdd S (.ref q.1)) >>= _) _ _ s'
    refine wpAny_bind (wpAny_holding ?_)
    unfold setAdd
    refine wpAny_holding (wpAny_bind (kd.pyHash ro hx ?_))
    refine addG (s := { s' with toks := s'.toks + kd.draws q.2 }) sk R1 hx ro (by omega) fun b h' M' ws' g' T' sb R2 c1 c2 => ?_
    have kp2 : ∀ b o, h0.get? b = some o → h'.get? b = some o := fun b o z => (sb.2 b (fun y => by rw [y, hS0] at z; cases z)).trans (kp' b o z)
    refine wpAny_pure ⟨plainId_quiet F.plain_set_update_loop _, ih (i + 1) _ (by omega) lt (W.frame _ s' _ _ st' (Nat.le_add_right _ _) fun b hb o z => ?_) kp2 ⟨M', ws', g', T', R2, got.next hq c1 c2⟩ fun s'' M2 ws2 g2 T2 mv2 R3 got2 kp3 => ?_⟩
    · rw [sb.2 b (fun y : b = S => hSf (by rw [← y]; exact hb))]; exact z
    · refine fin s'' M2 ws2 g2 T2 (Moved.trans W.gtrans ((mv.mono wider).then_heap (Nat.le_add_right _ _) fun b o hb z => ?_) mv2) R3 got2 kp3
      rw [sb.2 b (fun y : b = S => hb (by rw [y]; exact List.mem_cons_self))]; exact z
theorem setG_new {h : Heap} {a : Addr} (ho : h.get? a = some { cls := .type "set", dict := none, data := .set #[] 0 (.fresh 0 0 (!w.params.followText "set-order")) }) : SetG kd h a [] #[] 0 (.fresh 0 0 (!w.params.followText "set-order")) where
  at_ := ⟨_, ho, ⟨rfl, rfl, rfl⟩, rfl⟩
  ent := rfl
  tb := (setTR_fresh (P := P) (w := w) ho).tab
  nd := List.nodup_nil
  mem := fun q z => nomatch z
  pl := rfl
  ld := (setTR_fresh (P := P) (w := w) ho).led
  rm := (setTR_fresh (P := P) (w := w) ho).room
end
end DL

set_option Elab.async false
set_option linter.all false
set_option maxRecDepth 100000
set_option maxHeartbeats 3200000
/-! DL52: set(xs) as a call, sets as objects. -/
namespace DL
open PySem PySem.Spec PyProof.Rows L2
section
variable {P : Program} {w : World} {κ : Type} [DecidableEq κ] {kd : HeapKind P w κ} {A : Around} {E : Value → Shared → Prop} {s : Shared}
theorem setG_tuple (sk : SetK kd) {l : Addr} {items : Array Value} (ks : List (Ent κ)) {Q : Value → Shared → Prop} (hh : A.handled = none) (hl : s.heap.IsTuple l items) (hit : items.toList = ks.map fun p => Value.ref p.1)
    (hk : ∀ p ∈ ks, kd.is s.heap p.2 p.1) (few : FewG ks) (ro : kd.room A.in1.in1.in1)
    (fin : ∀ (h' : Heap) (tk : Nat) L es ep t, SetG kd h' s.heap.objs.size L es ep t → GotG ks ks.length L → (∀ b o, s.heap.get? b = some o → h'.get? b = some o) → Q (.ref s.heap.objs.size) { s with heap := h', toks := tk }) :
    wpAny (model P w) A (call (.type "set") [.ref l]) Q E s := by
  have sz : items.size = ks.length := by
    have q := congrArg List.length hit
    rw [Array.length_toList, List.length_map] at q; exact q
  obtain ⟨cm, tlm, _⟩ := F.called_set.mro
  have made := F.called_set.made; have subs := F.called_set.sub
  refine wpAny_call (codeAny_of_tree ?_); show wpAny _ _ (callAny (.type "set") _) _ _ _
  refine wpAny_pure ⟨Code.quiet_builtin _ (by decide +kernel), codeAny_builtin F.entry_type_call ?_⟩; rw [Around.under_plain (weight_type_call_type "set" [.ref l] []) rfl]
  have n1 := F.called_set.notType; have n2 := F.called_set.canCreate; have n3 := F.typeCall_set_1 (.ref l)
  repeat (any_goals (first | assumption | wp_step))
  refine codeAny_mono (code_set_led1 (.ref l) (E := E) (Q₁ := fun ob s₁ => ob = .ref s.heap.objs.size ∧ s₁ = { s with heap := s.heap.push (nSet w) }) ⟨rfl, rfl⟩) fun res s₁ hres => ?_
  cases res with
  | error e => exact hres
  | ok fl =>
    cases fl with
    | ret ob =>
      obtain ⟨rfl, rfl⟩ := hres
      have there : (s.heap.push (nSet w)).get? s.heap.objs.size = some (nSet w) := Heap.get?_push_size _ rfl
      have isS : Shared.TypeIs { s with heap := s.heap.push (nSet w) } (.ref s.heap.objs.size) "set" := ⟨_, there, rfl⟩
      have i1 := F.called_set.init.lookup; have i2 := F.called_set.init.bind (.ref s.heap.objs.size)
      repeat (any_goals (first | assumption | wp_step))
      refine codeAny_mono (codeAny_call_builtin (R := wants (fun r s₂ => r = .none ∧ ∃ h' tk L es ep t, s₂ = { s with heap := h', toks := tk } ∧ SetG kd h' s.heap.objs.size L es ep t ∧ GotG ks ks.length L ∧ (∀ b o, s.heap.get? b = some o → h'.get? b = some o)) E) F.called_set.init.plain F.entry_set_init (check_set_init_1 isS ?_)) fun r₂ s₂ hr₂ => ?_
      · obtain ⟨⟨ocls, odict, odata, oslots⟩, hol, hcl, nl, hdl⟩ := id hl
        simp only at hcl hdl; subst hcl; subst hdl
        have lthere : (s.heap.push (nSet w)).get? l = some { cls := .type "tuple", dict := odict, data := .seq items nl, slots := oslots } := Heap.get?_push_of_some _ hol
        have s1 := F.sub_tuple_set; have s2 := F.sub_tuple_frozenset; have s3 : (Value.type "tuple" == Value.type "dict") = false := by decide
        have isL : (s.heap.push (nSet w)).IsTuple l items := hl.push _
        unfold Builtin.«set.__init__» noKeywords Builtin.Frozenset.updateFrom; generalize ePI : pyIter = PI
        wp_walk
        subst ePI
        refine wpAny_pyIter_tuple isL ?_; refine wpAny_bind (wpAny_runValue ?_)
        have lt : l < s.heap.objs.size := Heap.lt_size hol
        have calm3 : A.in1.in1.in1.handled = none := by simp [hh]
        have neI : l ≠ (s.heap.push (nSet w)).objs.size := by rw [Heap.size_push]; exact Nat.ne_of_lt (Nat.lt_succ_of_lt lt)
        have notin : s.heap.objs.size ∉ [(s.heap.push (nSet w)).objs.size, l] := by
          rw [Heap.size_push]; simp only [List.mem_cons, List.mem_singleton, List.not_mem_nil, or_false, not_or]; exact ⟨Nat.ne_of_lt (Nat.lt_succ_self _), Nat.ne_of_gt lt⟩
        have vals : ∀ (i : Nat) (v : Value), items[i]? = some v → ∃ p, ks[i]? = some p ∧ v = .ref p.1 := fun i v hv => by
          have q : items.toList[i]? = some v := by rw [Array.getElem?_toList]; exact hv
          rw [hit, List.getElem?_map, Option.map_eq_some_iff] at q
          obtain ⟨p, hp, e⟩ := q
          exact ⟨p, hp, e.symm⟩
        have none_of : ∀ b, s.heap.objs.size ≤ b → s.heap.get? b = none := fun b hb => by
          cases q : s.heap.get? b with
          | none => rfl
          | some o => exact absurd (Nat.lt_of_lt_of_le (Heap.lt_size q) hb) (Nat.lt_irrefl _)
        refine set_loopG sk ((Walks.tuple calm3 _ l neI items).toS) s.heap.objs.size notin ks sz few vals s.heap hk (none_of _ (Nat.le_refl _)) (fun b hb => none_of b (by rw [List.mem_singleton.mp hb, Heap.size_push]; exact Nat.le_succ _)) ro (items.size - 0) 0 _ (by omega) (Nat.zero_le _) ⟨⟨_, Heap.get?_push_size _ rfl, rfl, rfl⟩, (isL.push _)⟩ (fun b o e => Heap.get?_push_of_some _ (Heap.get?_push_of_some _ e)) ⟨[], #[], 0, _, setG_new (Heap.get?_push_of_some _ there), GotG.zero ks⟩ fun s' L es ep t hm hS' g' hkp => ?_
        obtain ⟨h', g2, d', tk', os'⟩ := s'
        have eg : g2 = s.gens := hm.gens; have ed : d' = s.drawn := hm.drawn; have eo : os' = s.os := hm.os
        subst eg; subst ed; subst eo
        show wpAny _ _ _ _ _ _
        refine wpAny_pure ?_; show wpAny _ _ (ret Value.none) _ _ _
        rw [sz] at g'; exact wpAny_pure ⟨rfl, h', tk', L, es, ep, t, rfl, hS', g', hkp⟩
      · cases r₂ with
        | error e => exact hr₂
        | ok fl₂ =>
          cases fl₂ with
          | ret r =>
            obtain ⟨rfl, h', tk, L, es, ep, t, rfl, hS', g', hk'⟩ := hr₂
            repeat (any_goals (first | assumption | wp_step))
            exact fin _ _ _ _ _ _ hS' g' hk'
          | _ => exact hr₂.elim
    | _ => exact hres.elim
theorem setG_list (sk : SetK kd) {l : Addr} {items : Array Value} (ks : List (Ent κ)) {Q : Value → Shared → Prop} (hh : A.handled = none) (hl : s.heap.IsList l items) (hit : items.toList = ks.map fun p => Value.ref p.1)
    (hk : ∀ p ∈ ks, kd.is s.heap p.2 p.1) (few : FewG ks) (ro : kd.room A.in1.in1.in1)
    (fin : ∀ (h' : Heap) (tk : Nat) L es ep t, SetG kd h' s.heap.objs.size L es ep t → GotG ks ks.length L → (∀ b o, s.heap.get? b = some o → h'.get? b = some o) → Q (.ref s.heap.objs.size) { s with heap := h', toks := tk }) :
    wpAny (model P w) A (call (.type "set") [.ref l]) Q E s := by
  have sz : items.size = ks.length := by
    have q := congrArg List.length hit
    rw [Array.length_toList, List.length_map] at q; exact q
  obtain ⟨cm, tlm, _⟩ := F.called_set.mro
  have made := F.called_set.made; have subs := F.called_set.sub
  refine wpAny_call (codeAny_of_tree ?_); show wpAny _ _ (callAny (.type "set") _) _ _ _
  refine wpAny_pure ⟨Code.quiet_builtin _ (by decide +kernel), codeAny_builtin F.entry_type_call ?_⟩; rw [Around.under_plain (weight_type_call_type "set" [.ref l] []) rfl]
  have n1 := F.called_set.notType; have n2 := F.called_set.canCreate; have n3 := F.typeCall_set_1 (.ref l)
  repeat (any_goals (first | assumption | wp_step))
  refine codeAny_mono (code_set_led1 (.ref l) (E := E) (Q₁ := fun ob s₁ => ob = .ref s.heap.objs.size ∧ s₁ = { s with heap := s.heap.push (nSet w) }) ⟨rfl, rfl⟩) fun res s₁ hres => ?_
  cases res with
  | error e => exact hres
  | ok fl =>
    cases fl with
    | ret ob =>
      obtain ⟨rfl, rfl⟩ := hres
      have there : (s.heap.push (nSet w)).get? s.heap.objs.size = some (nSet w) := Heap.get?_push_size _ rfl
      have isS : Shared.TypeIs { s with heap := s.heap.push (nSet w) } (.ref s.heap.objs.size) "set" := ⟨_, there, rfl⟩
      have i1 := F.called_set.init.lookup; have i2 := F.called_set.init.bind (.ref s.heap.objs.size)
      repeat (any_goals (first | assumption | wp_step))
      refine codeAny_mono (codeAny_call_builtin (R := wants (fun r s₂ => r = .none ∧ ∃ h' tk L es ep t, s₂ = { s with heap := h', toks := tk } ∧ SetG kd h' s.heap.objs.size L es ep t ∧ GotG ks ks.length L ∧ (∀ b o, s.heap.get? b = some o → h'.get? b = some o)) E) F.called_set.init.plain F.entry_set_init (check_set_init_1 isS ?_)) fun r₂ s₂ hr₂ => ?_
      · obtain ⟨⟨ocls, odict, odata, oslots⟩, hol, hcl, nl, hdl⟩ := id hl
        simp only at hcl hdl; subst hcl; subst hdl
        have lthere : (s.heap.push (nSet w)).get? l = some { cls := .type "list", dict := odict, data := .seq items nl, slots := oslots } := Heap.get?_push_of_some _ hol
        have s1 := F.sub_list_set; have s2 := F.sub_list_frozenset; have s3 : (Value.type "list" == Value.type "dict") = false := by decide
        have isL : (s.heap.push (nSet w)).IsList l items := hl.push _
        unfold Builtin.«set.__init__» noKeywords Builtin.Frozenset.updateFrom; generalize ePI : pyIter = PI
        wp_walk
        subst ePI
        refine wpAny_pyIter_list isL ?_; refine wpAny_bind (wpAny_runValue ?_)
        have lt : l < s.heap.objs.size := Heap.lt_size hol
        have calm3 : A.in1.in1.in1.handled = none := by simp [hh]
        have neI : l ≠ (s.heap.push (nSet w)).objs.size := by rw [Heap.size_push]; exact Nat.ne_of_lt (Nat.lt_succ_of_lt lt)
        have notin : s.heap.objs.size ∉ [(s.heap.push (nSet w)).objs.size, l] := by
          rw [Heap.size_push]; simp only [List.mem_cons, List.mem_singleton, List.not_mem_nil, or_false, not_or]; exact ⟨Nat.ne_of_lt (Nat.lt_succ_self _), Nat.ne_of_gt lt⟩
        have vals : ∀ (i : Nat) (v : Value), items[i]? = some v → ∃ p, ks[i]? = some p ∧ v = .ref p.1 := fun i v hv => by
          have q : items.toList[i]? = some v := by rw [Array.getElem?_toList]; exact hv
          rw [hit, List.getElem?_map, Option.map_eq_some_iff] at q
          obtain ⟨p, hp, e⟩ := q
          exact ⟨p, hp, e.symm⟩
        have none_of : ∀ b, s.heap.objs.size ≤ b → s.heap.get? b = none := fun b hb => by
          cases q : s.heap.get? b with
          | none => rfl
          | some o => exact absurd (Nat.lt_of_lt_of_le (Heap.lt_size q) hb) (Nat.lt_irrefl _)
        refine set_loopG sk ((Walks.list calm3 _ l neI items).toS) s.heap.objs.size notin ks sz few vals s.heap hk (none_of _ (Nat.le_refl _)) (fun b hb => none_of b (by rw [List.mem_singleton.mp hb, Heap.size_push]; exact Nat.le_succ _)) ro (items.size - 0) 0 _ (by omega) (Nat.zero_le _) ⟨⟨_, Heap.get?_push_size _ rfl, rfl, rfl⟩, (isL.push _)⟩ (fun b o e => Heap.get?_push_of_some _ (Heap.get?_push_of_some _ e)) ⟨[], #[], 0, _, setG_new (Heap.get?_push_of_some _ there), GotG.zero ks⟩ fun s' L es ep t hm hS' g' hkp => ?_
        obtain ⟨h', g2, d', tk', os'⟩ := s'
        have eg : g2 = s.gens := hm.gens; have ed : d' = s.drawn := hm.drawn; have eo : os' = s.os := hm.os
        subst eg; subst ed; subst eo
        show wpAny _ _ _ _ _ _
        refine wpAny_pure ?_; show wpAny _ _ (ret Value.none) _ _ _
        rw [sz] at g'; exact wpAny_pure ⟨rfl, h', tk', L, es, ep, t, rfl, hS', g', hkp⟩
      · cases r₂ with
        | error e => exact hr₂
        | ok fl₂ =>
          cases fl₂ with
          | ret r =>
            obtain ⟨rfl, h', tk, L, es, ep, t, rfl, hS', g', hk'⟩ := hr₂
            repeat (any_goals (first | assumption | wp_step))
            exact fin _ _ _ _ _ _ hS' g' hk'
          | _ => exact hr₂.elim
    | _ => exact hres.elim
end
end DL

set_option Elab.async false
set_option linter.all false
set_option maxRecDepth 100000
set_option maxHeartbeats 3200000
/-! DL53: len(set(xs)), sorted(set(xs)) of things that are alike by keys. -/
namespace DL
open PySem PySem.Spec PyProof.Rows L2
theorem permG_inv {α β : Type} {f : α → β} : ∀ {l : List β} {M : List α}, l.Perm (M.map f) → ∃ M1 : List α, M1.Perm M ∧ l = M1.map f
  | [], M, p => by
    have z := p.symm.eq_nil
    exact ⟨[], by rw [List.map_eq_nil_iff.mp z], rfl⟩
  | x :: l, M, p => by
    have hx : x ∈ M.map f := p.mem_iff.mp (List.mem_cons_self ..)
    obtain ⟨q, hq, rfl⟩ := List.mem_map.mp hx
    obtain ⟨A, B, rfl⟩ := List.append_of_mem hq
    have pm : (A ++ q :: B).Perm (q :: (A ++ B)) := List.perm_middle
    have p2 : (f q :: l).Perm (f q :: (A ++ B).map f) := p.trans (pm.map f)
    obtain ⟨M1, h1, rfl⟩ := permG_inv (M := A ++ B) (List.Perm.cons_inv p2)
    exact ⟨q :: M1, (h1.cons q).trans pm.symm, rfl⟩
section
variable {P : Program} {w : World} {κ : Type} [DecidableEq κ] {kd : HeapKind P w κ} {A : Around} {E : Value → Shared → Prop} {s : Shared}
/-- the set, without its members -/
def SetG0 (kd : HeapKind P w κ) (h : Heap) (a : Addr) (M : List (Ent κ)) : Prop :=
  ∃ (ws : Array (Int × Value)) (g : Nat) (T : SetTable), (∃ o, h.get? a = some o ∧ o.ExactSet ∧ o.data = .set ws g T) ∧ ws.toList = ents kd M ∧ TabOk T (hshs kd M) ∧ (M.map (·.2)).Nodup ∧ T.plain = true ∧ (w.params.followText "set-order" = true ∨ T.led = true) ∧ M.length * 5 < T.mask * 3
def SetGO (kd : HeapKind P w κ) (a : Addr) (M : List (Ent κ)) : HO := .ext fun h => SetG0 kd h a M
theorem SetG.g0 {h : Heap} {a : Addr} {M : List (Ent κ)} {ws : Array (Int × Value)} {g : Nat} {T : SetTable} (R : SetG kd h a M ws g T) : SetG0 kd h a M := ⟨ws, g, T, R.at_, R.ent, R.tb, R.nd, R.pl, R.ld, R.rm⟩
theorem SetG0.full {h : Heap} {a : Addr} {M : List (Ent κ)} (R : SetG0 kd h a M) (mem : ∀ q ∈ M, kd.is h q.2 q.1) : ∃ ws g T, SetG kd h a M ws g T := by
  obtain ⟨ws, g, T, h1, h2, h3, h4, h5, h6, h7⟩ := R
  exact ⟨ws, g, T, h1, h2, h3, h4, mem, h5, h6, h7⟩
theorem setGO_new {H : Hp} {h : Heap} {a : Addr} {M : List (Ent κ)} (R : SetG0 kd h a M) : ObjOk P w H h a (SetGO kd a M) := by
  have ⟨ws, g, T, ⟨o, ho, _⟩, _⟩ := R
  refine ⟨R, ⟨o, ho⟩, fun h1 h2 ⟨ws', g', T', ⟨o', ho', r'⟩, q'⟩ k => ⟨ws', g', T', ⟨o', k o' ho', r'⟩, q'⟩⟩
theorem refsG : ∀ {ks : List (Ent κ)} {us : List Value}, Vals (ks.map fun p => V.ref p.1) us → us = ks.map fun p => Value.ref p.1
  | [], _, .nil => rfl
  | p :: ks, _, .cons r t => by cases r; rw [refsG t]; rfl
theorem valsG : ∀ (ks : List (Ent κ)), Vals (ks.map fun p => V.ref p.1) (ks.map fun p => Value.ref p.1)
  | [] => .nil
  | p :: ks => .cons rfl (valsG ks)
/-- sorted of a set: by data -/
theorem sorted_setG {a : Addr} {M : List (Ent κ)} {ws : Array (Int × Value)} {g : Nat} {T : SetTable} {Q : Value → Shared → Prop} (R : SetG kd s.heap a M ws g T) (hh : A.handled = none) {β : Type} {enc : β → PyData} {Rl : Value → β → Prop}
    (bsOf : List (Ent κ) → List β) (e : ∀ M1, M1.Perm M → PySem.W.EachIs Rl (M1.map fun q => Value.ref q.1) (bsOf M1)) (er : ∀ M1, M1.Perm M → PySem.W.EachIs (fun v b => ∃ as, Reads s.heap v (enc b) as) (M1.map fun q => Value.ref q.1) (bsOf M1))
    (hal : ∀ M1, M1.Perm M → PySem.W.AllAlike ((bsOf M1).map enc)) (hk : ∀ M1, M1.Perm M → PySem.W.Sortable ((bsOf M1).map enc)) (hu : ∀ M1, M1.Perm M → ∀ b, b ∈ bsOf M1 → A.units + 2 + (enc b).depth < cLine)
    (h : ∀ M1 s' p out c, M1.Perm M → (∀ b o, s.heap.get? b = some o → s'.heap.get? b = some o) → s'.gens = s.gens → s'.os = s.os → s.heap.objs.size ≤ p → s'.heap.get? p = some { cls := .type "list", data := .seq (List.toArray out) c } → PySem.W.EachIs Rl out ((bsOf M1).mergeSort (PySem.W.dataLe false enc)) → Q (.ref p) s') :
    wpAny (model P w) A (call (.builtin "sorted") [.ref a]) Q E s := by
  obtain ⟨o, ho, hex, hd⟩ := R.at_
  have wl := R.sz
  have hfew := R.few
  refine Calls.call_function_entry kind_sorted plain_sorted entry_sorted (args_sorted1 _) ?_
  unfold Builtin.«sorted»
  refine wpAny_bind (m := checkCount "sorted" 1 1 _) (wpAny_pure ?_)
  refine wpAny_bind (collect_set (A := A.in1) hh ⟨o, ho, hex.1, hd⟩ R.fit (by unfold scanBound; omega) R.tb.ris R.ld fun s1 vs k1 hz g1 o1 pm => ?_)
  have hes : ws.toList.map (·.2) = M.map fun q => Value.ref q.1 := by
    rw [R.ent]
    unfold ents
    rw [List.map_map]; rfl
  rw [hes] at pm
  obtain ⟨M1, pm1, rfl⟩ := permG_inv pm
  have hL : (M1.map fun q => Value.ref q.1).length ≤ sizeLine := by rw [List.length_map, pm1.length_eq, sizeLine_eq]; omega
  generalize hvs : (M1.map fun q => Value.ref q.1) = vs at hL
  have e1 := e M1 pm1
  have er1 := er M1 pm1
  rw [hvs] at e1 er1
  refine wpAny_bind (wpAny_newList ?_ hL)
  have hp : (s1.heap.push (seqObj "list" vs.toArray 0)).get? s1.heap.objs.size = some (seqObj "list" vs.toArray 0) := Heap.get?_push_size _ rfl
  have old : ∀ b u, s.heap.get? b = some u → b ≠ s1.heap.objs.size ∧ (s1.heap.push (seqObj "list" vs.toArray 0)).get? b = some u := fun b u q => ⟨Nat.ne_of_lt (Heap.lt_size (k1 b u q)), Heap.get?_push_of_some _ (k1 b u q)⟩
  refine wpAny_bind (wpAny_holding (wpAny_call_entry slot_list_sort ⟨_, hp, rfl⟩ entry_list_sort ?body (args_list_sort _)))
  case body =>
    have er' : PySem.W.EachIs (fun v b => ∃ as, Reads (PySem.W.sortingHeap (s1.heap.push (seqObj "list" vs.toArray 0)) s1.heap.objs.size vs) v (enc b) as) vs (bsOf M1) := er1.mono fun _ _ ⟨as, r⟩ => ⟨as, PyProof.Rows.Reads.keeps (fun b u q => PySem.W.sortingHeap_old (old b u q).1 (old b u q).2) r⟩
    show wpAny (model P w) A.in1.in1 (Builtin.«list.sort» ⟨[.ref s1.heap.objs.size], []⟩) _ _ _
    rw [PySem.W.plain_is_rev]
    refine PySem.W.list_sort_rev_vals (κ := PySem.W.dataKind (PySem.W.sortingHeap (s1.heap.push (seqObj "list" vs.toArray 0)) s1.heap.objs.size vs) ((bsOf M1).map enc)) hp (PySem.W.SortsAt.data (s := { s1 with heap := PySem.W.sortingHeap (s1.heap.push (seqObj "list" vs.toArray 0)) s1.heap.objs.size vs }) (PySem.W.each_map (R := fun v d => ∃ as, Reads (PySem.W.sortingHeap (s1.heap.push (seqObj "list" vs.toArray 0)) s1.heap.objs.size vs) v d as) enc er') (hal M1 pm1) (hk M1 pm1) (PySem.W.bound_map (hu M1 pm1))) hL ⟨_, rfl, wpAny_pure ⟨_, rfl, ?_⟩⟩
    obtain ⟨c, hc2⟩ := sortedHeap_at (vs := vs) (out := (PySem.W.sortVals (PySem.W.dataKind (PySem.W.sortingHeap (s1.heap.push (seqObj "list" vs.toArray 0)) s1.heap.objs.size vs) ((bsOf M1).map enc)) false vs vs).toArray) hp
    refine h M1 _ _ _ c pm1 (fun b u q => ?_) g1 o1 hz hc2 (PySem.W.sortVals_data false e1 er' (hal M1 pm1))
    show (sortedHeap _ _ _ _).get? b = some u
    rw [sortedHeap_old (old b u q).1 (Heap.lt_size (old b u q).2)]
    exact (old b u q).2
end
section
variable {X : Cx} {κ : Type} [DecidableEq κ] {kd : HeapKind X.prog X.w κ}
/-- members, whatever the state -/
def AtG (X : Cx) (kd : HeapKind X.prog X.w κ) (H : Hp) (q : Ent κ) : Prop := ∀ (pins : List (Addr × Obj)) (s : Shared) (σ : St), Inv X pins σ H s → kd.is s.heap q.2 q.1
theorem cr_setG (hc : X.calm = true) (sk : SetK kd) (ro : kd.room X.A.in1.in1.in1) : CallR X (.type "set") (fun xs H Q => ∃ (l : Addr) (ks : List (Ent κ)), xs = [V.ref l] ∧ (SqL X.K H l (ks.map fun p => V.ref p.1) ∨ SqT X.K H l (ks.map fun p => V.ref p.1)) ∧ (∀ q ∈ ks, AtG X kd H q) ∧ FewG ks ∧
    ∀ a M, H a = none → (∀ p ∈ M, p ∈ ks) → (∀ p ∈ ks, p.2 ∈ M.map (·.2)) → (M.map (·.2)).Nodup → Q (.ref a) (upd H a (SetGO kd a M))) := by
  intro pins s σ H xs us Q I r h
  obtain ⟨l, ks, rfl, hl, hk, few, q⟩ := h
  rw [Vals.ref1 r]
  have hn : H s.heap.objs.size = none := I.hok.fresh (Nat.le_refl _)
  rcases hl with hl | hl
  · obtain ⟨its, rv, ⟨o, n, ho, hcl, hdi, hda⟩, hz⟩ := I.list hl
    refine setG_list (P := X.prog) (w := X.w) sk ks (I.ok.hd hc) (items := its.toArray) ⟨o, ho, hcl, n, hda⟩ (by simpa using refsG rv) (fun p hp => hk p hp pins s σ I) few ro fun h' tk M ws g T R got kp => ?_
    refine ⟨.ref s.heap.objs.size, upd H s.heap.objs.size (SetGO kd s.heap.objs.size M), I.laid (t' := tk) kp (Nat.le_refl _) (setGO_new R.g0), rfl, q _ M hn (fun p hp => List.mem_of_mem_take (got.sub p hp)) (fun p hp => got.all p (by rw [List.take_length]; exact hp)) R.nd⟩
  · obtain ⟨its, rv, pl, hz⟩ := I.tuple hl
    refine setG_tuple (P := X.prog) (w := X.w) sk ks (I.ok.hd hc) pl (by simpa using refsG rv) (fun p hp => hk p hp pins s σ I) few ro fun h' tk M ws g T R got kp => ?_
    refine ⟨.ref s.heap.objs.size, upd H s.heap.objs.size (SetGO kd s.heap.objs.size M), I.laid (t' := tk) kp (Nat.le_refl _) (setGO_new R.g0), rfl, q _ M hn (fun p hp => List.mem_of_mem_take (got.sub p hp)) (fun p hp => got.all p (by rw [List.take_length]; exact hp)) R.nd⟩
theorem cr_lenG : CallR X (.builtin "len") (fun vs H Q => ∃ (a : Addr) (M : List (Ent κ)), vs = [V.ref a] ∧ H a = some (SetGO kd a M) ∧ (∀ q ∈ M, AtG X kd H q) ∧ Q (.int M.length) H) := by
  intro pins s σ H vs us Q I r h
  obtain ⟨a, M, rfl, ha, hk, q⟩ := h
  have R0 : SetG0 kd s.heap a M := (I.hok a _ ha).1
  obtain ⟨ws, g, T, R⟩ := R0.full fun p hp => hk p hp pins s σ I
  rw [Vals.ref1 r]
  obtain ⟨o, ho, hex, hd⟩ := R.at_
  have hs := R.sz
  have hw := R.few
  exact call_len_set ho hex hd R.fit (by omega) ⟨.int M.length, H, I.tok _, ⟨_, by rw [hs]⟩, q⟩
theorem rpl_map {K : PySem.W.Frag} {H : Hp} (dat : κ → D) : ∀ {M : List (Ent κ)}, (∀ q ∈ M, Rp K H (dat q.2) (.ref q.1)) → RpL K H (M.map fun q => dat q.2) (M.map fun q => V.ref q.1)
  | [], _ => .nil
  | q :: M, h => .cons (h q (List.mem_cons_self ..)) (rpl_map dat fun r hr => h r (List.mem_cons_of_mem _ hr))
theorem cr_sortedG (hc : X.calm = true) (hu : X.A.units + 65 < cLine) (dat : κ → D) : CallR X (.builtin "sorted") (fun vs H Q => ∃ (a : Addr) (M : List (Ent κ)), vs = [V.ref a] ∧ H a = some (SetGO kd a M) ∧ (∀ q ∈ M, AtG X kd H q) ∧ (∀ q ∈ M, Rp X.K H (dat q.2) (.ref q.1)) ∧ (∀ M1 : List (Ent κ), M1.Perm M → sortOk (M1.map fun q => dat q.2)) ∧
    ∀ (M1 : List (Ent κ)) ws p, M1.Perm M → H p = none → RpL X.K H (sortD false (M1.map fun q => dat q.2)) ws → Q (.ref p) (upd H p (.lst ws))) := by
  intro pins s σ H vs us Q I r h
  obtain ⟨a, M, rfl, ha, hk, hr, ok, q⟩ := h
  have R0 : SetG0 kd s.heap a M := (I.hok a _ ha).1
  obtain ⟨ws, g, T, R⟩ := R0.full fun p hp => hk p hp pins s σ I
  rw [Vals.ref1 r]
  have few := R.few
  have rl : ∀ M1 : List (Ent κ), M1.Perm M → RpL X.K H (M1.map fun q => dat q.2) (M1.map fun q => V.ref q.1) := fun M1 p => rpl_map dat fun z hz => hr z (p.mem_iff.mp hz)
  refine sorted_setG R (I.ok.hd hc) (enc := fun b : V × D => b.2) (Rl := fun v b => RelV b.1 v) (fun M1 => (M1.map fun q => V.ref q.1).zip (M1.map fun q => dat q.2)) (fun M1 p => each_pairs (rl M1 p) (valsG M1)) (fun M1 p => each_reads I (fun d hd => ((ok M1 p).2.2 d hd).2) (rl M1 p) (valsG M1)) (fun M1 p => by rw [zip_snd2 (rl M1 p)]; exact (ok M1 p).1) (fun M1 p => by rw [zip_snd2 (rl M1 p)]; exact (ok M1 p).2.1) (fun M1 p b hb => ?_) fun M1 s' pp out c pm k1 g1 o1 hp hp2 eo => ?_
  · have := ((ok M1 p).2.2 b.2 (by rw [← zip_snd2 (rl M1 p)]; exact List.mem_map_of_mem hb)).1; omega
  · have e2 := zip_snd2 (rl M1 pm)
    have rv1 := each_vals eo
    have hn : H pp = none := I.hok.fresh hp
    have mem : ∀ b ∈ ((M1.map fun q => V.ref q.1).zip (M1.map fun q => dat q.2)).mergeSort (PySem.W.dataLe false fun b : V × D => b.2), Rp X.K H b.2 b.1 := fun b hb => zip_rp (rl M1 pm) b ((List.mergeSort_perm _ _).mem_iff.mp hb)
    have e3 : (((M1.map fun q => V.ref q.1).zip (M1.map fun q => dat q.2)).mergeSort (PySem.W.dataLe false fun b : V × D => b.2)).map (·.2) = sortD false (M1.map fun q => dat q.2) := by
      unfold sortD
      rw [PySem.W.sort_maps (s := PySem.W.dataLe false fun d : D => d) (fun b : V × D => b.2) (fun a _ b _ => le_snd false a b), e2]
    have hr2 := rp_zip mem
    rw [e3] at hr2
    have hlen : ((((M1.map fun q => V.ref q.1).zip (M1.map fun q => dat q.2)).mergeSort (PySem.W.dataLe false fun b : V × D => b.2)).map (·.1)).length ≤ sizeLine := by
      rw [List.length_map, (List.mergeSort_perm _ _).length_eq, List.length_zip, List.length_map, List.length_map, sizeLine_eq, pm.length_eq]; omega
    have all : s' = { s with heap := s'.heap, gens := s'.gens, drawn := s'.drawn, toks := s'.toks } := by
      cases s' with | mk _ _ _ _ _ => cases s with | mk _ _ _ _ _ => cases o1; rfl
    have J : Inv X pins σ (upd H pp (.lst (((M1.map fun q => V.ref q.1).zip (M1.map fun q => dat q.2)).mergeSort (PySem.W.dataLe false fun b : V × D => b.2) |>.map (·.1)))) { s with heap := s'.heap, gens := s'.gens, drawn := s'.drawn, toks := s'.toks } :=
      I.call (ch := []) (Un.laid k1 hp hn) (I.hok.laid k1 hp ⟨hlen, out, c, rv1, hp2⟩) (by rw [g1]; exact I.bare) (fun _ z => nomatch z)
    rw [all]
    exact ⟨.ref pp, _, J, rfl, q M1 _ pp pm hn hr2⟩
end
end DL

set_option Elab.async false
set_option linter.all false
set_option maxRecDepth 100000
set_option maxHeartbeats 3200000
/-! DL54: len(set(xs)), sorted(set(xs)): lists and tuples of tuples of ints, up to 75 unlike ones. -/
namespace DL
open PySem PySem.Spec PyProof.Rows L2
def tIs (ns : List Int) : D := .tuple (ns.map PyData.int)
theorem sk_ints (P : Program) (w : World) : SetK (TK P w) where
  cls := fun hk q => ofAClass_tup hk q
  byv := fun hk q => hashBy_tup hk q
  stay := fun kp x => tupleKind_stays.stays kp x
/-- no more than 75 unlike rows -/
def few75 (ks : List (List Int)) : Prop := ∀ zs : List (List Int), zs.Nodup → (∀ z ∈ zs, z ∈ ks) → zs.length ≤ 75
theorem few75_of {ks : List (List Int)} {all : List (List Int)} (h : ∀ k ∈ ks, k ∈ all) (hl : all.length ≤ 75) : few75 ks := fun zs nd hz => by
  have : ∀ (l D : List (List Int)), l.Nodup → (∀ x ∈ l, x ∈ D) → l.length ≤ D.length := by
    intro l
    induction l with
    | nil => intro D _ _; exact Nat.zero_le _
    | cons a l ih =>
      intro D n s
      obtain ⟨n1, n2⟩ := List.nodup_cons.mp n
      have ha := s a (List.mem_cons_self ..)
      have h2 := ih (D.erase a) n2 fun x hx => (List.mem_erase_of_ne (show x ≠ a from fun z => n1 (by rw [← z]; exact hx))).mpr (s x (List.mem_cons_of_mem _ hx))
      rw [List.length_erase_of_mem ha] at h2
      have := List.length_pos_of_mem ha
      rw [List.length_cons]; omega
  exact Nat.le_trans (this zs all nd fun z h' => h z (hz z h')) hl
theorem rows_ks {K : PySem.W.Frag} {H : Hp} : ∀ {rs : List (List Int)} {vs : List V}, RpL K H (rs.map tIs) vs → ∃ ks : List (Ent (List Int)), vs = ks.map (fun p => V.ref p.1) ∧ ks.map (·.2) = rs ∧ ∀ p ∈ ks, Rp K H (tIs p.2) (.ref p.1)
  | [], _, .nil => ⟨[], rfl, rfl, fun p hp => by cases hp⟩
  | c :: cs, _, .cons h l => by
    obtain ⟨ks, rfl, e, hk⟩ := rows_ks l
    have h' : Rp K H (.tuple (c.map PyData.int)) _ := h
    cases h' with
    | tup hs ll =>
      rename_i a vs
      refine ⟨(a, c) :: ks, rfl, by rw [List.map_cons, e], fun p hp => ?_⟩
      rcases List.mem_cons.mp hp with rfl | hp
      · exact .tup hs ll
      · exact hk p hp
section
variable {X : Cx} {G : Gh} {a : Expr} {pos p p1 p2 : Pos}
theorem atG_of {H : Hp} {q : Ent (List Int)} (h : Rp X.K H (tIs q.2) (.ref q.1)) : AtG X (TK X.prog X.w) H q := fun pins s σ I => I.isT (Rp.ints_sq (ns := q.2) h)
/-- items of a list or a tuple -/
def rowsOfD : D → Option (List D)
  | .list xs => some xs
  | .tuple xs => some xs
  | _ => none
theorem rows_at {K : PySem.W.Frag} {H : Hp} {x : D} {v : V} {xs : List D} (h : RpR K H x v) (e : rowsOfD x = some xs) : ∃ l vs, v = .ref l ∧ (SqL K H l vs ∨ SqT K H l vs) ∧ RpL K H xs vs := by
  cases x with
  | list ys =>
    cases e
    obtain ⟨l, vs, rfl, hs, hl⟩ := h.list
    exact ⟨l, vs, rfl, .inl hs, hl⟩
  | tuple ys =>
    cases e
    obtain ⟨l, vs, rfl, hs, hl⟩ := h.tuple
    exact ⟨l, vs, rfl, .inr hs, hl⟩
  | _ => cases e
def tLenSetR (ta : TD) : TD := fun E Q => ta E fun x E1 => optQ (rowsOfD x) fun xs => ∃ rs : List (List Int), xs = rs.map tIs ∧ few75 rs ∧ ∀ zs : List (List Int), zs.Nodup → (∀ c, c ∈ zs ↔ c ∈ rs) → Q (.int (zs.length : Nat)) E1
theorem mem_of_got {ks M : List (Ent (List Int))} {rs : List (List Int)} (e : ks.map (·.2) = rs) (m1 : ∀ p ∈ M, p ∈ ks) (m2 : ∀ p ∈ ks, p.2 ∈ M.map (·.2)) : ∀ c, c ∈ M.map (·.2) ↔ c ∈ rs := fun c => by
  constructor
  · intro z
    obtain ⟨q, hq, rfl⟩ := List.mem_map.mp z
    rw [← e]; exact List.mem_map.mpr ⟨q, m1 q hq, rfl⟩
  · intro z
    rw [← e] at z
    obtain ⟨q, hq, rfl⟩ := List.mem_map.mp z
    exact m2 q hq
theorem few_of {ks : List (Ent (List Int))} {rs : List (List Int)} (e : ks.map (·.2) = rs) (f : few75 rs) : FewG ks := fun M nd hm => by
  have := f (M.map (·.2)) nd fun z hz => by
    obtain ⟨q, hq, rfl⟩ := List.mem_map.mp hz
    rw [← e]; exact List.mem_map.mpr ⟨q, hm q hq, rfl⟩
  rwa [List.length_map] at this
theorem ed_lenSetR {ta : TD} (ha : ER X G a ta) (hu : X.A.units + 65 < cLine) (hg : Gl X "len") (hm : X.mg "len" = none) (hg2 : Gl X "set") (hm2 : X.mg "set" = none) (hc : X.calm = true := by rfl)
    (hs : starEach [a] X.env = (false, eval a X.env) :: starEach [] X.env := by rfl) : ED X G (.Call (.Name "len" p) [.Call (.Name "set" p1) [a] [] p2] [] pos) (tLenSetR ta) := by
  refine ⟨PE.weak (pe_callB (cr_lenG (kd := TK X.prog X.w)) hg hm bb_len (pa_cons (pe_callTy (cr_setG hc (sk_ints X.prog X.w) (by show X.A.in1.in1.in1.units < cLine; simp; omega)) hg2 hm2 PyProof.Rows.boot_set (pa_cons ha.pe pa_nil hs) (by decide) (by decide) hs) pa_nil)) fun σ H Q ⟨E, QE, rel, q, k⟩ => ⟨E, _, rel, q, fun x E1 v H1 q1 x1 r1 p1 => ?_⟩⟩
  cases hx : rowsOfD x with
  | none => rw [hx] at q1; exact q1.elim
  | some xs =>
    rw [hx] at q1
    obtain ⟨rs, rfl, f, q1⟩ := q1
    obtain ⟨l, vs, rfl, sq, rl⟩ := rows_at p1 hx
    obtain ⟨ks, rfl, e, hk⟩ := rows_ks rl
    refine ⟨l, ks, rfl, sq, fun q hq => atG_of (hk q hq), few_of e f, fun b M hn m1 m2 nd => ⟨b, M, rfl, upd_same, fun q hq => atG_of ((hk q (m1 q hq)).ext (PExt.new hn).ext), ?_⟩⟩
    have := q1 _ nd (mem_of_got e m1 m2)
    rw [List.length_map] at this
    exact k _ _ _ _ this (x1.trans (PExt.new hn).ext) (r1.pext (PExt.new hn)) (.int _)
def tSortSetR (ta : TD) : TLd := fun E Q => ta E fun x E1 => optQ (rowsOfD x) fun xs => ∃ rs : List (List Int), xs = rs.map tIs ∧ few75 rs ∧ (∀ zs : List (List Int), (∀ z ∈ zs, z ∈ rs) → sortOk (zs.map tIs)) ∧ ∀ zs : List (List Int), zs.Nodup → (∀ c, c ∈ zs ↔ c ∈ rs) → Q (sortD false (zs.map tIs)) E1
theorem el_sortSetR {ta : TD} (ha : ER X G a ta) (hu : X.A.units + 65 < cLine) (hg : Gl X "sorted") (hm : X.mg "sorted" = none) (hg2 : Gl X "set") (hm2 : X.mg "set" = none) (hc : X.calm = true := by rfl)
    (hs : starEach [a] X.env = (false, eval a X.env) :: starEach [] X.env := by rfl) : EL X G (.Call (.Name "sorted" p) [.Call (.Name "set" p1) [a] [] p2] [] pos) (tSortSetR ta) := by
  refine ⟨PE.weak (pe_callB (cr_sortedG (kd := TK X.prog X.w) hc hu tIs) hg hm bb_sorted (pa_cons (pe_callTy (cr_setG hc (sk_ints X.prog X.w) (by show X.A.in1.in1.in1.units < cLine; simp; omega)) hg2 hm2 PyProof.Rows.boot_set (pa_cons ha.pe pa_nil hs) (by decide) (by decide) hs) pa_nil)) fun σ H Q ⟨E, QE, rel, q, k⟩ => ⟨E, _, rel, q, fun x E1 v H1 q1 x1 r1 p1 => ?_⟩⟩
  cases hx : rowsOfD x with
  | none => rw [hx] at q1; exact q1.elim
  | some xs =>
    rw [hx] at q1
    obtain ⟨rs, rfl, f, ok, q1⟩ := q1
    obtain ⟨l, vs, rfl, sq, rl⟩ := rows_at p1 hx
    obtain ⟨ks, rfl, e, hk⟩ := rows_ks rl
    refine ⟨l, ks, rfl, sq, fun q hq => atG_of (hk q hq), few_of e f, fun b M hn m1 m2 nd => ?_⟩
    have mg := mem_of_got e m1 m2
    have mx : ∀ {M1 : List (Ent (List Int))}, M1.map (fun q => tIs q.2) = (M1.map (·.2)).map tIs := fun {M1} => by rw [List.map_map]; rfl
    refine ⟨b, M, rfl, upd_same, fun q hq => atG_of ((hk q (m1 q hq)).ext (PExt.new hn).ext), fun q hq => (hk q (m1 q hq)).ext (PExt.new hn).ext, fun M1 pm => ?_, fun M1 ws p' pm hp' rp => ?_⟩
    · rw [mx]
      exact ok _ fun z hz => (mg z).mp ((pm.map (·.2)).mem_iff.mp hz)
    · rw [mx] at rp
      have zz := q1 (M1.map (·.2)) ((pm.map (·.2)).nodup_iff.mpr nd) fun c => by rw [← mg c]; exact (pm.map (·.2)).mem_iff
      have x2 : PExt H1 (upd H1 b (SetGO (TK X.prog X.w) b M)) := PExt.new hn
      obtain ⟨r3, h30, n3⟩ := (r1.pext x2).fresh (o := .lst ws) hp'
      exact k _ _ _ _ _ zz (x1.trans (x2.trans (PExt.new hp')).ext) r3 h30 n3 upd_same (rp.ext (PExt.new hp').ext)
end
end DL

set_option Elab.async false
set_option linter.all false
set_option maxRecDepth 100000
set_option maxHeartbeats 3200000
/-! DL55: len(set(xs)) of nested tuples of ints, truths and None, up to 75. -/
namespace DL
open PySem PySem.Spec PyProof.Rows L2
mutual
def nkPl : NestedKey → Bool
  | .none => true
  | .num _ => true
  | .text _ => false
  | .tup ks => nkPls ks
def nkPls : List NestedKey → Bool
  | [] => true
  | k :: ks => nkPl k && nkPls ks
end
section
variable {P : Program} {w : World} {A : Around} {E : Value → Shared → Prop}
theorem cls_leaf (n : Nat) : ofAClassStatement n .none = pure false ∧ (∀ b, ofAClassStatement n (.bool b) = pure false) ∧ (∀ i t, ofAClassStatement n (.int i t) = pure false) ∧ ∀ x t, ofAClassStatement n (.str x t) = pure false := by
  cases n <;> exact ⟨rfl, fun _ => rfl, fun _ _ => rfl, fun _ _ => rfl⟩
theorem byv_leaf (n : Nat) : hashByValue n .none = pure true ∧ (∀ b, hashByValue n (.bool b) = pure true) ∧ ∀ i t, hashByValue n (.int i t) = pure true := by
  cases n <;> exact ⟨rfl, fun _ => rfl, fun _ _ => rfl⟩
mutual
theorem cls_key : ∀ (k : NestedKey) (v : Value) (n : Nat) (s : Shared) (Q : Bool → Shared → Prop), NestedIs s.heap k v → k.depth ≤ n → Q false s → wpAny (model P w) A (ofAClassStatement n v) Q E s
  | .none, _, n, s, Q, x, _, h => by cases x; rw [(cls_leaf n).1]; exact wpAny_pure h
  | .num i, _, n, s, Q, x, _, h => by
    cases x with
    | bool _ => rw [(cls_leaf n).2.1]; exact wpAny_pure h
    | int _ _ => rw [(cls_leaf n).2.2.1]; exact wpAny_pure h
  | .text i, _, n, s, Q, x, _, h => by
    cases x with
    | text _ _ => rw [(cls_leaf n).2.2.2]; exact wpAny_pure h
  | .tup ks, v, n, s, Q, x, hn, h => by
    cases x with
    | @tup b o items c _ ho hc hd hk =>
      simp only [NestedKey.depth] at hn
      cases n with
      | zero => omega
      | succ n =>
        have hi := cls_keys ks _ n s hk (by omega)
        have hT : s.TypeIs (.ref b) "tuple" := ⟨_, ho, hc⟩
        unfold ofAClassStatement
        refine wpAny_bind (wpAny_typeOf hT ?_)
        dsimp only
        have e : (("tuple" : String) == "tuple") = true := by decide
        simp only [e, if_true, Bool.not_true, Bool.false_eq_true, if_false]
        try refine wpAny_bind (wpAny_pure ?_)
        try simp only [Bool.not_true, Bool.false_eq_true, if_false]
        show wpAny _ _ (seqItems? (.ref b) >>= _) _ _ s
        refine wpAny_bind (wpAny_seqItems ho hd ?_)
        dsimp only
        refine wpAny_bind ?_
        show wpAny _ _ (forIn items _ _) _ _ s
        rw [← Array.forIn_toList]
        refine wpAny_forIn_list _ (fun rest r s' => r.1 = none ∧ s' = s ∧ ∀ v ∈ rest, v ∈ items.toList) _ ?_ ?_ _ _ ⟨rfl, rfl, fun v hv => hv⟩
        · rintro v rest r s' ⟨hr, rfl, hall⟩
          refine wpAny_bind (hi v (hall v List.mem_cons_self) _ ?_)
          simp only [Bool.false_eq_true, if_false]
          exact wpAny_pure ⟨rfl, rfl, fun u hu' => hall u (List.mem_cons_of_mem _ hu')⟩
        · rintro ⟨r1, r2⟩ s' ⟨hr, rfl, _⟩
          simp only at hr
          subst hr
          exact wpAny_pure h
theorem cls_keys : ∀ (ks : List NestedKey) (vs : List Value) (n : Nat) (s : Shared), NestedAll s.heap ks vs → NestedKey.depthAll ks ≤ n → ∀ v ∈ vs, ∀ (Q : Bool → Shared → Prop), Q false s → wpAny (model P w) A (ofAClassStatement n v) Q E s
  | [], _, n, s, x, _, v, hv => by cases x; cases hv
  | k :: ks, _, n, s, x, hn, v, hv => by
    cases x with
    | cons x1 x2 =>
      simp only [NestedKey.depthAll] at hn
      rcases List.mem_cons.mp hv with e | hv
      · rw [e]; exact fun Q h => cls_key k _ n s Q x1 (by omega) h
      · exact cls_keys ks _ n s x2 (by omega) v hv
end
mutual
theorem byv_key : ∀ (k : NestedKey) (v : Value) (n : Nat) (s : Shared) (Q : Bool → Shared → Prop), NestedIs s.heap k v → k.depth ≤ n → nkPl k = true → Q true s → wpAny (model P w) A (hashByValue n v) Q E s
  | .none, _, n, s, Q, x, _, _, h => by cases x; rw [(byv_leaf n).1]; exact wpAny_pure h
  | .num i, _, n, s, Q, x, _, _, h => by
    cases x with
    | bool _ => rw [(byv_leaf n).2.1]; exact wpAny_pure h
    | int _ _ => rw [(byv_leaf n).2.2]; exact wpAny_pure h
  | .text i, _, n, s, Q, x, _, p, h => by cases p
  | .tup ks, v, n, s, Q, x, hn, p, h => by
    cases x with
    | @tup b o items c _ ho hc hd hk =>
      simp only [NestedKey.depth] at hn
      cases n with
      | zero => omega
      | succ n =>
        have hi := byv_keys ks _ n s hk (by omega) p
        have hT : s.TypeIs (.ref b) "tuple" := ⟨_, ho, hc⟩
        unfold hashByValue
        refine wpAny_bind (wpAny_specialOf hT F.slot_tuple_hash.lookup ?_)
        show wpAny _ _ (seqItems? (.ref b) >>= _) _ _ s
        refine wpAny_bind (wpAny_seqItems ho hd ?_)
        refine wpAny_bind ?_
        show wpAny _ _ (forIn items _ _) _ _ s
        rw [← Array.forIn_toList]
        refine wpAny_forIn_list _ (fun rest r s' => r.1 = none ∧ s' = s ∧ ∀ v ∈ rest, v ∈ items.toList) _ ?_ ?_ _ _ ⟨rfl, rfl, fun v hv => hv⟩
        · rintro v rest r s' ⟨hr, rfl, hall⟩
          refine wpAny_bind (hi v (hall v List.mem_cons_self) _ ?_)
          simp only [Bool.not_true, Bool.false_eq_true, if_false]
          exact wpAny_pure ⟨rfl, rfl, fun u hu' => hall u (List.mem_cons_of_mem _ hu')⟩
        · rintro ⟨r1, r2⟩ s' ⟨hr, rfl, _⟩
          simp only at hr
          subst hr
          exact wpAny_pure h
theorem byv_keys : ∀ (ks : List NestedKey) (vs : List Value) (n : Nat) (s : Shared), NestedAll s.heap ks vs → NestedKey.depthAll ks ≤ n → nkPls ks = true → ∀ v ∈ vs, ∀ (Q : Bool → Shared → Prop), Q true s → wpAny (model P w) A (hashByValue n v) Q E s
  | [], _, n, s, x, _, _, v, hv => by cases x; cases hv
  | k :: ks, _, n, s, x, hn, p, v, hv => by
    cases x with
    | cons x1 x2 =>
      simp only [NestedKey.depthAll] at hn
      simp only [nkPls, Bool.and_eq_true] at p
      rcases List.mem_cons.mp hv with e | hv
      · rw [e]; exact fun Q h => byv_key k _ n s Q x1 (by omega) p.1 h
      · exact byv_keys ks _ n s x2 (by omega) p.2 v hv
end
/-- nested keys without texts -/
def numKind (P : Program) (w : World) : HeapKind P w NestedKey where
  is := fun h k a => (nestedKind P w).is h k a ∧ nkPl k = true
  hash := (nestedKind P w).hash
  draws := (nestedKind P w).draws
  room := (nestedKind P w).room
  inj := fun hx hy => (nestedKind P w).inj hx.1 hy.1
  keeps := fun x ho hd hs => ⟨(nestedKind P w).keeps x.1 ho hd hs, x.2⟩
  pyHash := fun hu hk h => (nestedKind P w).pyHash hu hk.1 h
  eqBool := fun hu hx hy h => (nestedKind P w).eqBool hu hx.1 hy.1 h
  quiet := fun hk h => (nestedKind P w).quiet hk.1 h
theorem sk_num (P : Program) (w : World) : SetK (numKind P w) where
  cls := fun hk q => cls_key _ _ 8 _ _ hk.1.1 hk.1.2 q
  byv := fun hk q => byv_key _ _ 8 _ _ hk.1.1 hk.1.2 hk.2 q
  stay := fun kp x => ⟨nestedKind_stays.stays kp x.1, x.2⟩
end
mutual
/-- the key of a set that data is: == of truths and ints as Python has it -/
def nkB : D → Option NestedKey
  | .none => some .none
  | .bool b => some (.num (if b = true then 1 else 0))
  | .int i => some (.num i)
  | .tuple xs => (nksB xs).map .tup
  | _ => none
def nksB : List D → Option (List NestedKey)
  | [] => some []
  | x :: xs => match nkB x, nksB xs with
    | some k, some ks => some (k :: ks)
    | _, _ => none
end
section
variable {X : Cx} {G : Gh} {pins : List (Addr × Obj)} {σ : St} {H : Hp} {s : Shared}
mutual
theorem nestedB_of (I : Inv X pins σ H s) : ∀ {d : D} {v : V} {u : Value} {k : NestedKey}, nkB d = some k → Rp X.K H d v → RelV v u → NestedIs s.heap k u
  | .int i, v, u, k, h, r, q => by
    unfold nkB at h; cases h; cases r
    obtain ⟨t, rfl⟩ := (show ∃ t, u = Value.int i t from q)
    exact .int i t
  | .bool b, v, u, k, h, r, q => by
    unfold nkB at h; cases h; cases r
    obtain rfl := (show u = Value.bool b from q)
    exact .bool rfl
  | .none, v, u, k, h, r, q => by
    unfold nkB at h; cases h; cases r
    obtain rfl := (show u = Value.none from q)
    exact .none
  | .tuple xs, v, u, k, h, r, q => by
    unfold nkB at h
    obtain ⟨ks, h1, rfl⟩ := Option.map_eq_some_iff.mp h
    cases r with
    | tup hs l =>
      rename_i a vs
      obtain rfl : u = Value.ref a := q
      obtain ⟨its, rv, ⟨o, ho, hc, n, hd⟩, hz⟩ := I.tuple hs.1
      exact .tup ho hc hd (by simpa using nestedB_all I h1 l rv)
  | .str _, _, _, k, h, _, _ => by simp [nkB] at h
  | .list _, _, _, k, h, _, _ => by simp [nkB] at h
  | .dict _, _, _, k, h, _, _ => by simp [nkB] at h
theorem nestedB_all (I : Inv X pins σ H s) : ∀ {ds : List D} {vs : List V} {us : List Value} {ks : List NestedKey}, nksB ds = some ks → RpL X.K H ds vs → Vals vs us → NestedAll s.heap ks us
  | [], _, _, ks, h, r, q => by unfold nksB at h; cases h; cases r; cases q; exact .nil
  | d :: ds, _, _, ks, h, r, q => by
    unfold nksB at h
    split at h
    · rename_i k ks' h1 h2
      cases h
      cases r with
      | cons r1 r2 =>
        cases q with
        | cons q1 q2 => exact .cons (nestedB_of I h1 r1 q1) (nestedB_all I h2 r2 q2)
    · cases h
end
def setKey : D → Option NestedKey
  | .tuple xs => match nksB xs with
    | some ks => if NestedKey.depthAll ks + 1 ≤ 8 ∧ nkPls ks = true then some (.tup ks) else none
    | none => none
  | _ => none
def setKeys : List D → Option (List NestedKey)
  | [] => some []
  | x :: xs => match setKey x, setKeys xs with
    | some k, some ks => some (k :: ks)
    | _, _ => none
theorem setKey_inv {d : D} {k : NestedKey} (e : setKey d = some k) : ∃ xs ks, d = .tuple xs ∧ nksB xs = some ks ∧ k = .tup ks ∧ NestedKey.depthAll ks + 1 ≤ 8 ∧ nkPls ks = true := by
  cases d with
  | tuple xs =>
    cases hk : nksB xs with
    | none => simp [setKey, hk] at e
    | some ks =>
      by_cases hc : NestedKey.depthAll ks + 1 ≤ 8 ∧ nkPls ks = true
      · have : setKey (.tuple xs) = some (.tup ks) := by show (match nksB xs with | some ks => if NestedKey.depthAll ks + 1 ≤ 8 ∧ nkPls ks = true then some (NestedKey.tup ks) else none | none => none) = _; rw [hk]; exact if_pos hc
        rw [this] at e
        exact ⟨xs, ks, rfl, hk, (Option.some.inj e).symm, hc⟩
      · have : setKey (.tuple xs) = none := by show (match nksB xs with | some ks => if NestedKey.depthAll ks + 1 ≤ 8 ∧ nkPls ks = true then some (NestedKey.tup ks) else none | none => none) = _; rw [hk]; exact if_neg hc
        rw [this] at e; cases e
  | _ => simp [setKey] at e
theorem atN_of {d : D} {k : NestedKey} {b : Addr} (e : setKey d = some k) (h : Rp X.K H d (.ref b)) : AtG X (numKind X.prog X.w) H (b, k) := fun pins s σ I => by
  obtain ⟨xs, ks, rfl, hk, rfl, hc⟩ := setKey_inv e
  exact ⟨⟨nestedB_of I (d := .tuple xs) (by unfold nkB; rw [hk]; rfl) h rfl, hc.1⟩, hc.2⟩
theorem refN {d : D} {k : NestedKey} {v : V} (e : setKey d = some k) (h : Rp X.K H d v) : ∃ b, v = .ref b := by
  obtain ⟨xs, ks, rfl, _⟩ := setKey_inv e
  cases h with
  | tup _ _ => exact ⟨_, rfl⟩
theorem keysN : ∀ {ds : List D} {vs : List V} {ks : List NestedKey}, setKeys ds = some ks → RpL X.K H ds vs → ∃ es : List (Ent NestedKey), vs = es.map (fun p => V.ref p.1) ∧ es.map (·.2) = ks ∧ ∀ p ∈ es, ∃ d, setKey d = some p.2 ∧ Rp X.K H d (.ref p.1)
  | [], _, ks, h, .nil => by unfold setKeys at h; cases h; exact ⟨[], rfl, rfl, fun p hp => by cases hp⟩
  | d :: ds, _, ks, h, .cons r l => by
    unfold setKeys at h
    split at h
    · rename_i k ks' h1 h2
      cases h
      obtain ⟨es, rfl, e2, he⟩ := keysN h2 l
      obtain ⟨b, rfl⟩ := refN h1 r
      refine ⟨(b, k) :: es, rfl, by rw [List.map_cons, e2], fun p hp => ?_⟩
      rcases List.mem_cons.mp hp with rfl | hp
      · exact ⟨d, h1, r⟩
      · exact he p hp
    · cases h
variable {a : Expr} {pos p p1 p2 : Pos}
theorem few_len {ks : List (Ent NestedKey)} (h : ks.length ≤ 75) : FewG ks := fun M nd hm => by
  have nd2 : (M.map (·.2)).Nodup := nd
  have : ∀ (l D : List NestedKey), l.Nodup → (∀ x ∈ l, x ∈ D) → l.length ≤ D.length := by
    intro l
    induction l with
    | nil => intro D _ _; exact Nat.zero_le _
    | cons a l ih =>
      intro D n s
      obtain ⟨n1, n2⟩ := List.nodup_cons.mp n
      have ha := s a (List.mem_cons_self ..)
      have h2 := ih (D.erase a) n2 fun x hx => (List.mem_erase_of_ne (show x ≠ a from fun z => n1 (by rw [← z]; exact hx))).mpr (s x (List.mem_cons_of_mem _ hx))
      rw [List.length_erase_of_mem ha] at h2
      have := List.length_pos_of_mem ha
      rw [List.length_cons]; omega
  have := this (M.map (·.2)) (ks.map (·.2)) nd2 fun x hx => by
    obtain ⟨q, hq, rfl⟩ := List.mem_map.mp hx
    exact List.mem_map.mpr ⟨q, hm q hq, rfl⟩
  rw [List.length_map, List.length_map] at this
  omega
def tLenSetN (ta : TD) : TD := fun E Q => ta E fun x E1 => optQ (rowsOfD x) fun xs => optQ (setKeys xs) fun ks => ks.length ≤ 75 ∧ ∀ zs : List NestedKey, zs.Nodup → (∀ c, c ∈ zs ↔ c ∈ ks) → Q (.int (zs.length : Nat)) E1
theorem ed_lenSetN {ta : TD} (ha : ER X G a ta) (hu : X.A.units + 65 < cLine) (hg : Gl X "len") (hm : X.mg "len" = none) (hg2 : Gl X "set") (hm2 : X.mg "set" = none) (hc : X.calm = true := by rfl)
    (hs : starEach [a] X.env = (false, eval a X.env) :: starEach [] X.env := by rfl) : ED X G (.Call (.Name "len" p) [.Call (.Name "set" p1) [a] [] p2] [] pos) (tLenSetN ta) := by
  refine ⟨PE.weak (pe_callB (cr_lenG (kd := numKind X.prog X.w)) hg hm bb_len (pa_cons (pe_callTy (cr_setG hc (sk_num X.prog X.w) (by show X.A.in1.in1.in1.units + 8 < cLine; simp; omega)) hg2 hm2 PyProof.Rows.boot_set (pa_cons ha.pe pa_nil hs) (by decide) (by decide) hs) pa_nil)) fun σ H Q ⟨E, QE, rel, q, k⟩ => ⟨E, _, rel, q, fun x E1 v H1 q1 x1 r1 p1 => ?_⟩⟩
  cases hx : rowsOfD x with
  | none => rw [hx] at q1; exact q1.elim
  | some xs =>
    rw [hx] at q1
    have q1 : optQ (setKeys xs) fun ks => ks.length ≤ 75 ∧ ∀ zs : List NestedKey, zs.Nodup → (∀ c, c ∈ zs ↔ c ∈ ks) → QE (.int (zs.length : Nat)) E1 := q1
    cases hk : setKeys xs with
    | none => rw [hk] at q1; exact q1.elim
    | some kl =>
      rw [hk] at q1
      obtain ⟨f, q1⟩ := q1
      obtain ⟨l, vs, rfl, sq, rl⟩ := rows_at p1 hx
      obtain ⟨ks, rfl, e, hks⟩ := keysN (X := X) hk rl
      have lk : ks.length ≤ 75 := by rw [← e, List.length_map] at f; exact f
      have at_ : ∀ q ∈ ks, AtG X (numKind X.prog X.w) H1 q := fun q hq => by
        obtain ⟨d, h1, h2⟩ := hks q hq
        exact atN_of h1 h2
      refine ⟨l, ks, rfl, sq, at_, few_len lk, fun b M hn m1 m2 nd => ⟨b, M, rfl, upd_same, fun q hq => ?_, ?_⟩⟩
      · obtain ⟨d, h1, h2⟩ := hks q (m1 q hq)
        exact atN_of h1 (h2.ext (PExt.new hn).ext)
      · have := q1 (M.map (·.2)) nd fun c => by
          rw [← e]
          constructor
          · intro z
            obtain ⟨q, hq, rfl⟩ := List.mem_map.mp z
            exact List.mem_map.mpr ⟨q, m1 q hq, rfl⟩
          · intro z
            obtain ⟨q, hq, rfl⟩ := List.mem_map.mp z
            exact m2 q hq
        rw [List.length_map] at this
        exact k _ _ _ _ this (x1.trans (PExt.new hn).ext) (r1.pext (PExt.new hn)) (.int _)
end
end DL

set_option Elab.async false
set_option linter.all false
set_option maxRecDepth 100000
set_option maxHeartbeats 3200000
/-! DL56: xs[a:c] = ys, ys any list. -/
namespace DL
open PySem PySem.Spec PyProof.Rows L2
section
variable {prog : Program} {w : World} {A : Around} {E : Value → Shared → Prop} {s : Shared}
theorem setItem_sliceG {l b sl : Addr} {items new : Array Value} {n : Nat} {vl vu : Value} {a c : Nat} {Q : Unit → Shared → Prop}
    (e : s.heap.get? l = some { cls := .type "list", data := .seq items n }) (hb : s.heap.IsList b new)
    (hs : s.heap.IsSliceOf sl vl vu .none) (pl : IsPart vl (some (a : Int))) (pu : IsPart vu (some (c : Int))) (hac : a ≤ c) (hc : c ≤ items.size)
    (hsz : items.size + new.size ≤ sizeLine) (h : Q () { s with heap := s.heap.update l (Obj.mapSeq fun xs => xs.extract 0 a ++ new ++ xs.extract c xs.size) }) :
    wpAny (model prog w) A (setItem (.ref l) (.ref sl) (.ref b)) Q E s := by
  have hl : s.heap.IsList l items := PySem.IsL.isList e
  obtain ⟨ob, hob, hcb, n2, hdb⟩ := id hb
  obtain ⟨os, hos, hcs, hds⟩ := id hs
  have hTs : s.TypeIs (.ref sl) "slice" := ⟨os, hos, hcs⟩
  have hstep : ¬ ((rawPart none == rawInt 0) = true) := Bool.false_ne_true
  have hmax : (max (a : Int) (c : Int)).toNat = c := by omega
  have hz' : ((fun xs : Array Value => xs.extract 0 a ++ new ++ xs.extract c xs.size) items).size ≤ sizeLine + 1 := by
    simp only [Array.size_append, Array.size_extract]
    omega
  unfold setItem
  try with_reducible refine wpAny_holding ?_
  first | refine wpAny_bind (wpAny_pure ?_) | skip
  refine wpAny_bind (wpAny_sequenceKey hl.typeIs (by decide) ?_)
  refine wpAny_bind (wpAny_callSpecial?_slot (name := Str.ofString "__setitem__") hl.typeIs slot_list_setitem
    (wpAny_call_entry slot_list_setitem hl.typeIs entry_list_setitem ?_ (args_list_setitem _ _ _)))
  show wpAny _ _ (Builtin.List.listSubscript? (.ref sl) >>= _) _ _ s
  refine wpAny_bind ?_
  unfold Builtin.List.listSubscript?
  refine wpAny_bind (wpAny_specialOf hTs slice_no_index ?_)
  simp only [Option.isNone_none, if_true]
  refine wpAny_pure ?_
  show wpAny _ _ (typeOf (.ref sl) >>= _) _ _ s
  refine wpAny_bind (wpAny_typeOf hTs ?_)
  first
    | rw [if_neg (by decide)]
    | refine PySem.W.KFB.if_not (by decide) ?_
  rw [listSliceParts_eq]
  refine wpAny_bind (wpAny_bind (wpAny_field hos hds (x := .none) rfl (wpAny_bind (wpAny_listPart .none ?_))))
  rw [if_neg hstep]
  refine wpAny_bind (wpAny_field hos hds (x := vl) rfl (wpAny_bind (wpAny_listPart pl ?_)))
  refine wpAny_bind (wpAny_field hos hds (x := vu) rfl (wpAny_bind (wpAny_listPart pu (wpAny_pure ?_))))
  cases hsame : Builtin.List.listSameRef (.ref l) (.ref b) with
  | false =>
    first
      | simp only [hsame, Bool.false_eq_true, if_false]
      | refine PySem.W.KFB.if_not hsame ?_
      | (dsimp only
         rw [if_neg (by rw [hsame]; exact Bool.false_ne_true)])
    refine wpAny_bind (m := Builtin.List.listAllItems (.ref b) "must assign iterable to extended slice") ?_
    unfold Builtin.List.listAllItems
    refine wpAny_bind (wpAny_typeOf hb.typeIs ?_)
    first
      | refine PySem.W.KFB.if_so (by decide) ?_
      | rw [if_pos (by decide)]
      | simp only [beq_self_eq_true, Bool.true_or, if_true]
    unfold Builtin.List.listItems
    refine wpAny_bind (wpAny_seqItems hob hdb (wpAny_pure ?_))
    refine wpAny_bind (wpAny_bind (wpAny_seqItems e rfl (wpAny_pure ?_)))
    refine wpAny_bind (wpAny_of_eq ((sliceIndices_raw (some (a : Int)) (some (c : Int)) none items.size (by simp)).trans (congrArg (pure : Int × Int × Int → Sem (Int × Int × Int)) (bounds_run hac hc))) ?_)
    show wpAny _ _ (if ((1 : Int) == 1) = true then _ else _) _ _ s
    rw [if_pos (by decide)]
    refine wpAny_bind (wpAny_rule ?_)
    first
      | simp only [notLongL hsz, Bool.false_eq_true, if_false]
      | refine PySem.W.KFB.if_not (notLongL hsz) ?_
    first | refine wpAny_bind (wpAny_pure ?_) | skip
    show wpAny _ _ (updateSeq l (fun xs => xs.extract 0 ((a : Int)).toNat ++ new ++ xs.extract (max (a : Int) (c : Int)).toNat xs.size) >>= _) _ _ s
    rw [hmax, Int.toNat_natCast]
    refine wpAny_bind (wpAny_updateSeq (hz := Nat.le_trans (Nat.le_add_right _ _) hsz) (_hz' := hz') e rfl ?_)
    refine wpAny_bind (wpAny_letGo ?_)
    first
      | exact wpAny_bind (wpAny_pure (wpAny_pure ⟨.none, rfl, wpAny_pure h⟩))
      | exact wpAny_pure ⟨.none, rfl, wpAny_pure h⟩
  | true =>
    first
      | simp only [hsame, if_true]
      | refine PySem.W.KFB.if_so hsame ?_
      | (dsimp only
         rw [if_pos hsame])
    refine wpAny_bind (m := Builtin.List.listItems (.ref b)) ?_
    unfold Builtin.List.listItems
    refine wpAny_bind (wpAny_seqItems hob hdb (wpAny_pure ?_))
    refine wpAny_bind (wpAny_bind (wpAny_seqItems e rfl (wpAny_pure ?_)))
    refine wpAny_bind (wpAny_of_eq ((sliceIndices_raw (some (a : Int)) (some (c : Int)) none items.size (by simp)).trans (congrArg (pure : Int × Int × Int → Sem (Int × Int × Int)) (bounds_run hac hc))) ?_)
    show wpAny _ _ (if ((1 : Int) == 1) = true then _ else _) _ _ s
    rw [if_pos (by decide)]
    refine wpAny_bind (wpAny_rule ?_)
    first
      | simp only [notLongL hsz, Bool.false_eq_true, if_false]
      | refine PySem.W.KFB.if_not (notLongL hsz) ?_
    first | refine wpAny_bind (wpAny_pure ?_) | skip
    show wpAny _ _ (updateSeq l (fun xs => xs.extract 0 ((a : Int)).toNat ++ new ++ xs.extract (max (a : Int) (c : Int)).toNat xs.size) >>= _) _ _ s
    rw [hmax, Int.toNat_natCast]
    refine wpAny_bind (wpAny_updateSeq (hz := Nat.le_trans (Nat.le_add_right _ _) hsz) (_hz' := hz') e rfl ?_)
    refine wpAny_bind (wpAny_letGo ?_)
    first
      | exact wpAny_bind (wpAny_pure (wpAny_pure ⟨.none, rfl, wpAny_pure h⟩))
      | exact wpAny_pure ⟨.none, rfl, wpAny_pure h⟩
end
section
variable {X : Cx} {G : Gh}
def rSetSl (K : PySem.W.Frag) : V → Option Int → Option Int → V → Hp → (Hp → Prop) → Prop := fun x lo hi v H Q => ∃ (l b : Addr) (xs ys : List V) (a c : Int), x = .ref l ∧ v = .ref b ∧ lo = some a ∧ hi = some c ∧ H l = some (.lst xs) ∧ SqL K H b ys ∧ 0 ≤ a ∧ a ≤ c ∧ c ≤ xs.length ∧ xs.length + ys.length ≤ sizeLine ∧
  Q (upd H l (.lst (xs.take a.toNat ++ ys ++ xs.drop c.toNat)))
theorem set_sliceG {pins : List (Addr × Obj)} {s : Shared} {σ : St} {H : Hp} {l b sl : Addr} {xs ys : List V} {a c : Int} {vl vu : Value} {Q : Unit → Shared → Prop} (I : Inv X pins σ H s)
    (hH : H l = some (.lst xs)) (hB : SqL X.K H b ys) (hs : s.heap.IsSliceOf sl vl vu .none) (pa : IsPart vl (some a)) (pc : IsPart vu (some c)) (h0 : 0 ≤ a) (hac : a ≤ c) (hc : c ≤ xs.length)
    (hz : xs.length + ys.length ≤ sizeLine) (h : ∀ s', Inv X pins σ (upd H l (.lst (xs.take a.toNat ++ ys ++ xs.drop c.toNat))) s' → Q () s') :
    wpAny (model X.prog X.w) X.A (setItem (.ref l) (.ref sl) (.ref b)) Q X.xe s := by
  obtain ⟨z, its, n, r, hl, e⟩ := I.lstM hH
  obtain ⟨its2, r2, ⟨ob, n2, ho2, hc2, hi2, hd2⟩, z2⟩ := I.list hB
  obtain ⟨a', rfl⟩ := Int.eq_ofNat_of_zero_le h0
  obtain ⟨c', rfl⟩ := Int.eq_ofNat_of_zero_le (Int.le_trans h0 hac)
  simp only [Int.toNat_natCast] at h
  have l1 := r.length
  have l2 := r2.length
  refine setItem_sliceG (a := a') (c := c') (new := its2.toArray) e ⟨ob, ho2, hc2, n2, hd2⟩ hs pa pc (by omega) (by rw [List.size_toArray]; omega) (by rw [List.size_toArray, List.size_toArray]; omega) (h _ ?_)
  refine I.lset (its' := its.take a' ++ its2 ++ its.drop c') (t' := s.toks) hH e ?_ (Vals.append (Vals.append (r.take _) r2) (r.drop _)) ?_
  · exact splice_eq its its2 a' c'
  · rw [List.length_append, List.length_append, List.length_take, List.length_drop]
    omega
theorem pg_setsl {o lo hi : Expr} {apos p2 : Pos} {to : TE} {tl th : TO} (ho : PE X o to) (hl : PO X (some lo) tl) (hu : PO X (some hi) th)
    (ha : ∀ v, assign (.Subscript o (.Slice (some lo) (some hi) none p2) apos) X.env v = (do
      let ov ← holding [v] (eval o X.env)
      let iv ← holding [v, ov] (eval (.Slice (some lo) (some hi) none p2) X.env)
      standAt apos
      holding [v, ov, iv] (setItem ov iv v)
      release [iv, v, ov] []) := by intro _; rfl) :
    PG X (.Subscript o (.Slice (some lo) (some hi) none p2) apos) (fun v σ H Q => to σ H fun x H1 => tl σ H1 fun i H2 => th σ H2 fun j H3 => rSetSl X.K x i j v H3 fun H4 => Q σ H4) := by
  refine ⟨fun pins s σ H v u Q I r h => ?_⟩
  rw [ha]
  refine wpAny_bind (wpAny_holding (thn (ho.run pins s σ H _ I h) fun ov s1 ⟨x, H1, I1, r1, q1⟩ => ?_))
  refine wpAny_bind (wpAny_holding (wpAny_Slice (thn (hl.run pins s1 σ H1 _ I1 q1) fun vl s2 ⟨i, H2, I2, pl, q2⟩ => thn (hu.run pins s2 σ H2 _ I2 q2) fun vu s3 ⟨j, H3, I3, pu, q3⟩ => ?_)))
  rw [evalPart_none]
  refine wpAny_pure ?_
  obtain ⟨l, b, xs, ys, a, c, rfl, rfl, rfl, rfl, hH, hB, h0, hac, hc, hz, q4⟩ := q3
  have I4 : Inv X pins σ H3 { s3 with heap := s3.heap.push { cls := .type "slice", data := .fields #[vl, vu, .none] } } := I3.kept (t' := s3.toks) fun b ob q => Heap.get?_push_of_some _ q
  cases r1
  cases r
  refine wpAny_bind (wpAny_standAt (wpAny_bind (wpAny_holding (set_sliceG I4 hH hB (Heap.IsSliceOf.new ..) pl pu h0 hac hc hz fun s' I5 => ?_))))
  exact wpAny_release ⟨σ, _, I5, q4⟩
end
end DL

set_option Elab.async false
set_option linter.all false
set_option maxRecDepth 100000
set_option maxHeartbeats 1600000
/-! DL57: lists that other things hold: by their handle. -/
namespace DL
open PySem PySem.Spec PyProof.Rows L2
def glGet (a : Addr) : Env → Option (List D)
  | [] => none
  | .gl b xs :: E => if b = a then some xs else glGet a E
  | _ :: E => glGet a E
def setGl (a : Addr) (t : S) : Env → Env
  | [] => []
  | .gl b xs :: E => if b = a then t :: E else .gl b xs :: setGl a t E
  | s :: E => s :: setGl a t E
def alGet (a : Addr) : Env → Option D
  | [] => none
  | .al b x :: E => if b = a then some x else alGet a E
  | _ :: E => alGet a E
theorem glGet_ix {a : Addr} {xs : List D} : ∀ {E : Env}, glGet a E = some xs → ∃ j : Nat, E[j]? = some (.gl a xs) ∧ ∀ t, setGl a t E = E.set j t
  | [], h => by cases h
  | s :: E, h => by
    have step : glGet a E = some xs → (∀ t, setGl a t (s :: E) = s :: setGl a t E) → ∃ j : Nat, (s :: E)[j]? = some (.gl a xs) ∧ ∀ t, setGl a t (s :: E) = (s :: E).set j t := fun h1 h2 => by
      obtain ⟨j, e1, e2⟩ := glGet_ix h1
      exact ⟨j + 1, by simpa using e1, fun gs => by rw [h2, e2]; rfl⟩
    cases s with
    | gl b ys =>
      unfold glGet at h
      split at h
      · rename_i hb
        subst hb
        cases h
        exact ⟨0, rfl, fun gs => by unfold setGl; rw [if_pos rfl]; rfl⟩
      · rename_i hb
        exact step h fun gs => by
          show (if b = a then _ else _) = _
          rw [if_neg hb]
    | _ => exact step h fun _ => rfl
theorem alGet_ix {a : Addr} {x : D} : ∀ {E : Env}, alGet a E = some x → ∃ j : Nat, E[j]? = some (.al a x)
  | [], h => by cases h
  | s :: E, h => by
    have step : alGet a E = some x → ∃ j : Nat, (s :: E)[j]? = some (.al a x) := fun h1 => by
      obtain ⟨j, e1⟩ := alGet_ix h1
      exact ⟨j + 1, by simpa using e1⟩
    cases s with
    | al b y =>
      unfold alGet at h
      split at h
      · rename_i hb
        subst hb
        cases h
        exact ⟨0, rfl⟩
      · exact step h
    | _ => exact step h
theorem glGet_new {a b : Addr} {xs : List D} : ∀ {gs : Env} {i : Nat}, gs[i]? = some .un → glGet a gs = none → glGet b (gs.set i (.gl a xs)) = if b = a then some xs else glGet b gs
  | [], i, h, _ => by simp at h
  | s :: gs, 0, h, h0 => by
    have : s = .un := by simpa using h
    subst this
    show (if a = b then some xs else glGet b gs) = if b = a then some xs else glGet b gs
    by_cases e : a = b
    · rw [if_pos e, if_pos e.symm]
    · rw [if_neg e, if_neg (Ne.symm e)]
  | s :: gs, i + 1, h, h0 => by
    have h : gs[i]? = some .un := by simpa using h
    have ih := fun h1 => glGet_new (a := a) (b := b) (xs := xs) h h1
    cases s with
    | gl c zs =>
      unfold glGet at h0
      split at h0
      · cases h0
      · rename_i hc
        show (if c = b then some zs else glGet b (gs.set i (.gl a xs))) = if b = a then some xs else (if c = b then some zs else glGet b gs)
        by_cases e : c = b
        · rw [if_pos e, if_neg (by rw [← e]; exact hc), if_pos e]
        · rw [if_neg e, if_neg e]; exact ih h0
    | _ => exact ih h0
theorem glGet_upd {a b : Addr} {ys : List D} : ∀ {gs : Env} {zs : List D}, glGet a gs = some zs → glGet b (setGl a (.gl a ys) gs) = if b = a then some ys else glGet b gs
  | [], _, h => by cases h
  | s :: gs, zs, h => by
    have ih := fun h1 => glGet_upd (a := a) (b := b) (ys := ys) (gs := gs) (zs := zs) h1
    cases s with
    | gl c us =>
      unfold glGet at h
      split at h
      · rename_i hc
        subst hc
        show glGet b (if c = c then S.gl c ys :: gs else _) = if b = c then some ys else (if c = b then some us else glGet b gs)
        rw [if_pos rfl]
        show (if c = b then some ys else glGet b gs) = _
        by_cases e : c = b
        · rw [if_pos e, if_pos e.symm]
        · rw [if_neg e, if_neg (Ne.symm e), if_neg e]
      · rename_i hc
        show glGet b (if c = a then S.gl a ys :: gs else S.gl c us :: setGl a (.gl a ys) gs) = if b = a then some ys else (if c = b then some us else glGet b gs)
        rw [if_neg hc]
        show (if c = b then some us else glGet b (setGl a (.gl a ys) gs)) = _
        by_cases e : c = b
        · rw [if_pos e, if_neg (by rw [← e]; exact hc), if_pos e]
        · rw [if_neg e, if_neg e]; exact ih h
    | _ => exact ih h
section
variable {K : PySem.W.Frag} {G : Gh} {H H' : Hp} {E : Env} {σ : St} {ex : List Addr} {a : Addr} {xs : List D} {x : D} {j : Nat}
theorem RelX.glAt (r : RelX K G ex H E σ) (e : E[j]? = some (.gl a xs)) : ∃ vs, H a = some (.lst vs) ∧ RpL K H xs vs := by
  obtain ⟨l, k, pn, dm, x0, A, h1, h2, h3⟩ := r
  exact (h3 j _ e).2
theorem RelX.alAt (r : RelX K G ex H E σ) (e : E[j]? = some (.al a x)) : Rp K H x (.ref a) := by
  obtain ⟨l, k, pn, dm, x0, A, h1, h2, h3⟩ := r
  exact (h3 j _ e).2
/-- the list at a slot changes, or becomes something else -/
theorem RelX.swapGl {o : HO} {s : S} {fp : List Addr} (r : RelX K G ex H E σ) (e : E[j]? = some (.gl a xs)) (hf : ∀ p ∈ fp, p = a) (hs : RelS K (upd H a o) s σ[j]? fp) : RelX K G ex (upd H a o) (E.set j s) σ ∧ Ext H (upd H a o) := by
  obtain ⟨vs, ha, _⟩ := r.glAt e
  have x : Ext H (upd H a o) := Ext.put ha
  obtain ⟨l, k, pn, dm, x0, A, h1, h2, h3⟩ := r
  have eA : A j = [a] := (h3 j _ e).1
  have own := h2 j a (by rw [eA]; simp)
  have hl : j < E.length := (List.getElem?_eq_some_iff.mp e).1
  have sub : ∀ {p}, p ∈ fp → p ∈ A j := fun {p} hp => by rw [eA, hf p hp]; simp
  refine ⟨⟨by simpa using l, fun q u he ne => ?_, pn, fun q hq => ?_, x0.trans x, fun i => if i = j then fp else A i, fun i m p e1 e2 => ?_, fun i p e1 => ?_, fun i t he => ?_⟩, x⟩
  · have : q ≠ a := by
      rintro rfl
      rcases own.1 with z | z
      · exact ne z
      · rw [z] at he; cases he
    rw [upd_ne this]; exact k q u he ne
  · by_cases z : q = a
    · subst z; rw [upd_same]; simp
    · rw [upd_ne z]; exact dm q hq
  · dsimp only at e1 e2
    by_cases z : i = j
    · rw [if_pos z] at e1
      by_cases z2 : m = j
      · rw [z, z2]
      · rw [if_neg z2] at e2
        rw [z]; exact h1 j m p (sub e1) e2
    · rw [if_neg z] at e1
      by_cases z2 : m = j
      · rw [if_pos z2] at e2
        rw [z2]; exact h1 i j p e1 (sub e2)
      · rw [if_neg z2] at e2; exact h1 i m p e1 e2
  · dsimp only at e1
    by_cases z : i = j
    · rw [if_pos z] at e1; exact h2 j p (sub e1)
    · rw [if_neg z] at e1; exact h2 i p e1
  · by_cases z : i = j
    · subst z
      rw [List.getElem?_set_self hl] at he
      cases he
      simp only [if_true]
      exact hs
    · rw [List.getElem?_set_ne (Ne.symm z)] at he
      simp only [if_neg z]
      exact (h3 i t he).move x fun c hc => upd_ne fun zz => z (h1 i j c hc (by rw [eA, zz]; simp))
theorem RelX.putGl {ys : List D} {us : List V} (r : RelX K G ex H E σ) (e : E[j]? = some (.gl a xs)) (p : RpL K H ys us) : RelX K G ex (upd H a (.lst us)) (E.set j (.gl a ys)) σ ∧ Ext H (upd H a (.lst us)) := by
  obtain ⟨vs, ha, _⟩ := r.glAt e
  exact r.swapGl e (fp := [a]) (fun p hp => List.mem_singleton.mp hp) ⟨rfl, us, upd_same, p.ext (Ext.put ha)⟩
theorem RelX.frzGl {vs : List V} {ob : Obj} (r : RelX K G ex H E σ) (e : E[j]? = some (.gl a xs)) (ha : H a = some (.lst vs)) (p : RpL K H xs vs) : RelX K G ex (upd H a (.frz ob (.lst vs))) (E.set j (.al a (.list xs))) σ ∧ Ext H (upd H a (.frz ob (.lst vs))) :=
  r.swapGl e (fp := []) (fun p hp => by cases hp) ⟨rfl, .lst (.of upd_same) (p.ext (Ext.put ha))⟩
/-- a new list stands at the ghost slot j -/
theorem RelX.newGl {vs : List V} (r : RelX K G (a :: ex) H E σ) (hx : a ∉ ex) (h0 : G.H0 a = none) (ha : H a = some (.lst vs)) (p : RpL K H xs vs) : RelX K G ex H (E.set j (.gl a xs)) σ := by
  obtain ⟨l, k, pn, dm, x0, A, h1, h2, h3⟩ := r
  refine ⟨by simpa using l, k, pn, dm, x0, fun i => if i = j then [a] else A i, fun i m b e1 e2 => ?_, fun i b e1 => ?_, fun i s e => ?_⟩
  · dsimp only at e1 e2
    by_cases z : i = j
    · by_cases z2 : m = j
      · rw [z, z2]
      · rw [if_pos z] at e1
        rw [if_neg z2] at e2
        exact absurd e2 fun w => (h2 m b e2).2 (by rw [List.mem_singleton.mp e1]; simp)
    · rw [if_neg z] at e1
      by_cases z2 : m = j
      · rw [if_pos z2] at e2
        exact absurd e1 fun w => (h2 i b e1).2 (by rw [List.mem_singleton.mp e2]; simp)
      · rw [if_neg z2] at e2; exact h1 i m b e1 e2
  · dsimp only at e1
    by_cases z : i = j
    · rw [if_pos z] at e1
      rw [List.mem_singleton.mp e1]; exact ⟨.inr h0, hx⟩
    · rw [if_neg z] at e1; exact ⟨(h2 i b e1).1, fun q => (h2 i b e1).2 (List.mem_cons_of_mem _ q)⟩
  · by_cases z : i = j
    · subst z
      by_cases hl : i < E.length
      · rw [List.getElem?_set_self hl] at e
        cases e
        simp only [if_true]
        exact ⟨rfl, vs, ha, p⟩
      · rw [List.getElem?_eq_none (by simpa using hl)] at e; cases e
    · rw [List.getElem?_set_ne (Ne.symm z)] at e
      simp only [if_neg z]; exact h3 i s e
theorem glGet_none (r : RelX K G (a :: ex) H E σ) : glGet a E = none := by
  cases q : glGet a E with
  | none => rfl
  | some ys =>
    obtain ⟨j, e, _⟩ := glGet_ix q
    obtain ⟨l, k, pn, dm, x0, A, h1, h2, h3⟩ := r
    have eA : A j = [a] := (h3 j _ e).1
    exact absurd (List.mem_cons_self ..) (h2 j a (by rw [eA]; simp)).2
end
section
variable {X : Cx} {G : Gh} {a e o ix : Expr} {es : List Expr} {pos p p0 apos cpos : Pos} {x : Str}
/-! ### made -/
def tNewG (tl : TLd) : TD := fun E Q => tl E fun xs E1 => ∃ j : Nat, ∀ a, glGet a E1 = none → Q (hdl a) (E1.set j (.gl a xs))
theorem ed_newG {tl : TLd} (h : EL X G e tl) : ED X G e (tNewG tl) :=
  ⟨PE.weak h.pe fun σ H Q ⟨E, QE, r, q, k⟩ => ⟨E, _, r, q, fun xs E1 a vs H1 q1 x1 r1 h0 na ha p1 => by
    obtain ⟨j, q1⟩ := q1
    exact k _ _ _ _ (q1 a (glGet_none r1)) x1 (r1.newGl (by simp) h0 ha p1) (.hdl a)⟩⟩
/-! ### read -/
def tGlR (t : TD) : TD := fun E Q => t E fun d E1 => optQ (unH d) fun a => match glGet a E1 with
  | some xs => Q (.list xs) E1
  | none => optQ (alGet a E1) fun x => Q x E1
theorem er_gl {t : TD} (h : ED X G e t) : ER X G e (tGlR t) :=
  ⟨PE.weak h.pe fun σ H Q ⟨E, QE, r, q, k⟩ => ⟨E, _, r, q, fun d E1 v H1 q1 x1 r1 p1 => by
    cases hd : unH d with
    | none => rw [hd] at q1; exact q1.elim
    | some a =>
      rw [hd] at q1
      have ed := unH_some hd
      subst ed
      obtain rfl := hdl_ref p1
      unfold optQ at q1
      dsimp only at q1
      cases hg : glGet a E1 with
      | some xs =>
        rw [hg] at q1
        obtain ⟨j, e, _⟩ := glGet_ix hg
        obtain ⟨vs, ha, l⟩ := r1.glAt e
        exact k _ _ _ _ q1 x1 r1 (.inr ⟨_, _, _, rfl, rfl, ha, l⟩)
      | none =>
        rw [hg] at q1
        dsimp only at q1
        cases hl : alGet a E1 with
        | none => rw [hl] at q1; exact q1.elim
        | some y =>
          rw [hl] at q1
          obtain ⟨j, e⟩ := alGet_ix hl
          exact k _ _ _ _ q1 x1 r1 (.inl (r1.alAt e))⟩⟩
/-! ### frozen -/
def tFzG (t : TD) : TD := fun E Q => t E fun d E1 => optQ (unH d) fun a => match glGet a E1 with
  | some xs => Q (.list xs) (setGl a (.al a (.list xs)) E1)
  | none => optQ (alGet a E1) fun x => Q x E1
theorem PE.fz2 {t : TE} (h : PE X e t) : PE X e (fun σ H Q => t σ H fun v H1 => (∃ a xs, v = .ref a ∧ H1 a = some (.lst xs) ∧ ∀ o, Q v (upd H1 a (.frz o (.lst xs)))) ∨ Q v H1) := ⟨fun pins s σ H Q I q => thn (h.run pins s σ H _ I q) fun u s1 ⟨v, H1, I1, r1, q1⟩ => by
  rcases q1 with ⟨a, xs, e1, e2, q1⟩ | q1
  · obtain ⟨o, I2⟩ := I1.lock e2 trivial
    exact ⟨v, _, I2, r1, q1 o⟩
  · exact ⟨v, _, I1, r1, q1⟩⟩
theorem ed_fzG {t : TD} (h : ED X G e t) : ED X G e (tFzG t) :=
  ⟨PE.weak (PE.fz2 h.pe) fun σ H Q ⟨E, QE, r, q, k⟩ => ⟨E, _, r, q, fun d E1 v H1 q1 x1 r1 p1 => by
    cases hd : unH d with
    | none => rw [hd] at q1; exact q1.elim
    | some a =>
      rw [hd] at q1
      have ed := unH_some hd
      subst ed
      obtain rfl := hdl_ref p1
      unfold optQ at q1
      dsimp only at q1
      cases hg : glGet a E1 with
      | some xs =>
        rw [hg] at q1
        obtain ⟨j, e, es⟩ := glGet_ix hg
        obtain ⟨vs, ha, l⟩ := r1.glAt e
        refine .inl ⟨a, vs, rfl, ha, fun o => ?_⟩
        obtain ⟨r2, x2⟩ := r1.frzGl (ob := o) e ha l
        dsimp only at q1
        rw [es] at q1
        exact k _ _ _ _ q1 (x1.trans x2) r2 (.lst (.of upd_same) (l.ext x2))
      | none =>
        rw [hg] at q1
        dsimp only at q1
        cases hl : alGet a E1 with
        | none => rw [hl] at q1; exact q1.elim
        | some y =>
          rw [hl] at q1
          obtain ⟨j, e⟩ := alGet_ix hl
          exact .inr (k _ _ _ _ q1 x1 r1 (r1.alAt e))⟩⟩
/-! ### an item -/
def glAtE (d : D) (E : Env) : Option (Addr × List D) := match unH d with
  | some a => (glGet a E).map fun xs => (a, xs)
  | none => none
theorem glAtE_some {d : D} {E : Env} {q : Addr × List D} (h : glAtE d E = some q) : d = hdl q.1 ∧ glGet q.1 E = some q.2 := by
  unfold glAtE at h
  split at h
  · rename_i a ha
    obtain ⟨xs, h1, rfl⟩ := Option.map_eq_some_iff.mp h
    exact ⟨unH_some ha, h1⟩
  · cases h
def tIxG (ta tb : TD) : TD := fun E Q => ta E fun d E1 => tb E1 fun y E2 => optQ (glAtE d E2) fun q => match y with
  | .int k => atD q.2 k fun z => Q z E2
  | _ => False
theorem ed_ixG {ta tb : TD} (ha : ED X G a ta) (hb : ED X G ix tb) (hs : PlainIx ix := by exact fun _ _ => rfl) : ED X G (.Subscript a ix pos) (tIxG ta tb) :=
  ⟨PE.weak (pe_ix ix_list ha.pe hb.pe hs) fun σ H Q ⟨E, QE, r, q, k⟩ => ⟨E, _, r, q, fun d E1 v H1 q1 x1 r1 p1 => ⟨E1, _, r1, q1, fun y E2 u H2 q2 x2 r2 p2 => by
    cases hd : glAtE d E2 with
    | none => rw [hd] at q2; exact q2.elim
    | some w =>
      rw [hd] at q2
      obtain ⟨a, xs⟩ := w
      obtain ⟨rfl, hg⟩ := glAtE_some hd
      obtain rfl := hdl_ref p1
      unfold optQ at q2
      dsimp only at q2
      cases p2 with
      | int i =>
        dsimp only at q2
        unfold atD at q2
        split at q2
        · rename_i z hz
          obtain ⟨j, e, _⟩ := glGet_ix hg
          obtain ⟨vs, hl, l⟩ := r2.glAt e
          obtain ⟨v, hv, pv⟩ := atI_rp l hz
          exact ⟨a, vs, i, v, rfl, rfl, SqL.of hl, hv, k _ _ _ _ q2 (x1.trans x2) r2 pv⟩
        · exact q2.elim
      | _ => exact q2.elim⟩⟩⟩
/-! ### .append -/
def tAppG (to te : TD) : TD := fun E Q => to E fun d E1 => (glAtE d E1).isSome = true ∧ te E1 fun y E2 => optQ (glAtE d E2) fun q => q.2.length < sizeLine ∧ Q .none (setGl q.1 (.gl q.1 (q.2 ++ [y])) E2)
theorem ed_appG {to te : TD} (ho : ED X G o to) (he : ED X G e te)
    (hbase : attributeBase o "append" X.env (eval o X.env) = eval o X.env := by rfl)
    (hfew : ((backTo cpos (starEach [e] X.env)).all (fun x => !x.1) && (backToKw cpos (keywordEach [] X.env)).all (fun x => x.1.isSome)
      && decide (([e] : List Expr).length + ([] : List Keyword).length + (if ([] : List Keyword).isEmpty then 0 else 1) < 30)) = true := by rfl)
    (hline : (apos.endLine == cpos.line) = true := by rfl) (hs : starEach [e] X.env = (false, eval e X.env) :: starEach [] X.env := by rfl) (hplain : (backTo cpos (starEach [] X.env)).any (·.1) = false := by rfl) :
    ED X G (.Call (.Attribute o "append" apos) [e] [] cpos) (tAppG to te) :=
  ⟨PE.weak (pe_bm PySem.F.plainAttrs_list PySem.F.slot_list_append PySem.F.type_list_append mt_append ho.pe (pa_cons he.pe pa_nil hs) hbase hfew hline hs hplain) fun σ H Q ⟨E, QE, r, q, k⟩ => ⟨E, _, r, q, fun d E1 v H1 q1 x1 r1 p1 => by
    obtain ⟨hs1, q1⟩ := q1
    cases hd : glAtE d E1 with
    | none => rw [hd] at hs1; cases hs1
    | some w =>
      obtain ⟨a, xs0⟩ := w
      obtain ⟨rfl, hg⟩ := glAtE_some hd
      obtain rfl := hdl_ref p1
      obtain ⟨j0, e0, _⟩ := glGet_ix hg
      obtain ⟨vs0, hl0, _⟩ := r1.glAt e0
      refine ⟨.inl ⟨rfl, _, SqL.of hl0⟩, E1, _, r1, q1, fun y E2 u H2 q2 x2 r2 p2 => ?_⟩
      cases hd2 : glAtE (hdl a) E2 with
      | none => rw [hd2] at q2; exact q2.elim
      | some w2 =>
        rw [hd2] at q2
        obtain ⟨b, xs⟩ := w2
        obtain ⟨eb, hg2⟩ := glAtE_some hd2
        obtain rfl : a = b := by
          have := congrArg unH eb
          rw [unH_hdl, unH_hdl] at this
          exact Option.some.inj this
        obtain ⟨j, e, es⟩ := glGet_ix hg2
        obtain ⟨vs, hl, l⟩ := r2.glAt e
        unfold optQ at q2
        dsimp only at q2
        rw [es] at q2
        obtain ⟨r3, x3⟩ := r2.putGl e (RpL.append l (.cons p2 .nil))
        exact ⟨a, vs, u, rfl, rfl, hl, by rw [← l.length]; exact q2.1, k _ _ _ _ q2.2 ((x1.trans x2).trans x3) r3 .non⟩⟩⟩
/-! ### o[i] = e, o[i:j] = [..] -/
def sSetIxG (to tk te : TD) : TSd := fun DE E => te E fun d E1 => to E1 fun y E2 => tk E2 fun j E3 => optQ (glAtE y E3) fun q => match j with
  | .int k => putD q.2 k d fun ys => DE.nx (setGl q.1 (.gl q.1 ys) E3)
  | _ => False
theorem sd_setIxG {to tk te : TD} (ho : ED X G o to) (hk : ED X G ix tk) (he : ED X G e te)
    (ha : ∀ v, assign (.Subscript o ix apos) X.env v = (do
      let ov ← holding [v] (eval o X.env)
      let iv ← holding [v, ov] (eval ix X.env)
      standAt apos
      holding [v, ov, iv] (setItem ov iv v)
      release [v, ov, iv] []) := by intro _; rfl)
    (hs : swapsWithSole [.Subscript o ix apos] e pos.line X.env = pure false := by rfl) (hw : swappedStores [.Subscript o ix apos] e X.env = pure none := by rfl)
    (hb : (assignEach [.Subscript o ix apos] X.env).map (·.2) = [assign (.Subscript o ix apos) X.env] := by rfl) :
    SD X G (.Assign [.Subscript o ix apos] e pos) (sSetIxG to tk te) :=
  ⟨PS.weak (ps_asg he.pe (pg_sub ho.pe hk.pe set_list ha) hs hw hb) fun F σ H ⟨E, DE, r, q, k1, k2, k3, k4⟩ => ⟨E, _, r, q, fun d E1 v H1 q1 x1 r1 p1 => ⟨E1, _, r1, q1, fun y E2 u H2 q2 x2 r2 p2 => ⟨E2, _, r2, q2, fun jj E3 w H3 q3 x3 r3 p3 => by
    cases hd : glAtE y E3 with
    | none => rw [hd] at q3; exact q3.elim
    | some z =>
      rw [hd] at q3
      obtain ⟨a, xs⟩ := z
      obtain ⟨rfl, hg⟩ := glAtE_some hd
      obtain rfl := hdl_ref p2
      unfold optQ at q3
      cases p3 with
      | int m =>
        dsimp only at q3
        unfold putD at q3
        split at q3
        · rename_i n hn
          obtain ⟨j, e, es⟩ := glGet_ix hg
          obtain ⟨vs, hl, l⟩ := r3.glAt e
          rw [es] at q3
          obtain ⟨r4, x4⟩ := r3.putGl e (RpL.set (p1.ext (x2.trans x3)) n l)
          exact ⟨a, vs, m, n, rfl, rfl, hl, by rw [← l.length]; exact hn, k1 _ _ _ q3 (((x1.trans x2).trans x3).trans x4) r4⟩
        · exact q3.elim
      | _ => exact q3.elim⟩⟩⟩⟩
def slPut (xs ys : List D) (i j : Int) (Q : List D → Prop) : Prop := (0 ≤ i ∧ i ≤ j ∧ j ≤ xs.length ∧ xs.length + ys.length ≤ sizeLine) ∧ Q (xs.take i.toNat ++ ys ++ xs.drop j.toNat)
def sSetSlG (to ta tc te : TD) : TSd := fun DE E => te E fun z E1 => match z with
  | .list ys => to E1 fun y E2 => ta E2 fun i E3 => match i with
    | .int m => tc E3 fun j E4 => optQ (glAtE y E4) fun q => match j with
      | .int n => slPut q.2 ys m n fun zs => DE.nx (setGl q.1 (.gl q.1 zs) E4)
      | _ => False
    | _ => False
  | _ => False
theorem sd_setSlG {lo hi : Expr} {p2 : Pos} {to ta tc te : TD} (ho : ED X G o to) (hl : ED X G lo ta) (hh : ED X G hi tc) (he : ED X G e te)
    (ha : ∀ v, assign (.Subscript o (.Slice (some lo) (some hi) none p2) apos) X.env v = (do
      let ov ← holding [v] (eval o X.env)
      let iv ← holding [v, ov] (eval (.Slice (some lo) (some hi) none p2) X.env)
      standAt apos
      holding [v, ov, iv] (setItem ov iv v)
      release [iv, v, ov] []) := by intro _; rfl)
    (hs : swapsWithSole [.Subscript o (.Slice (some lo) (some hi) none p2) apos] e pos.line X.env = pure false := by rfl) (hw : swappedStores [.Subscript o (.Slice (some lo) (some hi) none p2) apos] e X.env = pure none := by rfl)
    (hb : (assignEach [.Subscript o (.Slice (some lo) (some hi) none p2) apos] X.env).map (·.2) = [assign (.Subscript o (.Slice (some lo) (some hi) none p2) apos) X.env] := by rfl) :
    SD X G (.Assign [.Subscript o (.Slice (some lo) (some hi) none p2) apos] e pos) (sSetSlG to ta tc te) := by
  refine ⟨PS.weak (ps_asg he.pe (pg_setsl ho.pe (po_some hl.pe) (po_some hh.pe) ha) hs hw hb) fun F σ H ⟨E, DE, r, q, k1, k2, k3, k4⟩ => ⟨E, _, r, q, fun z E1 b H1 q1 x1 r1 p1 => ?_⟩⟩
  cases p1 with
  | @lst b vs2 ys hls l2 =>
    dsimp only at q1
    refine ⟨E1, _, r1, q1, fun y E2 u H2 q2 x2 r2 p2 => ⟨E2, _, r2, q2, fun i E3 v3 H3 q3 x3 r3 p3 => ?_⟩⟩
    cases p3 with
    | int m =>
      dsimp only at q3
      refine ⟨m, rfl, E3, _, r3, q3, fun j E4 v4 H4 q4 x4 r4 p4 => ?_⟩
      cases hd : glAtE y E4 with
      | none => rw [hd] at q4; exact q4.elim
      | some w =>
        rw [hd] at q4
        obtain ⟨a, xs⟩ := w
        obtain ⟨rfl, hg⟩ := glAtE_some hd
        obtain rfl := hdl_ref p2
        unfold optQ at q4
        cases p4 with
        | int n =>
          dsimp only at q4
          obtain ⟨⟨c0, c1, c2, c3⟩, q4⟩ := q4
          obtain ⟨j, e, es⟩ := glGet_ix hg
          obtain ⟨vs, hlv, l⟩ := r4.glAt e
          have x14 := (x2.trans x3).trans x4
          have l4 := l2.ext x14
          rw [es] at q4
          obtain ⟨r5, x5⟩ := r4.putGl e (RpL.append (RpL.append (l.take m.toNat) l4) (l.drop n.toNat))
          exact ⟨n, rfl, a, b, vs, vs2, m, n, rfl, rfl, rfl, rfl, hlv, (hls.ext x14).sq, c0, c1, by rw [← l.length]; exact c2, by rw [← l.length, ← l4.length]; exact c3, k1 _ _ _ q4 ((x1.trans x14).trans x5) r5⟩
        | _ => exact q4.elim
    | _ => exact q3.elim
  | _ => exact q1.elim
/-- a list of one's own at a name: x[i:j] = e -/
def sSetSlO (k : Nat) (ta tc te : TD) : TSd := fun DE E => te E fun z E1 => match z with
  | .list ys => (match E1[k]? with | some (.ol _) => True | _ => False) ∧ ta E1 fun i E3 => match i with
    | .int m => tc E3 fun j E4 => match j, E4[k]? with
      | .int n, some (.ol xs) => slPut xs ys m n fun zs => DE.nx (E4.set k (.ol zs))
      | _, _ => False
    | _ => False
  | _ => False
theorem sd_setSlO (k : Nat) {lo hi : Expr} {p2 : Pos} {ta tc te : TD} (hl : ED X G lo ta) (hh : ED X G hi tc) (he : ED X G e te) (hN : X.N[k]? = some x := by rfl) (hv : Vis X.env.scope x := by first | exact Or.inl rfl | exact Or.inr (Or.inl rfl) | exact Or.inr (Or.inr rfl)) (hd : (x == ("__debug__" : Str)) = false := by decide)
    (hcd : (x == ("__classdict__" : Str)) = false := by decide)
    (ha : ∀ v, assign (.Subscript (.Name x p0) (.Slice (some lo) (some hi) none p2) apos) X.env v = (do
      let ov ← holding [v] (eval (.Name x p0) X.env)
      let iv ← holding [v, ov] (eval (.Slice (some lo) (some hi) none p2) X.env)
      standAt apos
      holding [v, ov, iv] (setItem ov iv v)
      release [iv, v, ov] []) := by intro _; rfl)
    (hs : swapsWithSole [.Subscript (.Name x p0) (.Slice (some lo) (some hi) none p2) apos] e pos.line X.env = pure false := by rfl) (hw : swappedStores [.Subscript (.Name x p0) (.Slice (some lo) (some hi) none p2) apos] e X.env = pure none := by rfl)
    (hb : (assignEach [.Subscript (.Name x p0) (.Slice (some lo) (some hi) none p2) apos] X.env).map (·.2) = [assign (.Subscript (.Name x p0) (.Slice (some lo) (some hi) none p2) apos) X.env] := by rfl) :
    SD X G (.Assign [.Subscript (.Name x p0) (.Slice (some lo) (some hi) none p2) apos] e pos) (sSetSlO k ta tc te) := by
  refine ⟨PS.weak (ps_asg he.pe (pg_setsl (pe_var hN hv hd hcd) (po_some hl.pe) (po_some hh.pe) ha) hs hw hb) fun F σ H ⟨E, DE, r, q, k1, k2, k3, k4⟩ => ⟨E, _, r, q, fun z E1 b H1 q1 x1 r1 p1 => ?_⟩⟩
  cases p1 with
  | @lst b vs2 ys hls l2 =>
    dsimp only at q1
    obtain ⟨q0, q1⟩ := q1
    split at q0
    · rename_i xs0 he0
      obtain ⟨l0, vs0, e1, e2, e3⟩ := r1.ol he0
      refine ⟨_, e1, E1, _, r1, q1, fun i E3 v3 H3 q3 x3 r3 p3 => ?_⟩
      cases p3 with
      | int m =>
        dsimp only at q3
        refine ⟨m, rfl, E3, _, r3, q3, fun j E4 v4 H4 q4 x4 r4 p4 => ?_⟩
        split at q4
        · rename_i d0 o0 n xs he4
          cases p4
          obtain ⟨l', vs, f1, f2, f3⟩ := r4.ol he4
          rw [e1] at f1; cases f1
          obtain ⟨⟨c0, c1, c2, c3⟩, q4⟩ := q4
          have x14 := x3.trans x4
          have l4 := l2.ext x14
          have pp := RpL.append (RpL.append (f3.take m.toNat) l4) (f3.drop n.toNat)
          exact ⟨n, rfl, l0, b, vs, vs2, m, n, rfl, rfl, rfl, rfl, f2, (hls.ext x14).sq, c0, c1, by rw [← f3.length]; exact c2, by rw [← f3.length, ← l4.length]; exact c3, k1 _ _ _ q4 ((x1.trans x14).trans (Ext.put f2)) (r4.putL he4 e1 pp)⟩
        · exact q4.elim
      | _ => exact q3.elim
    · exact q0.elim
  | _ => exact q1.elim
end
end DL

set_option Elab.async false
set_option linter.all false
set_option maxRecDepth 100000
set_option maxHeartbeats 3200000
/-! DL58: == and != of own objects by their __eq__, isinstance of an own class. -/
namespace DL
open PySem PySem.Spec PyProof.Rows L2
section
variable {prog : Program} {w : World} {A : Around} {E : Value → Shared → Prop} {s : Shared} {K : PySem.W.Frag} {x C f L : Addr} {h₀ : Heap} {m : Str → Option Value} {ox : Obj} {od : Option Obj} {b tb : Value}
theorem ifBound_B {M : Model} {id : String} {name : Str} {args : List Value} {Q : Option Value → Shared → Prop} (X : K.In s.heap) (I : PySem.W.InstAt s.heap x ox C od) (hs : PySem.W.findIn K (.ref C) name = some (some (.builtin id)))
    (hb : ∀ self, bindSpecial (.builtin id) self = pure (.builtin id, [self])) (h : wpAny M A (call (.builtin id) (.ref x :: args)) (fun v => Q (some v)) E s) : wpAny M A (callSpecialIfBound? (.ref x) name args) Q E s := by
  simp only [callSpecialIfBound?, bindSpecialIfBound?]
  refine wpAny_holding (wpAny_bind (wpAny_bind (wpAny_bind (I.type.here ((PySem.W.looks_findIn X hs).here ?_)))))
  refine wpAny_bind (wpAny_askSetting (wpAny_ite ?_))
  have fin : wpAny M A (call (.builtin id) ([.ref x] ++ args) >>= fun v => pure (some v)) Q E s := wpAny_bind (wpAny_mono h (fun v s' h' => wpAny_pure h') fun _ _ h' => h')
  split
  · exact wpAny_bind ((PySem.W.Looks.of_pure (hb _)).here (wpAny_pure (by exact fin)))
  · exact wpAny_tryCatch (wpAny_bind ((PySem.W.Looks.of_pure (hb _)).here (wpAny_pure (by exact fin))))
theorem ne_slot : Slot "object" "__ne__" "object.__ne__" :=
  Slot.of (T := "object") (name := "__ne__") (owner := "object") (n := "__ne__") (by rw [typeLookup_type, builtinLookup_eq_fast]; kernel_rfl) (by decide +kernel) (by decide +kernel) (by decide +kernel)
    (.inl (by decide +kernel)) (by rw [isSubtype_type]; kernel_rfl)
theorem call_ne {Q : Value → Shared → Prop} (hu : A.in1.units < cLine) (X : K.In s.heap) (I : PySem.W.InstAt s.heap x ox C od) (hm : PySem.W.mroIn K C (.type "object") = some true) (he : PySem.W.findIn K (.ref C) "__eq__" = some (some (.ref f))) (hf : PySem.W.isFn K (.ref f) = true)
    (h : wpAny (model prog w) A.in1 (call (.ref f) [.ref x, b]) (fun v s' => ∃ k, v = .bool k ∧ Q (.bool (!k)) s') E s) : wpAny (model prog w) A (call (.builtin "object.__ne__") [.ref x, b]) Q E s := by
  refine wpAny_call (codeAny_call_builtin ne_slot.plain F.cmpEntry_ne (PySem.W.check_slot (i := "object.__ne__") (owner := "object") (n := "__ne__") F.cmpKind_ne F.cmpSplit_ne (I.type.andThen (PySem.W.looks_mroIn X hm)) (F.cmpArgs_ne _ _) ?_))
  unfold Builtin.«object.__ne__»
  refine wpAny_bind (m := slotArgs "__ne__" 1 _) (wpAny_pure ?_)
  refine wpAny_bind (m := cRoomFor _ _) (wpAny_cRoomFor hu ?_)
  refine wpAny_bind (m := callSpecialIfBound? (.ref x) (Str.ofString "__eq__") _) (PySem.W.ifBound_K X I he hf (wpAny_mono h (fun r s' hq => ?_) fun _ _ y => y))
  obtain ⟨k, rfl, hq⟩ := hq
  exact wpAny_bind (wpAny_truthy_bool (wpAny_pure hq))
theorem ne_K {Q : Value → Shared → Prop} (hu : A.units + 1 < cLine) (F : Fr h₀ L s.heap m) (X₀ : K.In h₀) (I : PySem.W.InstAt s.heap x ox C od) (hb : PySem.W.Looks (model prog w) s.heap (typeOf b) tb) (hn : PySem.W.notFirst K C tb = true)
    (hs : PySem.W.findIn K (.ref C) "__ne__" = some (some (.builtin "object.__ne__"))) (hm : PySem.W.mroIn K C (.type "object") = some true) (he : PySem.W.findIn K (.ref C) "__eq__" = some (some (.ref f))) (hf : PySem.W.isFn K (.ref f) = true)
    (h : wpAny (model prog w) A.in1 (call (.ref f) [.ref x, b]) (fun v s' => ∃ k, v = .bool k ∧ Q (.bool (!k)) s') E s) : wpAny (model prog w) A (richCompare .NotEq (.ref x) b) Q E s := by
  have X := X₀.keeps F.keep
  have one : wpAny (model prog w) A (tryCompare (.ref x) "__ne__" b) (fun r s' => ∃ v, r = some v ∧ Q v s') E s := by
    unfold tryCompare
    refine wpAny_bind (ifBound_B X I hs ne_slot.bind (call_ne (by simpa using hu) X I hm he hf (wpAny_mono h (fun v s' hv => ?_) fun _ _ e => e)))
    obtain ⟨k, rfl, hv⟩ := hv
    exact ⟨k, rfl, wpAny_pure ⟨_, rfl, hv⟩⟩
  unfold richCompare
  simp only [oneThing_ref]
  refine wpAny_holding (wpAny_bind (wpAny_cRoomFor (Nat.lt_of_succ_lt hu) ?_))
  refine wpAny_bind (I.type.here (wpAny_bind (hb.here ?_)))
  split
  · rename_i q
    have e : PySem.W.subIn K tb (.ref C) = some false := by
      rcases Bool.or_eq_true_iff.mp hn with e | e
      · rw [beq_iff_eq.mp e] at q; simp at q
      · exact beq_iff_eq.mp e
    refine wpAny_bind ((PySem.W.looks_subIn X e).here ?_)
    simp only [Bool.false_eq_true, if_false]
    refine wpAny_bind (wpAny_mono one (fun r s' z => ?_) fun _ _ e => e)
    obtain ⟨v, rfl, hq⟩ := z
    exact wpAny_pure hq
  · refine wpAny_bind (wpAny_pure ?_)
    simp only [Bool.false_eq_true, if_false]
    refine wpAny_bind (wpAny_mono one (fun r s' z => ?_) fun _ _ e => e)
    obtain ⟨v, rfl, hq⟩ := z
    exact wpAny_pure hq
end
section
variable {X : Cx} {C f : Addr} {fd : FuncData} {ps : List Str} {n : Nat} {sp : SpO} {spv : Sp}
/-- the type of y does not come ahead of C -/
def LeftOk (K : PySem.W.Frag) (C : Addr) (H : Hp) (y : V) : Prop := ∃ t, TyX K H y t ∧ PySem.W.notFirst K C t = true
theorem op_eqO (F : FnOk X.prog X.w X.K X.mg X.base CX0 n f fd ps spv) (hm : Meth X.K C "__eq__" f) (hb : Binds X.K fd ps []) (hr : Room n X.A) :
    OpR X (compareOp .Eq) (fun x y H Q => ∃ (a dx : Addr) (fs : List (Str × V)), x = .ref a ∧ H a = some (.ins C dx fs) ∧ LeftOk X.K C H y ∧ spv [.ref a, y] H (fun v H' => ∃ k : Bool, v = .bl k ∧ Q (.bl k) H') E0) := by
  intro pins s σ H x y v u Q I rx ry h
  obtain ⟨a, dx, fs, rfl, ha, ⟨t, ty, nf⟩, q⟩ := h
  obtain rfl : v = Value.ref a := rx
  obtain ⟨mA, J, _⟩ := ins_get I.hok ha
  obtain ⟨od, J, _⟩ := J.look
  obtain ⟨m, hF⟩ := I.fr
  obtain ⟨P, Z, p, _⟩ := kit_of I ry ty
  show wpAny (model X.prog X.w) X.A (richCompare .Eq (.ref a) u) _ _ _
  refine PySem.W.cmp_K (op := .Eq) (tb := t) hr.units0 hF I.ok.mod.kin J (Z.ty _ _ I.kIn p) nf hm.at_ hm.fn (wpAny_mono (run_in (vs := [.ref a, y]) F (sub_self hr) hb I (.cons rfl (.cons ry .nil)) q) (fun w s' hv => ?_) fun _ _ z => z)
  obtain ⟨z, H', I', rz, k, rfl, qk⟩ := hv
  obtain rfl : w = Value.bool k := rz
  exact ⟨.bl k, H', I', rfl, qk⟩
theorem op_neO (F : FnOk X.prog X.w X.K X.mg X.base CX0 n f fd ps spv) (hm : Meth X.K C "__eq__" f) (hne : PySem.W.findIn X.K (.ref C) "__ne__" = some (some (.builtin "object.__ne__"))) (hob : PySem.W.mroIn X.K C (.type "object") = some true) (hb : Binds X.K fd ps []) (hr : Room (n + 1) X.A) :
    OpR X (compareOp .NotEq) (fun x y H Q => ∃ (a dx : Addr) (fs : List (Str × V)), x = .ref a ∧ H a = some (.ins C dx fs) ∧ LeftOk X.K C H y ∧ spv [.ref a, y] H (fun v H' => ∃ k : Bool, v = .bl k ∧ Q (.bl (!k)) H') E0) := by
  intro pins s σ H x y v u Q I rx ry h
  obtain ⟨a, dx, fs, rfl, ha, ⟨t, ty, nf⟩, q⟩ := h
  obtain rfl : v = Value.ref a := rx
  obtain ⟨mA, J, _⟩ := ins_get I.hok ha
  obtain ⟨od, J, _⟩ := J.look
  obtain ⟨m, hF⟩ := I.fr
  obtain ⟨P, Z, p, _⟩ := kit_of I ry ty
  have sb : Sub X n X.A.in1 := (sub_self hr).in1
  show wpAny (model X.prog X.w) X.A (richCompare .NotEq (.ref a) u) _ _ _
  refine ne_K (by have := hr.un; omega) hF I.ok.mod.kin J (Z.ty _ _ I.kIn p) nf hne hob hm.at_ hm.fn (wpAny_mono (run_in (vs := [.ref a, y]) F sb hb I (.cons rfl (.cons ry .nil)) q) (fun w s' hv => ?_) fun _ _ z => z)
  obtain ⟨z, H', I', rz, k, rfl, qk⟩ := hv
  obtain rfl : w = Value.bool k := rz
  exact ⟨k, rfl, .bl (!k), H', I', rfl, qk⟩
end
/-- data whose type is told, no object -/
def plainTy : D → Option Value
  | .none => some (.type "NoneType")
  | .bool _ => some (.type "bool")
  | .int _ => some (.type "int")
  | .str _ => some (.type "str")
  | .tuple _ => some (.type "tuple")
  | _ => none
theorem TyX.of {K : PySem.W.Frag} {H : Hp} {d : D} {v : V} {t : Value} (h : plainTy d = some t) (r : Rp K H d v) : TyX K H v t := by
  cases d with
  | none => cases h; cases r; exact .base .non
  | bool b => cases h; cases r; exact .base (.bl b)
  | int b => cases h; cases r; exact .base (.int b)
  | str b => cases h; cases r; exact .base (.str b)
  | tuple xs =>
    cases h
    cases r with
    | tup hs l =>
      rcases hs.1 with (e | ⟨o, e⟩) | ⟨o, its, n, e, c, _⟩
      · exact .base (.tup e)
      · exact .fTuple e
      · exact .kTuple e c
  | list _ => cases h
  | dict _ => cases h
/-- an object of the class at C, or data whose type is told -/
def obLike (C : Addr) (d : D) (E : Env) : Prop := (obD C d E).isSome = true ∨ (plainTy d).isSome = true
def tCmpO (neg : Bool) (C : Addr) (sp : SpO) (ta tb : TD) : TD := fun E Q => ta E fun d E1 => tb E1 fun y E2 => ((obD C d E2).isSome = true ∧ obLike C y E2) ∧ tObs sp [d, y] E2 (fun x E3 => match x with
  | .bool k => Q (.bool (if neg = true then !k else k)) E3
  | _ => False) fun _ _ => False
structure CmpC (K : PySem.W.Frag) (C : Addr) : Prop where
  ic : C8.InsC K C
  ne : PySem.W.findIn K (.ref C) "__ne__" = some (some (.builtin "object.__ne__"))
  own : PySem.W.notFirst K C (.ref C) = true
  nf : ∀ d t, plainTy d = some t → PySem.W.notFirst K C t = true
theorem isSome_get {α : Type} {o : Option α} (h : o.isSome = true) : ∃ x, o = some x := by
  cases o with
  | none => cases h
  | some x => exact ⟨x, rfl⟩
section
variable {X : Cx} {G : Gh} {a b e : Expr} {pos p p2 : Pos} {C f : Addr} {fd : FuncData} {ps : List Str} {n : Nat} {sp : SpO} {ta tb : TD} {K : PySem.W.Frag} {H : Hp} {E : Env} {σ : L2.St}
theorem obLike_ty (c : CmpC K C) (r : RelE K G H E σ) {y : D} {u : V} (h : obLike C y E) (p : Rp K H y u) : LeftOk K C H u := by
  rcases h with h | h
  · obtain ⟨fs, h⟩ := isSome_get h
    obtain ⟨z, j, rfl, e2, _⟩ := obD_some h
    obtain rfl := hdl_ref p
    obtain ⟨dx, vs, ls, g1, g2⟩ := r.insAt e2
    exact ⟨_, .base (.ins g1 c.ic.cl c.ic.ha c.ic.hn c.ic.htk c.ic.hm), c.own⟩
  · obtain ⟨t, h⟩ := isSome_get h
    exact ⟨t, TyX.of h p, c.nf y t h⟩
theorem lift_cmpO (c : CmpC X.K C) (neg : Bool) {r : R2} (hr : ∀ x y H Q, (∃ (a dx : Addr) (fs : List (Str × V)), x = .ref a ∧ H a = some (.ins C dx fs) ∧ LeftOk X.K C H y ∧ spO X.K sp [.ref a, y] H (fun v H' => ∃ k : Bool, v = .bl k ∧ Q (.bl (if neg = true then !k else k)) H') E0) → r x y H Q)
    (σ : L2.St) (H : Hp) (Q : VK) (h : liftE X.K G (tCmpO neg C sp ta tb) σ H Q) : tOp r (liftE X.K G ta) (liftE X.K G tb) σ H Q := by
  obtain ⟨E, QE, rel, q, k⟩ := h
  refine ⟨E, _, rel, q, fun d E1 v H1 q1 x1 rel1 p1 => ⟨E1, _, rel1, q1, fun y E2 u H2 q2 x2 r2 p2 => ?_⟩⟩
  obtain ⟨⟨q0, ql⟩, q2⟩ := q2
  obtain ⟨fs, q0⟩ := isSome_get q0
  obtain ⟨z, j, rfl, e2, _⟩ := obD_some q0
  obtain rfl := hdl_ref p1
  obtain ⟨dx, vs, ls, g1, g2⟩ := r2.insAt e2
  refine hr _ _ _ _ ⟨z, dx, vs, rfl, g1, obLike_ty c r2 ql p2, ?_⟩
  refine obs_call r2 (.cons (.hdl z) (.cons p2 .nil)) q2 (fun d E' v H' z xx rr pp => ?_) fun cls E' H' z rr => z
  cases d with
  | bool kk =>
    cases pp
    exact ⟨kk, rfl, k _ _ _ _ z ((x1.trans x2).trans xx) rr (.bl _)⟩
  | _ => exact z.elim
theorem ed_eqO (c : CmpC X.K C) (F : FnOk X.prog X.w X.K X.mg X.base CX0 n f fd ps (spO X.K sp)) (hm : Meth X.K C "__eq__" f) (hbd : Binds X.K fd ps []) (hr : Room n X.A) (ha : ED X G a ta) (hb : ED X G b tb) (hk : behindInMarks .Eq b = false) : ED X G (.Compare a [.Eq] [b] pos) (tCmpO false C sp ta tb) :=
  ⟨PE.weak (pe_cmpR (op_eqO F hm hbd hr) ha.pe hb.pe hk) fun σ H Q h => lift_cmpO c false (fun x y H Q z => z) σ H Q h⟩
theorem ed_neO (c : CmpC X.K C) (F : FnOk X.prog X.w X.K X.mg X.base CX0 n f fd ps (spO X.K sp)) (hm : Meth X.K C "__eq__" f) (hbd : Binds X.K fd ps []) (hr : Room (n + 1) X.A) (ha : ED X G a ta) (hb : ED X G b tb) (hk : behindInMarks .NotEq b = false) : ED X G (.Compare a [.NotEq] [b] pos) (tCmpO true C sp ta tb) :=
  ⟨PE.weak (pe_cmpR (op_neO F hm c.ne c.ic.hm hbd hr) ha.pe hb.pe hk) fun σ H Q h => lift_cmpO c true (fun x y H Q z => z) σ H Q h⟩
theorem lift_bo {t : TD} {te : TE} (h1 : ∀ σ H Q, liftE X.K G t σ H Q → te σ H Q) (σ : L2.St) (H : Hp) (Q : Bool → Hp → Prop) (h : liftT X.K G (tBo t) σ H Q) : te σ H fun x H' => ∃ k, x = .bl k ∧ Q k H' := by
  obtain ⟨E, QE, rel, q, k⟩ := h
  refine h1 σ H _ ⟨E, _, rel, q, fun d E' v H' q1 x1 r1 p1 => ?_⟩
  cases p1 with
  | bl b => exact ⟨b, rfl, k b E' H' q1 x1 r1⟩
  | _ => exact q1.elim
theorem eb_eqO (c : CmpC X.K C) (F : FnOk X.prog X.w X.K X.mg X.base CX0 n f fd ps (spO X.K sp)) (hm : Meth X.K C "__eq__" f) (hbd : Binds X.K fd ps []) (hr : Room n X.A) (ha : ED X G a ta) (hb : ED X G b tb) (hk : behindInMarks .Eq b = false) : EB X G (.Compare a [.Eq] [b] pos) (tBo (tCmpO false C sp ta tb)) :=
  ⟨PT.weak (pt_cmpR (op_eqO F hm hbd hr) ha.pe hb.pe hk) fun σ H Q h => lift_bo (fun σ H Q h => lift_cmpO c false (fun x y H Q z => z) σ H Q h) σ H Q h⟩
theorem eb_neO (c : CmpC X.K C) (F : FnOk X.prog X.w X.K X.mg X.base CX0 n f fd ps (spO X.K sp)) (hm : Meth X.K C "__eq__" f) (hbd : Binds X.K fd ps []) (hr : Room (n + 1) X.A) (ha : ED X G a ta) (hb : ED X G b tb) (hk : behindInMarks .NotEq b = false) : EB X G (.Compare a [.NotEq] [b] pos) (tBo (tCmpO true C sp ta tb)) :=
  ⟨PT.weak (pt_cmpR (op_neO F hm c.ne c.ic.hm hbd hr) ha.pe hb.pe hk) fun σ H Q h => lift_bo (fun σ H Q h => lift_cmpO c true (fun x y H Q z => z) σ H Q h) σ H Q h⟩
/-- isinstance(e, C) -/
def tIsO (C : Addr) (ta : TD) : TD := fun E Q => ta E fun d E1 => match obD C d E1 with
  | some _ => Q (.bool true) E1
  | none => (plainTy d).isSome = true ∧ Q (.bool false) E1
theorem ed_isO {x : Str} (c : CmpC X.K C) (nk : ∀ d t, plainTy d = some t → PySem.W.kitOne X.K t (.ref C) = some false) (ha : ED X G a ta) (hgC : Gl X x) (hmC : X.mg x = some (.ref C)) (hg : Gl X "isinstance") (hm : X.mg "isinstance" = none) (hdb : (x == ("__debug__" : Str)) = false := by decide)
    (hs : starEach [a, .Name x p2] X.env = (false, eval a X.env) :: starEach [.Name x p2] X.env := by rfl) (hs2 : starEach [.Name x p2] X.env = (false, eval (.Name x p2) X.env) :: starEach [] X.env := by rfl) (hpl : (backTo pos (starEach [.Name x p2] X.env)).any (·.1) = false := by rfl) :
    ED X G (.Call (.Name "isinstance" p) [a, .Name x p2] [] pos) (tIsO C ta) :=
  ⟨PE.weak (pe_callB call_isi hg hm (by decide +kernel) (pa_cons ha.pe (pa_cons (pe_glob (v := .ref C) hgC hmC rfl hdb) pa_nil hs2) hs) (he := hs) (hpl := hpl)) fun σ H Q ⟨E, QE, r, q, k⟩ => ⟨E, _, r, q, fun d E1 v H1 q1 x1 r1 p1 => by
    cases ho : obD C d E1 with
    | some fs =>
      rw [ho] at q1
      obtain ⟨z, j, rfl, e2, _⟩ := obD_some ho
      obtain rfl := hdl_ref p1
      obtain ⟨dx, vs, ls, g1, g2⟩ := r1.insAt e2
      exact ⟨_, _, _, _, true, rfl, .own C, .base (.ins g1 c.ic.cl c.ic.ha c.ic.hn c.ic.htk c.ic.hm), c.ic.me, k _ _ _ _ q1 x1 r1 (.bl _)⟩
    | none =>
      rw [ho] at q1
      obtain ⟨q0, q1⟩ := q1
      obtain ⟨t, ht⟩ := isSome_get q0
      exact ⟨_, _, _, _, false, rfl, .own C, TyX.of ht p1, nk _ _ ht, k _ _ _ _ q1 x1 r1 (.bl _)⟩⟩⟩
end
end DL

set_option Elab.async false
set_option linter.all false
set_option maxRecDepth 100000
set_option maxHeartbeats 4000000
/-! FnBase: _law_draw, _law_pick, _law_same -/
namespace DL
open PySem PySem.Spec PyProof.Rows L2
local macro_rules | `(tactic| walk_at "dl") => `(tactic| simp only [tV, tVr, tFzV, turnD, DL.wipeE, tK, tOpD, tUnD, tBo, tAndD, tOrD, tNotD, tIfE, DL.tAndV, DL.tOrV, DL.tNotV, tTru, truD, okLen, sSet, sSetL, sExpr, sRet, sIf, sNx, tTupD, dNil, dCons, tLstD, tFzD, tApp, tExtd, tPopAt, sSetIx, tIxO, tChainD, tChain3D, tRevT, caStr, opRepT, opAdd, opSub, opMul, opDiv, opMod, opPow, DL.opI, DL.opI0, opB0, opLt, opLe, opGt, opGtD, opLtD, opGe, opEq, opNe, opIs, opIsN, isNone, opIn, opNotIn, opIx, atD_0, atD_1, atD_2, atD_3, putD_0, unNeg, tCa1, tCa2, tCaL1, caLen, caAbs, caMax2, caMin2, caSum, caMax, caMin, caSumT, caMaxT, caMinT, caAll, caTuple, caList, caInt, tIsi, isInt, isBool, isStr, isTuple, isList, notDict, sAsg, gSet, gTupD, gsNil, gsCons, sPar, pNil, pD, pL, setAll, tCallD, aNil, aV, aO, argS, oixs, ndp, putO, tOpL, opCat, opRep, tSlD, slD, tSlL, oNo, oE, tRevD, iLstD, iTupD, iRange1, iRange2, iZipD, iZipM, finO, tTrue, Option.map, eqv_int, eqv_bool, eqv_none, shaped_int, shaped_bool, shaped_none, tLenRange, tSortSet, tLenSet, tLenSetP, tSortSetP, tCountL, tCountT, tIndexL, tIndexT, DL.tOrT, DL.tAndT, DL.tNotT, tSortRev, caSorted, iEnumL, iEnumT, decide_eq_true_eq, and_self, List.cons_append, List.nil_append, List.replicate, List.getElem?_cons_zero, List.getElem?_cons_succ, List.set_cons_zero, List.set_cons_succ, List.length_cons, List.length_nil, true_and, and_true, if_true, if_false, Bool.false_eq_true, List.contains_nil, Bool.not_false, Bool.not_true, Bool.and_self, Bool.and_true, Bool.true_and, decide_true, decide_false, beq_self_eq_true])
def tb_law_draw : TSd :=
  sSeq (sIf (tNotD (tTru (tVr 1))) (sExpr (tApp 1 (tCa1 caMax (tFzD (tOpL opCat (tFzD (tComp (iLstD (tV 0)) (gSet 4) (tTrue) (tCa1 caAbs (tV 4)) [4])) (tFzD (tLstD (dCons (tK (.int 0)) (dNil))))))))) (sNx))
      (sSeq (sExpr (tApp 1 (tK (.int 0))))
      (sSeq (sSet 3 (tCa1 caLen (tVr 1)))
      (sSeq (sSet 4 (tIfE (tTru (tV 0)) (tOpD opIx (tV 0) (tOpD opMod (tV 3) (tCa1 caLen (tV 0)))) (tK (.int 0))))
      (sSeq (sSet 5 (tOpD opMod (tIxO 1 (tK (.int 0))) (tK (.int 65536))))
      (sSeq (sSetIx 1 (tK (.int 0)) (tOpD opDiv (tIxO 1 (tK (.int 0))) (tK (.int 65536))))
      (sSeq (sSet 6 (tOpD opMod (tOpD opAdd (tOpD opAdd (tV 4) (tOpD opMul (tK (.int 40503)) (tV 5))) (tOpD opMul (tK (.int 104729)) (tV 3))) (tK (.int 4294967291))))
      (sSeq (sSet 6 (tOpD opMod (tOpD opMul (tOpD opMod (tOpD opMul (tV 6) (tV 6)) (tK (.int 4294967279))) (tK (.int 48271))) (tK (.int 4294967291))))
      (sSeq (sSet 7 (tOpD opMod (tOpD opMul (tOpD opMod (tOpD opMul (tV 6) (tV 6)) (tK (.int 4294967279))) (tK (.int 69621))) (tK (.int 4294967291))))
      (sRet (tOpD opMod (tOpD opAdd (tOpD opMul (tOpD opDiv (tV 6) (tK (.int 64))) (tK (.int 67108864))) (tOpD opDiv (tV 7) (tK (.int 64)))) (tV 2)))))))))))
def tb_law_pick (sp_law_draw : SpD) : TSd :=
  sRet (tOpD opIx (tV 2) (tCallD sp_law_draw (aV (tV 0) (aO 1 (aV (tCa1 caLen (tV 2)) (aNil))))))
def tb_law_same (sp_law_same : SpD) : TSd :=
  sSeq (sIf (tBo (tOpD opIs (tV 1) (tK .none))) (sRet (tOpD opIs (tV 0) (tK .none))) (sNx))
      (sSeq (sIf (tTru (tIsi isBool (tV 1))) (sRet (tAndV (tIsi isBool (tV 0)) (tOpD opEq (tV 0) (tV 1)))) (sNx))
      (sSeq (sIf (tTru (tIsi isTuple (tV 1))) (sSeq (sIf (tOrD (tNotD (tTru (tIsi isTuple (tV 0)))) (tBo (tOpD opNe (tCa1 caLen (tV 0)) (tCa1 caLen (tV 1))))) (sRet (tK (.bool false))) (sNx))
      (sRet (tCa1 caAll (tFzD (tComp (iZipD (tV 0) (tV 1)) (gTupD 2 (gsCons (gSet 2) (gsCons (gSet 3) (gsNil)))) (tTrue) (tCallD sp_law_same (aV (tV 2) (aV (tV 3) (aNil)))) [2, 3]))))) (sNx))
      (sSeq (sIf (tTru (tIsi isStr (tV 1))) (sRet (tAndV (tIsi isStr (tV 0)) (tOpD opEq (tV 0) (tV 1)))) (sNx))
      (sRet (tAndV (tIsi isInt (tV 0)) (tAndV (tNotV (tIsi isBool (tV 0))) (tOpD opEq (tV 0) (tV 1))))))))
def TownOk (t : List D) (b : Nat) : Prop := t.length ≤ b ∧ (t = [] ∨ ∃ (h : Int) (r : List D), t = .int h :: r)
theorem TownOk.mono {t : List D} {b b' : Nat} (h : TownOk t b) (hb : b ≤ b') : TownOk t b' := ⟨Nat.le_trans h.1 hb, h.2⟩
def spDraw : SpD := fun ss Q => ∃ (ns : List Int) (t : List D) (m : Int) (b : Nat), ss = [.d (.list (ns.map PyData.int)), .ol t, .d (.int m)] ∧ 0 < m ∧ ns.length ≤ 63 ∧ TownOk t b ∧ b ≤ 10000000 ∧
  ∀ r t', 0 ≤ r → r < m → TownOk t' (b + 2) → Q (.int r) [.ol t']
theorem small_line {n : Nat} (h : n ≤ 10000010) : n ≤ sizeLine := by rw [sizeLine_eq]; omega
theorem cmul_small {i j : Int} (h1 : i.natAbs < 2 ^ 64) (h2 : j.natAbs < 2 ^ 64) : CMulW i j := wide_mul (a := 64) (b := 64) h1 h2 (by decide) (by decide) (by decide)
theorem cdiv_small {i j : Int} (h0 : 0 < j) (h1 : j < 2 ^ 64) : CDivW i j := wide_div (b := 64) h0 (by omega) (by decide) (by decide)
theorem rd_law_draw : ∀ ss QD, spDraw ss QD → tb_law_draw { nx := fun E' => finO [1] E' (QD .none), rt := fun d E' => finO [1] E' (QD d) } (ss ++ List.replicate 5 .un) := by
  rintro ss QD ⟨ns, t, m, b, rfl, hm, hn, ht, hb, k⟩
  unfold tb_law_draw
  refine seq_step fun R hR => ?_
  have main : ∀ (h : Int) (r : List D), (h' : (PyData.int h :: r).length ≤ b + 1) → R [.d (.list (ns.map PyData.int)), .ol (.int h :: r), .d (.int m), .un, .un, .un, .un, .un] := by
    intro h r h'
    refine hR _ ?_
    rw [List.length_cons] at h'
    refine seq_step fun R hR => ?_
    walk_at "dl"
    refine ⟨Nat.lt_of_lt_of_le (show r.length + 1 < 10000002 by omega) (small_line (by omega)), hR _ ?_⟩
    refine seq_step fun R hR => ?_
    walk_at "dl"
    refine hR _ ?_
    generalize hk : (((r ++ [PyData.int 0]).length + 1 : Nat) : Int) = kk
    have hkk : 0 ≤ kk ∧ kk ≤ 10000003 := by rw [List.length_append, List.length_cons, List.length_nil] at hk; omega
    refine seq_step fun R hR => ?_
    have c4 : ∀ c : Int, R [.d (.list (ns.map PyData.int)), .ol (.int h :: (r ++ [.int 0])), .d (.int m), .d (.int kk), .d (.int c), .un, .un, .un] := by
      intro c
      refine hR _ ?_
      refine seq_step fun R hR => ?_
      walk_at "dl"
      refine ⟨by decide, hR _ ?_⟩
      have hd0 : 0 ≤ h % 65536 := Int.emod_nonneg _ (by decide)
      have hd1 : h % 65536 < 65536 := Int.emod_lt_of_pos _ (by decide)
      generalize h % 65536 = dg at hd0 hd1 ⊢
      refine seq_step fun R hR => ?_
      walk_at "dl"
      refine ⟨cdiv_small (by decide) (by decide), hR _ ?_⟩
      generalize h / 65536 = h2
      refine seq_step fun R hR => ?_
      walk_at "dl"
      refine ⟨cmul_small (by omega) (by omega), cmul_small (by omega) (by omega), by decide, hR _ ?_⟩
      generalize hn1 : (c + 40503 * dg + 104729 * kk) % 4294967291 = n1
      have h10 : 0 ≤ n1 := by rw [← hn1]; exact Int.emod_nonneg _ (by decide)
      have h11 : n1 < 4294967291 := by rw [← hn1]; exact Int.emod_lt_of_pos _ (by decide)
      refine seq_step fun R hR => ?_
      walk_at "dl"
      have g0 : 0 ≤ n1 * n1 % 4294967279 := Int.emod_nonneg _ (by decide)
      have g1 : n1 * n1 % 4294967279 < 4294967279 := Int.emod_lt_of_pos _ (by decide)
      generalize n1 * n1 % 4294967279 = n2 at g0 g1 ⊢
      refine ⟨cmul_small (by omega) (by omega), by decide, cmul_small (by omega) (by omega), by decide, hR _ ?_⟩
      generalize hn3 : n2 * 48271 % 4294967291 = n3
      have h30 : 0 ≤ n3 := by rw [← hn3]; exact Int.emod_nonneg _ (by decide)
      have h31 : n3 < 4294967291 := by rw [← hn3]; exact Int.emod_lt_of_pos _ (by decide)
      refine seq_step fun R hR => ?_
      walk_at "dl"
      have g0 : 0 ≤ n3 * n3 % 4294967279 := Int.emod_nonneg _ (by decide)
      have g1 : n3 * n3 % 4294967279 < 4294967279 := Int.emod_lt_of_pos _ (by decide)
      generalize n3 * n3 % 4294967279 = n4 at g0 g1 ⊢
      refine ⟨cmul_small (by omega) (by omega), by decide, cmul_small (by omega) (by omega), by decide, hR _ ?_⟩
      generalize n4 * 69621 % 4294967291 = n5
      walk_at "dl"
      refine ⟨cdiv_small (by decide) (by decide), cmul_small (by omega) (by omega), cdiv_small (by decide) (by decide), hm, ?_⟩
      refine k _ _ (Int.emod_nonneg _ (by omega)) (Int.emod_lt_of_pos _ hm) ⟨?_, .inr ⟨_, _, rfl⟩⟩
      rw [List.length_cons, List.length_append, List.length_cons, List.length_nil]; omega
    walk_at "dl"
    refine ifB (fun e => ?_) (fun e => c4 0)
    have hp : 0 < ns.length := by
      cases ns with
      | nil => simp at e
      | cons a l => simp
    rw [List.length_map]
    refine ⟨by omega, ?_⟩
    have i0 : 0 ≤ kk % (ns.length : Int) := Int.emod_nonneg _ (by omega)
    have i1 : kk % (ns.length : Int) < ns.length := Int.emod_lt_of_pos _ (by omega)
    exact atD_at i0 (getElem_map_int (by omega)) (c4 _)
  walk_at "dl"
  refine ifB (fun e => ?_) (fun e => ?_)
  · have e0 : t = [] := by
      cases t with
      | nil => rfl
      | cons a l => simp at e
    subst e0
    refine comp_map (E1 := [.d (.list (ns.map PyData.int)), .ol [], .d (.int m), .un, .un, .un, .un, .un]) ns PyData.int (fun i => .int (if i < 0 then -i else i)) (fun R h => h) (un1 rfl) (small_line (by omega)) (fun i _ R hq => hq _ rfl) ?_
    · refine ⟨small_line (by omega), ?_, (ns.map fun i => if i < 0 then -i else i) ++ [0], ?_, ?_, fun mm _ _ => ?_⟩
      · rw [List.length_map]; exact small_line (by omega)
      · rw [List.map_append, List.map_map]; rfl
      · simp
      · refine ⟨small_line (by decide), ?_⟩
        exact main mm [] (by rw [List.length_cons, List.length_nil]; omega)
  · rcases ht.2 with e0 | ⟨h, r, e0⟩
    · subst e0; simp at e
    · subst e0
      exact main h r (by have := ht.1; omega)

theorem sh_law_draw : ∀ ss QD, spDraw ss QD → ss.length = 3 ∧ mpos 0 ss = [1] := by
  rintro ss QD ⟨ns, t, m, b, rfl, _⟩
  exact ⟨rfl, rfl⟩
/-- some[..]: any item -/
def spPick : SpD := fun ss Q => ∃ (ns : List Int) (t : List D) (sm : D) (xs : List D) (b : Nat), ss = [.d (.list (ns.map PyData.int)), .ol t, .d sm] ∧ (sm = .list xs ∨ sm = .tuple xs) ∧ xs ≠ [] ∧ ns.length ≤ 63 ∧ TownOk t b ∧ b ≤ 10000000 ∧
  ∀ x t', x ∈ xs → TownOk t' (b + 2) → Q x [.ol t']
theorem sh_law_pick : ∀ ss QD, spPick ss QD → ss.length = 3 ∧ mpos 0 ss = [1] := by
  rintro ss QD ⟨ns, t, sm, xs, b, rfl, _⟩
  exact ⟨rfl, rfl⟩
theorem rd_law_pick : ∀ ss QD, spPick ss QD → tb_law_pick spDraw { nx := fun E' => finO [1] E' (QD .none), rt := fun d E' => finO [1] E' (QD d) } (ss ++ List.replicate 0 .un) := by
  rintro ss QD ⟨ns, t, sm, xs, b, rfl, hs, hx, hn, ht, hb, k⟩
  unfold tb_law_pick
  have hp : 0 < xs.length := by
    cases xs with
    | nil => exact absurd rfl hx
    | cons a l => simp
  have mem : ∀ (r : Int) (t' : List D), 0 ≤ r → r < xs.length → TownOk t' (b + 2) → atD xs r fun x => QD x [.ol t'] := fun r t' h0 h1 h2 =>
    atD_at (d := xs[r.toNat]) h0 (List.getElem?_eq_getElem (by omega)) (k _ _ (List.getElem_mem _) h2)
  rcases hs with rfl | rfl
  · walk_at "dl"
    exact ⟨ns, t, _, b, rfl, by omega, hn, ht, hb, mem⟩
  · walk_at "dl"
    exact ⟨ns, t, _, b, rfl, by omega, hn, ht, hb, mem⟩
/-- data without lists, n tuples deep at most -/
def sameOk : Nat → D → Bool
  | _, .none => true
  | _, .bool _ => true
  | _, .int _ => true
  | _, .str x => PyData.strOk x
  | n + 1, .tuple ds => ds.all (sameOk n) && decide (ds.length ≤ 10000000)
  | _, _ => false
def spSame (n : Nat) : SpD := fun ss Q => ∃ d, ss = [.d d, .d d] ∧ sameOk n d = true ∧ Q (.bool true) []
theorem sh_law_same (n : Nat) : ∀ ss QD, spSame n ss QD → ss.length = 2 ∧ mpos 0 ss = [] := by
  rintro ss QD ⟨d, rfl, _⟩
  exact ⟨rfl, rfl⟩
def spNo : SpD := fun _ _ => False
theorem eqv_scal {d : D} (h : (match d with | .tuple _ => False | .list _ => False | .dict _ => False | _ => True)) : PyData.eqv d d = true := by
  cases d <;> first | exact h.elim | simp [PyData.eqv]
theorem zip_self {α : Type} : ∀ l : List α, l.zip l = l.map fun x => (x, x)
  | [] => rfl
  | a :: l => by rw [List.zip_cons_cons, zip_self l]; rfl
theorem rd_law_same (n : Nat) (sp : SpD) (hsp : ∀ m, n = m + 1 → sp = spSame m) : ∀ ss QD, spSame n ss QD → tb_law_same sp { nx := fun E' => finO [] E' (QD .none), rt := fun d E' => finO [] E' (QD d) } (ss ++ List.replicate 2 .un) := by
  rintro ss QD ⟨d, rfl, hd, q⟩
  unfold tb_law_same
  cases d with
  | none => exact q
  | bool b =>
    refine seq_step fun R hR => ?_
    walk_at "dl"
    refine hR _ ?_
    refine seq_step fun R hR => ?_
    walk_at "dl"
    exact q
  | int i =>
    refine seq_step fun R hR => ?_
    walk_at "dl"
    refine hR _ ?_
    refine seq_step fun R hR => ?_
    walk_at "dl"
    refine hR _ ?_
    refine seq_step fun R hR => ?_
    walk_at "dl"
    refine hR _ ?_
    refine seq_step fun R hR => ?_
    walk_at "dl"
    refine hR _ ?_
    walk_at "dl"
    exact q
  | str x =>
    refine seq_step fun R hR => ?_
    walk_at "dl"
    refine hR _ ?_
    refine seq_step fun R hR => ?_
    walk_at "dl"
    refine hR _ ?_
    refine seq_step fun R hR => ?_
    walk_at "dl"
    refine hR _ ?_
    refine seq_step fun R hR => ?_
    have hs : SeqAt.shaped (.str x) = true := by
      have : PyData.strOk x = true := by cases n <;> exact hd
      show (PyData.strOk x && decide ((0 : Nat) ≤ 64)) = true
      rw [this]; rfl
    walk_at "dl"
    refine ⟨hs, ?_⟩
    rw [eqv_scal trivial]; exact q
  | list _ => cases n <;> cases hd
  | dict _ => cases n <;> cases hd
  | tuple ds =>
    cases n with
    | zero => cases hd
    | succ m =>
      have hsp := hsp m rfl
      subst hsp
      have hd : (ds.all (sameOk m) && decide (ds.length ≤ 10000000)) = true := hd
      rw [Bool.and_eq_true] at hd
      have hl : ds.length ≤ 10000000 := of_decide_eq_true hd.2
      have ha := List.all_eq_true.mp hd.1
      refine seq_step fun R hR => ?_
      walk_at "dl"
      refine hR _ ?_
      refine seq_step fun R hR => ?_
      walk_at "dl"
      refine hR _ ?_
      refine seq_step fun R hR => ?_
      refine ⟨trivial, trivial, ifT (b := isTuple (.tuple ds)) rfl ?_⟩
      refine seq_step fun R2 hR2 => ?_
      walk_at "dl"
      refine hR2 _ ?_
      show tComp _ _ _ _ _ _ _
      refine comp_map (E1 := [.d (.tuple ds), .d (.tuple ds), .un, .un]) ds (fun x => PyData.tuple [x, x]) (fun _ => PyData.bool true) (fun R h => ?_) (un2 rfl rfl) (small_line (by omega)) (fun x hx R hq => ?_) ?_
      · show R (zipD ds ds) _
        unfold zipD
        rw [zip_self, List.map_map]
        exact h
      · exact ⟨rfl, rfl, x, rfl, ha x hx, hq _ rfl⟩
      · refine ⟨ds.map fun _ => true, by rw [List.map_map]; rfl, ?_⟩
        have : (ds.map fun _ => true).all id = true := by simp
        rw [this]; exact q
end DL

set_option Elab.async false
set_option linter.all false
set_option maxRecDepth 100000
set_option maxHeartbeats 4000000
namespace DL
open PySem PySem.Spec PyProof.Rows L2
local macro_rules | `(tactic| walk_at "dl") => `(tactic| simp only [tV, tVr, tFzV, turnD, DL.wipeE, tK, tOpD, tUnD, tBo, tAndD, tOrD, tNotD, tIfE, DL.tAndV, DL.tOrV, DL.tNotV, tTru, truD, okLen, sSet, sSetL, sExpr, sRet, sIf, sNx, tTupD, dNil, dCons, tLstD, tFzD, tApp, tExtd, tPopAt, sSetIx, tIxO, tChainD, tChain3D, tRevT, caStr, opRepT, opAdd, opSub, opMul, opDiv, opMod, opPow, DL.opI, DL.opI0, opB0, opLt, opLe, opGt, opGtD, opLtD, opGe, opEq, opNe, opIs, opIsN, isNone, opIn, opNotIn, opIx, atD_0, atD_1, atD_2, atD_3, putD_0, unNeg, tCa1, tCa2, tCaL1, caLen, caAbs, caMax2, caMin2, caSum, caMax, caMin, caSumT, caMaxT, caMinT, caAll, caTuple, caList, caInt, tIsi, isInt, isBool, isStr, isTuple, isList, notDict, sAsg, gSet, gTupD, gsNil, gsCons, sPar, pNil, pD, pL, setAll, tCallD, aNil, aV, aO, argS, oixs, ndp, putO, tOpL, opCat, opRep, tSlD, slD, tSlL, oNo, oE, tRevD, iLstD, iTupD, iRange1, iRange2, iZipD, iZipM, finO, tTrue, Option.map, eqv_int, eqv_bool, eqv_none, shaped_int, shaped_bool, shaped_none, tLenRange, tSortSet, tLenSet, tCountL, tCountT, tIndexL, tIndexT, DL.tOrT, DL.tAndT, DL.tNotT, tSortRev, caSorted, iEnumL, iEnumT, decide_eq_true_eq, and_self, List.cons_append, List.nil_append, List.replicate, List.getElem?_cons_zero, List.getElem?_cons_succ, List.set_cons_zero, List.set_cons_succ, List.length_cons, List.length_nil, true_and, and_true, if_true, if_false, Bool.false_eq_true, List.contains_nil, Bool.not_false, Bool.not_true, Bool.and_self, Bool.and_true, Bool.true_and, decide_true, decide_false, beq_self_eq_true])
def tb_law_bent (sp_law_bent : SpD) (sp_law_draw : SpD) (sp_law_pick : SpD) : TSd :=
  sSeq (sIf (tOrD (tNotD (tTru (tIsi isTuple (tV 2)))) (tOrD (tNotD (tTru (tV 2))) (tBo (tOpD opEq (tCallD sp_law_draw (aV (tV 0) (aO 1 (aV (tK (.int 4)) (aNil))))) (tK (.int 0)))))) (sSeq (sSet 3 (tFzD (tLstD (dCons (tK .none) (dCons (tK (.bool true)) (dCons (tK (.bool false)) (dCons (tK (.int 0)) (dCons (tK (.int 1)) (dCons (tUnD unNeg (tK (.int 1))) (dCons (tK (.int 2)) (dCons (tK (.int 3)) (dCons (tK (.int 4)) (dCons (tK (.int 14)) (dCons (tK (.str "pass")) (dCons (tTupD (dNil)) (dCons (tFzD (tLstD (dNil))) (dCons (tTupD (dCons (tK (.int 1)) (dNil))) (dCons (tTupD (dCons (tK (.int 0)) (dNil))) (dCons (tTupD (dCons (tK (.int 1)) (dCons (tK (.int 2)) (dNil)))) (dCons (tTupD (dCons (tK (.int 3)) (dCons (tK (.int 1)) (dNil)))) (dCons (tTupD (dCons (tTupD (dCons (tK (.int 0)) (dCons (tK (.int 1)) (dNil)))) (dNil))) (dNil))))))))))))))))))))))
      (sSeq (sIf (tTru (tIsi isTuple (tV 2))) (sSet 3 (tFzD (tOpL opCat (tV 3) (tFzD (tLstD (dCons (tFzD (tCaL1 caList (tV 2))) (dCons (tSlD (tV 2) (oNo) (oE (tUnD unNeg (tK (.int 1))))) (dCons (tOpD opAdd (tV 2) (tSlD (tV 2) (oE (tUnD unNeg (tK (.int 1)))) (oNo))) (dCons (tSlD (tV 2) (oE (tK (.int 1))) (oNo)) (dCons (tRevT (tV 2)) (dCons (tOpD opAdd (tV 2) (tTupD (dCons (tK .none) (dNil)))) (dNil)))))))))))) (sNx))
      (sSeq (sIf (tTru (tIsi isInt (tV 2))) (sSet 3 (tFzD (tOpL opCat (tV 3) (tFzD (tOpL opRep (tFzD (tLstD (dCons (tOpD opAdd (tV 2) (tK (.int 1))) (dCons (tOpD opSub (tV 2) (tK (.int 1))) (dCons (tNotT (tV 2)) (dCons (tTupD (dCons (tV 2) (dNil))) (dCons (tCa1 caStr (tV 2)) (dNil)))))))) (tK (.int 2))))))) (sNx))
      (sRet (tCallD sp_law_pick (aV (tV 0) (aO 1 (aV (tV 3) (aNil))))))))) (sNx))
      (sSeq (sSet 4 (tCallD sp_law_draw (aV (tV 0) (aO 1 (aV (tCa1 caLen (tV 2)) (aNil))))))
      (sRet (tOpD opAdd (tOpD opAdd (tSlD (tV 2) (oNo) (oE (tV 4))) (tTupD (dCons (tCallD sp_law_bent (aV (tV 0) (aO 1 (aV (tOpD opIx (tV 2) (tV 4)) (aNil))))) (dNil)))) (tSlD (tV 2) (oE (tOpD opAdd (tV 4) (tK (.int 1)))) (oNo)))))
/-! ### _law_bent -/
/-- n deep at most, each row of 1000 at most -/
def bnd : Nat → D → Bool
  | _, .none => true
  | _, .bool _ => true
  | _, .int _ => true
  | _, .str x => PyData.strOk x && decide (x.length ≤ 1000)
  | n + 1, .tuple ds => ds.all (bnd n) && decide (ds.length ≤ 1000)
  | n + 1, .list ds => ds.all (bnd n) && decide (ds.length ≤ 1000)
  | _, _ => false
/-- what may be bent: small numbers, texts, tuples of such -/
def inp : Nat → D → Bool
  | _, .int i => decide (-20 ≤ i) && decide (i ≤ 100)
  | _, .str x => PyData.strOk x && decide (x.length ≤ 1000)
  | n + 1, .tuple ds => ds.all (inp n) && decide (ds.length ≤ 100)
  | _, _ => false
theorem bnd_sh : ∀ (n : Nat) (d : D), bnd n d = true → shOk n d = true
  | n, .none, _ => by cases n <;> rfl
  | n, .bool _, _ => by cases n <;> rfl
  | n, .int _, _ => by cases n <;> rfl
  | n, .str x, h => by
    have h2 : (PyData.strOk x && decide (x.length ≤ 1000)) = true := by cases n <;> exact h
    rw [Bool.and_eq_true] at h2
    have h3 := h2.1
    cases n <;> exact h3
  | n + 1, .tuple ds, h => by
    have h : (ds.all (bnd n) && decide (ds.length ≤ 1000)) = true := h
    rw [Bool.and_eq_true] at h
    rw [shOk_tup]
    exact List.all_eq_true.mpr fun x hx => bnd_sh n x (List.all_eq_true.mp h.1 x hx)
  | n + 1, .list ds, h => by
    have h : (ds.all (bnd n) && decide (ds.length ≤ 1000)) = true := h
    rw [Bool.and_eq_true] at h
    rw [shOk_lst]
    exact List.all_eq_true.mpr fun x hx => bnd_sh n x (List.all_eq_true.mp h.1 x hx)
  | 0, .tuple _, h => by cases h
  | 0, .list _, h => by cases h
  | 0, .dict _, h => by cases h
  | n + 1, .dict _, h => by cases h
theorem bnd_tup {n : Nat} {ds : List D} (h : ∀ x ∈ ds, bnd n x = true) (hl : ds.length ≤ 1000) : bnd (n + 1) (.tuple ds) = true := by
  show (ds.all (bnd n) && decide (ds.length ≤ 1000)) = true
  rw [decide_eq_true hl, Bool.and_true]; exact List.all_eq_true.mpr h
theorem bnd_lst {n : Nat} {ds : List D} (h : ∀ x ∈ ds, bnd n x = true) (hl : ds.length ≤ 1000) : bnd (n + 1) (.list ds) = true := by
  show (ds.all (bnd n) && decide (ds.length ≤ 1000)) = true
  rw [decide_eq_true hl, Bool.and_true]; exact List.all_eq_true.mpr h
theorem of_bnd_tup {n : Nat} {ds : List D} (h : bnd (n + 1) (.tuple ds) = true) : (∀ x ∈ ds, bnd n x = true) ∧ ds.length ≤ 1000 := by
  have h : (ds.all (bnd n) && decide (ds.length ≤ 1000)) = true := h
  rw [Bool.and_eq_true] at h
  exact ⟨List.all_eq_true.mp h.1, of_decide_eq_true h.2⟩
theorem of_inp_tup {n : Nat} {ds : List D} (h : inp (n + 1) (.tuple ds) = true) : (∀ x ∈ ds, inp n x = true) ∧ ds.length ≤ 100 := by
  have h : (ds.all (inp n) && decide (ds.length ≤ 100)) = true := h
  rw [Bool.and_eq_true] at h
  exact ⟨List.all_eq_true.mp h.1, of_decide_eq_true h.2⟩
theorem inp_tup {n : Nat} {ds : List D} (h : ∀ x ∈ ds, inp n x = true) (hl : ds.length ≤ 100) : inp (n + 1) (.tuple ds) = true := by
  show (ds.all (inp n) && decide (ds.length ≤ 100)) = true
  rw [decide_eq_true hl, Bool.and_true]; exact List.all_eq_true.mpr h
theorem bnd_mono : ∀ (n : Nat) (d : D) (m : Nat), n ≤ m → bnd n d = true → bnd m d = true
  | n, .none, m, _, _ => by cases m <;> rfl
  | n, .bool _, m, _, _ => by cases m <;> rfl
  | n, .int _, m, _, _ => by cases m <;> rfl
  | n, .str x, m, _, h => by
    have h : (PyData.strOk x && decide (x.length ≤ 1000)) = true := by cases n <;> exact h
    cases m <;> exact h
  | n + 1, .tuple ds, m + 1, hm, h => by
    have h := of_bnd_tup h
    exact bnd_tup (fun x hx => bnd_mono n x m (by omega) (h.1 x hx)) h.2
  | n + 1, .list ds, m + 1, hm, h => by
    have h : (ds.all (bnd n) && decide (ds.length ≤ 1000)) = true := h
    rw [Bool.and_eq_true] at h
    exact bnd_lst (fun x hx => bnd_mono n x m (by omega) (List.all_eq_true.mp h.1 x hx)) (of_decide_eq_true h.2)
  | n + 1, .tuple ds, 0, hm, _ => absurd hm (by omega)
  | n + 1, .list ds, 0, hm, _ => absurd hm (by omega)
  | 0, .tuple _, _, _, h => by cases h
  | 0, .list _, _, _, h => by cases h
  | 0, .dict _, _, _, h => by cases h
  | n + 1, .dict _, _, _, h => by cases h
theorem inp_bnd : ∀ (n : Nat) (d : D), inp n d = true → bnd n d = true
  | n, .int _, _ => by cases n <;> rfl
  | n, .str x, h => by
    have h : (PyData.strOk x && decide (x.length ≤ 1000)) = true := by cases n <;> exact h
    cases n <;> exact h
  | n + 1, .tuple ds, h => by
    have h := of_inp_tup h
    exact bnd_tup (fun x hx => inp_bnd n x (h.1 x hx)) (by omega)
  | 0, .none, h => by cases h
  | 0, .bool _, h => by cases h
  | 0, .tuple _, h => by cases h
  | 0, .list _, h => by cases h
  | 0, .dict _, h => by cases h
  | n + 1, .none, h => by cases h
  | n + 1, .bool _, h => by cases h
  | n + 1, .list _, h => by cases h
  | n + 1, .dict _, h => by cases h
theorem cut_mem {xs : List D} {lo hi : Option Int} {x : D} (h : x ∈ cutD xs lo hi) : x ∈ xs := List.mem_of_mem_drop (List.mem_of_mem_take h)
theorem cut_le (xs : List D) (lo hi : Option Int) : (cutD xs lo hi).length ≤ xs.length := by unfold cutD; rw [List.length_take, List.length_drop]; omega
theorem str_small : ∀ n ∈ List.range 121, (PyData.strOk (toString ((n : Int) - 20) : String) && decide ((toString ((n : Int) - 20) : Str).length ≤ 1000)) = true := by decide +kernel
theorem str_ok {i : Int} (h0 : -20 ≤ i) (h1 : i ≤ 100) (n : Nat) : bnd n (.str (toString i : String)) = true := by
  have h := str_small (i + 20).toNat (List.mem_range.mpr (by omega))
  rw [show (((i + 20).toNat : Nat) : Int) - 20 = i by omega] at h
  cases n <;> exact h
theorem sif_letter {c : TTd} {B N : TSd} {DE : EndsD} {E : Env} (P : Env → Prop) (hB : ∀ E1, P E1 → B DE E1) (hc : ∀ BB : Env → Prop, (∀ E1, P E1 → BB E1) → c E fun b E1 => if b = true then BB E1 else N DE E1) : sIf c B N DE E := hc _ hB
def spBent (n : Nat) : SpD := fun ss Q => ∃ (ns : List Int) (t : List D) (d : D) (b : Nat), ss = [.d (.list (ns.map PyData.int)), .ol t, .d d] ∧ inp n d = true ∧ ns.length ≤ 63 ∧ TownOk t b ∧ b + 10 * (n + 1) ≤ 9000000 ∧
  ∀ d' t', bnd (n + 2) d' = true → TownOk t' (b + 10 * (n + 1)) → Q d' [.ol t']
theorem sh_law_bent (n : Nat) : ∀ ss QD, spBent n ss QD → ss.length = 3 ∧ mpos 0 ss = [1] := by rintro ss QD ⟨ns, t, d, b, rfl, _⟩; exact ⟨rfl, rfl⟩
theorem rd_law_bent (n : Nat) (sp : SpD) (hn : n ≤ 10) (hsp : ∀ m, n = m + 1 → sp = spBent m) : ∀ ss QD, spBent n ss QD → tb_law_bent sp spDraw spPick { nx := fun E' => finO [1] E' (QD .none), rt := fun d E' => finO [1] E' (QD d) } (ss ++ List.replicate 2 .un) := by
  rintro ss QD ⟨ns, t, d, b, rfl, hd, hns, ht, hb, q⟩
  unfold tb_law_bent
  have nd : notDict d := by
    cases d with
    | dict _ => cases n <;> cases hd
    | _ => trivial
  refine seq_step fun R hR => ?_
  refine sif_letter (fun E => ∃ t, E = [.d (.list (ns.map PyData.int)), .ol t, .d d, .un, .un] ∧ TownOk t (b + 2)) (fun E1 hE => ?_) (fun BB hBB => ?_)
  · obtain ⟨t, rfl, ht⟩ := hE
    refine seq_step fun R2 hR2 => ?_
    walk_at "dl"
    repeat refine ⟨small_line (by decide), ?_⟩
    refine hR2 _ ?_
    generalize hx0 : ([PyData.none, PyData.bool true, PyData.bool false, PyData.int 0, PyData.int 1, PyData.int (-1), PyData.int 2, PyData.int 3, PyData.int 4, PyData.int 14, PyData.str "pass", PyData.tuple [], PyData.list [], PyData.tuple [PyData.int 1], PyData.tuple [PyData.int 0], PyData.tuple [PyData.int 1, PyData.int 2], PyData.tuple [PyData.int 3, PyData.int 1], PyData.tuple [PyData.tuple [PyData.int 0, PyData.int 1]]] : List D) = xs0
    have ok0 : (∀ x ∈ xs0, bnd (n + 2) x = true) ∧ xs0.length ≤ 18 ∧ xs0 ≠ [] := by
      subst hx0
      refine ⟨fun x hx => bnd_mono 2 x _ (by omega) ?_, by decide, by simp⟩
      exact (by decide +kernel : ∀ x ∈ ([PyData.none, PyData.bool true, PyData.bool false, PyData.int 0, PyData.int 1, PyData.int (-1), PyData.int 2, PyData.int 3, PyData.int 4, PyData.int 14, PyData.str "pass", PyData.tuple [], PyData.list [], PyData.tuple [PyData.int 1], PyData.tuple [PyData.int 0], PyData.tuple [PyData.int 1, PyData.int 2], PyData.tuple [PyData.int 3, PyData.int 1], PyData.tuple [PyData.tuple [PyData.int 0, PyData.int 1]]] : List D), bnd 2 x = true) x hx
    clear hx0
    obtain ⟨ok0, hl0, ne0⟩ := ok0
    have fin : ∀ xs : List D, (∀ x ∈ xs, bnd (n + 2) x = true) → xs ≠ [] → ∀ QQ : D → List S → Prop, (∀ d' t', bnd (n + 2) d' = true → TownOk t' (b + 10 * (n + 1)) → QQ d' [.ol t']) → spPick [.d (.list (ns.map PyData.int)), .ol t, .d (.list xs)] QQ := fun xs ha hne QQ hQ =>
      ⟨ns, t, _, xs, b + 2, rfl, .inl rfl, hne, hns, ht, by omega, fun x t' hx ht' => hQ x t' (ha x hx) (ht'.mono (by omega))⟩
    refine seq_step fun R3 hR3 => ?_
    cases d with
    | dict _ => exact nd.elim
    | none => cases n <;> cases hd
    | bool _ => cases n <;> cases hd
    | list _ => cases n <;> cases hd
    | str x =>
      walk_at "dl"
      refine hR3 _ ?_
      refine seq_step fun R4 hR4 => ?_
      walk_at "dl"
      refine hR4 _ ?_
      walk_at "dl"
      refine fin xs0 ok0 ne0 _ fun d' t' h1 h2 => ?_
      walk_at "dl"
      exact q d' t' h1 h2
    | int i =>
      walk_at "dl"
      refine hR3 _ ?_
      have hi : -20 ≤ i ∧ i ≤ 100 := by
        have : (decide (-20 ≤ i) && decide (i ≤ 100)) = true := by cases n <;> exact hd
        rw [Bool.and_eq_true] at this
        exact ⟨of_decide_eq_true this.1, of_decide_eq_true this.2⟩
      refine seq_step fun R4 hR4 => ?_
      walk_at "dl"
      have hlog : i.natAbs.log2 < 1920 := by
        have : i.natAbs < 2 ^ 7 := by omega
        by_cases h0 : i.natAbs = 0
        · rw [h0]; decide
        · exact Nat.lt_of_lt_of_le ((Nat.log2_lt h0).mpr (by omega : i.natAbs < 2 ^ 7)) (by decide)
      refine ⟨small_line (by decide), hlog, small_line (by decide), ⟨by decide, by decide, small_line (by decide)⟩, small_line (by show xs0.length + 10 ≤ _; omega), hR4 _ ?_⟩
      walk_at "dl"
      refine fin _ (fun x hx => ?_) (fun e => ne0 (List.append_eq_nil_iff.mp e).1) _ fun d' t' h1 h2 => ?_
      · rcases List.mem_append.mp hx with hx | hx
        · exact ok0 x hx
        · have hx : x ∈ ([PyData.int (i + 1), PyData.int (i - 1), PyData.bool (!i != 0), PyData.tuple [PyData.int i], PyData.str (Str.ofString (toString i))] ++ ([PyData.int (i + 1), PyData.int (i - 1), PyData.bool (!i != 0), PyData.tuple [PyData.int i], PyData.str (Str.ofString (toString i))] ++ []) : List D) := hx
          have one : ∀ y ∈ ([PyData.int (i + 1), PyData.int (i - 1), PyData.bool (!i != 0), PyData.tuple [PyData.int i], PyData.str (Str.ofString (toString i))] : List D), bnd (n + 2) y = true := by
            intro y hy
            simp only [List.mem_cons, List.not_mem_nil, or_false] at hy
            rcases hy with h | h | h | h | h
            · rw [h]; rfl
            · rw [h]; rfl
            · rw [h]; rfl
            · rw [h]; exact bnd_tup (fun z hz => by rw [List.mem_singleton.mp hz]; rfl) (by simp)
            · rw [h]; exact str_ok hi.1 hi.2 (n + 2)
          rw [List.append_nil] at hx
          rcases List.mem_append.mp hx with hx | hx
          · exact one x hx
          · exact one x hx
      · walk_at "dl"
        exact q d' t' h1 h2
    | tuple ds =>
      cases n with
      | zero => cases hd
      | succ m =>
        have hds := of_inp_tup hd
        have hbd : ∀ x ∈ ds, bnd m x = true := fun x hx => inp_bnd m x (hds.1 x hx)
        have hbd2 : ∀ x ∈ ds, bnd (m + 2) x = true := fun x hx => bnd_mono m x _ (by omega) (hbd x hx)
        have hc1 := cut_le ds (some (-1)) none
        walk_at "dl"
        refine ⟨small_line (by omega), small_line (by decide), small_line (by omega), small_line (by decide), small_line (by omega), hR3 _ ?_⟩
        refine seq_step fun R4 hR4 => ?_
        walk_at "dl"
        refine hR4 _ ?_
        walk_at "dl"
        refine fin _ (fun x hx => ?_) (fun e => ne0 (List.append_eq_nil_iff.mp e).1) _ fun d' t' h1 h2 => ?_
        · rcases List.mem_append.mp hx with hx | hx
          · exact ok0 x hx
          · simp only [List.mem_cons, List.not_mem_nil, or_false] at hx
            rcases hx with h | h | h | h | h | h
            · rw [h]; exact bnd_lst hbd2 (by omega)
            · rw [h]; exact bnd_tup (fun z hz => hbd2 z (cut_mem hz)) (by have := cut_le ds none (some (-1)); omega)
            · rw [h]; exact bnd_tup (fun z hz => by rcases List.mem_append.mp hz with z1 | z1; exact hbd2 z z1; exact hbd2 z (cut_mem z1)) (by rw [List.length_append]; omega)
            · rw [h]; exact bnd_tup (fun z hz => hbd2 z (cut_mem hz)) (by have := cut_le ds (some 1) none; omega)
            · rw [h]; exact bnd_tup (fun z hz => hbd2 z (List.mem_reverse.mp hz)) (by rw [List.length_reverse]; omega)
            · rw [h]; exact bnd_tup (fun z hz => by rcases List.mem_append.mp hz with z1 | z1; exact hbd2 z z1; rw [List.mem_singleton.mp z1]; rfl) (by rw [List.length_append, List.length_cons, List.length_nil]; omega)
        · walk_at "dl"
          exact q d' t' h1 h2
  · have go : ∀ t, TownOk t (b + 2) → BB [.d (.list (ns.map PyData.int)), .ol t, .d d, .un, .un] := fun t ht => hBB _ ⟨t, rfl, ht⟩
    cases d with
    | dict _ => exact nd.elim
    | none => cases n <;> cases hd
    | bool _ => cases n <;> cases hd
    | list _ => cases n <;> cases hd
    | str x => exact ⟨trivial, trivial, go t (ht.mono (by omega))⟩
    | int i => exact ⟨trivial, trivial, go t (ht.mono (by omega))⟩
    | tuple ds =>
      cases n with
      | zero => cases hd
      | succ m =>
        have hds := of_inp_tup hd
        have hsp := hsp m rfl
        subst hsp
        walk_at "dl"
        refine ifB (fun g => go t (ht.mono (by omega))) (fun g => ?_)
        have hpos : 0 < ds.length := by
          cases ds with
          | nil => simp at g
          | cons a l => simp
        refine ⟨ns, t, 4, b, rfl, by decide, hns, ht, by omega, fun r t1 h0 h1 ht1 => ?_⟩
        walk_at "dl"
        by_cases hr : r = 0
        · rw [if_pos hr]; exact go t1 ht1
        · rw [if_neg hr]
          refine hR _ ?_
          refine seq_step fun R2 hR2 => ?_
          walk_at "dl"
          refine ⟨ns, t1, _, _, rfl, by omega, hns, ht1, by omega, fun a t2 ha0 ha1 ht2 => ?_⟩
          walk_at "dl"
          refine hR2 _ ?_
          walk_at "dl"
          have hlt : a.toNat < ds.length := by omega
          refine atD_at (d := ds[a.toNat]) ha0 (List.getElem?_eq_getElem hlt) ?_
          refine ⟨ns, t2, _, _, rfl, hds.1 _ (List.getElem_mem hlt), hns, ht2, by omega, fun d' t3 hd' ht3 => ?_⟩
          walk_at "dl"
          have c1 := cut_le ds none (some a)
          have c2 := cut_le ds (some (a + 1)) none
          refine ⟨small_line (by decide), small_line (by omega), small_line (by rw [List.length_append, List.length_cons, List.length_nil]; omega), q _ _ ?_ (ht3.mono (by omega))⟩
          have up : ∀ x ∈ ds, bnd (m + 2) x = true := fun x hx => bnd_mono m x _ (by omega) (inp_bnd m x (hds.1 x hx))
          refine bnd_tup (fun x hx => ?_) (by rw [List.length_append, List.length_append, List.length_cons, List.length_nil]; omega)
          rcases List.mem_append.mp hx with hx | hx
          · rcases List.mem_append.mp hx with hx | hx
            · exact up x (cut_mem hx)
            · rw [List.mem_singleton.mp hx]; exact hd'
          · exact up x (cut_mem hx)
end DL

set_option Elab.async false
set_option linter.all false
set_option maxRecDepth 100000
set_option maxHeartbeats 4000000
namespace DL
open PySem PySem.Spec PyProof.Rows L2
local macro_rules | `(tactic| walk_at "dl") => `(tactic| simp only [tV, tVr, tFzV, turnD, DL.wipeE, tK, tOpD, tUnD, tBo, tAndD, tOrD, tNotD, tIfE, DL.tAndV, DL.tOrV, DL.tNotV, tTru, truD, okLen, sSet, sSetL, sExpr, sRet, sIf, sNx, tTupD, dNil, dCons, tLstD, tFzD, tApp, tExtd, tPopAt, sSetIx, tIxO, tChainD, tChain3D, tRevT, caStr, opRepT, opAdd, opSub, opMul, opDiv, opMod, opPow, DL.opI, DL.opI0, opB0, opLt, opLe, opGt, opGtD, opLtD, opGe, opEq, opNe, opIs, opIsN, isNone, opIn, opNotIn, opIx, atD_0, atD_1, atD_2, atD_3, putD_0, unNeg, tCa1, tCa2, tCaL1, caLen, caAbs, caMax2, caMin2, caSum, caMax, caMin, caSumT, caMaxT, caMinT, caAll, caTuple, caList, caInt, tIsi, isInt, isBool, isStr, isTuple, isList, notDict, sAsg, gSet, gTupD, gsNil, gsCons, sPar, pNil, pD, pL, setAll, tCallD, aNil, aV, aO, argS, oixs, ndp, putO, tOpL, opCat, opRep, tSlD, slD, tSlL, oNo, oE, tRevD, iLstD, iTupD, iRange1, iRange2, iZipD, iZipM, finO, tTrue, Option.map, eqv_int, eqv_bool, eqv_none, shaped_int, shaped_bool, shaped_none, tLenRange, tSortSet, tLenSet, tLenSetP, tSortSetP, tCountL, tCountT, tIndexL, tIndexT, DL.tOrT, DL.tAndT, DL.tNotT, tSortRev, caSorted, iEnumL, iEnumT, decide_eq_true_eq, and_self, List.cons_append, List.nil_append, List.replicate, List.getElem?_cons_zero, List.getElem?_cons_succ, List.set_cons_zero, List.set_cons_succ, List.length_cons, List.length_nil, true_and, and_true, if_true, if_false, Bool.false_eq_true, List.contains_nil, Bool.not_false, Bool.not_true, Bool.and_self, Bool.and_true, Bool.true_and, decide_true, decide_false, beq_self_eq_true])
def tb_law_mixed (sp_law_draw : SpD) : TSd :=
  sSeq (sPar [3, 4] (pL (tCaL1 caList (tV 2)) (pL (tLstD (dNil)) (pNil))))
      (sSeq (sWhile (tTru (tVr 3)) (sExpr (tApp 4 (tPopAt 3 (tCallD sp_law_draw (aV (tV 0) (aO 1 (aV (tCa1 caLen (tVr 3)) (aNil)))))))))
      (sRet (tFzV 4)))
def tb_law_all_cards : TSd :=
  sSeq (sSetL 1 (tLstD (dNil)))
      (sSeq (sFor (iRange1 (tK (.int 4))) (gSet 2) (sExpr (tExtd 1 (tComp (iRange2 (tK (.int 1)) (tOpD opAdd (tV 0) (tK (.int 1)))) (gSet 3) (tTrue) (tTupD (dCons (tV 2) (dCons (tV 3) (dNil)))) [3]))))
      (sRet (tFzV 1)))
def tb_law_drawn_deal (sp_law_all_cards : SpD) (sp_law_mixed : SpD) : TSd :=
  sSeq (sSet 3 (tCallD sp_law_mixed (aV (tV 0) (aO 1 (aV (tCallD sp_law_all_cards (aV (tV 2) (aNil))) (aNil))))))
      (sRet (tCa1 caTuple (tFzD (tComp (iRange1 (tK (.int 4))) (gSet 4) (tTrue) (tCa1 caTuple (tFzD (tCaL1 caSorted (tFzD (tSlL (tV 3) (oE (tOpD opMul (tV 4) (tV 2))) (oE (tOpD opAdd (tOpD opMul (tV 4) (tV 2)) (tV 2)))))))) [4]))))
/-! cards: a card is a pair of ints -/
abbrev Card := Int × Int
def cE (b : Card) : D := .tuple [.int b.1, .int b.2]
theorem sh_cE (n : Nat) (b : Card) : shOk (n + 1) (cE b) = true := by cases n <;> rfl
def handD (h : List Card) : D := .tuple (h.map cE)
def allC (R : Nat) : List Card := (List.range 4).flatMap fun s : Nat => (List.range R).map fun r : Nat => ((s : Int), (r : Int) + 1)
theorem allC_len (R : Nat) : (allC R).length = 4 * R := by
  unfold allC
  simp [List.range_succ]
  omega
theorem range_1 (n : Nat) : rangeD 1 n = (List.range n).map fun i : Nat => PyData.int ((i : Int) + 1) := by
  unfold rangeD; exact List.map_congr_left fun i _ => by rw [Int.add_comm]
/-! ### _law_mixed -/
def spMixed : SpD := fun ss Q => ∃ (ns : List Int) (t xs : List D) (b : Nat), ss = [.d (.list (ns.map PyData.int)), .ol t, .d (.list xs)] ∧ ns.length ≤ 63 ∧ xs.length ≤ 1000 ∧ TownOk t b ∧ b ≤ 9000000 ∧
  ∀ ys t', ys.Perm xs → TownOk t' (b + 2 * xs.length) → Q (.list ys) [.ol t']
theorem sh_law_mixed : ∀ ss QD, spMixed ss QD → ss.length = 3 ∧ mpos 0 ss = [1] := by rintro ss QD ⟨ns, t, xs, b, rfl, _⟩; exact ⟨rfl, rfl⟩
theorem perm_pop {xs ys rest : List D} {i : Nat} {y : D} (h : (ys ++ rest).Perm xs) (hi : rest[i]? = some y) : ((ys ++ [y]) ++ rest.eraseIdx i).Perm xs := by
  refine List.Perm.trans ?_ h
  rw [List.append_assoc]
  refine List.Perm.append_left ys ?_
  exact L2.erase_perm rest i y hi
theorem rd_law_mixed : ∀ ss QD, spMixed ss QD → tb_law_mixed spDraw { nx := fun E' => finO [1] E' (QD .none), rt := fun d E' => finO [1] E' (QD d) } (ss ++ List.replicate 2 .un) := by
  rintro ss QD ⟨ns, t, xs, b, rfl, hn, hx, ht, hb, q⟩
  unfold tb_law_mixed
  refine seq_step fun R hR => ?_
  walk_at "dl"
  refine ⟨small_line (by decide), hR _ ?_⟩
  refine seq_step fun R hR => ?_
  refine ⟨fun m E => ∃ t ys rest, E = [.d (.list (ns.map PyData.int)), .ol t, .d (.list xs), .ol rest, .ol ys] ∧ (ys ++ rest).Perm xs ∧ m = rest.length ∧ TownOk t (b + 2 * ys.length), ⟨_, t, [], xs, rfl, List.Perm.refl _, rfl, ht⟩, fun m E hE => ?_⟩
  obtain ⟨t, ys, rest, rfl, hp, rfl, ht⟩ := hE
  have hlen := hp.length_eq
  rw [List.length_append] at hlen
  walk_at "dl"
  refine ifB (fun e => ?_) (fun e => ?_)
  · have hr : 0 < rest.length := by
      cases rest with
      | nil => simp at e
      | cons a l => simp
    refine ⟨ns, t, _, _, rfl, by omega, hn, ht, by omega, fun r t2 r0 r1 ht2 => ?_⟩
    walk_at "dl"
    refine ⟨⟨r0, by omega, by omega⟩, fun y hy => ⟨?_, rest.length - 1, by omega, t2, ys ++ [y], rest.eraseIdx r.toNat, rfl, perm_pop hp hy, ?_, ht2.mono (by rw [List.length_append]; simp; omega)⟩⟩
    · exact Nat.lt_of_lt_of_le (show ys.length < 10000 by omega) (small_line (by decide))
    · rw [List.length_eraseIdx_of_lt (by omega)]
  · have hr : rest = [] := by
      cases rest with
      | nil => rfl
      | cons a l => simp at e
    subst hr
    rw [List.append_nil] at hp
    refine hR _ ?_
    walk_at "dl"
    exact q ys t hp (ht.mono (by rw [hp.length_eq]; exact Nat.le_refl _))
/-! ### _law_all_cards -/
def spAllC : SpD := fun ss Q => ∃ R : Nat, ss = [.d (.int R)] ∧ R ≤ 100 ∧ Q (.list ((allC R).map cE)) []
theorem sh_law_all_cards : ∀ ss QD, spAllC ss QD → ss.length = 1 ∧ mpos 0 ss = [] := by rintro ss QD ⟨R, rfl, _⟩; exact ⟨rfl, rfl⟩
def cardsTo (R n : Nat) : List Card := (List.range n).flatMap fun s : Nat => (List.range R).map fun r : Nat => ((s : Int), (r : Int) + 1)
theorem cardsTo_succ (R n : Nat) : cardsTo R (n + 1) = cardsTo R n ++ (List.range R).map fun r : Nat => ((n : Int), (r : Int) + 1) := by
  unfold cardsTo
  rw [show List.range (n + 1) = List.range n ++ [n] from List.range_succ, List.flatMap_append]; simp
theorem cardsTo_len (R n : Nat) : (cardsTo R n).length = n * R := by
  induction n with
  | zero => simp [cardsTo]
  | succ n ih => rw [cardsTo_succ, List.length_append, ih]; simp [Nat.add_mul]
theorem rd_law_all_cards : ∀ ss QD, spAllC ss QD → tb_law_all_cards { nx := fun E' => finO [] E' (QD .none), rt := fun d E' => finO [] E' (QD d) } (ss ++ List.replicate 3 .un) := by
  rintro ss QD ⟨RR, rfl, hRR, q⟩
  unfold tb_law_all_cards
  refine seq_step fun R hR => ?_
  walk_at "dl"
  refine ⟨small_line (by decide), hR _ ?_⟩
  refine seq_step fun R hR => ?_
  refine for_inv (ds := rangeD 0 4) (E1 := [.d (.int RR), .ol [], .un, .un]) (fun Q h => ⟨⟨by decide, by decide⟩, h⟩)
    (fun i E => ∃ a2, E = [.d (.int RR), .ol ((cardsTo RR i).map cE), a2, .un]) ⟨_, rfl⟩ (fun i d E hd hE R2 hR2 => ?_) (fun E hE => ?_)
  · obtain ⟨a2, rfl⟩ := hE
    have hi : i < 4 := by have := (List.getElem?_eq_some_iff.mp hd).1; rwa [rangeD_length] at this
    rw [rangeD_get hi] at hd
    cases hd
    walk_at "dl"
    refine comp_map (E1 := [.d (.int RR), .ol ((cardsTo RR i).map cE), .d (.int (0 + (i : Int))), .un]) (List.range RR) (fun s : Nat => .int ((s : Int) + 1)) (fun s : Nat => cE (0 + (i : Int), (s : Int) + 1)) (fun Q h => ⟨⟨by decide, by decide, by omega, by omega⟩, by rw [show ((RR : Int) + 1 - 1).toNat = RR by omega, range_1]; exact h⟩) (un1 rfl) (by rw [List.length_range]; exact small_line (by omega)) (fun x hx R hq => ?_) ?_
    · exact ⟨small_line (by simp), hq _ rfl⟩
    · refine ⟨?_, hR2 _ ⟨.d (.int (0 + (i : Int))), ?_⟩⟩
      · rw [List.length_map, cardsTo_len, List.length_map, List.length_range]
        have : i * RR ≤ 3 * RR := Nat.mul_le_mul_right _ (by omega)
        exact small_line (by omega)
      · rw [cardsTo_succ, List.map_append, List.map_map, Int.zero_add]; rfl
  · obtain ⟨a2, rfl⟩ := hE
    rw [rangeD_length]
    exact hR _ q
/-! ### sorted hands -/
def le2 (p q : Card) : Bool := decide (p.1 < q.1 ∨ (p.1 = q.1 ∧ p.2 ≤ q.2))
def sortC (h : List Card) : List Card := h.mergeSort le2
theorem le2_total : PySem.W.TotalLe le2 := by
  constructor
  · intro a b c h1 h2
    have h1 := of_decide_eq_true h1
    have h2 := of_decide_eq_true h2
    exact decide_eq_true (by omega)
  · intro a b
    unfold le2
    by_cases h : a.1 < b.1 ∨ (a.1 = b.1 ∧ a.2 ≤ b.2)
    · exact .inl (decide_eq_true h)
    · exact .inr (decide_eq_true (by omega))
theorem sortC_perm (h : List Card) : (sortC h).Perm h := List.mergeSort_perm _ _
theorem sortC_up (h : List Card) : (sortC h).Pairwise fun a b => le2 a b = true := PySem.W.sort_pairwise le2_total h
theorem sort_cards (h : List Card) : sortD false (h.map cE) = (sortC h).map cE := by
  unfold sortD sortC
  refine (PySem.W.sort_maps (r := le2) (s := PySem.W.dataLe false fun d : D => d) cE fun a _ b _ => ?_).symm
  have := congrFun (congrFun (PySem.W.dataLe_ii (β := Card) (fun b => b.1) (fun b => b.2)) a) b
  exact this.symm
theorem sortOk_cards (h : List Card) : sortOk (h.map cE) := by
  refine ⟨fun d hd e he => ?_, .inl fun d hd => ?_, fun d hd => ?_⟩
  · obtain ⟨a, _, rfl⟩ := List.mem_map.mp hd
    obtain ⟨b, _, rfl⟩ := List.mem_map.mp he
    rfl
  · obtain ⟨a, _, rfl⟩ := List.mem_map.mp hd
    exact ⟨_, _, rfl⟩
  · obtain ⟨a, _, rfl⟩ := List.mem_map.mp hd
    simp [cE, PyData.depth, PyData.depthAll, PyData.canLay0, PyData.canLayAll0]
theorem perm_map_inv {α β : Type} {f : α → β} {l m : List β} (h : l.Perm m) : ∀ xs : List α, m = xs.map f → ∃ zs : List α, zs.Perm xs ∧ l = zs.map f := by
  induction h with
  | nil => intro xs e; exact ⟨xs, List.Perm.refl _, e⟩
  | cons x h ih =>
    intro xs e
    cases xs with
    | nil => cases e
    | cons y ys =>
      rw [List.map_cons] at e
      injection e with e1 e2
      obtain ⟨zs, h1, h2⟩ := ih ys e2
      exact ⟨y :: zs, h1.cons y, by rw [List.map_cons, e1, h2]⟩
  | swap x y l =>
    intro xs e
    match xs, e with
    | a :: b :: r, e =>
      rw [List.map_cons, List.map_cons] at e
      injection e with e1 e2
      injection e2 with e2 e3
      exact ⟨b :: a :: r, List.Perm.swap _ _ _, by rw [List.map_cons, List.map_cons, e1, e2, e3]⟩
  | trans h1 h2 ih1 ih2 =>
    intro xs e
    obtain ⟨zs, p1, e1⟩ := ih2 xs e
    obtain ⟨ws, p2, e2⟩ := ih1 zs e1
    exact ⟨ws, p2.trans p1, e2⟩
def cutH (zs : List Card) (R i : Nat) : List Card := (zs.take (i * R + R)).drop (i * R)
theorem cutH_len {zs : List Card} {R i : Nat} (hz : zs.length = 4 * R) (hi : i < 4) : (cutH zs R i).length = R := by
  unfold cutH
  have : i * R + R ≤ 4 * R := by rw [show i * R + R = (i + 1) * R by rw [Nat.add_mul]; omega]; exact Nat.mul_le_mul_right _ (by omega)
  rw [List.length_drop, List.length_take]; omega
theorem cutH_all {zs : List Card} {R : Nat} (hz : zs.length = 4 * R) : cutH zs R 0 ++ cutH zs R 1 ++ cutH zs R 2 ++ cutH zs R 3 = zs := by
  unfold cutH
  have e0 : (zs.take (0 * R + R)).drop (0 * R) = zs.take R := by simp
  have step : ∀ n : Nat, zs.take n ++ (zs.take (n + R)).drop n = zs.take (n + R) := fun n => by
    rw [List.drop_take, Nat.add_sub_cancel_left, List.take_add]
  rw [e0]
  have s1 := step R
  have s2 := step (R + R)
  have s3 := step (R + R + R)
  rw [show 1 * R = R by omega, show 2 * R = R + R by omega, show 3 * R = R + R + R by omega, s1, s2, s3, List.take_of_length_le (by omega)]
/-! ### _law_drawn_deal -/
def dealD (h0 h1 h2 h3 : List Card) : D := .tuple [handD h0, handD h1, handD h2, handD h3]
structure Deal (R : Nat) (h0 h1 h2 h3 : List Card) : Prop where
  l0 : h0.length = R
  l1 : h1.length = R
  l2 : h2.length = R
  l3 : h3.length = R
  u0 : h0.Pairwise fun a b => le2 a b = true
  u1 : h1.Pairwise fun a b => le2 a b = true
  u2 : h2.Pairwise fun a b => le2 a b = true
  u3 : h3.Pairwise fun a b => le2 a b = true
  all : (h0 ++ h1 ++ h2 ++ h3).Perm (allC R)
def spDeal : SpD := fun ss Q => ∃ (ns : List Int) (t : List D) (R b : Nat), ss = [.d (.list (ns.map PyData.int)), .ol t, .d (.int R)] ∧ R ≤ 100 ∧ ns.length ≤ 63 ∧ TownOk t b ∧ b ≤ 9000000 ∧
  ∀ h0 h1 h2 h3 t', Deal R h0 h1 h2 h3 → TownOk t' (b + 8 * R) → Q (dealD h0 h1 h2 h3) [.ol t']
theorem sh_law_drawn_deal : ∀ ss QD, spDeal ss QD → ss.length = 3 ∧ mpos 0 ss = [1] := by rintro ss QD ⟨ns, t, R, b, rfl, _⟩; exact ⟨rfl, rfl⟩
theorem rd_law_drawn_deal : ∀ ss QD, spDeal ss QD → tb_law_drawn_deal spAllC spMixed { nx := fun E' => finO [1] E' (QD .none), rt := fun d E' => finO [1] E' (QD d) } (ss ++ List.replicate 2 .un) := by
  rintro ss QD ⟨ns, t, RR, b, rfl, hRR, hn, ht, hb, q⟩
  unfold tb_law_drawn_deal
  refine seq_step fun R hR => ?_
  walk_at "dl"
  refine ⟨RR, rfl, hRR, ?_⟩
  walk_at "dl"
  refine ⟨ns, t, _, b, rfl, hn, by rw [List.length_map, allC_len]; omega, ht, hb, fun ys t2 hp ht2 => ?_⟩
  walk_at "dl"
  refine hR _ ?_
  obtain ⟨zs, hz, rfl⟩ := perm_map_inv hp _ rfl
  have hzl : zs.length = 4 * RR := by rw [hz.length_eq, allC_len]
  walk_at "dl"
  refine comp_map (E1 := [.d (.list (ns.map PyData.int)), .ol t2, .d (.int RR), .d (.list (zs.map cE)), .un]) (List.range 4) (fun i : Nat => .int (i : Int)) (fun i : Nat => handD (sortC (cutH zs RR i))) (fun Q h => ⟨⟨by decide, by decide⟩, by rw [show (4 : Int).toNat = 4 from rfl, show rangeD 0 4 = (List.range 4).map fun i : Nat => PyData.int (i : Int) from rfl]; exact h⟩) (un1 rfl) (small_line (by decide)) (fun i hi R hq => ?_) ?_
  · have hi := List.mem_range.mp hi
    have hm : (i : Int) * (RR : Int) = ((i * RR : Nat) : Int) := by simp
    have hb1 : i * RR ≤ 300 := Nat.le_trans (Nat.mul_le_mul_right _ (show i ≤ 3 by omega)) (by omega)
    walk_at "dl"
    refine ⟨cmul_small (by omega) (by omega), cmul_small (by omega) (by omega), ?_⟩
    rw [hm, cut_mid (by omega) (by omega), Int.toNat_natCast, show (((i * RR : Nat) : Int) + (RR : Int)).toNat = i * RR + RR by omega, ← List.map_take, ← List.map_drop]
    refine ⟨sortOk_cards _, ?_⟩
    rw [sort_cards]
    exact hq _ rfl
  · refine q (sortC (cutH zs RR 0)) (sortC (cutH zs RR 1)) (sortC (cutH zs RR 2)) (sortC (cutH zs RR 3)) t2 ⟨?_, ?_, ?_, ?_, sortC_up _, sortC_up _, sortC_up _, sortC_up _, ?_⟩ (ht2.mono (by rw [List.length_map, allC_len]; omega))
    · rw [(sortC_perm _).length_eq, cutH_len hzl (by decide)]
    · rw [(sortC_perm _).length_eq, cutH_len hzl (by decide)]
    · rw [(sortC_perm _).length_eq, cutH_len hzl (by decide)]
    · rw [(sortC_perm _).length_eq, cutH_len hzl (by decide)]
    · refine List.Perm.trans ?_ hz
      have := cutH_all hzl
      exact ((((sortC_perm _).append (sortC_perm _)).append (sortC_perm _)).append (sortC_perm _)).trans (by rw [this])
end DL

set_option Elab.async false
set_option linter.all false
set_option maxRecDepth 100000
set_option maxHeartbeats 4000000
namespace DL
open PySem PySem.Spec PyProof.Rows L2
local macro_rules | `(tactic| walk_at "dl") => `(tactic| simp only [tV, tVr, tFzV, turnD, DL.wipeE, tK, tOpD, tUnD, tBo, tAndD, tOrD, tNotD, tIfE, DL.tAndV, DL.tOrV, DL.tNotV, tTru, truD, okLen, sSet, sSetL, sExpr, sRet, sIf, sNx, tTupD, dNil, dCons, tLstD, tFzD, tApp, tExtd, tPopAt, sSetIx, tIxO, tChainD, tChain3D, tRevT, caStr, opRepT, opAdd, opSub, opMul, opDiv, opMod, opPow, DL.opI, DL.opI0, opB0, opLt, opLe, opGt, opGtD, opLtD, opGe, opEq, opNe, opIs, opIsN, isNone, opIn, opNotIn, opIx, atD_0, atD_1, atD_2, atD_3, putD_0, unNeg, tCa1, tCa2, tCaL1, caLen, caAbs, caMax2, caMin2, caSum, caMax, caMin, caSumT, caMaxT, caMinT, caAll, caTuple, caList, caInt, tIsi, isInt, isBool, isStr, isTuple, isList, notDict, sAsg, gSet, gTupD, gsNil, gsCons, sPar, pNil, pD, pL, setAll, tCallD, aNil, aV, aO, argS, oixs, ndp, putO, tOpL, opCat, opRep, tSlD, slD, tSlL, oNo, oE, tRevD, iLstD, iTupD, iRange1, iRange2, iZipD, iZipM, finO, tTrue, Option.map, eqv_int, eqv_bool, eqv_none, shaped_int, shaped_bool, shaped_none, tLenRange, tSortSet, tLenSet, tLenSetP, tSortSetP, tCountL, tCountT, tIndexL, tIndexT, DL.tOrT, DL.tAndT, DL.tNotT, tSortRev, caSorted, iEnumL, iEnumT, tDGetV, tDGetD, tDGet2V, dictAt, sDPutV, sSetM, mDt, mDk, pM, tInN, tNotInN, keyB_2, keyB_3, keyB_4, decide_eq_true_eq, and_self, List.cons_append, List.nil_append, List.replicate, List.getElem?_cons_zero, List.getElem?_cons_succ, List.set_cons_zero, List.set_cons_succ, List.length_cons, List.length_nil, true_and, and_true, if_true, if_false, Bool.false_eq_true, List.contains_nil, Bool.not_false, Bool.not_true, Bool.and_self, Bool.and_true, Bool.true_and, decide_true, decide_false, beq_self_eq_true])
def tb_is_whole : TSd :=
  sRet (tAndV (tIsi isInt (tV 0)) (tNotV (tIsi isBool (tV 0))))
def tb_is_card (sp_is_whole : SpD) : TSd :=
  sSeq (sIf (tOrD (tNotD (tTru (tIsi isTuple (tV 1)))) (tOrD (tBo (tOpD opNe (tCa1 caLen (tV 1)) (tK (.int 2)))) (tOrD (tNotD (tTru (tCallD sp_is_whole (aV (tOpD opIx (tV 1) (tK (.int 0))) (aNil))))) (tNotD (tTru (tCallD sp_is_whole (aV (tOpD opIx (tV 1) (tK (.int 1))) (aNil)))))))) (sRet (tK (.bool false))) (sNx))
      (sRet (tAndV (tChainD opLe opLe (tK (.int 0)) (tOpD opIx (tV 1) (tK (.int 0))) (tK (.int 3))) (tChainD opLe opLe (tK (.int 1)) (tOpD opIx (tV 1) (tK (.int 1))) (tV 0))))
def tb_law_is_card : TSd :=
  sSeq (sIf (tOrD (tNotD (tTru (tIsi isTuple (tV 1)))) (tBo (tOpD opNe (tCa1 caLen (tV 1)) (tK (.int 2))))) (sRet (tK (.bool false))) (sNx))
      (sSeq (sIf (tTru (tFzD (tComp (iTupD (tV 1)) (gSet 2) (tOrD (tNotD (tTru (tIsi isInt (tV 2)))) (tTru (tIsi isBool (tV 2)))) (tV 2) [2]))) (sRet (tK (.bool false))) (sNx))
      (sRet (tAndV (tChainD opLe opLt (tK (.int 0)) (tOpD opIx (tV 1) (tK (.int 0))) (tK (.int 4))) (tChainD opLt opLe (tK (.int 0)) (tOpD opIx (tV 1) (tK (.int 1))) (tV 0)))))
/-! ### plain: hands and deals -/
instance (a b : Card) : Decidable (ltC a b) := by unfold ltC; infer_instance
theorem lt_cE (a b : Card) : PySem.W.dataLt (cE a) (cE b) = decide (ltC a b) := by
  unfold cE; rw [PySem.W.dataLt_ii]; rfl
theorem ltC_trans {a b c : Card} (h1 : ltC a b) (h2 : ltC b c) : ltC a c := by unfold ltC at *; omega
theorem ltC_irr (a : Card) : ¬ ltC a a := by unfold ltC; omega
theorem up_of : ∀ cs : List Card, (∀ k a b, cs[k]? = some a → cs[k + 1]? = some b → ltC a b) → cs.Pairwise ltC
  | [], _ => .nil
  | [a], _ => List.pairwise_singleton _ _
  | a :: b :: r, h => by
    have ih := up_of (b :: r) fun k x y hx hy => h (k + 1) x y (by simpa using hx) (by simpa using hy)
    refine List.pairwise_cons.mpr ⟨fun x hx => ?_, ih⟩
    have hab := h 0 a b rfl rfl
    rcases List.mem_cons.mp hx with rfl | hx
    · exact hab
    · exact ltC_trans hab ((List.pairwise_cons.mp ih).1 x hx)
theorem up_unique : ∀ {cs zs : List Card}, cs.Pairwise ltC → zs.Pairwise ltC → (∀ c, c ∈ zs ↔ c ∈ cs) → cs = zs
  | [], [], _, _, _ => rfl
  | [], z :: zs, _, _, h => absurd ((h z).mp (List.mem_cons_self ..)) (by simp)
  | c :: cs, [], _, _, h => absurd ((h c).mpr (List.mem_cons_self ..)) (by simp)
  | c :: cs, z :: zs, hc, hz, h => by
    have e : c = z := by
      have h1 := (h c).mpr (List.mem_cons_self ..)
      have h2 := (h z).mp (List.mem_cons_self ..)
      rcases List.mem_cons.mp h1 with e | h1
      · exact e
      · rcases List.mem_cons.mp h2 with e | h2
        · exact e.symm
        · exact absurd (ltC_trans ((List.pairwise_cons.mp hc).1 z h2) ((List.pairwise_cons.mp hz).1 c h1)) (ltC_irr c)
    subst e
    rw [up_unique (List.pairwise_cons.mp hc).2 (List.pairwise_cons.mp hz).2 fun x => ?_]
    have hx := h x
    rw [List.mem_cons, List.mem_cons] at hx
    constructor
    · intro m
      rcases hx.mp (.inr m) with e | m'
      · exact absurd ((List.pairwise_cons.mp hz).1 x m) (by rw [e]; exact ltC_irr c)
      · exact m'
    · intro m
      rcases hx.mpr (.inr m) with e | m'
      · exact absurd ((List.pairwise_cons.mp hc).1 x m) (by rw [e]; exact ltC_irr c)
      · exact m'
theorem perm_of : ∀ (a b : List Card), a.Nodup → (∀ x ∈ a, x ∈ b) → b.length ≤ a.length → a.Perm b
  | [], b, _, _, hl => by
    have : b = [] := List.eq_nil_of_length_eq_zero (by simpa using hl)
    rw [this]
  | x :: a, b, nd, hs, hl => by
    have hx : x ∈ b := hs x (List.mem_cons_self ..)
    have nd2 := List.nodup_cons.mp nd
    have ih := perm_of a (b.erase x) nd2.2 (fun y hy => (List.mem_erase_of_ne (fun e => nd2.1 (by rw [← e]; exact hy))).mpr (hs y (List.mem_cons_of_mem _ hy))) (by rw [List.length_erase_of_mem hx]; rw [List.length_cons] at hl; omega)
    exact (ih.cons x).trans (List.perm_cons_erase hx).symm
theorem nodup_len : ∀ (a b : List Card), a.Nodup → (∀ x ∈ a, x ∈ b) → a.length ≤ b.length
  | [], b, _, _ => Nat.zero_le _
  | x :: a, b, nd, hs => by
    have hx : x ∈ b := hs x (List.mem_cons_self ..)
    have nd2 := List.nodup_cons.mp nd
    have ih := nodup_len a (b.erase x) nd2.2 (fun y hy => (List.mem_erase_of_ne (fun e => nd2.1 (by rw [← e]; exact hy))).mpr (hs y (List.mem_cons_of_mem _ hy)))
    rw [List.length_erase_of_mem hx] at ih
    have := List.length_pos_of_mem hx
    rw [List.length_cons]; omega
theorem len_nodup {L zs : List Card} (nd : zs.Nodup) (h : ∀ c, c ∈ zs ↔ c ∈ L) : zs.length = L.length ↔ L.Nodup := by
  constructor
  · intro e
    exact (perm_of zs L nd (fun x hx => (h x).mp hx) (by omega)).nodup_iff.mp nd
  · intro nl
    have h1 := nodup_len zs L nd fun x hx => (h x).mp hx
    have h2 := nodup_len L zs nl fun x hx => (h x).mpr hx
    omega
def okC (R : Nat) (c : Card) : Prop := 0 ≤ c.1 ∧ c.1 ≤ 3 ∧ 1 ≤ c.2 ∧ c.2 ≤ R
def goodR (R : Nat) : Prop := R ∈ ([1, 2, 3, 4, 5, 6, 8, 13] : List Nat)
theorem goodR.le {R : Nat} (h : goodR R) : 1 ≤ R ∧ R ≤ 13 := (by decide : ∀ z ∈ ([1, 2, 3, 4, 5, 6, 8, 13] : List Nat), 1 ≤ z ∧ z ≤ 13) R h
theorem mem_all {R : Nat} {c : Card} (h : okC R c) : c ∈ allC R := by
  unfold allC okC at *
  refine List.mem_flatMap.mpr ⟨c.1.toNat, List.mem_range.mpr (by omega), List.mem_map.mpr ⟨(c.2 - 1).toNat, List.mem_range.mpr (by omega), ?_⟩⟩
  refine Prod.ext ?_ ?_
  · show ((c.1.toNat : Nat) : Int) = c.1
    omega
  · show (((c.2 - 1).toNat : Nat) : Int) + 1 = c.2
    omega
theorem le2_antisymm {a b : Card} (h1 : le2 a b = true) (h2 : le2 b a = true) : a = b := by
  unfold le2 at h1 h2
  have h1 := of_decide_eq_true h1
  have h2 := of_decide_eq_true h2
  exact Prod.ext (by omega) (by omega)
theorem sortC_eq {a b : List Card} (h : a.Perm b) : sortC a = sortC b :=
  List.Perm.eq_of_pairwise (le := fun a b => le2 a b = true) (fun a b _ _ h1 h2 => le2_antisymm h1 h2) (sortC_up a) (sortC_up b) (((sortC_perm a).trans h).trans (sortC_perm b).symm)
theorem allC_up {R : Nat} (h : goodR R) : (allC R).Nodup ∧ (allC R).Pairwise (fun a b => le2 a b = true) := (by decide +kernel : ∀ z ∈ ([1, 2, 3, 4, 5, 6, 8, 13] : List Nat), (allC z).Nodup ∧ (allC z).Pairwise (fun a b => le2 a b = true)) R h
theorem allC_ok {R : Nat} (h : goodR R) : (allC R).Nodup ∧ sortC (allC R) = allC R :=
  ⟨(allC_up h).1, List.Perm.eq_of_pairwise (le := fun a b => le2 a b = true) (fun a b _ _ h1 h2 => le2_antisymm h1 h2) (sortC_up _) (allC_up h).2 (sortC_perm _)⟩
theorem sort_all {R : Nat} (hR : goodR R) {L : List Card} (hk : ∀ c ∈ L, okC R c) (hl : L.length = 4 * R) : sortC L = allC R ↔ L.Nodup := by
  constructor
  · intro e
    have := (sortC_perm L).nodup_iff.mp (by rw [e]; exact (allC_ok hR).1)
    exact this
  · intro nd
    rw [sortC_eq (perm_of L (allC R) nd (fun x hx => mem_all (hk x hx)) (by rw [allC_len]; omega)), (allC_ok hR).2]
def HandP (R : Nat) (d : D) : Prop := ∃ cs : List Card, d = .tuple (cs.map cE) ∧ cs.length = R ∧ (∀ c ∈ cs, okC R c) ∧ cs.Pairwise ltC
noncomputable def isHandB (R : Nat) (d : D) : Bool := @decide (HandP R d) (Classical.propDecidable _)
theorem hand_yes {R : Nat} {d : D} (h : HandP R d) : isHandB R d = true := by unfold isHandB; exact @decide_eq_true _ (Classical.propDecidable _) h
theorem hand_no {R : Nat} {d : D} (h : ¬ HandP R d) : isHandB R d = false := by unfold isHandB; exact @decide_eq_false _ (Classical.propDecidable _) h
theorem of_hand {R : Nat} {d : D} (h : isHandB R d = true) : HandP R d := by unfold isHandB at h; exact @of_decide_eq_true _ (Classical.propDecidable _) h
def DealP (R : Nat) (d : D) : Prop := ∃ h0 h1 h2 h3 : List Card, d = .tuple [handD h0, handD h1, handD h2, handD h3] ∧ (HandP R (handD h0) ∧ HandP R (handD h1) ∧ HandP R (handD h2) ∧ HandP R (handD h3)) ∧ (h0 ++ h1 ++ h2 ++ h3).Nodup
noncomputable def isDealB (R : Nat) (d : D) : Bool := @decide (DealP R d) (Classical.propDecidable _)
theorem deal_yes {R : Nat} {d : D} (h : DealP R d) : isDealB R d = true := by unfold isDealB; exact @decide_eq_true _ (Classical.propDecidable _) h
theorem deal_no {R : Nat} {d : D} (h : ¬ DealP R d) : isDealB R d = false := by unfold isDealB; exact @decide_eq_false _ (Classical.propDecidable _) h
theorem cE_inj {a b : Card} (h : cE a = cE b) : a = b := by
  unfold cE at h
  injection h with h
  injection h with h1 h2
  injection h2 with h2 _
  injection h1 with h1
  injection h2 with h2
  exact Prod.ext h1 h2
theorem map_cE_inj : ∀ {a b : List Card}, a.map cE = b.map cE → a = b
  | [], [], _ => rfl
  | [], _ :: _, h => by cases h
  | _ :: _, [], h => by cases h
  | x :: a, y :: b, h => by
    rw [List.map_cons, List.map_cons] at h
    injection h with h1 h2
    rw [cE_inj h1, map_cE_inj h2]
theorem handD_inj {a b : List Card} (h : handD a = handD b) : a = b := by
  unfold handD at h; injection h with h; exact map_cE_inj h
theorem hand_of {R : Nat} {h : List Card} (hp : HandP R (handD h)) : h.length = R ∧ (∀ c ∈ h, okC R c) ∧ h.Pairwise ltC := by
  obtain ⟨cs, e, h1, h2, h3⟩ := hp
  have : h = cs := handD_inj (by rw [e]; rfl)
  rw [this]; exact ⟨h1, h2, h3⟩
/-! ### is_whole, is_card -/
def wholeD : D → Bool
  | .int _ => true
  | _ => false
def isCardD (R : Nat) : D → Bool
  | .tuple [.int a, .int b] => decide (0 ≤ a) && (decide (a ≤ 3) && (decide (1 ≤ b) && decide (b ≤ (R : Int))))
  | _ => false
theorem card_is {R : Nat} {d : D} (h : isCardD R d = true) : ∃ c : Card, d = cE c ∧ okC R c := by
  unfold isCardD at h
  split at h
  · rename_i a b
    simp only [Bool.and_eq_true, decide_eq_true_eq] at h
    exact ⟨(a, b), rfl, h⟩
  · cases h
theorem card_ok {R : Nat} {c : Card} (h : okC R c) : isCardD R (cE c) = true := by
  show (decide (0 ≤ c.1) && (decide (c.1 ≤ 3) && (decide (1 ≤ c.2) && decide (c.2 ≤ (R : Int))))) = true
  simp only [Bool.and_eq_true, decide_eq_true_eq]
  exact h
theorem cards_of {R : Nat} : ∀ {ds : List D}, (∀ x ∈ ds, isCardD R x = true) → ∃ cs : List Card, ds = cs.map cE ∧ ∀ c ∈ cs, okC R c
  | [], _ => ⟨[], rfl, fun _ h => nomatch h⟩
  | d :: ds, h => by
    obtain ⟨c, rfl, hc⟩ := card_is (h d (List.mem_cons_self ..))
    obtain ⟨cs, rfl, hcs⟩ := cards_of fun x hx => h x (List.mem_cons_of_mem _ hx)
    exact ⟨c :: cs, rfl, fun x hx => by rcases List.mem_cons.mp hx with rfl | hx; exact hc; exact hcs x hx⟩
def spWhole : SpD := fun ss Q => ∃ d, ss = [.d d] ∧ notDict d ∧ Q (.bool (wholeD d)) []
theorem sh_is_whole : ∀ ss QD, spWhole ss QD → ss.length = 1 ∧ mpos 0 ss = [] := by rintro ss QD ⟨d, rfl, _⟩; exact ⟨rfl, rfl⟩
theorem rd_is_whole : ∀ ss QD, spWhole ss QD → tb_is_whole { nx := fun E' => finO [] E' (QD .none), rt := fun d E' => finO [] E' (QD d) } (ss ++ List.replicate 0 .un) := by
  rintro ss QD ⟨d, rfl, hd, q⟩
  unfold tb_is_whole
  cases d with
  | dict _ => exact hd.elim
  | int i => exact ⟨trivial, trivial, q⟩
  | bool i => exact ⟨trivial, trivial, q⟩
  | _ => exact ⟨trivial, q⟩
theorem nd_of {n : Nat} {d : D} (h : bnd n d = true) : notDict d := by
  cases d with
  | dict _ => cases n <;> cases h
  | _ => trivial
theorem card_no {R : Nat} {x y : D} (h : wholeD x = false ∨ wholeD y = false) : isCardD R (.tuple [x, y]) = false := by
  cases x with
  | int a =>
    cases y with
    | int b => rcases h with h | h <;> cases h
    | _ => rfl
  | _ => rfl
theorem card_len {R : Nat} {ds : List D} (h : ds.length ≠ 2) : isCardD R (.tuple ds) = false := by
  match ds, h with
  | [], _ => rfl
  | [x], _ => cases x <;> rfl
  | [x, y], h => exact absurd rfl h
  | x :: y :: z :: r, _ => cases x <;> cases y <;> rfl
def spIsCard : SpD := fun ss Q => ∃ (R : Nat) (d : D), ss = [.d (.int R), .d d] ∧ bnd 20 d = true ∧ Q (.bool (isCardD R d)) []
theorem sh_is_card : ∀ ss QD, spIsCard ss QD → ss.length = 2 ∧ mpos 0 ss = [] := by rintro ss QD ⟨R, d, rfl, _⟩; exact ⟨rfl, rfl⟩
theorem sh_law_is_card : ∀ ss QD, spIsCard ss QD → ss.length = 2 ∧ mpos 0 ss = [] := sh_is_card
theorem rd_is_card : ∀ ss QD, spIsCard ss QD → tb_is_card spWhole { nx := fun E' => finO [] E' (QD .none), rt := fun d E' => finO [] E' (QD d) } (ss ++ List.replicate 0 .un) := by
  rintro ss QD ⟨R0, d, rfl, hd, q⟩
  unfold tb_is_card
  refine seq_step fun R hR => ?_
  cases d with
  | dict _ => cases hd
  | tuple ds =>
    by_cases h2 : ds.length = 2
    · match ds, h2, hd, q with
      | [x, y], _, hd, q =>
        have hx := (of_bnd_tup hd).1
        have ndx : notDict x := nd_of (hx x (by simp))
        have ndy : notDict y := nd_of (hx y (by simp))
        walk_at "dl"
        refine ⟨x, rfl, ndx, ?_⟩
        walk_at "dl"
        by_cases hx1 : wholeD x = true
        · refine ifF (by rw [hx1]; rfl) ⟨y, rfl, ndy, ?_⟩
          walk_at "dl"
          by_cases hy1 : wholeD y = true
          · refine ifF (by rw [hy1]; rfl) (hR _ ?_)
            cases x with
            | int a =>
              cases y with
              | int b =>
                have q : QD (.bool (decide (0 ≤ a) && (decide (a ≤ 3) && (decide (1 ≤ b) && decide (b ≤ (R0 : Int)))))) [] := q
                walk_at "dl"
                by_cases h1 : 0 ≤ a
                · rw [decide_eq_true h1, Bool.true_and] at q
                  rw [decide_eq_true h1]
                  by_cases h3 : a ≤ 3
                  · rw [decide_eq_true h3, Bool.true_and] at q
                    rw [decide_eq_true h3]
                    by_cases h4 : 1 ≤ b
                    · rw [decide_eq_true h4, Bool.true_and] at q
                      rw [decide_eq_true h4]
                      exact q
                    · rw [decide_eq_false h4, Bool.false_and] at q
                      rw [decide_eq_false h4]
                      exact q
                  · rw [decide_eq_false h3, Bool.false_and] at q
                    rw [decide_eq_false h3]
                    exact q
                · rw [decide_eq_false h1, Bool.false_and] at q
                  rw [decide_eq_false h1]
                  exact q
              | _ => cases hy1
            | _ => cases hx1
          · have hy0 : wholeD y = false := by simpa using hy1
            rw [card_no (.inr hy0)] at q
            exact ifT (by rw [hy0]; rfl) q
        · have hx0 : wholeD x = false := by simpa using hx1
          rw [card_no (.inl hx0)] at q
          exact ifT (by rw [hx0]; rfl) q
    · walk_at "dl"
      rw [card_len h2] at q
      exact ifT (by rw [decide_eq_false (by omega)]; rfl) q
  | _ => exact ⟨trivial, trivial, q⟩
theorem bad_one {d : D} (h : notDict d) : (!wholeD d) = (!isInt d || isBool d) := by cases d <;> first | exact h.elim | rfl
theorem rd_law_is_card : ∀ ss QD, spIsCard ss QD → tb_law_is_card { nx := fun E' => finO [] E' (QD .none), rt := fun d E' => finO [] E' (QD d) } (ss ++ List.replicate 1 .un) := by
  rintro ss QD ⟨R0, d, rfl, hd, q⟩
  unfold tb_law_is_card
  refine seq_step fun R hR => ?_
  cases d with
  | dict _ => cases hd
  | tuple ds =>
    by_cases h2 : ds.length = 2
    · match ds, h2, hd, q with
      | [x, y], _, hd, q =>
        have hx := (of_bnd_tup hd).1
        have ndx : notDict x := nd_of (hx x (by simp))
        have ndy : notDict y := nd_of (hx y (by simp))
        walk_at "dl"
        refine hR _ ?_
        refine seq_step fun R hR => ?_
        refine comp_filter (E1 := [.d (.int R0), .d (.tuple [x, y]), .un]) [x, y] (fun z => z) (fun z => !wholeD z) (fun z => z) (fun Q h => h) (un1 rfl) (small_line (by simp)) (fun z hz R3 hq => ?_) ?_
        · have ndz : notDict z := by
            rcases List.mem_cons.mp hz with rfl | hz
            · exact ndx
            · rw [List.mem_singleton.mp hz]; exact ndy
          rw [bad_one ndz] at hq
          walk_at "dl"
          cases z with
          | dict _ => exact ndz.elim
          | int _ => exact ⟨trivial, trivial, hq _ rfl⟩
          | bool _ => exact ⟨trivial, trivial, hq _ rfl⟩
          | _ => exact ⟨trivial, hq _ rfl⟩
        by_cases hx1 : wholeD x = true
        · by_cases hy1 : wholeD y = true
          · cases x with
            | int a =>
              cases y with
              | int b =>
                have q : QD (.bool (decide (0 ≤ a) && (decide (a ≤ 3) && (decide (1 ≤ b) && decide (b ≤ (R0 : Int)))))) [] := q
                refine ⟨trivial, hR _ ?_⟩
                walk_at "dl"
                by_cases h1 : 0 ≤ a
                · rw [decide_eq_true h1, Bool.true_and] at q
                  rw [decide_eq_true h1]
                  by_cases h3 : a ≤ 3
                  · rw [decide_eq_true h3, Bool.true_and] at q
                    rw [decide_eq_true (show a < 4 by omega)]
                    by_cases h4 : 1 ≤ b
                    · rw [decide_eq_true h4, Bool.true_and] at q
                      rw [decide_eq_true (show 0 < b by omega)]
                      exact q
                    · rw [decide_eq_false h4, Bool.false_and] at q
                      rw [decide_eq_false (show ¬ 0 < b by omega)]
                      exact q
                  · rw [decide_eq_false h3, Bool.false_and] at q
                    rw [decide_eq_false (show ¬ a < 4 by omega)]
                    exact q
                · rw [decide_eq_false h1, Bool.false_and] at q
                  rw [decide_eq_false h1]
                  exact q
              | _ => cases hy1
            | _ => cases hx1
          · have hy0 : wholeD y = false := by simpa using hy1
            have e : List.filter (fun z => !wholeD z) [x, y] = [y] := by
              rw [List.filter_cons_of_neg (by rw [hx1]; decide), List.filter_cons_of_pos (by simpa using hy1)]; rfl
            rw [e]
            rw [card_no (.inr hy0)] at q
            exact ⟨trivial, q⟩
        · have hx0 : wholeD x = false := by simpa using hx1
          have e : ∃ l, List.filter (fun z => !wholeD z) [x, y] = x :: l := ⟨_, by rw [List.filter_cons_of_pos (by simpa using hx1)]⟩
          obtain ⟨l, e⟩ := e
          rw [e]
          rw [card_no (.inl hx0)] at q
          exact ⟨trivial, q⟩
    · walk_at "dl"
      rw [card_len h2] at q
      exact ifT (by rw [decide_eq_false (by omega)]; rfl) q
  | _ => exact ⟨trivial, trivial, q⟩
end DL

set_option Elab.async false
set_option linter.all false
set_option maxRecDepth 100000
set_option maxHeartbeats 4000000
/-! FnRndT: rounds, plain Lean. -/
namespace DL
open PySem PySem.Spec PyProof.Rows L2
abbrev T3 := Int × Int × Int
def e3T (t : T3) : D := .tuple [.int t.1, .int t.2.1, .int t.2.2]
def rowT (l : List T3) : D := .tuple (l.map e3T)
def planD (p : List (List T3)) : D := .tuple (p.map rowT)
/-! ### turning -/
def evenT (n : Nat) : Bool := decide (n % 2 = 0)
def goneT (n k : Nat) : Nat := k + (if evenT n = true ∧ 2 * k ≥ n then 1 else 0)
def turnR (n k : Nat) : List T3 := (List.range n).map fun t : Nat => ((t : Int), (n : Int) + ((t : Int) - (goneT n k : Int)) % (n : Int), ((t : Int) + (k : Int)) % (n : Int))
def turnP (n m : Nat) : List (List T3) := (List.range m).map (turnR n)
def turnOk (n : Nat) (m : Int) : Bool := decide (1 ≤ m ∧ m ≤ (n : Int) - (if evenT n = true then 1 else 0))
/-! ### by hand -/
def rotR {α : Type} (l : List α) : List α := l.drop (l.length - 1) ++ l.take (l.length - 1)
def rotL {α : Type} (l : List α) : List α := l.drop 1 ++ l.take 1
def othersT (n : Nat) : Nat → List Int
  | 0 => (List.range n).map fun a : Nat => (n : Int) + (a : Int)
  | k + 1 => let o := rotR (othersT n k); if evenT n = true ∧ 2 * (k + 1) = n then rotR o else o
def setsR (n : Nat) : Nat → List Int
  | 0 => (List.range n).map fun a : Nat => (a : Int)
  | k + 1 => rotL (setsR n k)
def handR (n k : Nat) : List T3 := (List.range n).map fun a : Nat => ((a : Int), (othersT n k).getD a 0, (setsR n k).getD a 0)
/-! ### faults -/
structure FSt where
  met : List (Int × Int)
  had : List (Int × Int)
def rowBad (st : FSt) (seat : List Int) (t : T3) : Option Str :=
  if t.1 ∈ seat ∨ t.2.1 ∈ seat ∨ t.1 = t.2.1 then some "twice"
  else if (t.1, t.2.1) ∈ st.met ∨ (t.2.1, t.1) ∈ st.met then some "met"
  else if (t.1, t.2.2) ∈ st.had ∨ (t.2.1, t.2.2) ∈ st.had then some "set" else none
def FSt.add (st : FSt) (t : T3) : FSt := ⟨st.met ++ [(t.1, t.2.1)], st.had ++ [(t.1, t.2.2), (t.2.1, t.2.2)]⟩
def rowGo : List T3 → Nat → FSt → List Int → Except (Nat × Str) FSt
  | [], _, st, _ => .ok st
  | t :: ts, i, st, seat => match rowBad st seat t with
    | some w => .error (i, w)
    | none => rowGo ts (i + 1) (st.add t) (seat ++ [t.1, t.2.1])
def planGo : List (List T3) → Nat → FSt → Except (Nat × Nat × Str) FSt
  | [], _, st => .ok st
  | r :: rs, n, st => match rowGo r 0 st [] with
    | .error (i, w) => .error (n, i, w)
    | .ok st' => planGo rs (n + 1) st'
def faultD (p : List (List T3)) : D := match planGo p 0 ⟨[], []⟩ with
  | .error (n, i, w) => .tuple [.int (n : Int), .int (i : Int), .str w]
  | .ok _ => .none
def noFault (p : List (List T3)) : Bool := match planGo p 0 ⟨[], []⟩ with
  | .error _ => false
  | .ok _ => true
/-! ### all meet -/
def othersN (p : Nat) : Nat := p - 1 + p % 2
def ins2 (c : Card) : List Card → List Card
  | [] => [c]
  | d :: l => if le2 c d = true then c :: d :: l else d :: ins2 c l
def isort2 : List Card → List Card
  | [] => []
  | c :: l => ins2 c (isort2 l)
def meetRaw (p k : Nat) : List Card := (if p % 2 = 0 then [((k : Int), (p : Int) - 1)] else []) ++ (List.range ((othersN p + 1) / 2 - 1)).map fun s : Nat =>
  let a := ((k : Int) + ((s : Int) + 1)) % (othersN p : Int); let b := ((k : Int) - ((s : Int) + 1)) % (othersN p : Int); (if b < a then b else a, if a < b then b else a)
def meetR (p k : Nat) : List Card := isort2 (meetRaw p k)
def meetP (p : Nat) : List (List Card) := (List.range (othersN p)).map (meetR p)
def wholeN (p : Nat) : Nat := p + (p - p / 2 * 2)
def meetC (p k one other : Nat) : Bool := decide ((((one : Int) + (other : Int) - 2 * (k : Int)) % ((wholeN p : Int) - 1) = 0 ∧ (other : Int) < (wholeN p : Int) - 1) ∨ ((other : Int) = (wholeN p : Int) - 1 ∧ one = k)) && decide (other < p)
def handMR (p k : Nat) : List Card := (List.range p).flatMap fun one : Nat => (List.range (wholeN p - (one + 1))).flatMap fun s : Nat => if meetC p k one (s + (one + 1)) = true then [((one : Int), ((s + (one + 1) : Nat) : Int))] else []
def handM (p : Nat) : List (List Card) := (List.range (wholeN p - 1)).map (handMR p)
def chkTurn (n : Nat) : Bool := (List.range (n + 1)).all fun m => !(turnOk n (m : Int)) || (decide ((List.range m).map (turnR n) = (List.range m).map (handR n)) && noFault (turnP n m))
theorem chk_turn : ∀ n ∈ List.range 11, 1 ≤ n → chkTurn n = true := by decide +kernel
def seatL (r : List Card) : List Int := r.map (·.1) ++ r.map (·.2)
def chkMeet (p : Nat) : Bool :=
  let P := meetP p
  decide (P = handM p) && P.all (fun r => decide ((seatL r).Nodup) && decide ((seatL r).length = p / 2 * 2)) && decide (P.flatten.Nodup) && decide (P.flatten.length = p * (p - 1) / 2) && decide (P.length = p - 1 + (p - p / 2 * 2))
theorem ins2_perm (c : Card) : ∀ l : List Card, (ins2 c l).Perm (c :: l)
  | [] => List.Perm.refl _
  | d :: l => by
    unfold ins2
    split
    · exact List.Perm.refl _
    · exact ((ins2_perm c l).cons d).trans (List.Perm.swap c d l)
theorem isort2_perm : ∀ l : List Card, (isort2 l).Perm l
  | [] => List.Perm.refl _
  | c :: l => (ins2_perm c (isort2 l)).trans ((isort2_perm l).cons c)
theorem le2_tr {a b c : Card} (h1 : le2 a b = true) (h2 : le2 b c = true) : le2 a c = true := by
  unfold le2 at *
  simp only [decide_eq_true_eq] at *
  omega
theorem le2_or {a b : Card} (h : ¬ le2 a b = true) : le2 b a = true := by
  unfold le2 at *
  simp only [decide_eq_true_eq] at *
  omega
theorem ins2_up (c : Card) : ∀ {l : List Card}, l.Pairwise (fun a b => le2 a b = true) → (ins2 c l).Pairwise (fun a b => le2 a b = true)
  | [], _ => List.pairwise_singleton _ _
  | d :: l, h => by
    obtain ⟨h1, h2⟩ := List.pairwise_cons.mp h
    unfold ins2
    split
    · rename_i z
      exact List.pairwise_cons.mpr ⟨fun x hx => by rcases List.mem_cons.mp hx with rfl | hx; exact z; exact le2_tr z (h1 x hx), h⟩
    · rename_i z
      refine List.pairwise_cons.mpr ⟨fun x hx => ?_, ins2_up c h2⟩
      rcases List.mem_cons.mp ((ins2_perm c l).mem_iff.mp hx) with rfl | hx
      · exact le2_or z
      · exact h1 x hx
theorem isort2_up : ∀ l : List Card, (isort2 l).Pairwise (fun a b => le2 a b = true)
  | [] => List.Pairwise.nil
  | c :: l => ins2_up c (isort2_up l)
theorem isort2_eq (l : List Card) : sortC l = isort2 l := ((sortC_perm l).trans (isort2_perm l).symm).eq_of_pairwise (fun a b _ _ h1 h2 => le2_antisymm h1 h2) (sortC_up l) (isort2_up l)
theorem chk_meet : ∀ p ∈ List.range 13, 2 ≤ p → chkMeet p = true := by decide +kernel
end DL

set_option Elab.async false
set_option linter.all false
set_option maxRecDepth 100000
set_option maxHeartbeats 4000000
namespace DL
open PySem PySem.Spec PyProof.Rows L2
local macro_rules | `(tactic| walk_at "dl") => `(tactic| simp only [tV, tVr, tFzV, turnD, DL.wipeE, tK, tOpD, tUnD, tBo, tAndD, tOrD, tNotD, tIfE, DL.tAndV, DL.tOrV, DL.tNotV, tTru, truD, okLen, sSet, sSetL, sExpr, sRet, sIf, sNx, tTupD, dNil, dCons, tLstD, tFzD, tApp, tExtd, tPopAt, sSetIx, tIxO, tChainD, tChain3D, tRevT, caStr, opRepT, opAdd, opSub, opMul, opDiv, opMod, opPow, DL.opI, DL.opI0, opB0, opLt, opLe, opGt, opGtD, opLtD, opGe, opEq, opNe, opIs, opIsN, isNone, opIn, opNotIn, opIx, atD_0, atD_1, atD_2, atD_3, putD_0, unNeg, tCa1, tCa2, tCaL1, caLen, caAbs, caMax2, caMin2, caSum, caMax, caMin, caSumT, caMaxT, caMinT, caAll, caTuple, caList, caInt, tIsi, isInt, isBool, isStr, isTuple, isList, notDict, sAsg, gSet, gTupD, gLstD, gsNil, gsCons, sPar, pNil, pD, pL, setAll, tCallD, aNil, aV, aO, argS, oixs, ndp, putO, tOpL, opCat, opRep, tSlD, slD, tSlL, oNo, oE, tRevD, iLstD, iTupD, iRange1, iRange2, iZipD, iZipM, finO, tTrue, Option.map, eqv_int, eqv_bool, eqv_none, shaped_int, shaped_bool, shaped_none, tLenRange, tSortSet, tLenSet, tLenSetP, tSortSetP, tCountL, tCountT, tIndexL, tIndexT, DL.tOrT, DL.tAndT, DL.tNotT, tSortRev, caSorted, iEnumL, iEnumT, tDGetV, tDGetD, tDGet2V, dictAt, sDPutV, sSetM, mDt, mDk, pM, tInN, tNotInN, tCallM, amM, amV, tListRg, iDk, iDv, iDi, tLDk, tLDv, tTruDk, mDt1, tFzM, tCall0D, tFldD, tFldR, fldD, fldL, obD, unH_hdl, obGet, setOb, putOD, sFldD, sFldL, tMethO, tAppF, tPopF, sRaise, keyB_2, keyB_3, keyB_4, decide_eq_true_eq, and_self, List.cons_append, List.nil_append, List.replicate, List.getElem?_cons_zero, List.getElem?_cons_succ, List.set_cons_zero, List.set_cons_succ, List.length_cons, List.length_nil, true_and, and_true, if_true, if_false, Bool.false_eq_true, List.contains_nil, Bool.not_false, Bool.not_true, Bool.and_self, Bool.and_true, Bool.true_and, decide_true, decide_false, beq_self_eq_true])
def tb_turning (c_NoPlan : Value) (WD : WDt) : TSd :=
  sSeq (sSet 2 (tOpD opEq (tOpD opMod (tV 0) (tK (.int 2))) (tK (.int 0))))
      (sSeq (sIf (tNotD (tBo (tChainD opLe opLe (tK (.int 1)) (tV 1) (tOpD opSub (tV 0) (tCa1 caInt (tV 2)))))) (sRaise WD c_NoPlan) (sNx))
      (sSeq (sSetL 3 (tLstD (dNil)))
      (sSeq (sFor (iRange1 (tV 1)) (gSet 4) (sSeq (sSet 5 (tOpD opAdd (tV 4) (tCa1 caInt (tAndV (tV 2) (tOpD opGe (tOpD opMul (tK (.int 2)) (tV 4)) (tV 0))))))
      (sSeq (sSet 6 (tFzD (tComp (iRange1 (tV 0)) (gSet 7) (tTrue) (tTupD (dCons (tV 7) (dCons (tOpD opAdd (tV 0) (tOpD opMod (tOpD opSub (tV 7) (tV 5)) (tV 0))) (dCons (tOpD opMod (tOpD opAdd (tV 7) (tV 4)) (tV 0)) (dNil))))) [7])))
      (sExpr (tApp 3 (tCa1 caTuple (tV 6)))))))
      (sRet (tCa1 caTuple (tVr 3))))))
def tb_plan_fault : TSd :=
  sSeq (sPar [1, 2] (pL (tLstD (dNil)) (pL (tLstD (dNil)) (pNil))))
      (sSeq (sFor (iEnumT (tV 0)) (gTupD 2 (gsCons (gSet 3) (gsCons (gSet 4) (gsNil)))) (sSeq (sSetL 5 (tLstD (dNil)))
      (sFor (iEnumT (tV 4)) (gTupD 2 (gsCons (gSet 6) (gsCons (gTupD 3 (gsCons (gSet 7) (gsCons (gSet 8) (gsCons (gSet 9) (gsNil))))) (gsNil)))) (sSeq (sIf (tOrD (tBo (tOpD opIn (tV 7) (tVr 5))) (tOrD (tBo (tOpD opIn (tV 8) (tVr 5))) (tBo (tOpD opEq (tV 7) (tV 8))))) (sRet (tTupD (dCons (tV 3) (dCons (tV 6) (dCons (tK (.str "twice")) (dNil)))))) (sNx))
      (sSeq (sIf (tOrD (tBo (tOpD opIn (tTupD (dCons (tV 7) (dCons (tV 8) (dNil)))) (tVr 1))) (tBo (tOpD opIn (tTupD (dCons (tV 8) (dCons (tV 7) (dNil)))) (tVr 1)))) (sRet (tTupD (dCons (tV 3) (dCons (tV 6) (dCons (tK (.str "met")) (dNil)))))) (sNx))
      (sSeq (sIf (tOrD (tBo (tOpD opIn (tTupD (dCons (tV 7) (dCons (tV 9) (dNil)))) (tVr 2))) (tBo (tOpD opIn (tTupD (dCons (tV 8) (dCons (tV 9) (dNil)))) (tVr 2)))) (sRet (tTupD (dCons (tV 3) (dCons (tV 6) (dCons (tK (.str "set")) (dNil)))))) (sNx))
      (sSeq (sExpr (tExtd 5 (tLstD (dCons (tV 7) (dCons (tV 8) (dNil))))))
      (sSeq (sExpr (tApp 1 (tTupD (dCons (tV 7) (dCons (tV 8) (dNil))))))
      (sExpr (tExtd 2 (tLstD (dCons (tTupD (dCons (tV 7) (dCons (tV 9) (dNil)))) (dCons (tTupD (dCons (tV 8) (dCons (tV 9) (dNil)))) (dNil))))))))))))))
      (sRet (tK .none)))
def tb_all_meet : TSd :=
  sSeq (sSet 1 (tOpD opAdd (tOpD opSub (tV 0) (tK (.int 1))) (tOpD opMod (tV 0) (tK (.int 2)))))
      (sSeq (sSetL 2 (tLstD (dNil)))
      (sSeq (sFor (iRange1 (tV 1)) (gSet 3) (sSeq (sSetL 4 (tLstD (dNil)))
      (sSeq (sIf (tBo (tOpD opEq (tOpD opMod (tV 0) (tK (.int 2))) (tK (.int 0)))) (sExpr (tApp 4 (tTupD (dCons (tV 3) (dCons (tOpD opSub (tV 0) (tK (.int 1))) (dNil)))))) (sNx))
      (sSeq (sFor (iRange2 (tK (.int 1)) (tOpD opDiv (tOpD opAdd (tV 1) (tK (.int 1))) (tK (.int 2)))) (gSet 5) (sSeq (sPar [6, 7] (pD (tOpD opMod (tOpD opAdd (tV 3) (tV 5)) (tV 1)) (pD (tOpD opMod (tOpD opSub (tV 3) (tV 5)) (tV 1)) (pNil))))
      (sExpr (tApp 4 (tTupD (dCons (tCa2 caMin2 (tV 6) (tV 7)) (dCons (tCa2 caMax2 (tV 6) (tV 7)) (dNil))))))))
      (sExpr (tApp 2 (tCa1 caTuple (tFzD (tCaL1 caSorted (tVr 4))))))))))
      (sRet (tCa1 caTuple (tVr 2)))))
def tb_law_told (sp_turning : SpX) (m_NoPlan : Value → Option Bool) : TSd :=
  sSeq (sSet 2 (tK .none))
      (sSeq (sTry m_NoPlan (fun _ _ => False) (fun WD => sSet 2 (tCallX sp_turning (aV (tV 0) (aV (tV 1) (aNil))) WD)) (sSet 2 (tK (.str "NoPlan"))))
      (sRet (tV 2)))
def spTurning (c : Value) : SpX := fun ss Q QX => ∃ (n : Nat) (m : Int), ss = [.d (.int (n : Int)), .d (.int m)] ∧ 1 ≤ n ∧ n ≤ 100 ∧ (turnOk n m = true → Q (planD (turnP n m.toNat)) []) ∧ (turnOk n m = false → QX c [])
theorem sh_turning (c : Value) : ∀ ss QD QX, spTurning c ss QD QX → ss.length = 2 ∧ mpos 0 ss = [] := by rintro ss QD QX ⟨_, _, rfl, _⟩; exact ⟨rfl, rfl⟩
theorem rng_0 (n : Nat) : rangeD 0 n = (List.range n).map fun s : Nat => .int (s : Int) := by
  unfold rangeD
  refine List.map_congr_left fun i _ => ?_
  rw [Int.zero_add]
theorem even_mod {n : Nat} : decide ((n : Int) % 2 = 0) = evenT n := by
  unfold evenT
  by_cases h : n % 2 = 0
  · rw [decide_eq_true h, decide_eq_true (by omega)]
  · rw [decide_eq_false h, decide_eq_false (by omega)]
theorem rd_turning (c : Value) : ∀ ss QD QX, spTurning c ss QD QX → tb_turning c (fun cls E' => finO [] E' (QX cls)) { nx := fun E' => finO [] E' (QD .none), rt := fun d E' => finO [] E' (QD d) } (ss ++ List.replicate 6 .un) := by
  rintro ss QD QX ⟨n, m, rfl, hn1, hn, q1, q2⟩
  unfold tb_turning
  refine seq_step fun R hR => ?_
  walk_at "dl"
  rw [even_mod]
  refine ⟨by decide, hR _ ?_⟩
  clear hR
  refine seq_step fun R hR => ?_
  have fin : turnOk n m = true → R [.d (.int (n : Int)), .d (.int m), .d (.bool (evenT n)), .un, .un, .un, .un, .un] := fun hok => by
    have q := q1 hok
    unfold turnOk at hok
    have hok := of_decide_eq_true hok
    obtain ⟨k, rfl⟩ : ∃ k : Nat, m = (k : Int) := ⟨m.toNat, by omega⟩
    have hk : k ≤ n := by
      have := hok.2
      split at this <;> omega
    rw [Int.toNat_natCast] at q
    refine hR _ ?_
    clear hR
    refine seq_step fun R hR => ?_
    walk_at "dl"
    refine ⟨Nat.zero_le _, hR _ ?_⟩
    clear hR
    refine seq_step fun R hR => ?_
    refine for_inv (ds := rangeD 0 k) (E1 := [.d (.int (n : Int)), .d (.int (k : Int)), .d (.bool (evenT n)), .ol [], .un, .un, .un, .un]) (fun Q h => ⟨⟨by omega, by omega⟩, by rw [Int.toNat_natCast]; exact h⟩)
      (fun i E => ∃ a4 a5 a6, E = [.d (.int (n : Int)), .d (.int (k : Int)), .d (.bool (evenT n)), .ol (((List.range i).map (turnR n)).map rowT), a4, a5, a6, .un]) ⟨_, _, _, rfl⟩ (fun i d E hd hE R2 hR2 => ?_) (fun E hE => ?_)
    · obtain ⟨a4, a5, a6, rfl⟩ := hE
      have hi : i < k := by have := (List.getElem?_eq_some_iff.mp hd).1; rwa [rangeD_length] at this
      rw [rangeD_get hi] at hd
      cases hd
      walk_at "dl"
      refine seq_step fun R3 hR3 => ?_
      have step : R3 [.d (.int (n : Int)), .d (.int (k : Int)), .d (.bool (evenT n)), .ol (((List.range i).map (turnR n)).map rowT), .d (.int (0 + (i : Int))), .d (.int (goneT n i : Int)), a6, .un] := by
        refine hR3 _ ?_
        clear hR3
        refine seq_step fun R3 hR3 => ?_
        walk_at "dl"
        refine comp_map (E1 := [.d (.int (n : Int)), .d (.int (k : Int)), .d (.bool (evenT n)), .ol (((List.range i).map (turnR n)).map rowT), .d (.int (0 + (i : Int))), .d (.int (goneT n i : Int)), a6, .un]) (List.range n) (fun t : Nat => .int (t : Int)) (fun t : Nat => e3T ((t : Int), (n : Int) + ((t : Int) - (goneT n i : Int)) % (n : Int), ((t : Int) + (i : Int)) % (n : Int))) (fun Q h => ⟨⟨by omega, by omega⟩, by rw [Int.toNat_natCast, rng_0]; exact h⟩) (un1 rfl) (small_line (by rw [List.length_range]; omega)) (fun x hx R4 hq => ?_) ?_
        · walk_at "dl"
          refine ⟨by omega, by omega, small_line (by decide), ?_⟩
          rw [Int.zero_add]
          exact hq _ (by rw [Int.zero_add]; rfl)
        · have hrow : ((List.range n).map fun t : Nat => e3T ((t : Int), (n : Int) + ((t : Int) - (goneT n i : Int)) % (n : Int), ((t : Int) + (i : Int)) % (n : Int))) = (turnR n i).map e3T := by
            unfold turnR
            rw [List.map_map]; rfl
          rw [hrow]
          refine hR3 [.d (.int (n : Int)), .d (.int (k : Int)), .d (.bool (evenT n)), .ol (((List.range i).map (turnR n)).map rowT), .d (.int (0 + (i : Int))), .d (.int (goneT n i : Int)), .d (.list ((turnR n i).map e3T)), .un] ?_
          clear hR3
          walk_at "dl"
          refine ⟨Nat.lt_of_lt_of_le (m := 10000) (by rw [List.length_map, List.length_map, List.length_range]; omega) (small_line (by decide)), hR2 _ ⟨.d (.int (0 + (i : Int))), .d (.int (goneT n i : Int)), .d (.list ((turnR n i).map e3T)), ?_⟩⟩
          rw [List.range_succ, List.map_append, List.map_append]
          rfl
      walk_at "dl"
      unfold goneT at step
      cases he : evenT n with
      | true =>
        rw [he] at step
        refine ⟨cmul_small (by decide) (by omega), ?_⟩
        have e : (0 + (i : Int) + if (n : Int) ≤ 2 * (0 + (i : Int)) then 1 else 0) = ((i + (if true = true ∧ 2 * i ≥ n then 1 else 0) : Nat) : Int) := by
          by_cases z : 2 * i ≥ n
          · rw [if_pos (by omega), if_pos ⟨rfl, z⟩]; omega
          · rw [if_neg (by omega), if_neg (fun y => z y.2)]; omega
        rw [e]; exact step
      | false =>
        rw [he] at step
        have e : (0 + (i : Int) + 0) = ((i + (if false = true ∧ 2 * i ≥ n then 1 else 0) : Nat) : Int) := by rw [if_neg (fun y => by cases y.1)]; omega
        show R3 _
        rw [e]; exact step
    · obtain ⟨a4, a5, a6, rfl⟩ := hE
      rw [rangeD_length]
      refine hR _ ?_
      walk_at "dl"
      exact q
  walk_at "dl"
  unfold turnOk at fin q2
  by_cases h1 : 1 ≤ m
  · rw [decide_eq_true h1]
    by_cases h2 : m ≤ (n : Int) - (if evenT n = true then 1 else 0)
    · exact ifF (by rw [decide_eq_true h2]; rfl) (fin (decide_eq_true ⟨h1, h2⟩))
    · exact ifT (by rw [decide_eq_false h2]; rfl) (q2 (decide_eq_false fun z => h2 z.2))
  · rw [decide_eq_false h1]
    exact q2 (decide_eq_false fun z => h1 z.1)
def spFault : SpD := fun ss Q => ∃ p : List (List T3), ss = [.d (planD p)] ∧ p.length ≤ 1000 ∧ (∀ r ∈ p, r.length ≤ 1000) ∧ Q (faultD p) []
theorem sh_plan_fault : ∀ ss QD, spFault ss QD → ss.length = 1 ∧ mpos 0 ss = [] := by rintro ss QD ⟨_, rfl, _⟩; exact ⟨rfl, rfl⟩
theorem any_of {α : Type} [DecidableEq α] {e : α → D} (he : ∀ a b, PyData.eqv (e a) (e b) = decide (a = b)) (xs : List α) (y : α) : ((xs.map e).any fun z => PyData.eqv z (e y)) = true ↔ y ∈ xs := by
  rw [List.any_map, List.any_eq_true]
  constructor
  · rintro ⟨x, hx, h⟩
    have h : PyData.eqv (e x) (e y) = true := h
    rw [he] at h
    rw [← of_decide_eq_true h]; exact hx
  · intro h
    refine ⟨y, h, ?_⟩
    show PyData.eqv (e y) (e y) = true
    rw [he]; exact decide_eq_true rfl
theorem in_ints (xs : List Int) (y : Int) : ((xs.map PyData.int).any fun z => PyData.eqv z (.int y)) = true ↔ y ∈ xs := any_of eqv_int xs y
theorem eqv_c2 (a b : Card) : PyData.eqv (cE a) (cE b) = decide (a = b) := by
  have := eqv_ti [a.1, a.2] [b.1, b.2]
  show PyData.eqv (.tuple [.int a.1, .int a.2]) (.tuple [.int b.1, .int b.2]) = _
  rw [show PyData.eqv (.tuple [.int a.1, .int a.2]) (.tuple [.int b.1, .int b.2]) = decide ([a.1, a.2] = [b.1, b.2]) from this]
  refine decide_eq_decide.mpr ⟨fun h => ?_, fun h => by rw [h]⟩
  simp only [List.cons.injEq, and_true] at h
  exact Prod.ext h.1 h.2
theorem in_pairs (xs : List Card) (a b : Int) : ((xs.map cE).any fun z => PyData.eqv z (.tuple [.int a, .int b])) = true ↔ (a, b) ∈ xs := any_of eqv_c2 xs (a, b)
theorem sh_il (xs : List Int) : SeqAt.shaped (.list (xs.map PyData.int)) = true := shaped_of (n := 1) (by rw [shOk_lst]; exact all_ints xs)
theorem sh_cl (xs : List Card) : SeqAt.shaped (.list (xs.map cE)) = true := shaped_of (n := 2) (by rw [shOk_lst, List.all_map, List.all_eq_true]; exact fun c _ => sh_cE 0 c)
theorem rd_plan_fault : ∀ ss QD, spFault ss QD → tb_plan_fault { nx := fun E' => finO [] E' (QD .none), rt := fun d E' => finO [] E' (QD d) } (ss ++ List.replicate 9 .un) := by
  rintro ss QD ⟨p, rfl, hp, hr, q⟩
  unfold tb_plan_fault
  refine seq_step fun R hR => ?_
  walk_at "dl"
  refine ⟨Nat.zero_le _, Nat.zero_le _, hR _ ?_⟩
  clear hR
  refine seq_step fun R hR => ?_
  unfold faultD at q
  refine for_inv (ds := enumD (p.map rowT)) (E1 := [.d (planD p), .ol [], .ol [], .un, .un, .un, .un, .un, .un, .un]) (fun Q h => h)
    (fun i E => ∃ (st : FSt) (a3 a4 a5 a6 a7 a8 a9 : S), E = [.d (planD p), .ol (st.met.map cE), .ol (st.had.map cE), a3, a4, a5, a6, a7, a8, a9] ∧ planGo p 0 ⟨[], []⟩ = planGo (p.drop i) i st ∧ st.met.length ≤ 1000 * i ∧ st.had.length ≤ 2000 * i) ⟨⟨[], []⟩, _, _, _, _, _, _, _, rfl, rfl, Nat.le_refl 0, Nat.le_refl 0⟩ (fun i d E hd hE R2 hR2 => ?_) (fun E hE => ?_)
  · obtain ⟨st, a3, a4, a5, a6, a7, a8, a9, rfl, hgo, hml, hhl⟩ := hE
    have hi : i < p.length := by have := (List.getElem?_eq_some_iff.mp hd).1; rwa [enumD_len, List.length_map] at this
    have hpi : p[i]? = some p[i] := List.getElem?_eq_getElem hi
    rw [enumD_get (d := rowT p[i]) (by rw [List.getElem?_map, hpi]; rfl)] at hd
    cases hd
    have hdrop : p.drop i = p[i] :: p.drop (i + 1) := List.drop_eq_getElem_cons hi
    have hrl := hr p[i] (List.getElem_mem hi)
    generalize p[i] = row at hdrop hrl
    rw [hdrop] at hgo
    clear hpi
    walk_at "dl"
    refine seq_step fun R3 hR3 => ?_
    walk_at "dl"
    refine ⟨Nat.zero_le _, hR3 _ ?_⟩
    clear hR3
    have go1 : ∀ j w, rowGo row 0 st [] = .error (j, w) → QD (.tuple [.int (i : Int), .int (j : Int), .str w]) [] := fun j w e => by
      have z : planGo p 0 ⟨[], []⟩ = .error (i, j, w) := by
        rw [hgo]
        show (match rowGo row 0 st [] with | .error (i', w) => Except.error (i, i', w) | .ok st' => planGo (p.drop (i + 1)) (i + 1) st') = _
        rw [e]
      rw [z] at q; exact q
    have go2 : ∀ st', rowGo row 0 st [] = .ok st' → planGo p 0 ⟨[], []⟩ = planGo (p.drop (i + 1)) (i + 1) st' := fun st' e => by
      rw [hgo]
      show (match rowGo row 0 st [] with | .error (i', w) => Except.error (i, i', w) | .ok st' => planGo (p.drop (i + 1)) (i + 1) st') = _
      rw [e]
    refine for_inv (ds := enumD (row.map e3T)) (E1 := [.d (planD p), .ol (st.met.map cE), .ol (st.had.map cE), .d (.int (i : Int)), .d (rowT row), .ol [], a6, a7, a8, a9]) (fun Q h => h)
      (fun j E => ∃ (s2 : FSt) (seat : List Int) (a6 a7 a8 a9 : S), E = [.d (planD p), .ol (s2.met.map cE), .ol (s2.had.map cE), .d (.int (i : Int)), .d (rowT row), .ol (seat.map PyData.int), a6, a7, a8, a9] ∧ rowGo row 0 st [] = rowGo (row.drop j) j s2 seat ∧ s2.met.length ≤ 1000 * i + j ∧ s2.had.length ≤ 2000 * i + 2 * j ∧ seat.length ≤ 2 * j) ⟨st, [], _, _, _, _, rfl, rfl, hml, hhl, Nat.le_refl 0⟩ (fun j d2 E hd2 hE R4 hR4 => ?_) (fun E hE => ?_)
    · obtain ⟨s2, seat, b6, b7, b8, b9, rfl, rgo, rml, rhl, rsl⟩ := hE
      have hj : j < row.length := by have := (List.getElem?_eq_some_iff.mp hd2).1; rwa [enumD_len, List.length_map] at this
      have hrj : row[j]? = some row[j] := List.getElem?_eq_getElem hj
      rw [enumD_get (d := e3T row[j]) (by rw [List.getElem?_map, hrj]; rfl)] at hd2
      cases hd2
      have hdr : row.drop j = row[j] :: row.drop (j + 1) := List.drop_eq_getElem_cons hj
      generalize row[j] = t at hdr
      clear hrj
      rw [hdr] at rgo
      have bad : ∀ w, rowBad s2 seat t = some w → QD (.tuple [.int (i : Int), .int (j : Int), .str w]) [] := fun w e => go1 j w (by
        rw [rgo]
        show (match rowBad s2 seat t with | some w => Except.error (j, w) | none => rowGo (row.drop (j + 1)) (j + 1) (s2.add t) (seat ++ [t.1, t.2.1])) = _
        rw [e])
      have good : rowBad s2 seat t = none → rowGo row 0 st [] = rowGo (row.drop (j + 1)) (j + 1) (s2.add t) (seat ++ [t.1, t.2.1]) := fun e => by
        rw [rgo]
        show (match rowBad s2 seat t with | some w => Except.error (j, w) | none => rowGo (row.drop (j + 1)) (j + 1) (s2.add t) (seat ++ [t.1, t.2.1])) = _
        rw [e]
      unfold rowBad at bad good
      rw [show e3T t = .tuple [.int t.1, .int t.2.1, .int t.2.2] from rfl]
      walk_at "dl"
      refine seq_step fun R5 hR5 => ?_
      walk_at "dl"
      refine ⟨sh_il _, ?_⟩
      by_cases h1 : t.1 ∈ seat
      · rw [if_pos ((in_ints _ _).mpr h1)]
        exact ⟨small_line (by decide), bad _ (if_pos (.inl h1))⟩
      rw [if_neg (fun z => h1 ((in_ints _ _).mp z))]
      refine ⟨sh_il _, ?_⟩
      by_cases h2 : t.2.1 ∈ seat
      · rw [if_pos ((in_ints _ _).mpr h2)]
        exact ⟨small_line (by decide), bad _ (if_pos (.inr (.inl h2)))⟩
      rw [if_neg (fun z => h2 ((in_ints _ _).mp z))]
      by_cases h3 : t.1 = t.2.1
      · rw [if_pos h3]
        exact ⟨small_line (by decide), bad _ (if_pos (.inr (.inr h3)))⟩
      rw [if_neg h3]
      have h123 : ¬ (t.1 ∈ seat ∨ t.2.1 ∈ seat ∨ t.1 = t.2.1) := fun z => z.elim h1 fun z => z.elim h2 h3
      rw [if_neg h123] at bad good
      refine hR5 _ ?_
      clear hR5
      refine seq_step fun R5 hR5 => ?_
      walk_at "dl"
      have shp : ∀ a b : Int, SeqAt.shaped (.tuple [.int a, .int b]) = true := fun a b => shaped_ti [a, b]
      refine ⟨small_line (by decide), ⟨shp _ _, sh_cl _⟩, ?_⟩
      by_cases g1 : (t.1, t.2.1) ∈ s2.met
      · rw [if_pos ((in_pairs _ _ _).mpr g1)]
        exact ⟨small_line (by decide), bad _ (if_pos (.inl g1))⟩
      rw [if_neg (fun z => g1 ((in_pairs _ _ _).mp z))]
      refine ⟨small_line (by decide), ⟨shp _ _, sh_cl _⟩, ?_⟩
      by_cases g2 : (t.2.1, t.1) ∈ s2.met
      · rw [if_pos ((in_pairs _ _ _).mpr g2)]
        exact ⟨small_line (by decide), bad _ (if_pos (.inr g2))⟩
      rw [if_neg (fun z => g2 ((in_pairs _ _ _).mp z))]
      have g12 : ¬ ((t.1, t.2.1) ∈ s2.met ∨ (t.2.1, t.1) ∈ s2.met) := fun z => z.elim g1 g2
      rw [if_neg g12] at bad good
      refine hR5 _ ?_
      clear hR5
      refine seq_step fun R5 hR5 => ?_
      walk_at "dl"
      refine ⟨small_line (by decide), ⟨shp _ _, sh_cl _⟩, ?_⟩
      by_cases k1 : (t.1, t.2.2) ∈ s2.had
      · rw [if_pos ((in_pairs _ _ _).mpr k1)]
        exact ⟨small_line (by decide), bad _ (if_pos (.inl k1))⟩
      rw [if_neg (fun z => k1 ((in_pairs _ _ _).mp z))]
      refine ⟨small_line (by decide), ⟨shp _ _, sh_cl _⟩, ?_⟩
      by_cases k2 : (t.2.1, t.2.2) ∈ s2.had
      · rw [if_pos ((in_pairs _ _ _).mpr k2)]
        exact ⟨small_line (by decide), bad _ (if_pos (.inr k2))⟩
      rw [if_neg (fun z => k2 ((in_pairs _ _ _).mp z))]
      have k12 : ¬ ((t.1, t.2.2) ∈ s2.had ∨ (t.2.1, t.2.2) ∈ s2.had) := fun z => z.elim k1 k2
      rw [if_neg k12] at bad good
      refine hR5 _ ?_
      clear hR5
      refine seq_step fun R5 hR5 => ?_
      walk_at "dl"
      refine ⟨small_line (by decide), small_line (by rw [List.length_map]; omega), hR5 _ ?_⟩
      clear hR5
      refine seq_step fun R5 hR5 => ?_
      walk_at "dl"
      refine ⟨small_line (by decide), Nat.lt_of_lt_of_le (m := 5000000) (by rw [List.length_map]; omega) (small_line (by decide)), hR5 _ ?_⟩
      clear hR5
      walk_at "dl"
      refine ⟨small_line (by decide), small_line (by decide), small_line (by decide), small_line (by rw [List.length_map]; omega), hR4 _ ⟨s2.add t, seat ++ [t.1, t.2.1], .d (.int (j : Int)), .d (.int t.1), .d (.int t.2.1), .d (.int t.2.2), ?_, good rfl, ?_, ?_, ?_⟩⟩
      · unfold FSt.add
        simp only [List.map_append]
        rfl
      · unfold FSt.add
        rw [List.length_append, List.length_singleton]; omega
      · unfold FSt.add
        rw [List.length_append]
        show s2.had.length + 2 ≤ _
        omega
      · rw [List.length_append]
        show seat.length + 2 ≤ _
        omega
    · obtain ⟨s2, seat, b6, b7, b8, b9, rfl, rgo, rml, rhl, rsl⟩ := hE
      rw [enumD_len, List.length_map] at rgo rml rhl
      rw [List.drop_length] at rgo
      exact hR2 _ ⟨s2, _, _, _, _, _, _, _, rfl, go2 s2 (by rw [rgo]; rfl), by omega, by omega⟩
  · obtain ⟨st, a3, a4, a5, a6, a7, a8, a9, rfl, hgo, hml, hhl⟩ := hE
    rw [enumD_len, List.length_map, List.drop_length] at hgo
    rw [show planGo ([] : List (List T3)) p.length st = .ok st from rfl] at hgo
    rw [hgo] at q
    refine hR _ ?_
    walk_at "dl"
    exact q
def spMeet : SpD := fun ss Q => ∃ p : Nat, ss = [.d (.int (p : Int))] ∧ 2 ≤ p ∧ p ≤ 100 ∧ Q (.tuple ((meetP p).map handD)) []
theorem sh_all_meet : ∀ ss QD, spMeet ss QD → ss.length = 1 ∧ mpos 0 ss = [] := by rintro ss QD ⟨_, rfl, _⟩; exact ⟨rfl, rfl⟩
def meetS (p k s : Nat) : Card :=
  let a := ((k : Int) + ((s : Int) + 1)) % (othersN p : Int); let b := ((k : Int) - ((s : Int) + 1)) % (othersN p : Int); (if b < a then b else a, if a < b then b else a)
theorem meetRaw_eq (p k : Nat) : meetRaw p k = (if p % 2 = 0 then [((k : Int), (p : Int) - 1)] else []) ++ (List.range ((othersN p + 1) / 2 - 1)).map (meetS p k) := rfl
theorem rd_all_meet : ∀ ss QD, spMeet ss QD → tb_all_meet { nx := fun E' => finO [] E' (QD .none), rt := fun d E' => finO [] E' (QD d) } (ss ++ List.replicate 7 .un) := by
  rintro ss QD ⟨p, rfl, hp2, hp, q⟩
  have ho : (p : Int) - 1 + (p : Int) % 2 = (othersN p : Int) := by unfold othersN; omega
  have hob : 1 ≤ othersN p ∧ othersN p ≤ 101 := by unfold othersN; omega
  unfold tb_all_meet
  refine seq_step fun R hR => ?_
  walk_at "dl"
  rw [ho]
  refine ⟨by decide, hR _ ?_⟩
  clear hR
  refine seq_step fun R hR => ?_
  walk_at "dl"
  refine ⟨Nat.zero_le _, hR _ ?_⟩
  clear hR
  refine seq_step fun R hR => ?_
  refine for_inv (ds := rangeD 0 (othersN p)) (E1 := [.d (.int (p : Int)), .d (.int (othersN p : Int)), .ol [], .un, .un, .un, .un, .un]) (fun Q h => ⟨⟨by omega, by omega⟩, by rw [Int.toNat_natCast]; exact h⟩)
    (fun i E => ∃ a3 a4 a5 a6 a7, E = [.d (.int (p : Int)), .d (.int (othersN p : Int)), .ol (((List.range i).map (meetR p)).map handD), a3, a4, a5, a6, a7]) ⟨_, _, _, _, _, rfl⟩ (fun i d E hd hE R2 hR2 => ?_) (fun E hE => ?_)
  · obtain ⟨a3, a4, a5, a6, a7, rfl⟩ := hE
    have hi : i < othersN p := by have := (List.getElem?_eq_some_iff.mp hd).1; rwa [rangeD_length] at this
    rw [rangeD_get hi] at hd
    cases hd
    rw [Int.zero_add]
    walk_at "dl"
    refine seq_step fun R3 hR3 => ?_
    walk_at "dl"
    refine ⟨Nat.zero_le _, hR3 _ ?_⟩
    clear hR3
    refine seq_step fun R3 hR3 => ?_
    generalize hpre : (if p % 2 = 0 then [((i : Int), (p : Int) - 1)] else []) = pre
    have hprl : pre.length ≤ 1 := by rw [← hpre]; split <;> simp
    have st : R3 [.d (.int (p : Int)), .d (.int (othersN p : Int)), .ol (((List.range i).map (meetR p)).map handD), .d (.int (i : Int)), .ol (pre.map cE), a5, a6, a7] := by
      refine hR3 _ ?_
      clear hR3
      refine seq_step fun R3 hR3 => ?_
      generalize hN : (othersN p + 1) / 2 - 1 = N
      refine for_inv (ds := rangeD 1 N) (E1 := [.d (.int (p : Int)), .d (.int (othersN p : Int)), .ol (((List.range i).map (meetR p)).map handD), .d (.int (i : Int)), .ol (pre.map cE), a5, a6, a7]) (fun Q h => ?_)
        (fun j E => ∃ a5 a6 a7, E = [.d (.int (p : Int)), .d (.int (othersN p : Int)), .ol (((List.range i).map (meetR p)).map handD), .d (.int (i : Int)), .ol ((pre ++ (List.range j).map (meetS p i)).map cE), a5, a6, a7]) ⟨a5, a6, a7, by simp⟩ (fun j d E hd hE R4 hR4 => ?_) (fun E hE => ?_)
      · walk_at "dl"
        refine ⟨cdiv_small (by decide) (by decide), ⟨by decide, by decide, by omega, by omega⟩, ?_⟩
        rw [show (((othersN p : Int) + 1) / 2 - 1).toNat = N by omega]
        exact h
      · obtain ⟨b5, b6, b7, rfl⟩ := hE
        have hj : j < N := by have := (List.getElem?_eq_some_iff.mp hd).1; rwa [rangeD_length] at this
        rw [rangeD_get hj] at hd
        cases hd
        rw [Int.add_comm]
        walk_at "dl"
        refine seq_step fun R5 hR5 => ?_
        walk_at "dl"
        refine ⟨by omega, by omega, hR5 _ ?_⟩
        clear hR5
        walk_at "dl"
        refine ⟨small_line (by decide), Nat.lt_of_lt_of_le (m := 10000) (by rw [List.length_map, List.length_append, List.length_map, List.length_range]; omega) (small_line (by decide)), hR4 _ ⟨.d (.int ((j : Int) + 1)), .d (.int (((i : Int) + ((j : Int) + 1)) % (othersN p : Int))), .d (.int (((i : Int) - ((j : Int) + 1)) % (othersN p : Int))), ?_⟩⟩
        rw [List.range_succ, List.map_append (l₁ := List.range j), ← List.append_assoc, List.map_append (l₂ := [j].map _)]
        rfl
      · obtain ⟨b5, b6, b7, rfl⟩ := hE
        rw [rangeD_length]
        refine hR3 _ ?_
        clear hR3
        have hraw : pre ++ (List.range N).map (meetS p i) = meetRaw p i := by rw [meetRaw_eq, hpre, hN]
        rw [hraw]
        walk_at "dl"
        rw [sort_cards, isort2_eq]
        refine ⟨sortOk_cards _, Nat.lt_of_lt_of_le (m := 10000) (by rw [List.length_map, List.length_map, List.length_range]; omega) (small_line (by decide)), hR2 _ ⟨.d (.int (i : Int)), .ol ((meetRaw p i).map cE), b5, b6, b7, ?_⟩⟩
        rw [List.range_succ, List.map_append, List.map_append]
        rfl
    walk_at "dl"
    refine ⟨by decide, ?_⟩
    by_cases he : p % 2 = 0
    · rw [if_pos he] at hpre
      rw [if_pos (by omega)]
      subst hpre
      exact ⟨small_line (by decide), Nat.lt_of_lt_of_le (m := 10000) (by decide) (small_line (by decide)), st⟩
    · rw [if_neg he] at hpre
      rw [if_neg (by omega)]
      subst hpre
      exact st
  · obtain ⟨a3, a4, a5, a6, a7, rfl⟩ := hE
    rw [rangeD_length]
    refine hR _ ?_
    walk_at "dl"
    exact q
def toldT (n : Nat) (m : Int) : D := if turnOk n m = true then planD (turnP n m.toNat) else .str "NoPlan"
def spToldT : SpD := fun ss Q => ∃ (n : Nat) (m : Int), ss = [.d (.int (n : Int)), .d (.int m)] ∧ 1 ≤ n ∧ n ≤ 100 ∧ Q (toldT n m) []
theorem sh_law_toldT : ∀ ss QD, spToldT ss QD → ss.length = 2 ∧ mpos 0 ss = [] := by rintro ss QD ⟨_, _, rfl, _⟩; exact ⟨rfl, rfl⟩
theorem rd_law_toldT {c : Value} {m : Value → Option Bool} (hm : m c = some true) : ∀ ss QD, spToldT ss QD → tb_law_told (spTurning c) m { nx := fun E' => finO [] E' (QD .none), rt := fun d E' => finO [] E' (QD d) } (ss ++ List.replicate 1 .un) := by
  rintro ss QD ⟨n, k, rfl, h1, h2, q⟩
  unfold toldT at q
  unfold tb_law_told
  refine seq_step fun R hR => ?_
  walk_at "dl"
  refine hR _ ?_
  clear hR
  refine seq_step fun R hR => ?_
  have fin : ∀ d, d = (if turnOk n k = true then planD (turnP n k.toNat) else .str "NoPlan") → R [.d (.int (n : Int)), .d (.int k), .d d] := fun d e => by
    refine hR _ ?_
    walk_at "dl"
    rw [e]; exact q
  refine ⟨rfl, n, k, rfl, h1, h2, fun h => fin _ (by rw [if_pos h]), fun h => ?_⟩
  show match m c with | some true => _ | some false => _ | none => _
  rw [hm]
  exact fin _ (by rw [if_neg (by rw [h]; decide)])
end DL

set_option Elab.async false
set_option linter.all false
set_option maxRecDepth 100000
set_option maxHeartbeats 4000000
namespace DL
open PySem PySem.Spec PyProof.Rows L2
local macro_rules | `(tactic| walk_at "dl") => `(tactic| simp only [tV, tVr, tFzV, turnD, DL.wipeE, tK, tOpD, tUnD, tBo, tAndD, tOrD, tNotD, tIfE, DL.tAndV, DL.tOrV, DL.tNotV, tTru, truD, okLen, sSet, sSetL, sExpr, sRet, sIf, sNx, tTupD, dNil, dCons, tLstD, tFzD, tApp, tExtd, tPopAt, sSetIx, tIxO, tChainD, tChain3D, tRevT, caStr, opRepT, opAdd, opSub, opMul, opDiv, opMod, opPow, DL.opI, DL.opI0, opB0, opLt, opLe, opGt, opGtD, opLtD, opGe, opEq, opNe, opIs, opIsN, isNone, opIn, opNotIn, opIx, atD_0, atD_1, atD_2, atD_3, putD_0, unNeg, tCa1, tCa2, tCaL1, caLen, caAbs, caMax2, caMin2, caSum, caMax, caMin, caSumT, caMaxT, caMinT, caAll, caTuple, caList, caInt, tIsi, isInt, isBool, isStr, isTuple, isList, notDict, sAsg, gSet, gTupD, gLstD, gsNil, gsCons, sPar, pNil, pD, pL, setAll, tCallD, aNil, aV, aO, argS, oixs, ndp, putO, tOpL, opCat, opRep, tSlD, slD, tSlL, oNo, oE, tRevD, iLstD, iTupD, iRange1, iRange2, iZipD, iZipM, finO, tTrue, Option.map, eqv_int, eqv_bool, eqv_none, shaped_int, shaped_bool, shaped_none, tLenRange, tSortSet, tLenSet, tLenSetP, tSortSetP, tCountL, tCountT, tIndexL, tIndexT, DL.tOrT, DL.tAndT, DL.tNotT, tSortRev, caSorted, iEnumL, iEnumT, tDGetV, tDGetD, tDGet2V, dictAt, sDPutV, sSetM, mDt, mDk, pM, tInN, tNotInN, tCallM, amM, amV, tListRg, iDk, iDv, iDi, tLDk, tLDv, tTruDk, mDt1, tFzM, tCall0D, tFldD, tFldR, fldD, fldL, obD, unH_hdl, obGet, setOb, putOD, sFldD, sFldL, tMethO, tAppF, tPopF, sRaise, keyB_2, keyB_3, keyB_4, decide_eq_true_eq, and_self, List.cons_append, List.nil_append, List.replicate, List.getElem?_cons_zero, List.getElem?_cons_succ, List.set_cons_zero, List.set_cons_succ, List.length_cons, List.length_nil, true_and, and_true, if_true, if_false, Bool.false_eq_true, List.contains_nil, Bool.not_false, Bool.not_true, Bool.and_self, Bool.and_true, Bool.true_and, decide_true, decide_false, beq_self_eq_true])
def tb_dealer_of : TSd :=
  sRet (tOpD opMod (tOpD opSub (tV 0) (tK (.int 1))) (tK (.int 4)))
def tb_risk_of : TSd :=
  sSeq (sSet 1 (tOpD opMod (tOpD opAdd (tOpD opSub (tV 0) (tK (.int 1))) (tOpD opDiv (tOpD opSub (tV 0) (tK (.int 1))) (tK (.int 4)))) (tK (.int 4))))
      (sRet (tTupD (dCons (tOpD opIn (tV 1) (tTupD (dCons (tK (.int 1)) (dCons (tK (.int 3)) (dNil))))) (dCons (tOpD opIn (tV 1) (tTupD (dCons (tK (.int 2)) (dCons (tK (.int 3)) (dNil))))) (dNil)))))
def spDealer : SpD := fun ss Q => ∃ n : Int, ss = [.d (.int n)] ∧ Q (.int ((n - 1) % 4)) []
theorem sh_dealer_of : ∀ ss QD, spDealer ss QD → ss.length = 1 ∧ mpos 0 ss = [] := by rintro ss QD ⟨n, rfl, _⟩; exact ⟨rfl, rfl⟩
theorem rd_dealer_of : ∀ ss QD, spDealer ss QD → tb_dealer_of { nx := fun E' => finO [] E' (QD .none), rt := fun d E' => finO [] E' (QD d) } (ss ++ List.replicate 0 .un) := by
  rintro ss QD ⟨n, rfl, q⟩
  unfold tb_dealer_of
  walk_at "dl"
  exact ⟨by decide, q⟩
def restN (n : Int) : Int := (n - 1 + (n - 1) / 4) % 4
def riskN (n : Int) : Bool × Bool := (decide (restN n = 1 ∨ restN n = 3), decide (restN n = 2 ∨ restN n = 3))
def spRiskOf : SpD := fun ss Q => ∃ n : Int, ss = [.d (.int n)] ∧ Q (.tuple [.bool (riskN n).1, .bool (riskN n).2]) []
theorem sh_risk_of : ∀ ss QD, spRiskOf ss QD → ss.length = 1 ∧ mpos 0 ss = [] := by rintro ss QD ⟨n, rfl, _⟩; exact ⟨rfl, rfl⟩
theorem any_two (p a b : Int) : ([PyData.int a, PyData.int b].any fun z => PyData.eqv z (.int p)) = decide (p = a ∨ p = b) := by
  simp only [List.any_cons, List.any_nil, eqv_int, Bool.or_false]
  by_cases h1 : p = a
  · subst h1; simp
  · by_cases h2 : p = b
    · subst h2; simp
    · simp [h1, h2, eq_comm]
theorem rd_risk_of : ∀ ss QD, spRiskOf ss QD → tb_risk_of { nx := fun E' => finO [] E' (QD .none), rt := fun d E' => finO [] E' (QD d) } (ss ++ List.replicate 1 .un) := by
  rintro ss QD ⟨n, rfl, q⟩
  unfold tb_risk_of
  refine seq_step fun R hR => ?_
  walk_at "dl"
  refine ⟨cdiv_small (by decide) (by decide), by decide, hR _ ?_⟩
  walk_at "dl"
  refine ⟨small_line (by decide), shaped_of (n := 1) rfl, small_line (by decide), shaped_of (n := 1) rfl, small_line (by decide), ?_⟩
  rw [any_two, any_two]
  exact q
end DL

set_option Elab.async false
set_option linter.all false
set_option maxRecDepth 100000
set_option maxHeartbeats 4000000
/-! FnFltT: faults of plans by hand, plain Lean. -/
namespace DL
open PySem PySem.Spec PyProof.Rows L2
def stOf (l : List T3) : FSt := ⟨l.map fun r => (r.1, r.2.1), l.flatMap fun r => [(r.1, r.2.2), (r.2.1, r.2.2)]⟩
def seatOf (l : List T3) : List Int := l.flatMap fun r => [r.1, r.2.1]
theorem stOf_add (l : List T3) (t : T3) : (stOf l).add t = stOf (l ++ [t]) := by
  unfold stOf FSt.add
  rw [List.map_append, List.flatMap_append]; rfl
theorem seatOf_add (l : List T3) (t : T3) : seatOf l ++ [t.1, t.2.1] = seatOf (l ++ [t]) := by
  unfold seatOf
  rw [List.flatMap_append]; rfl
def inR (x : Int) (r : T3) : Bool := decide (x = r.1) || decide (x = r.2.1)
def hB1 (ahead : List T3) (t : T3) : Bool := decide (t.1 = t.2.1) || ahead.any fun r => inR t.1 r || inR t.2.1 r
def hB2 (early : List T3) (t : T3) : Bool := early.any fun r => (decide (t.1 = r.1) && decide (t.2.1 = r.2.1)) || (decide (t.2.1 = r.1) && decide (t.1 = r.2.1))
def hB3 (early : List T3) (t : T3) : Bool := early.any fun r => decide (r.2.2 = t.2.2) && (inR t.1 r || inR t.2.1 r)
theorem mem_seat {l : List T3} {x : Int} : x ∈ seatOf l ↔ ∃ r ∈ l, inR x r = true := by
  unfold seatOf inR
  rw [List.mem_flatMap]
  refine exists_congr fun r => and_congr_right fun _ => ?_
  simp
theorem mem_met {l : List T3} {a b : Int} : (a, b) ∈ (stOf l).met ↔ ∃ r ∈ l, a = r.1 ∧ b = r.2.1 := by
  unfold stOf
  rw [List.mem_map]
  refine exists_congr fun r => and_congr_right fun _ => ?_
  rw [Prod.mk.injEq]
  exact ⟨fun ⟨h, k⟩ => ⟨h.symm, k.symm⟩, fun ⟨h, k⟩ => ⟨h.symm, k.symm⟩⟩
theorem mem_had {l : List T3} {a b : Int} : (a, b) ∈ (stOf l).had ↔ ∃ r ∈ l, b = r.2.2 ∧ inR a r = true := by
  unfold stOf inR
  rw [List.mem_flatMap]
  refine exists_congr fun r => and_congr_right fun _ => ?_
  simp only [List.mem_cons, Prod.mk.injEq, List.not_mem_nil, or_false, Bool.or_eq_true, decide_eq_true_eq]
  constructor
  · rintro (⟨h, k⟩ | ⟨h, k⟩)
    · exact ⟨k, .inl h⟩
    · exact ⟨k, .inr h⟩
  · rintro ⟨k, h | h⟩
    · exact .inl ⟨h, k⟩
    · exact .inr ⟨h, k⟩
theorem bad_hand (early ahead : List T3) (t : T3) : rowBad (stOf (early ++ ahead)) (seatOf ahead) t = (if hB1 ahead t = true then some "twice" else if hB2 early t = true then some "met" else if hB3 early t = true then some "set" else none : Option Str) := by
  unfold rowBad
  have e1 : (t.1 ∈ seatOf ahead ∨ t.2.1 ∈ seatOf ahead ∨ t.1 = t.2.1) ↔ hB1 ahead t = true := by
    unfold hB1
    rw [mem_seat, mem_seat, Bool.or_eq_true, decide_eq_true_eq, List.any_eq_true]
    simp only [Bool.or_eq_true]
    constructor
    · rintro (⟨r, h, k⟩ | ⟨r, h, k⟩ | h)
      · exact .inr ⟨r, h, .inl k⟩
      · exact .inr ⟨r, h, .inr k⟩
      · exact .inl h
    · rintro (h | ⟨r, h, k | k⟩)
      · exact .inr (.inr h)
      · exact .inl ⟨r, h, k⟩
      · exact .inr (.inl ⟨r, h, k⟩)
  by_cases h1 : hB1 ahead t = true
  · rw [if_pos (e1.mpr h1), if_pos h1]
  rw [if_neg (fun z => h1 (e1.mp z)), if_neg h1]
  have n1 : ∀ r ∈ ahead, ¬ inR t.1 r = true ∧ ¬ inR t.2.1 r = true := fun r hr => ⟨fun z => h1 (e1.mp (.inl (mem_seat.mpr ⟨r, hr, z⟩))), fun z => h1 (e1.mp (.inr (.inl (mem_seat.mpr ⟨r, hr, z⟩))))⟩
  have e2 : ((t.1, t.2.1) ∈ (stOf (early ++ ahead)).met ∨ (t.2.1, t.1) ∈ (stOf (early ++ ahead)).met) ↔ hB2 early t = true := by
    unfold hB2
    rw [mem_met, mem_met, List.any_eq_true]
    simp only [Bool.or_eq_true, Bool.and_eq_true, decide_eq_true_eq]
    constructor
    · rintro (⟨r, h, k⟩ | ⟨r, h, k⟩)
      · rcases List.mem_append.mp h with h | h
        · exact ⟨r, h, .inl k⟩
        · exact absurd (by unfold inR; rw [decide_eq_true k.1]; rfl) (n1 r h).1
      · rcases List.mem_append.mp h with h | h
        · exact ⟨r, h, .inr k⟩
        · exact absurd (by unfold inR; rw [decide_eq_true k.1]; rfl) (n1 r h).2
    · rintro ⟨r, h, k | k⟩
      · exact .inl ⟨r, List.mem_append_left _ h, k⟩
      · exact .inr ⟨r, List.mem_append_left _ h, k⟩
  by_cases h2 : hB2 early t = true
  · rw [if_pos (e2.mpr h2), if_pos h2]
  rw [if_neg (fun z => h2 (e2.mp z)), if_neg h2]
  have e3 : ((t.1, t.2.2) ∈ (stOf (early ++ ahead)).had ∨ (t.2.1, t.2.2) ∈ (stOf (early ++ ahead)).had) ↔ hB3 early t = true := by
    unfold hB3
    rw [mem_had, mem_had, List.any_eq_true]
    simp only [Bool.or_eq_true, Bool.and_eq_true, decide_eq_true_eq]
    constructor
    · rintro (⟨r, h, k⟩ | ⟨r, h, k⟩)
      · rcases List.mem_append.mp h with h | h
        · exact ⟨r, h, k.1.symm, .inl k.2⟩
        · exact absurd k.2 (n1 r h).1
      · rcases List.mem_append.mp h with h | h
        · exact ⟨r, h, k.1.symm, .inr k.2⟩
        · exact absurd k.2 (n1 r h).2
    · rintro ⟨r, h, k, j | j⟩
      · exact .inl ⟨r, List.mem_append_left _ h, k.symm, j⟩
      · exact .inr ⟨r, List.mem_append_left _ h, k.symm, j⟩
  by_cases h3 : hB3 early t = true
  · rw [if_pos (e3.mpr h3), if_pos h3]
  · rw [if_neg (fun z => h3 (e3.mp z)), if_neg h3]
/-- small plans -/
def smallP (n m : Nat) (p : List (List T3)) : Prop := p.length ≤ n ∧ ∀ r ∈ p, r.length ≤ m
end DL

set_option Elab.async false
set_option linter.all false
set_option maxRecDepth 100000
set_option maxHeartbeats 4000000
namespace DL
open PySem PySem.Spec PyProof.Rows L2
local macro_rules | `(tactic| walk_at "dl") => `(tactic| simp only [tV, tVr, tFzV, turnD, DL.wipeE, tK, tOpD, tUnD, tBo, tAndD, tOrD, tNotD, tIfE, DL.tAndV, DL.tOrV, DL.tNotV, tTru, truD, okLen, sSet, sSetL, sExpr, sRet, sIf, sNx, tTupD, dNil, dCons, tLstD, tFzD, tApp, tExtd, tPopAt, sSetIx, tIxO, tChainD, tChain3D, tRevT, caStr, opRepT, opAdd, opSub, opMul, opDiv, opMod, opPow, DL.opI, DL.opI0, opB0, opLt, opLe, opGt, opGtD, opLtD, opGe, opEq, opNe, opIs, opIsN, isNone, opIn, opNotIn, opIx, atD_0, atD_1, atD_2, atD_3, putD_0, unNeg, tCa1, tCa2, tCaL1, caLen, caAbs, caMax2, caMin2, caSum, caMax, caMin, caSumT, caMaxT, caMinT, caAll, caTuple, caList, caInt, tIsi, isInt, isBool, isStr, isTuple, isList, notDict, sAsg, gSet, gTupD, gLstD, gsNil, gsCons, sPar, pNil, pD, pL, setAll, tCallD, aNil, aV, aO, argS, oixs, ndp, putO, tOpL, opCat, opRep, tSlD, slD, tSlL, oNo, oE, tRevD, iLstD, iTupD, iRange1, iRange2, iZipD, iZipM, finO, tTrue, Option.map, eqv_int, eqv_bool, eqv_none, shaped_int, shaped_bool, shaped_none, tLenRange, tSortSet, tLenSet, tLenSetP, tSortSetP, tCountL, tCountT, tIndexL, tIndexT, DL.tOrT, DL.tAndT, DL.tNotT, tSortRev, caSorted, iEnumL, iEnumT, tDGetV, tDGetD, tDGet2V, dictAt, sDPutV, sSetM, mDt, mDk, pM, tInN, tNotInN, tCallM, amM, amV, tListRg, iDk, iDv, iDi, tLDk, tLDv, tTruDk, mDt1, tFzM, tCall0D, tFldD, tFldR, fldD, fldL, obD, unH_hdl, obGet, setOb, putOD, sFldD, sFldL, tMethO, tAppF, tPopF, sRaise, keyB_2, keyB_3, keyB_4, decide_eq_true_eq, and_self, List.cons_append, List.nil_append, List.replicate, List.getElem?_cons_zero, List.getElem?_cons_succ, List.set_cons_zero, List.set_cons_succ, List.length_cons, List.length_nil, true_and, and_true, if_true, if_false, Bool.false_eq_true, List.contains_nil, Bool.not_false, Bool.not_true, Bool.and_self, Bool.and_true, Bool.true_and, decide_true, decide_false, beq_self_eq_true])
def tb_law_fault_k24 : TSd :=
  sSeq (sFor (iEnumT (tV 0)) (gTupD 2 (gsCons (gSet 1) (gsCons (gSet 2) (gsNil)))) (sFor (iEnumT (tV 2)) (gTupD 2 (gsCons (gSet 3) (gsCons (gTupD 3 (gsCons (gSet 4) (gsCons (gSet 5) (gsCons (gSet 6) (gsNil))))) (gsNil)))) (sSeq (sSet 7 (tSlD (tV 2) (oNo) (oE (tV 3))))
      (sSeq (sIf (tOrD (tBo (tOpD opEq (tV 4) (tV 5))) (tTru (tFzD (tComp (iTupD (tV 7)) (gSet 10) (tOrD (tBo (tOpD opIn (tV 4) (tSlD (tV 10) (oNo) (oE (tK (.int 2)))))) (tBo (tOpD opIn (tV 5) (tSlD (tV 10) (oNo) (oE (tK (.int 2))))))) (tV 10) [10])))) (sRet (tTupD (dCons (tV 1) (dCons (tV 3) (dCons (tK (.str "twice")) (dNil)))))) (sNx))
      (sSeq (sSet 8 (tFzD (tLstD (dNil))))
      (sSeq (sFor (iTupD (tSlD (tV 0) (oNo) (oE (tV 1)))) (gSet 9) (sSet 8 (tFzD (tOpL opCat (tV 8) (tFzD (tCaL1 caList (tV 9)))))))
      (sSeq (sIf (tTru (tFzD (tComp (iLstD (tV 8)) (gSet 10) (tBo (tOpD opIn (tSlD (tV 10) (oNo) (oE (tK (.int 2)))) (tTupD (dCons (tTupD (dCons (tV 4) (dCons (tV 5) (dNil)))) (dCons (tTupD (dCons (tV 5) (dCons (tV 4) (dNil)))) (dNil)))))) (tV 10) [10]))) (sRet (tTupD (dCons (tV 1) (dCons (tV 3) (dCons (tK (.str "met")) (dNil)))))) (sNx))
      (sIf (tTru (tFzD (tComp (iLstD (tV 8)) (gSet 10) (tAndD (tBo (tOpD opEq (tOpD opIx (tV 10) (tK (.int 2))) (tV 6))) (tOrD (tBo (tOpD opIn (tV 4) (tSlD (tV 10) (oNo) (oE (tK (.int 2)))))) (tBo (tOpD opIn (tV 5) (tSlD (tV 10) (oNo) (oE (tK (.int 2)))))))) (tV 10) [10]))) (sRet (tTupD (dCons (tV 1) (dCons (tV 3) (dCons (tK (.str "set")) (dNil)))))) (sNx)))))))))
      (sRet (tK .none))
def tb_law_spoilt_k24 (sp_law_draw : SpD) : TSd :=
  sSeq (sSetL 3 (tComp (iTupD (tV 2)) (gSet 5) (tTrue) (tNewG (tCaL1 caList (tV 5))) [5]))
      (sSeq (sSet 4 (tCallD sp_law_draw (aV (tV 0) (aO 1 (aV (tCa1 caLen (tVr 3)) (aNil))))))
      (sSeq (sSet 5 (tIxO 3 (tV 4)))
      (sSeq (sPar [6, 7] (pD (tCallD sp_law_draw (aV (tV 0) (aO 1 (aV (tCa1 caLen (tGlR (tV 5))) (aNil))))) (pD (tCallD sp_law_draw (aV (tV 0) (aO 1 (aV (tK (.int 6)) (aNil))))) (pNil))))
      (sSeq (sIf (tBo (tOpD opEq (tV 7) (tK (.int 0)))) (sSetSlG (tV 5) (tV 6) (tOpD opAdd (tV 6) (tK (.int 1))) (tFzD (tLstD (dNil)))) (sIf (tBo (tOpD opEq (tV 7) (tK (.int 1)))) (sExpr (tAppG (tV 5) (tIxG (tV 5) (tV 6)))) (sIf (tBo (tOpD opEq (tV 7) (tK (.int 2)))) (sSetIx 3 (tV 4) (tIxO 3 (tCallD sp_law_draw (aV (tV 0) (aO 1 (aV (tCa1 caLen (tVr 3)) (aNil))))))) (sSeq (sSetL 8 (tCaL1 caList (tIxG (tV 5) (tV 6))))
      (sSeq (sSetIx 8 (tOpD opSub (tV 7) (tK (.int 3))) (tCallD sp_law_draw (aV (tV 0) (aO 1 (aV (tOpD opAdd (tOpD opMul (tK (.int 2)) (tCa1 caLen (tGlR (tV 5)))) (tK (.int 1))) (aNil))))))
      (sSetIxG (tV 5) (tV 6) (tCa1 caTuple (tVr 8))))))))
      (sRet (tCa1 caTuple (tFzD (tComp (iLstD (tFzV 3)) (gSet 5) (tTru (tGlR (tV 5))) (tCa1 caTuple (tGlR (tV 5))) [5]))))))))
local macro_rules | `(tactic| walk_at "gl") => `(tactic| simp only [tNewG, tGlR, tFzG, tIxG, tAppG, sSetIxG, sSetSlG, slPut, glAtE, glGet, setGl, alGet, optQ, tV, tVr, tFzV, turnD, DL.wipeE, tK, tOpD, tUnD, tBo, tAndD, tOrD, tNotD, tIfE, DL.tAndV, DL.tOrV, DL.tNotV, tTru, truD, okLen, sSet, sSetL, sExpr, sRet, sIf, sNx, tTupD, dNil, dCons, tLstD, tFzD, tApp, tExtd, tPopAt, sSetIx, tIxO, tChainD, tChain3D, tRevT, caStr, opRepT, opAdd, opSub, opMul, opDiv, opMod, opPow, DL.opI, DL.opI0, opB0, opLt, opLe, opGt, opGtD, opLtD, opGe, opEq, opNe, opIs, opIsN, isNone, opIn, opNotIn, opIx, atD_0, atD_1, atD_2, atD_3, putD_0, unNeg, tCa1, tCa2, tCaL1, caLen, caAbs, caMax2, caMin2, caSum, caMax, caMin, caSumT, caMaxT, caMinT, caAll, caTuple, caList, caInt, tIsi, isInt, isBool, isStr, isTuple, isList, notDict, sAsg, gSet, gTupD, gLstD, gsNil, gsCons, sPar, pNil, pD, pL, setAll, tCallD, aNil, aV, aO, argS, oixs, ndp, putO, tOpL, opCat, opRep, tSlD, slD, tSlL, oNo, oE, tRevD, iLstD, iTupD, iRange1, iRange2, iZipD, iZipM, finO, tTrue, Option.map, eqv_int, eqv_bool, eqv_none, shaped_int, shaped_bool, shaped_none, tLenRange, tSortSet, tLenSet, tLenSetP, tSortSetP, tCountL, tCountT, tIndexL, tIndexT, DL.tOrT, DL.tAndT, DL.tNotT, tSortRev, caSorted, iEnumL, iEnumT, tDGetV, tDGetD, tDGet2V, dictAt, sDPutV, sSetM, mDt, mDk, pM, tInN, tNotInN, tCallM, amM, amV, tListRg, iDk, iDv, iDi, tLDk, tLDv, tTruDk, mDt1, tFzM, tCall0D, tFldD, tFldR, fldD, fldL, obD, unH_hdl, obGet, setOb, putOD, sFldD, sFldL, tMethO, tAppF, tPopF, sRaise, keyB_2, keyB_3, keyB_4, decide_eq_true_eq, and_self, List.cons_append, List.nil_append, List.replicate, List.getElem?_cons_zero, List.getElem?_cons_succ, List.set_cons_zero, List.set_cons_succ, List.length_cons, List.length_nil, true_and, and_true, if_true, if_false, Bool.false_eq_true, List.contains_nil, Bool.not_false, Bool.not_true, Bool.and_self, Bool.and_true, Bool.true_and, decide_true, decide_false, beq_self_eq_true])
theorem any_emp {α β : Type} (p : α → Bool) (f : α → β) (l : List α) : (!((l.filter p).map f).isEmpty) = l.any p := by
  induction l with
  | nil => rfl
  | cons a l ih =>
    rw [List.filter_cons, List.any_cons]
    cases h : p a with
    | true => rfl
    | false => rw [if_neg Bool.false_ne_true, ih]; rfl
theorem cut2 (r : T3) : cutD [PyData.int r.1, .int r.2.1, .int r.2.2] none (some 2) = [.int r.1, .int r.2.1] := by
  rw [cut_to (by decide)]; rfl
theorem in2 (x a b : Int) : ([PyData.int a, PyData.int b].any fun z => PyData.eqv z (.int x)) = (decide (x = a) || decide (x = b)) := by
  rw [any_two]
  by_cases h1 : x = a <;> by_cases h2 : x = b <;> simp [h1, h2]
theorem pair_eqv (a b c d : Int) : PyData.eqv (.tuple [.int a, .int b]) (.tuple [.int c, .int d]) = (decide (a = c) && decide (b = d)) := by
  rw [eqv_tup]
  show (PyData.eqv (.int a) (.int c) && (PyData.eqv (.int b) (.int d) && true)) = _
  rw [eqv_int, eqv_int, Bool.and_true]
theorem okS1' {E : Env} {i : Nat} {s : S} (h : s = .un ∨ ∃ x, s = .d x) (e : E[i]? = some s) : ∀ j ∈ [i], E[j]? = some .un ∨ (∃ x, E[j]? = some (.d x)) := fun j hj => by
  cases List.mem_singleton.mp hj
  rcases h with h | ⟨x, h⟩
  · exact .inl (by rw [e, h])
  · exact .inr ⟨x, by rw [e, h]⟩
theorem fl_take {α : Type} {l : List (List α)} {i : Nat} {a : List α} (h : l[i]? = some a) : (l.take (i + 1)).flatten = (l.take i).flatten ++ a := by
  rw [List.take_succ, h, List.flatten_append]; simp
theorem fl_len {α : Type} {m : Nat} : ∀ {l : List (List α)}, (∀ r ∈ l, r.length ≤ m) → l.flatten.length ≤ m * l.length
  | [], _ => by simp
  | a :: l, h => by
    rw [List.flatten_cons, List.length_append, List.length_cons, Nat.mul_add]
    have := h a (List.mem_cons_self ..)
    have := fl_len (l := l) fun r hr => h r (List.mem_cons_of_mem _ hr)
    omega
def spFaultH : SpD := fun ss Q => ∃ p : List (List T3), ss = [.d (planD p)] ∧ p.length ≤ 1000 ∧ (∀ r ∈ p, r.length ≤ 1000) ∧ Q (faultD p) []
theorem sh_law_fault : ∀ ss QD, spFaultH ss QD → ss.length = 1 ∧ mpos 0 ss = [] := by rintro ss QD ⟨_, rfl, _⟩; exact ⟨rfl, rfl⟩
theorem rd_law_fault_k24 : ∀ ss QD, spFaultH ss QD → tb_law_fault_k24 { nx := fun E' => finO [] E' (QD .none), rt := fun d E' => finO [] E' (QD d) } (ss ++ List.replicate 10 .un) := by
  rintro ss QD ⟨p, rfl, hp, hr, q⟩
  unfold tb_law_fault_k24
  unfold faultD at q
  refine seq_step fun R hR => ?_
  refine for_inv (ds := enumD (p.map rowT)) (E1 := [.d (planD p), .un, .un, .un, .un, .un, .un, .un, .un, .un, .un]) (fun Q h => h)
    (fun i E => ∃ (a1 a2 a3 a4 a5 a6 a7 a8 a9 a10 : S), E = [.d (planD p), a1, a2, a3, a4, a5, a6, a7, a8, a9, a10] ∧ (a10 = .un ∨ ∃ x, a10 = .d x) ∧ planGo p 0 ⟨[], []⟩ = planGo (p.drop i) i (stOf (p.take i).flatten)) ⟨_, _, _, _, _, _, _, _, _, _, rfl, .inl rfl, rfl⟩ (fun i d E hd hE R2 hR2 => ?_) (fun E hE => ?_)
  · obtain ⟨a1, a2, a3, a4, a5, a6, a7, a8, a9, a10, rfl, k10, hgo⟩ := hE
    have hi : i < p.length := by have := (List.getElem?_eq_some_iff.mp hd).1; rwa [enumD_len, List.length_map] at this
    have hpi : p[i]? = some p[i] := List.getElem?_eq_getElem hi
    rw [enumD_get (d := rowT p[i]) (by rw [List.getElem?_map, hpi]; rfl)] at hd
    cases hd
    have hdrop : p.drop i = p[i] :: p.drop (i + 1) := List.drop_eq_getElem_cons hi
    have hrl := hr p[i] (List.getElem_mem hi)
    have hfl := fl_take hpi
    generalize p[i] = row at hdrop hrl hfl
    rw [hdrop] at hgo
    clear hpi
    have hel : (p.take i).flatten.length ≤ 1000000 := by
      have := fl_len (m := 1000) (l := p.take i) fun r h => hr r (List.mem_of_mem_take h)
      rw [List.length_take] at this
      have : min i p.length ≤ 1000 := by omega
      omega
    generalize hearly : (p.take i).flatten = early at *
    walk_at "dl"
    have go1 : ∀ j w, rowGo row 0 (stOf early) [] = .error (j, w) → QD (.tuple [.int (i : Int), .int (j : Int), .str w]) [] := fun j w e => by
      have z : planGo p 0 ⟨[], []⟩ = .error (i, j, w) := by
        rw [hgo]
        show (match rowGo row 0 (stOf early) [] with | .error (i', w) => Except.error (i, i', w) | .ok st' => planGo (p.drop (i + 1)) (i + 1) st') = _
        rw [e]
      rw [z] at q; exact q
    have go2 : ∀ st', rowGo row 0 (stOf early) [] = .ok st' → planGo p 0 ⟨[], []⟩ = planGo (p.drop (i + 1)) (i + 1) st' := fun st' e => by
      rw [hgo]
      show (match rowGo row 0 (stOf early) [] with | .error (i', w) => Except.error (i, i', w) | .ok st' => planGo (p.drop (i + 1)) (i + 1) st') = _
      rw [e]
    refine for_inv (ds := enumD (row.map e3T)) (E1 := [.d (planD p), .d (.int (i : Int)), .d (rowT row), a3, a4, a5, a6, a7, a8, a9, a10]) (fun Q h => h)
      (fun j E => ∃ (a3 a4 a5 a6 a7 a8 a9 a10 : S), E = [.d (planD p), .d (.int (i : Int)), .d (rowT row), a3, a4, a5, a6, a7, a8, a9, a10] ∧ (a10 = .un ∨ ∃ x, a10 = .d x) ∧ rowGo row 0 (stOf early) [] = rowGo (row.drop j) j (stOf (early ++ row.take j)) (seatOf (row.take j))) ⟨_, _, _, _, _, _, _, _, rfl, k10, by rw [List.drop_zero, List.take_zero, List.append_nil]; rfl⟩ (fun j d2 E hd2 hE R4 hR4 => ?_) (fun E hE => ?_)
    · obtain ⟨b3, b4, b5, b6, b7, b8, b9, b10, rfl, k10, rgo⟩ := hE
      have hj : j < row.length := by have := (List.getElem?_eq_some_iff.mp hd2).1; rwa [enumD_len, List.length_map] at this
      have hrj : row[j]? = some row[j] := List.getElem?_eq_getElem hj
      rw [enumD_get (d := e3T row[j]) (by rw [List.getElem?_map, hrj]; rfl)] at hd2
      cases hd2
      have hdr : row.drop j = row[j] :: row.drop (j + 1) := List.drop_eq_getElem_cons hj
      have htk : row.take (j + 1) = row.take j ++ [row[j]] := by rw [List.take_succ, hrj]; rfl
      generalize row[j] = t at hdr htk
      clear hrj
      rw [hdr] at rgo
      have step : rowGo (t :: row.drop (j + 1)) j (stOf (early ++ row.take j)) (seatOf (row.take j)) = (match rowBad (stOf (early ++ row.take j)) (seatOf (row.take j)) t with | some w => Except.error (j, w) | none => rowGo (row.drop (j + 1)) (j + 1) ((stOf (early ++ row.take j)).add t) (seatOf (row.take j) ++ [t.1, t.2.1])) := rfl
      rw [step, bad_hand, stOf_add, seatOf_add, List.append_assoc, ← htk] at rgo
      have tl : (row.take j).length ≤ 1000 := by rw [List.length_take]; omega
      have bad : ∀ w, (if hB1 (row.take j) t = true then some "twice" else if hB2 early t = true then some "met" else if hB3 early t = true then some "set" else none : Option Str) = some w → QD (.tuple [.int (i : Int), .int (j : Int), .str w]) [] := fun w e => go1 j w (by rw [rgo, e])
      rw [show e3T t = .tuple [.int t.1, .int t.2.1, .int t.2.2] from rfl]
      walk_at "dl"
      refine seq_step fun R5 hR5 => ?_
      walk_at "dl"
      rw [show rowT row = .tuple (row.map e3T) from rfl]
      dsimp only
      rw [cut_to (by omega), Int.toNat_natCast, ← List.map_take]
      generalize row.take j = ahead at *
      refine hR5 _ ?_
      clear hR5
      refine seq_step fun R5 hR5 => ?_
      have E7 : ∀ (l : List T3) (f : T3 → D) (pp : T3 → Bool), (!((l.filter pp).map f).isEmpty) = l.any pp := fun l f pp => any_emp pp f l
      have bd1 : hB1 ahead t = true → QD (.tuple [.int (i : Int), .int (j : Int), .str "twice"]) [] := fun h => bad _ (if_pos h)
      have tl2 : ahead.length ≤ sizeLine := small_line (by omega)
      have st1 : hB1 ahead t = false → R5 [.d (planD p), .d (.int (i : Int)), .d (.tuple (row.map e3T)), .d (.int (j : Int)), .d (.int t.1), .d (.int t.2.1), .d (.int t.2.2), .d (.tuple (ahead.map e3T)), b8, b9, b10] := fun hb1 => by
        refine hR5 _ ?_
        clear hR5
        refine seq_step fun R5 hR5 => ?_
        walk_at "dl"
        refine ⟨Nat.zero_le _, hR5 _ ?_⟩
        clear hR5
        refine seq_step fun R5 hR5 => ?_
        have htake : cutD (p.map rowT) none (some (i : Int)) = (p.take i).map rowT := by rw [cut_to (by omega), Int.toNat_natCast, List.map_take]
        refine for_inv (ds := (p.take i).map rowT) (E1 := [.d (planD p), .d (.int (i : Int)), .d (.tuple (row.map e3T)), .d (.int (j : Int)), .d (.int t.1), .d (.int t.2.1), .d (.int t.2.2), .d (.tuple (ahead.map e3T)), .d (.list []), b9, b10]) (fun Q h => by rw [show planD p = .tuple (p.map rowT) from rfl]; walk_at "dl"; rw [htake]; exact h)
          (fun k E => ∃ a9, E = [.d (planD p), .d (.int (i : Int)), .d (.tuple (row.map e3T)), .d (.int (j : Int)), .d (.int t.1), .d (.int t.2.1), .d (.int t.2.2), .d (.tuple (ahead.map e3T)), .d (.list ((((p.take i).take k).flatten).map e3T)), a9, b10]) ⟨_, rfl⟩ (fun k d3 E hd3 hE R6 hR6 => ?_) (fun E hE => ?_)
        · obtain ⟨a9, rfl⟩ := hE
          rw [List.getElem?_map] at hd3
          obtain ⟨ro, hro, rfl⟩ := Option.map_eq_some_iff.mp hd3
          have f1 := fl_take hro
          have f2 : (((p.take i).take (k + 1)).flatten).length ≤ 1000000 := by
            have := fl_len (m := 1000) (l := (p.take i).take (k + 1)) fun r h => hr r (List.mem_of_mem_take (List.mem_of_mem_take h))
            rw [List.length_take, List.length_take] at this
            have : min (k + 1) (min i p.length) ≤ 1000 := by omega
            omega
          walk_at "dl"
          rw [show rowT ro = .tuple (ro.map e3T) from rfl]
          dsimp only
          rw [← List.map_append, ← f1]
          refine ⟨?_, hR6 _ ⟨_, rfl⟩⟩
          rw [← List.length_append, ← List.map_append, ← f1]
          exact small_line (by rw [List.length_map]; omega)
        · obtain ⟨a9, rfl⟩ := hE
          rw [List.length_map, List.take_length, hearly]
          refine hR5 _ ?_
          clear hR5
          have hel2 : early.length ≤ sizeLine := small_line (by omega)
          have bd2 : hB2 early t = true → QD (.tuple [.int (i : Int), .int (j : Int), .str "met"]) [] := fun h => bad _ (by rw [if_neg (by rw [hb1]; decide), if_pos h])
          have bd3 : hB2 early t = false → hB3 early t = true → QD (.tuple [.int (i : Int), .int (j : Int), .str "set"]) [] := fun h h' => bad _ (by rw [if_neg (by rw [hb1]; decide), if_neg (by rw [h]; decide), if_pos h'])
          have gd3 : hB2 early t = false → hB3 early t = false → rowGo row 0 (stOf early) [] = rowGo (row.drop (j + 1)) (j + 1) (stOf (early ++ row.take (j + 1))) (seatOf (row.take (j + 1))) := fun h h' => by
            rw [rgo, if_neg (by rw [hb1]; decide), if_neg (by rw [h]; decide), if_neg (by rw [h']; decide)]
          unfold hB2 at bd2 bd3 gd3
          unfold hB3 at bd3 gd3
          refine seq_step fun R6 hR6 => ?_
          walk_at "dl"
          refine comp_filter (E1 := [.d (planD p), .d (.int (i : Int)), .d (.tuple (row.map e3T)), .d (.int (j : Int)), .d (.int t.1), .d (.int t.2.1), .d (.int t.2.2), .d (.tuple (ahead.map e3T)), .d (.list (early.map e3T)), a9, b10]) early e3T (fun r => (decide (t.1 = r.1) && decide (t.2.1 = r.2.1)) || (decide (t.2.1 = r.1) && decide (t.1 = r.2.1))) e3T (fun Q h => h) (okS1' k10 rfl) hel2 (fun r hr R7 hq => ?_) ?_
          · rw [show e3T r = .tuple [.int r.1, .int r.2.1, .int r.2.2] from rfl] at hq ⊢
            walk_at "dl"
            rw [cut2]
            refine ⟨small_line (by decide), small_line (by decide), small_line (by decide), ⟨shaped_ti [r.1, r.2.1], shaped_of (n := 2) rfl⟩, ?_⟩
            rw [List.any_cons, List.any_cons, List.any_nil, Bool.or_false, pair_eqv, pair_eqv]
            refine ifB (fun h => ?_) (fun h => ?_)
            · rw [h] at hq; exact hq _ rfl
            · rw [h] at hq; exact hq _ rfl
          rw [E7]
          refine ifB (fun h => ?_) (fun h => ?_)
          · exact ⟨small_line (by decide), bd2 h⟩
          refine hR6 _ ?_
          clear hR6
          walk_at "dl"
          refine comp_filter (E1 := [.d (planD p), .d (.int (i : Int)), .d (.tuple (row.map e3T)), .d (.int (j : Int)), .d (.int t.1), .d (.int t.2.1), .d (.int t.2.2), .d (.tuple (ahead.map e3T)), .d (.list (early.map e3T)), a9, b10]) early e3T (fun r => decide (r.2.2 = t.2.2) && (inR t.1 r || inR t.2.1 r)) e3T (fun Q h => h) (okS1' k10 rfl) hel2 (fun r hr R7 hq => ?_) ?_
          · rw [show e3T r = .tuple [.int r.1, .int r.2.1, .int r.2.2] from rfl] at hq ⊢
            walk_at "dl"
            by_cases g : r.2.2 = t.2.2
            · rw [if_pos g]
              rw [decide_eq_true g, Bool.true_and] at hq
              rw [cut2, in2, in2, show (decide (t.1 = r.1) || decide (t.1 = r.2.1)) = inR t.1 r from rfl, show (decide (t.2.1 = r.1) || decide (t.2.1 = r.2.1)) = inR t.2.1 r from rfl]
              refine ⟨shaped_ti [r.1, r.2.1], ifB (fun h => ?_) (fun h => ⟨shaped_ti [r.1, r.2.1], ifB (fun h2 => ?_) (fun h2 => ?_)⟩)⟩
              · rw [h] at hq; exact hq _ rfl
              · rw [h, h2] at hq; exact hq _ rfl
              · rw [h, h2] at hq; exact hq _ rfl
            · rw [if_neg g]
              rw [decide_eq_false g, Bool.false_and] at hq
              exact hq _ rfl
          rw [E7]
          refine ifB (fun h' => ?_) (fun h' => ?_)
          · exact ⟨small_line (by decide), bd3 h h'⟩
          exact hR4 _ ⟨_, _, _, _, _, _, _, _, rfl, k10, gd3 h h'⟩
      have fin1 : ∀ X : Bool, (decide (t.1 = t.2.1) || X) = hB1 ahead t → X = (ahead.any fun r => inR t.1 r || inR t.2.1 r) → True := fun _ _ _ => trivial
      walk_at "dl"
      unfold hB1 at bd1 st1
      by_cases g1 : t.1 = t.2.1
      · rw [if_pos g1]
        exact ⟨small_line (by decide), bd1 (by rw [decide_eq_true g1]; rfl)⟩
      rw [if_neg g1]
      rw [decide_eq_false g1, Bool.false_or] at bd1 st1
      refine comp_filter (E1 := [.d (planD p), .d (.int (i : Int)), .d (.tuple (row.map e3T)), .d (.int (j : Int)), .d (.int t.1), .d (.int t.2.1), .d (.int t.2.2), .d (.tuple (ahead.map e3T)), b8, b9, b10]) ahead e3T (fun r => inR t.1 r || inR t.2.1 r) e3T (fun Q h => h) (okS1' k10 rfl) tl2 (fun r hr R6 hq => ?_) ?_
      · rw [show e3T r = .tuple [.int r.1, .int r.2.1, .int r.2.2] from rfl] at hq ⊢
        walk_at "dl"
        rw [cut2, in2, in2, show (decide (t.1 = r.1) || decide (t.1 = r.2.1)) = inR t.1 r from rfl, show (decide (t.2.1 = r.1) || decide (t.2.1 = r.2.1)) = inR t.2.1 r from rfl]
        refine ⟨shaped_ti [r.1, r.2.1], ifB (fun h => ?_) (fun h => ⟨shaped_ti [r.1, r.2.1], ifB (fun h2 => ?_) (fun h2 => ?_)⟩)⟩
        · rw [h] at hq; exact hq _ rfl
        · rw [h, h2] at hq; exact hq _ rfl
        · rw [h, h2] at hq; exact hq _ rfl
      · rw [E7]
        refine ifB (fun h => ?_) (fun h => st1 h)
        exact ⟨small_line (by decide), bd1 h⟩
    · obtain ⟨b3, b4, b5, b6, b7, b8, b9, b10, rfl, k10, rgo⟩ := hE
      rw [enumD_len, List.length_map, List.drop_length, List.take_length] at rgo
      refine hR2 _ ⟨_, _, _, _, _, _, _, _, _, _, rfl, k10, ?_⟩
      rw [hfl]
      exact go2 _ (by rw [rgo]; rfl)
  · obtain ⟨a1, a2, a3, a4, a5, a6, a7, a8, a9, a10, rfl, k10, hgo⟩ := hE
    rw [enumD_len, List.length_map, List.drop_length] at hgo
    rw [show planGo ([] : List (List T3)) p.length (stOf (p.take p.length).flatten) = .ok (stOf (p.take p.length).flatten) from rfl] at hgo
    rw [hgo] at q
    refine hR _ ?_
    walk_at "dl"
    exact q
abbrev LG := List (Addr × List T3)
def GlL (gs : Env) (L : LG) : Prop := ∀ q ∈ L, glGet q.1 gs = some (q.2.map e3T)
def hdsL (L : LG) : List D := L.map fun q => hdl q.1
theorem un6 {k : Nat} (h : k < 6) : ([.un, .un, .un, .un, .un, .un] : Env)[k]? = some .un := by
  have : k = 0 ∨ k = 1 ∨ k = 2 ∨ k = 3 ∨ k = 4 ∨ k = 5 := by omega
  rcases this with rfl | rfl | rfl | rfl | rfl | rfl <;> rfl
def spSpoil : SpD := fun ss Q => ∃ (ns : List Int) (t : List D) (p : List (List T3)) (b : Nat), ss = [.d (.list (ns.map PyData.int)), .ol t, .d (planD p)] ∧ ns.length ≤ 63 ∧ TownOk t b ∧ b ≤ 1000000 ∧ p ≠ [] ∧ p.length ≤ 6 ∧ (∀ r ∈ p, r ≠ [] ∧ r.length ≤ 100) ∧
  ∀ p' t', p'.length ≤ 6 → (∀ r ∈ p', r.length ≤ 101) → TownOk t' (b + 10) → Q (planD p') [.ol t']
theorem sh_law_spoilt : ∀ ss QD, spSpoil ss QD → ss.length = 3 ∧ mpos 0 ss = [1] := by rintro ss QD ⟨_, _, _, _, rfl, _⟩; exact ⟨rfl, rfl⟩
theorem rd_law_spoilt_k24 : ∀ ss QD, spSpoil ss QD → tb_law_spoilt_k24 spDraw { nx := fun E' => finO [1] E' (QD .none), rt := fun d E' => finO [1] E' (QD d) } (ss ++ List.replicate 12 .un) := by
  rintro ss QD ⟨ns, t, p, b, rfl, hn, ht, hb, hp0, hp, hr, q⟩
  unfold tb_law_spoilt_k24
  refine seq_step fun R hR => ?_
  refine comp_inv (E1 := [.d (.list (ns.map PyData.int)), .ol t, .d (planD p), .un, .un, .un, .un, .un, .un, .un, .un, .un, .un, .un, .un]) (p.map rowT)
    (fun i acc E => ∃ (a5 : S) (gs : Env) (L : LG), E = .d (.list (ns.map PyData.int)) :: .ol t :: .d (planD p) :: .un :: .un :: a5 :: .un :: .un :: .un :: gs ∧ (a5 = .un ∨ ∃ x, a5 = .d x) ∧ acc = hdsL L ∧ L.map (·.2) = p.take i ∧ (L.map (·.1)).Nodup ∧ GlL gs L ∧ gs.length = 6 ∧ ∀ k, i ≤ k → k < 6 → gs[k]? = some .un) (fun Q h => h) (small_line (by rw [List.length_map]; omega))
    ⟨.un, [.un, .un, .un, .un, .un, .un], [], rfl, .inl rfl, rfl, rfl, List.nodup_nil, (fun q h => by cases h), rfl, fun k _ h => un6 h⟩ (fun i d acc E hd hE R2 hn2 hs2 => ?_) (fun acc E hE => ?_)
  · obtain ⟨a5, gs, L, rfl, k5, rfl, hL, nd, gl, gl6, gu⟩ := hE
    rw [List.getElem?_map] at hd
    obtain ⟨row, hrow, rfl⟩ := Option.map_eq_some_iff.mp hd
    have hi : i < p.length := (List.getElem?_eq_some_iff.mp hrow).1
    rw [show rowT row = .tuple (row.map e3T) from rfl]
    walk_at "gl"
    refine ⟨i + 9, fun a ha => hs2 _ _ ⟨.d (.tuple (row.map e3T)), gs.set i (.gl a (row.map e3T)), L ++ [(a, row)], rfl, .inr ⟨_, rfl⟩, ?_, ?_, ?_, ?_, ?_, ?_⟩⟩
    · unfold hdsL; rw [List.map_append]; rfl
    · rw [List.map_append, hL, List.take_succ, hrow]; rfl
    · rw [List.map_append, List.nodup_append]
      refine ⟨nd, by simp, fun x hx y hy => ?_⟩
      obtain ⟨w, hw, rfl⟩ := List.mem_map.mp hx
      have hy : y = a := by simpa using hy
      subst hy
      intro e
      have := gl w hw
      rw [e, ha] at this; cases this
    · intro w hw
      rw [glGet_new (gu i (Nat.le_refl _) (by omega)) ha]
      rcases List.mem_append.mp hw with hw | hw
      · by_cases e : w.1 = a
        · have := gl w hw
          rw [e, ha] at this; cases this
        · rw [if_neg e]; exact gl w hw
      · cases List.mem_singleton.mp hw
        rw [if_pos rfl]
    · rw [List.length_set]; exact gl6
    · intro k h1 h2
      rw [List.getElem?_set_ne (by omega)]; exact gu k (by omega) h2
  · obtain ⟨a5, gs, L, rfl, k5, rfl, hL, nd, gl, gl6, gu⟩ := hE
    rw [List.length_map, List.take_length] at hL
    have hLl : L.length = p.length := by rw [← hL, List.length_map]
    clear gu gl6 k5
    show R (.d (.list (ns.map PyData.int)) :: .ol t :: .d (planD p) :: .ol (hdsL L) :: .un :: .un :: .un :: .un :: .un :: gs)
    refine hR _ ?_
    clear hR
    have hpl : 0 < p.length := List.length_pos_iff.mpr hp0
    refine seq_step fun R hR => ?_
    walk_at "gl"
    refine ⟨ns, t, _, b, rfl, by unfold hdsL; rw [List.length_map]; omega, hn, ht, by omega, fun r t1 h0 h1 ht1 => ?_⟩
    walk_at "gl"
    refine hR _ ?_
    clear hR
    unfold hdsL at h1
    rw [List.length_map, hLl] at h1
    obtain ⟨k, rfl⟩ : ∃ k : Nat, r = (k : Int) := ⟨r.toNat, by omega⟩
    have hk : k < p.length := by omega
    obtain ⟨w, hw⟩ : ∃ w, L[k]? = some w := ⟨_, List.getElem?_eq_getElem (by omega)⟩
    obtain ⟨a, row⟩ := w
    have hwm := List.mem_of_getElem? hw
    have hw0 := hw
    have hrow : p[k]? = some row := by rw [← hL, List.getElem?_map, hw]; rfl
    obtain ⟨rn, rl⟩ := hr row (List.mem_of_getElem? hrow)
    have gr : glGet a gs = some (row.map e3T) := gl _ hwm
    have hrp : 0 < row.length := List.length_pos_iff.mpr rn
    refine seq_step fun R hR => ?_
    walk_at "gl"
    refine atD_at (d := hdl a) (by omega) (by rw [Int.toNat_natCast]; unfold hdsL; rw [List.getElem?_map, hw]; rfl) ?_
    refine hR _ ?_
    clear hR
    refine seq_step fun R hR => ?_
    walk_at "gl"
    rw [gr]
    walk_at "gl"
    refine ⟨ns, t1, _, _, rfl, by rw [List.length_map]; omega, hn, ht1, by omega, fun r2 t2 h20 h21 ht2 => ?_⟩
    walk_at "gl"
    refine ⟨ns, t2, _, _, rfl, by decide, hn, ht2, by omega, fun way t3 h30 h31 ht3 => ?_⟩
    walk_at "gl"
    refine hR _ ?_
    clear hR
    rw [List.length_map] at h21
    obtain ⟨at_, rfl⟩ : ∃ k : Nat, r2 = (k : Int) := ⟨r2.toNat, by omega⟩
    have hat : at_ < row.length := by omega
    refine seq_step fun R hR => ?_
    have fin : ∀ (t' : List D) (gs : Env) (L : LG) (a8 : S), (∀ b xs, a8 ≠ .gl b xs) → GlL gs L → L.length ≤ 6 → (∀ q ∈ L, q.2.length ≤ 101) → TownOk t' (b + 10) → R (.d (.list (ns.map PyData.int)) :: .ol t' :: .d (planD p) :: .ol (hdsL L) :: .d (.int (k : Int)) :: .d (hdl a) :: .d (.int (at_ : Int)) :: .d (.int way) :: a8 :: gs) := fun t' gs L a8 h8 gl hl6 hq ht' => by
      refine hR _ ?_
      clear hR
      walk_at "gl"
      refine comp_filter (E1 := .d (.list (ns.map PyData.int)) :: .ol t' :: .d (planD p) :: .d (.list (hdsL L)) :: .d (.int (k : Int)) :: .d (hdl a) :: .d (.int (at_ : Int)) :: .d (.int way) :: a8 :: gs) L (fun q => hdl q.1) (fun q => !q.2.isEmpty) (fun q => rowT q.2) (fun Q h => h) (okS1' (s := .d (hdl a)) (.inr ⟨_, rfl⟩) rfl) (small_line (by omega)) (fun x hx R4 hq => ?_) ?_
      · walk_at "gl"
        rw [gl x hx]
        walk_at "gl"
        rw [show (x.2.map e3T).isEmpty = x.2.isEmpty by cases x.2 <;> rfl]
        refine ifB (fun h => ?_) (fun h => ?_)
        · rw [h] at hq; exact hq _ rfl
        · rw [h] at hq; exact hq _ rfl
      · have hrow : ((L.filter fun q => !q.2.isEmpty).map fun q => rowT q.2) = (((L.filter fun q => !q.2.isEmpty).map (·.2))).map rowT := by rw [List.map_map]; rfl
        rw [hrow]
        refine q _ t' ?_ ?_ ht'
        · rw [List.length_map]
          have := List.length_filter_le (fun q : Addr × List T3 => !q.2.isEmpty) L
          omega
        · intro r hr
          obtain ⟨w, hw, rfl⟩ := List.mem_map.mp hr
          exact hq w (List.mem_filter.mp hw).1
    have gup : ∀ (row' : List T3), GlL (setGl a (.gl a (row'.map e3T)) gs) (L.set k (a, row')) := fun row' w hw => by
      rw [glGet_upd gr]
      obtain ⟨m, hm⟩ := List.getElem?_of_mem hw
      by_cases e : k = m
      · subst e
        rw [List.getElem?_set_self (by omega)] at hm
        cases hm
        rw [if_pos rfl]
      · rw [List.getElem?_set_ne e] at hm
        have hm2 := List.mem_of_getElem? hm
        by_cases ea : w.1 = a
        · exfalso
          have n1 : (L.map (·.1))[k]? = some a := by rw [List.getElem?_map, hw0]; rfl
          have n2 : (L.map (·.1))[m]? = some a := by rw [List.getElem?_map, hm, ← ea]; rfl
          exact e ((List.getElem?_inj (List.getElem?_eq_some_iff.mp n1).1 nd).mp (by rw [n1, n2]))
        · rw [if_neg ea]; exact gl w hm2
    have hset : ∀ row', hdsL (L.set k (a, row')) = hdsL L := fun row' => by
      unfold hdsL
      refine List.ext_getElem? fun m => ?_
      rw [List.getElem?_map, List.getElem?_map]
      by_cases e : k = m
      · subst e
        rw [List.getElem?_set_self (by omega), hw0]; rfl
      · rw [List.getElem?_set_ne e]
    have hsz : ∀ row' : List T3, row'.length ≤ 101 → ∀ q ∈ L.set k (a, row'), q.2.length ≤ 101 := fun row' hr' w hw => by
      rcases List.mem_or_eq_of_mem_set hw with h | h
      · have : w.2 ∈ p := by rw [← hL]; exact List.mem_map.mpr ⟨w, h, rfl⟩
        have := (hr _ this).2
        omega
      · rw [h]; exact hr'
    have fin2 : ∀ (t' : List D) (row' : List T3) (a8 : S), (∀ b xs, a8 ≠ .gl b xs) → row'.length ≤ 101 → TownOk t' (b + 10) → R (.d (.list (ns.map PyData.int)) :: .ol t' :: .d (planD p) :: .ol (hdsL L) :: .d (.int (k : Int)) :: .d (hdl a) :: .d (.int (at_ : Int)) :: .d (.int way) :: a8 :: setGl a (.gl a (row'.map e3T)) gs) := fun t' row' a8 h8 h1 h2 => by
      have := fin t' _ _ a8 h8 (gup row') (by rw [List.length_set]; omega) (hsz row' h1) h2
      rw [hset] at this
      exact this
    have ei : (row.map e3T)[at_]? = some (e3T row[at_]) := by rw [List.getElem?_map, List.getElem?_eq_getElem hat]; rfl
    have wd : way = 0 ∨ way = 1 ∨ way = 2 ∨ way = 3 ∨ way = 4 ∨ way = 5 := by omega
    walk_at "gl"
    rw [gr]
    rcases wd with rfl | rfl | rfl | hw3
    · rw [if_pos rfl]
      dsimp only
      rw [List.length_map]
      refine ⟨Nat.zero_le _, ⟨by omega, by omega, by omega, small_line (by omega)⟩, ?_⟩
      rw [List.append_nil, Int.toNat_natCast, show ((at_ : Int) + 1).toNat = at_ + 1 by omega, ← List.map_take, ← List.map_drop, ← List.map_append]
      exact fin2 _ _ _ (fun _ _ z => by cases z) (by rw [List.length_append, List.length_take, List.length_drop]; omega) (ht3.mono (by omega))
    · rw [if_neg (by decide), if_pos rfl]
      dsimp only
      refine ⟨rfl, atD_at (by omega) ei ?_⟩
      refine ⟨Nat.lt_of_lt_of_le (m := 10000) (by rw [List.length_map]; omega) (small_line (by decide)), ?_⟩
      rw [show row.map e3T ++ [e3T row[at_]] = (row ++ [row[at_]]).map e3T by rw [List.map_append]; rfl]
      exact fin2 _ _ _ (fun _ _ z => by cases z) (by rw [List.length_append, List.length_singleton]; omega) (ht3.mono (by omega))
    · rw [if_neg (by decide), if_neg (by decide), if_pos rfl]
      refine ⟨ns, t3, _, _, rfl, by unfold hdsL; rw [List.length_map]; omega, hn, ht3, by omega, fun r4 t4 h40 h41 ht4 => ?_⟩
      walk_at "gl"
      unfold hdsL at h41
      rw [List.length_map] at h41
      obtain ⟨m, rfl⟩ : ∃ k : Nat, r4 = (k : Int) := ⟨r4.toNat, by omega⟩
      have hm : m < L.length := by omega
      refine atD_at (d := hdl L[m].1) (by omega) (by rw [Int.toNat_natCast]; unfold hdsL; rw [List.getElem?_map, List.getElem?_eq_getElem hm]; rfl) ?_
      refine putD_at (by omega) (by unfold hdsL; rw [List.length_map]; omega) ?_
      have hh : (hdsL L).set ((k : Int)).toNat (hdl L[m].1) = hdsL (L.set k L[m]) := by
        unfold hdsL
        rw [Int.toNat_natCast, List.map_set]
      rw [hh]
      refine fin t4 gs (L.set k L[m]) .un (fun _ _ z => by cases z) (fun w hw => ?_) (by rw [List.length_set]; omega) (fun w hw => ?_) (ht4.mono (by omega))
      · rcases List.mem_or_eq_of_mem_set hw with h | h
        · exact gl w h
        · rw [h]; exact gl _ (List.getElem_mem hm)
      · have : w ∈ L := by
          rcases List.mem_or_eq_of_mem_set hw with h | h
          · exact h
          · rw [h]; exact List.getElem_mem hm
        have : w.2 ∈ p := by rw [← hL]; exact List.mem_map.mpr ⟨w, this, rfl⟩
        have := (hr _ this).2
        omega
    · rw [if_neg (by omega), if_neg (by omega), if_neg (by omega)]
      refine seq_step fun R9 hR9 => ?_
      walk_at "gl"
      rw [gr]
      dsimp only
      refine atD_at (by omega) ei ?_
      rw [show e3T row[at_] = .tuple [.int row[at_].1, .int row[at_].2.1, .int row[at_].2.2] from rfl]
      generalize row[at_] = z3
      walk_at "gl"
      refine hR9 _ ?_
      clear hR9
      refine seq_step fun R9 hR9 => ?_
      walk_at "gl"
      rw [gr]
      walk_at "gl"
      rw [List.length_map]
      refine ⟨cmul_small (by decide) (by omega), ns, t3, _, _, rfl, by omega, hn, ht3, by omega, fun x t4 hx0 hx1 ht4 => ?_⟩
      walk_at "gl"
      refine putD_at (by omega) (by show way - 3 < 3; omega) ?_
      obtain ⟨z', hz'⟩ : ∃ z' : T3, [PyData.int z3.1, .int z3.2.1, .int z3.2.2].set (way - 3).toNat (.int x) = [PyData.int z'.1, .int z'.2.1, .int z'.2.2] := by
        rcases hw3 with rfl | rfl | rfl
        · exact ⟨(x, z3.2.1, z3.2.2), rfl⟩
        · exact ⟨(z3.1, x, z3.2.2), rfl⟩
        · exact ⟨(z3.1, z3.2.1, x), rfl⟩
      rw [hz']
      refine hR9 _ ?_
      clear hR9
      walk_at "gl"
      rw [gr]
      dsimp only
      refine putD_at (by omega) (by rw [List.length_map]; omega) ?_
      rw [show (row.map e3T).set ((at_ : Int)).toNat (.tuple [.int z'.1, .int z'.2.1, .int z'.2.2]) = (row.set at_ z').map e3T by rw [Int.toNat_natCast, List.map_set]; rfl]
      exact fin2 _ _ _ (fun _ _ z => by cases z) (by rw [List.length_set]; omega) (ht4.mono (by omega))
end DL

set_option Elab.async false
set_option linter.all false
set_option maxRecDepth 100000
set_option maxHeartbeats 4000000
namespace DL
open PySem PySem.Spec PyProof.Rows L2
local macro_rules | `(tactic| walk_at "dl") => `(tactic| simp only [tV, tVr, tFzV, turnD, DL.wipeE, tK, tOpD, tUnD, tBo, tAndD, tOrD, tNotD, tIfE, DL.tAndV, DL.tOrV, DL.tNotV, tTru, truD, okLen, sSet, sSetL, sExpr, sRet, sIf, sNx, tTupD, dNil, dCons, tLstD, tFzD, tApp, tExtd, tPopAt, sSetIx, tIxO, tChainD, tChain3D, tRevT, caStr, opRepT, opAdd, opSub, opMul, opDiv, opMod, opPow, DL.opI, DL.opI0, opB0, opLt, opLe, opGt, opGtD, opLtD, opGe, opEq, opNe, opIs, opIsN, isNone, opIn, opNotIn, opIx, atD_0, atD_1, atD_2, atD_3, putD_0, unNeg, tCa1, tCa2, tCaL1, caLen, caAbs, caMax2, caMin2, caSum, caMax, caMin, caSumT, caMaxT, caMinT, caAll, caTuple, caList, caInt, tIsi, isInt, isBool, isStr, isTuple, isList, notDict, sAsg, gSet, gTupD, gLstD, gsNil, gsCons, sPar, pNil, pD, pL, setAll, tCallD, aNil, aV, aO, argS, oixs, ndp, putO, tOpL, opCat, opRep, tSlD, slD, tSlL, oNo, oE, tRevD, iLstD, iTupD, iRange1, iRange2, iZipD, iZipM, finO, tTrue, Option.map, eqv_int, eqv_bool, eqv_none, shaped_int, shaped_bool, shaped_none, tLenRange, tSortSet, tLenSet, tLenSetP, tSortSetP, tCountL, tCountT, tIndexL, tIndexT, DL.tOrT, DL.tAndT, DL.tNotT, tSortRev, caSorted, iEnumL, iEnumT, tDGetV, tDGetD, tDGet2V, dictAt, sDPutV, sSetM, mDt, mDk, pM, tInN, tNotInN, tCallM, amM, amV, tListRg, iDk, iDv, iDi, tLDk, tLDv, tTruDk, mDt1, tFzM, tCall0D, tFldD, tFldR, fldD, fldL, obD, unH_hdl, obGet, setOb, putOD, sFldD, sFldL, tMethO, tAppF, tPopF, sRaise, keyB_2, keyB_3, keyB_4, decide_eq_true_eq, and_self, List.cons_append, List.nil_append, List.replicate, List.getElem?_cons_zero, List.getElem?_cons_succ, List.set_cons_zero, List.set_cons_succ, List.length_cons, List.length_nil, true_and, and_true, if_true, if_false, Bool.false_eq_true, List.contains_nil, Bool.not_false, Bool.not_true, Bool.and_self, Bool.and_true, Bool.true_and, decide_true, decide_false, beq_self_eq_true])
def tb_law_k24 (sp_law_fault : SpD) (sp_plan_fault : SpD) (sp_law_same : SpD) (sp_law_draw : SpD) (sp_law_spoilt : SpD) (sp_turning : SpX) : TSd :=
  sSeq (sSetL 1 (tLstD (dNil)))
      (sSeq (sFor (iRange1 (tK (.int 8))) (gSet 2) (sSeq (sSet 3 (tOpD opAdd (tK (.int 1)) (tCallD sp_law_draw (aV (tV 0) (aO 1 (aV (tK (.int 6)) (aNil)))))))
      (sSeq (sSet 4 (tCallX sp_turning (aV (tV 3) (aV (tCa2 caMax2 (tK (.int 1)) (tOpD opSub (tV 3) (tK (.int 1)))) (aNil))) (fun _ _ => False)))
      (sSeq (sSetL 5 (tLstD (dCons (tV 4) (dCons (tTupD (dNil)) (dCons (tTupD (dCons (tTupD (dNil)) (dNil))) (dCons (tOpD opAdd (tV 4) (tSlD (tV 4) (oNo) (oE (tK (.int 1))))) (dCons (tRevT (tV 4)) (dNil))))))))
      (sSeq (sFor (iRange1 (tK (.int 4))) (gSet 6) (sExpr (tApp 5 (tCallD sp_law_spoilt (aV (tV 0) (aO 1 (aV (tV 4) (aNil))))))))
      (sSeq (sSetL 7 (tLstD (dNil)))
      (sSeq (sFor (iRange1 (tK (.int 4))) (gSet 6) (sSeq (sSet 8 (tFzD (tComp (iRange1 (tK (.int 2))) (gSet 9) (tTrue) (tCa1 caTuple (tFzD (tComp (iRange1 (tK (.int 3))) (gSet 10) (tTrue) (tCallD sp_law_draw (aV (tV 0) (aO 1 (aV (tK (.int 6)) (aNil))))) [10]))) [9])))
      (sExpr (tApp 7 (tCa1 caTuple (tV 8))))))
      (sSeq (sSetL 5 (tOpL opCat (tFzV 5) (tFzD (tLstD (dCons (tCa1 caTuple (tVr 7)) (dCons (tCa1 caTuple (tFzD (tSlL (tFzV 7) (oNo) (oE (tK (.int 2)))))) (dNil)))))))
      (sIf (tNotD (tTru (tCa1 caAll (tFzD (tComp (iLstD (tFzV 5)) (gSet 11) (tTrue) (tCallD sp_law_same (aV (tCallD sp_plan_fault (aV (tV 11) (aNil))) (aV (tCallD sp_law_fault (aV (tV 11) (aNil))) (aNil)))) [11]))))) (sRet (tK (.bool false))) (sNx))))))))))
      (sRet (tK (.bool true))))
local macro_rules | `(tactic| walk_at "cx") => `(tactic| simp only [tCallX, tV, tVr, tFzV, turnD, DL.wipeE, tK, tOpD, tUnD, tBo, tAndD, tOrD, tNotD, tIfE, DL.tAndV, DL.tOrV, DL.tNotV, tTru, truD, okLen, sSet, sSetL, sExpr, sRet, sIf, sNx, tTupD, dNil, dCons, tLstD, tFzD, tApp, tExtd, tPopAt, sSetIx, tIxO, tChainD, tChain3D, tRevT, caStr, opRepT, opAdd, opSub, opMul, opDiv, opMod, opPow, DL.opI, DL.opI0, opB0, opLt, opLe, opGt, opGtD, opLtD, opGe, opEq, opNe, opIs, opIsN, isNone, opIn, opNotIn, opIx, atD_0, atD_1, atD_2, atD_3, putD_0, unNeg, tCa1, tCa2, tCaL1, caLen, caAbs, caMax2, caMin2, caSum, caMax, caMin, caSumT, caMaxT, caMinT, caAll, caTuple, caList, caInt, tIsi, isInt, isBool, isStr, isTuple, isList, notDict, sAsg, gSet, gTupD, gLstD, gsNil, gsCons, sPar, pNil, pD, pL, setAll, tCallD, aNil, aV, aO, argS, oixs, ndp, putO, tOpL, opCat, opRep, tSlD, slD, tSlL, oNo, oE, tRevD, iLstD, iTupD, iRange1, iRange2, iZipD, iZipM, finO, tTrue, Option.map, eqv_int, eqv_bool, eqv_none, shaped_int, shaped_bool, shaped_none, tLenRange, tSortSet, tLenSet, tLenSetP, tSortSetP, tCountL, tCountT, tIndexL, tIndexT, DL.tOrT, DL.tAndT, DL.tNotT, tSortRev, caSorted, iEnumL, iEnumT, tDGetV, tDGetD, tDGet2V, dictAt, sDPutV, sSetM, mDt, mDk, pM, tInN, tNotInN, tCallM, amM, amV, tListRg, iDk, iDv, iDi, tLDk, tLDv, tTruDk, mDt1, tFzM, tCall0D, tFldD, tFldR, fldD, fldL, obD, unH_hdl, obGet, setOb, putOD, sFldD, sFldL, tMethO, tAppF, tPopF, sRaise, keyB_2, keyB_3, keyB_4, decide_eq_true_eq, and_self, List.cons_append, List.nil_append, List.replicate, List.getElem?_cons_zero, List.getElem?_cons_succ, List.set_cons_zero, List.set_cons_succ, List.length_cons, List.length_nil, true_and, and_true, if_true, if_false, Bool.false_eq_true, List.contains_nil, Bool.not_false, Bool.not_true, Bool.and_self, Bool.and_true, Bool.true_and, decide_true, decide_false, beq_self_eq_true])
def spLaw : SpD := fun ss Q => ∃ ns : List Int, ss = [.d (.list (ns.map PyData.int))] ∧ ns.length ≤ 63 ∧ Q (.bool true) []
theorem sh_law : ∀ ss QD, spLaw ss QD → ss.length = 1 ∧ mpos 0 ss = [] := by rintro ss QD ⟨ns, rfl, _⟩; exact ⟨rfl, rfl⟩
theorem word_go : ∀ {r : List T3} {i : Nat} {st : FSt} {seat : List Int} {j : Nat} {w : Str}, rowGo r i st seat = .error (j, w) → w = "twice" ∨ w = "met" ∨ w = "set"
  | [], i, st, seat, j, w, h => by unfold rowGo at h; cases h
  | t :: ts, i, st, seat, j, w, h => by
    unfold rowGo at h
    split at h
    · rename_i w' e
      cases h
      unfold rowBad at e
      split at e
      · cases e; exact .inl rfl
      · split at e
        · cases e; exact .inr (.inl rfl)
        · split at e
          · cases e; exact .inr (.inr rfl)
          · cases e
    · exact word_go h
theorem word_plan : ∀ {p : List (List T3)} {n : Nat} {st : FSt} {a b : Nat} {w : Str}, planGo p n st = .error (a, b, w) → w = "twice" ∨ w = "met" ∨ w = "set"
  | [], n, st, a, b, w, h => by unfold planGo at h; cases h
  | r :: rs, n, st, a, b, w, h => by
    unfold planGo at h
    split at h
    · rename_i i w' e
      cases h
      exact word_go e
    · exact word_plan h
theorem fault_ok (p : List (List T3)) : sameOk 1 (faultD p) = true := by
  unfold faultD
  split
  · rename_i n i w e
    have : PyData.strOk w = true := by rcases word_plan e with rfl | rfl | rfl <;> decide +kernel
    show ((true && (true && (PyData.strOk w && true))) && decide (3 ≤ 10000000)) = true
    rw [this]; rfl
  · rfl
def smallQ (p : List (List T3)) : Prop := p.length ≤ 500 ∧ ∀ r ∈ p, r.length ≤ 500
theorem rd_law_k24 {c : Value} : ∀ ss QD, spLaw ss QD → tb_law_k24 spFaultH spFault (spSame 1) spDraw spSpoil (spTurning c) { nx := fun E' => finO [] E' (QD .none), rt := fun d E' => finO [] E' (QD d) } (ss ++ List.replicate 11 .un) := by
  rintro ss QD ⟨ns, rfl, hn, q⟩
  unfold tb_law_k24
  refine seq_step fun R hR => ?_
  walk_at "dl"
  refine ⟨Nat.zero_le _, hR _ ?_⟩
  clear hR
  refine seq_step fun R hR => ?_
  refine for_inv (ds := rangeD 0 8) (E1 := [.d (.list (ns.map PyData.int)), .ol [], .un, .un, .un, .un, .un, .un, .un, .un, .un, .un]) (fun Q h => ⟨⟨by decide, by decide⟩, h⟩)
    (fun i E => ∃ t a2 a3 a4 a5 a6 a7 a8, E = [.d (.list (ns.map PyData.int)), .ol t, a2, a3, a4, a5, a6, a7, a8, .un, .un, .un] ∧ TownOk t (1000 * i)) ⟨_, _, _, _, _, _, _, _, rfl, by decide, .inl rfl⟩ (fun i d E hd hE R2 hR2 => ?_) (fun E hE => ?_)
  · obtain ⟨t, a2, a3, a4, a5, a6, a7, a8, rfl, ht⟩ := hE
    have hi : i < 8 := by have := (List.getElem?_eq_some_iff.mp hd).1; rwa [rangeD_length] at this
    rw [rangeD_get hi] at hd
    cases hd
    walk_at "dl"
    refine seq_step fun R3 hR3 => ?_
    walk_at "dl"
    refine ⟨ns, t, 6, _, rfl, by decide, hn, ht, by omega, fun r t1 h0 h1 ht1 => ?_⟩
    walk_at "dl"
    refine hR3 _ ?_
    clear hR3
    obtain ⟨n, rfl, hn1, hn10⟩ : ∃ n : Nat, r = (n : Int) - 1 ∧ 1 ≤ n ∧ n ≤ 6 := ⟨r.toNat + 1, by omega, by omega, by omega⟩
    rw [show 1 + ((n : Int) - 1) = (n : Int) by omega]
    refine seq_step fun R3 hR3 => ?_
    walk_at "cx"
    have hm : ∃ m : Nat, (if (n : Int) - 1 > 1 then (n : Int) - 1 else 1) = (m : Int) ∧ 1 ≤ m ∧ m ≤ 5 ∧ turnOk n (m : Int) = true := by
      have : n = 1 ∨ n = 2 ∨ n = 3 ∨ n = 4 ∨ n = 5 ∨ n = 6 := by omega
      rcases this with rfl | rfl | rfl | rfl | rfl | rfl
      · exact ⟨1, rfl, by decide, by decide, by decide⟩
      · exact ⟨1, rfl, by decide, by decide, by decide⟩
      · exact ⟨2, rfl, by decide, by decide, by decide⟩
      · exact ⟨3, rfl, by decide, by decide, by decide⟩
      · exact ⟨4, rfl, by decide, by decide, by decide⟩
      · exact ⟨5, rfl, by decide, by decide, by decide⟩
    obtain ⟨m, hm0, hm1, hm5, hok⟩ := hm
    rw [hm0]
    refine ⟨n, m, rfl, hn1, by omega, fun _ => ?_, fun h => absurd h (by rw [hok]; decide)⟩
    rw [Int.toNat_natCast]
    refine hR3 _ ?_
    clear hR3
    have hP : (turnP n m).length = m ∧ ∀ r ∈ turnP n m, r.length = n := by
      unfold turnP
      refine ⟨by rw [List.length_map, List.length_range], fun r hr => ?_⟩
      obtain ⟨k, _, rfl⟩ := List.mem_map.mp hr
      unfold turnR
      rw [List.length_map, List.length_range]
    clear hm0 hok
    generalize turnP n m = P at *
    obtain ⟨hP1, hP2⟩ := hP
    have hP0 : P ≠ [] := fun e => by rw [e] at hP1; simp at hP1; omega
    have hPs : ∀ r ∈ P, r ≠ [] ∧ r.length ≤ 100 := fun r hr => ⟨fun e => by have := hP2 r hr; rw [e] at this; simp at this; omega, by have := hP2 r hr; omega⟩
    refine seq_step fun R3 hR3 => ?_
    rw [show planD P = .tuple (P.map rowT) from rfl]
    walk_at "dl"
    have hl5 : [PyData.tuple (P.map rowT), .tuple [], .tuple [.tuple []], .tuple (P.map rowT ++ cutD (P.map rowT) none (some 1)), .tuple (P.map rowT).reverse] = [P, [], [[]], P ++ P.take 1, P.reverse].map planD := by
      rw [cut_to (by decide), ← List.map_reverse]
      show _ = [planD P, planD [], planD [[]], planD (P ++ P.take 1), planD P.reverse]
      unfold planD
      rw [List.map_append, List.map_take]; rfl
    rw [hl5]
    have sq : ∀ {p : List (List T3)}, p.length ≤ 500 → (∀ r ∈ p, r.length ≤ 500) → smallQ p := fun h1 h2 => ⟨h1, h2⟩
    have hps : ∀ p ∈ [P, [], [[]], P ++ P.take 1, P.reverse], smallQ p := fun p hp => by
      simp only [List.mem_cons, List.not_mem_nil, or_false] at hp
      have hPr : ∀ r ∈ P, r.length ≤ 500 := fun r hr => by have := hP2 r hr; omega
      rcases hp with rfl | rfl | rfl | rfl | rfl
      · exact sq (by omega) hPr
      · exact sq (by decide) (fun r h => by cases h)
      · exact sq (by decide) (fun r h => by cases List.mem_singleton.mp h; decide)
      · refine sq (by rw [List.length_append, List.length_take]; omega) fun r h => ?_
        rcases List.mem_append.mp h with h | h
        · exact hPr r h
        · exact hPr r (List.mem_of_mem_take h)
      · exact sq (by rw [List.length_reverse]; omega) fun r h => hPr r (List.mem_reverse.mp h)
    have hpn : [P, [], [[]], P ++ P.take 1, P.reverse].length ≤ 5 := Nat.le_refl _
    generalize [P, [], [[]], P ++ P.take 1, P.reverse] = ps at *
    refine ⟨Nat.zero_le _, Nat.zero_le _, small_line (by decide), ?_, small_line (by decide), hR3 _ ?_⟩
    · rw [cut_to (by decide)]
      exact small_line (by rw [List.length_map, List.length_take, List.length_map]; omega)
    clear hR3 hl5
    refine seq_step fun R3 hR3 => ?_
    refine for_inv (ds := rangeD 0 4) (E1 := [.d (.list (ns.map PyData.int)), .ol t1, .d (.int (0 + (i : Int))), .d (.int (n : Int)), .d (planD P), .ol (ps.map planD), a6, a7, a8, .un, .un, .un]) (fun Q h => ⟨⟨by decide, by decide⟩, h⟩)
      (fun j E => ∃ (t : List D) (ps : List (List (List T3))) (a6 : S), E = [.d (.list (ns.map PyData.int)), .ol t, .d (.int (0 + (i : Int))), .d (.int (n : Int)), .d (planD P), .ol (ps.map planD), a6, a7, a8, .un, .un, .un] ∧ TownOk t (1000 * i + 10 + 20 * j) ∧ ps.length ≤ 5 + j ∧ ∀ p ∈ ps, smallQ p) ⟨_, _, _, rfl, ht1.mono (by omega), hpn, hps⟩ (fun j d E hd hE R4 hR4 => ?_) (fun E hE => ?_)
    · obtain ⟨t, ps, b6, rfl, ht, hpn, hps⟩ := hE
      have hj : j < 4 := by have := (List.getElem?_eq_some_iff.mp hd).1; rwa [rangeD_length] at this
      walk_at "dl"
      refine ⟨ns, t, P, _, rfl, hn, ht, by omega, hP0, by omega, hPs, fun p' t' h1 h2 ht' => ?_⟩
      walk_at "dl"
      refine ⟨Nat.lt_of_lt_of_le (m := 10000) (by rw [List.length_map]; omega) (small_line (by decide)), hR4 _ ⟨t', ps ++ [p'], .d d, by rw [List.map_append]; rfl, ht'.mono (by omega), by rw [List.length_append, List.length_singleton]; omega, fun p hp => ?_⟩⟩
      rcases List.mem_append.mp hp with hp | hp
      · exact hps p hp
      · cases List.mem_singleton.mp hp
        exact ⟨by omega, fun r hr => Nat.le_trans (h2 r hr) (by decide)⟩
    obtain ⟨t2, ps2, b6, rfl, ht2, hpn2, hps2⟩ := hE
    rw [rangeD_length] at ht2 hpn2
    refine hR3 _ ?_
    clear hR3 hps hpn
    refine seq_step fun R3 hR3 => ?_
    walk_at "dl"
    refine ⟨Nat.zero_le _, hR3 _ ?_⟩
    clear hR3
    refine seq_step fun R3 hR3 => ?_
    refine for_inv (ds := rangeD 0 4) (E1 := [.d (.list (ns.map PyData.int)), .ol t2, .d (.int (0 + (i : Int))), .d (.int (n : Int)), .d (planD P), .ol (ps2.map planD), b6, .ol [], a8, .un, .un, .un]) (fun Q h => ⟨⟨by decide, by decide⟩, h⟩)
      (fun j E => ∃ (t : List D) (sm : List (List T3)) (a6 a8 : S), E = [.d (.list (ns.map PyData.int)), .ol t, .d (.int (0 + (i : Int))), .d (.int (n : Int)), .d (planD P), .ol (ps2.map planD), a6, .ol (sm.map rowT), a8, .un, .un, .un] ∧ TownOk t (1000 * i + 200 + 20 * j) ∧ sm.length ≤ j ∧ ∀ r ∈ sm, r.length ≤ 2) ⟨_, [], _, _, rfl, ht2.mono (by omega), Nat.le_refl _, fun r h => by cases h⟩ (fun j d E hd hE R4 hR4 => ?_) (fun E hE => ?_)
    · obtain ⟨t, sm, c6, c8, rfl, ht, hsm, hsr⟩ := hE
      have hj : j < 4 := by have := (List.getElem?_eq_some_iff.mp hd).1; rwa [rangeD_length] at this
      walk_at "dl"
      refine seq_step fun R5 hR5 => ?_
      refine comp_inv (E1 := [.d (.list (ns.map PyData.int)), .ol t, .d (.int (0 + (i : Int))), .d (.int (n : Int)), .d (planD P), .ol (ps2.map planD), .d d, .ol (sm.map rowT), c8, .un, .un, .un]) (rangeD 0 2)
        (fun l acc E => ∃ (t : List D) (rw_ : List T3) (a9 : S), E = [.d (.list (ns.map PyData.int)), .ol t, .d (.int (0 + (i : Int))), .d (.int (n : Int)), .d (planD P), .ol (ps2.map planD), .d d, .ol (sm.map rowT), c8, a9, .un, .un] ∧ TownOk t (1000 * i + 200 + 20 * j + 8 * l) ∧ acc = rw_.map e3T ∧ rw_.length = l) (fun Q h => ⟨⟨by decide, by decide⟩, h⟩) (small_line (by rw [rangeD_length]; decide)) ⟨_, [], _, rfl, ht, rfl, rfl⟩ (fun l d2 acc E hd2 hE R6 hn6 hs6 => ?_) (fun acc E hE => ?_)
      · obtain ⟨t, row, a9, rfl, ht, rfl, hrl⟩ := hE
        have hl : l < 2 := by have := (List.getElem?_eq_some_iff.mp hd2).1; rwa [rangeD_length] at this
        walk_at "dl"
        refine comp_inv (E1 := [.d (.list (ns.map PyData.int)), .ol t, .d (.int (0 + (i : Int))), .d (.int (n : Int)), .d (planD P), .ol (ps2.map planD), .d d, .ol (sm.map rowT), c8, .d d2, .un, .un]) (rangeD 0 3)
          (fun z acc E => ∃ (t : List D) (xs : List Int) (a10 : S), E = [.d (.list (ns.map PyData.int)), .ol t, .d (.int (0 + (i : Int))), .d (.int (n : Int)), .d (planD P), .ol (ps2.map planD), .d d, .ol (sm.map rowT), c8, .d d2, a10, .un] ∧ TownOk t (1000 * i + 200 + 20 * j + 8 * l + 2 * z) ∧ acc = xs.map PyData.int ∧ xs.length = z) (fun Q h => ⟨⟨by decide, by decide⟩, h⟩) (small_line (by rw [rangeD_length]; decide)) ⟨_, [], _, rfl, ht, rfl, rfl⟩ (fun z d3 acc E hd3 hE R7 hn7 hs7 => ?_) (fun acc E hE => ?_)
        · obtain ⟨t, xs, a10, rfl, ht, rfl, hxl⟩ := hE
          have hz : z < 3 := by have := (List.getElem?_eq_some_iff.mp hd3).1; rwa [rangeD_length] at this
          walk_at "dl"
          refine ⟨ns, t, 6, _, rfl, by decide, hn, ht, by omega, fun r t' h0 h1 ht' => ?_⟩
          walk_at "dl"
          exact hs7 _ _ ⟨t', xs ++ [r], .d d3, rfl, ht'.mono (by omega), by rw [List.map_append]; rfl, by rw [List.length_append, List.length_singleton]; omega⟩
        · obtain ⟨t, xs, a10, rfl, ht, rfl, hxl⟩ := hE
          rw [rangeD_length] at ht hxl
          match xs, hxl with
          | [x, y, w], _ =>
            refine hs6 _ _ ⟨t, row ++ [(x, y, w)], .d d2, ?_, ht.mono (by omega), by rw [List.map_append]; rfl, by rw [List.length_append, List.length_singleton]; omega⟩
            rfl
      · obtain ⟨t, row, a9, rfl, ht, rfl, hrl⟩ := hE
        rw [rangeD_length] at ht hrl
        refine hR5 _ ?_
        clear hR5
        show sExpr (tApp 7 (tCa1 caTuple (tV 8))) _ [.d (.list (ns.map PyData.int)), .ol t, .d (.int (0 + (i : Int))), .d (.int (n : Int)), .d (planD P), .ol (ps2.map planD), .d d, .ol (sm.map rowT), .d (.list (row.map e3T)), .un, .un, .un]
        walk_at "dl"
        refine ⟨Nat.lt_of_lt_of_le (m := 10000) (by rw [List.length_map]; omega) (small_line (by decide)), hR4 _ ⟨t, sm ++ [row], .d d, .d (.list (row.map e3T)), ?_, ht.mono (by omega), by rw [List.length_append, List.length_singleton]; omega, fun r hr => ?_⟩⟩
        · rw [List.map_append]; rfl
        · rcases List.mem_append.mp hr with hr | hr
          · exact hsr r hr
          · cases List.mem_singleton.mp hr; omega
    obtain ⟨t3, sm, c6, c8, rfl, ht3, hsm, hsr⟩ := hE
    rw [rangeD_length] at ht3 hsm
    refine hR3 _ ?_
    clear hR3
    refine seq_step fun R3 hR3 => ?_
    walk_at "dl"
    have hl7 : ps2.map planD ++ [PyData.tuple (sm.map rowT), .tuple (cutD (sm.map rowT) none (some 2))] = (ps2 ++ [sm, sm.take 2]).map planD := by
      rw [cut_to (by decide), List.map_append]
      show _ = ps2.map planD ++ [planD sm, planD (sm.take 2)]
      unfold planD
      rw [List.map_take]; rfl
    rw [hl7]
    have hps3 : ∀ p ∈ ps2 ++ [sm, sm.take 2], smallQ p := fun p hp => by
      rcases List.mem_append.mp hp with hp | hp
      · exact hps2 p hp
      · simp only [List.mem_cons, List.not_mem_nil, or_false] at hp
        rcases hp with rfl | rfl
        · exact sq (by omega) fun r hr => by have := hsr r hr; omega
        · exact sq (by rw [List.length_take]; omega) fun r hr => by have := hsr r (List.mem_of_mem_take hr); omega
    have hpn3 : (ps2 ++ [sm, sm.take 2]).length ≤ 20 := by
      rw [List.length_append]
      show ps2.length + 2 ≤ 20
      omega
    generalize ps2 ++ [sm, sm.take 2] = ps3 at *
    refine ⟨small_line (by decide), small_line (by rw [List.length_map]; omega), hR3 _ ?_⟩
    clear hR3 hl7
    walk_at "dl"
    refine comp_map (E1 := [.d (.list (ns.map PyData.int)), .ol t3, .d (.int (0 + (i : Int))), .d (.int (n : Int)), .d (planD P), .d (.list (ps3.map planD)), c6, .d (.list (sm.map rowT)), c8, .un, .un, .un]) ps3 planD (fun _ => .bool true) (fun Q h => h) (un1 rfl) (small_line (by omega)) (fun p hp R4 hq => ?_) ?_
    · obtain ⟨s1, s2⟩ := hps3 p hp
      walk_at "dl"
      refine ⟨p, rfl, by omega, fun r hr => Nat.le_trans (s2 r hr) (by decide), ?_⟩
      walk_at "dl"
      refine ⟨p, rfl, by omega, fun r hr => Nat.le_trans (s2 r hr) (by decide), ?_⟩
      walk_at "dl"
      exact ⟨_, rfl, fault_ok p, hq _ rfl⟩
    · refine ⟨ps3.map fun _ => true, by rw [List.map_map]; rfl, ?_⟩
      have : (ps3.map fun _ => true).all id = true := by simp
      rw [this]
      walk_at "dl"
      exact hR2 _ ⟨_, _, _, _, _, _, _, _, rfl, ht3.mono (by omega)⟩
  · obtain ⟨t, a2, a3, a4, a5, a6, a7, a8, rfl, ht⟩ := hE
    refine hR _ ?_
    walk_at "dl"
    exact q
end DL

set_option Elab.async false
set_option linter.all false
set_option maxRecDepth 100000
set_option maxHeartbeats 4000000
namespace LW
open PySem PySem.Spec PyProof.Rows L2 DL
def topS (i : Nat) : Stmt := PySem.Challenge.pw_boardcalls_k24_whole_faults_of_plans.main.body.getD i (.Pass ⟨0, 0, 0, 0⟩)
section
variable {P : Program} {w : World} {K : PySem.W.Frag} {mg : Str → Option Value} {base : Heap}
abbrev s_law_fault : Stmt := topS 10
abbrev N_law_fault : List Str := ["plan", "number", "tables", "at", "one", "other", "boards", "ahead", "early", "old", "row"]
theorem sc_law_fault : FnScope N_law_fault ["plan"] (defScope s_law_fault) := ⟨rfl, rfl, rfl, by decide +kernel, rfl, by decide +kernel, by decide +kernel⟩
theorem dv_law_fault {f : Addr} {k : Nat} (b_enumerate : mg "enumerate" = none) (b_list : mg "list" = none) (cdv : Value) (A : Around) (outer : List PySem.Env) (s : Shared) (H : Hp) (E : XK) (hr : Room k (A.deeper (envOfC "_law_fault" (defScope s_law_fault) s.heap.objs.size f cdv))) (G : Gh) (hG : G.slots = []) :
    SDs (cxOf CX0 P w K mg base N_law_fault "_law_fault" (defScope s_law_fault) f cdv A outer s H E).nox G (defBody s_law_fault) (tb_law_fault_k24) := by
  unfold tb_law_fault_k24
  exact sds_cons (sd_for (ms := [1, 2]) PassesOwn.never rfl (id_enumT (ed_var 0) rfl b_enumerate) (gd_tup rfl (gds_cons (gd_name (ns hG (by decide)) (by decide) sc_law_fault.nd rfl (by first | exact Or.inl rfl | exact Or.inr rfl)) (gds_cons (gd_name (ns hG (by decide)) (by decide) sc_law_fault.nd rfl (by first | exact Or.inl rfl | exact Or.inr rfl)) (gds_nil)))) (sds_one (sd_for (ms := [3, 4, 5, 6]) PassesOwn.never rfl (id_enumT (ed_var 2) rfl b_enumerate) (gd_tup rfl (gds_cons (gd_name (ns hG (by decide)) (by decide) sc_law_fault.nd rfl (by first | exact Or.inl rfl | exact Or.inr rfl)) (gds_cons (gd_tup rfl (gds_cons (gd_name (ns hG (by decide)) (by decide) sc_law_fault.nd rfl (by first | exact Or.inl rfl | exact Or.inr rfl)) (gds_cons (gd_name (ns hG (by decide)) (by decide) sc_law_fault.nd rfl (by first | exact Or.inl rfl | exact Or.inr rfl)) (gds_cons (gd_name (ns hG (by decide)) (by decide) sc_law_fault.nd rfl (by first | exact Or.inl rfl | exact Or.inr rfl)) (gds_nil))))) (gds_nil)))) (sds_cons (sd_set (ns hG (by decide)) sc_law_fault.nd rfl (by first | exact Or.inl rfl | exact Or.inr rfl) (ed_sl (ed_var 2) (eo_no) (eo_e (ed_var 3))))
      (sds_cons (sd_if (EW.eb (ew_or (eb_cmp (od_eq hr.units) (ed_var 4) (ED.er (ed_var 5)) (nomark _)) (ew_or1 (eb_tru (ED.er (EL.ed (el_comp [("row", 10)] rfl sc_law_fault.nd rfl (nsA hG (by decide)) (id_tup (ed_var 7)) (blkOk_by (N := N_law_fault) (sc := defScope s_law_fault) (by decide +kernel)) (fun _ q3 _ _ _ _ _ => gd_name (ns (q3.trans hG) (by decide)) (by decide) sc_law_fault.nd rfl (by first | exact Or.inl rfl | exact Or.inr rfl)) (fun _ q3 _ _ _ _ _ => ebs_one (EW.eb (ew_or (eb_cmp (od_in (u65 hr)) (ed_var 4) (ED.er (ed_sl (ed_var 10) (eo_no) (eo_e (ed_int)))) rfl) (ew_or1 (eb_cmp (od_in (u65 hr)) (ed_var 5) (ED.er (ed_sl (ed_var 10) (eo_no) (eo_e (ed_int)))) rfl))))) (fun _ q3 _ _ _ _ _ => ed_var 10)))))))) (sds_one (sd_ret (ed_tup (eds_cons (ed_var 1) (eds_cons (ed_var 3) (eds_cons (ed_str) (eds_nil))))))) (sds_nil))
      (sds_cons (sd_set (ns hG (by decide)) sc_law_fault.nd rfl (by first | exact Or.inl rfl | exact Or.inr rfl) (EL.ed (el_lst (eds_nil))))
      (sds_cons (sd_for (ms := [9]) PassesOwn.never rfl (id_tup (ed_sl (ed_var 0) (eo_no) (eo_e (ed_var 1)))) (gd_name (ns hG (by decide)) (by decide) sc_law_fault.nd rfl (by first | exact Or.inl rfl | exact Or.inr rfl)) (sds_one (sd_set (ns hG (by decide)) sc_law_fault.nd rfl (by first | exact Or.inl rfl | exact Or.inr rfl) (EL.ed (el_op od_cat (ed_var 8) (ED.er (EL.ed (el_caT1 cd_list (ED.er (ed_var 9)) rfl b_list bb_list))))))))
      (sds_cons (sd_if (eb_tru (ED.er (EL.ed (el_comp [("row", 10)] rfl sc_law_fault.nd rfl (nsA hG (by decide)) (id_lst (ed_var 8)) (blkOk_by (N := N_law_fault) (sc := defScope s_law_fault) (by decide +kernel)) (fun _ q2 _ _ _ _ _ => gd_name (ns (q2.trans hG) (by decide)) (by decide) sc_law_fault.nd rfl (by first | exact Or.inl rfl | exact Or.inr rfl)) (fun _ q2 _ _ _ _ _ => ebs_one (eb_cmp (od_in (u65 hr)) (ed_sl (ed_var 10) (eo_no) (eo_e (ed_int))) (ED.er (ed_tup (eds_cons (ed_tup (eds_cons (ed_var 4) (eds_cons (ed_var 5) (eds_nil)))) (eds_cons (ed_tup (eds_cons (ed_var 5) (eds_cons (ed_var 4) (eds_nil)))) (eds_nil))))) rfl)) (fun _ q2 _ _ _ _ _ => ed_var 10))))) (sds_one (sd_ret (ed_tup (eds_cons (ed_var 1) (eds_cons (ed_var 3) (eds_cons (ed_str) (eds_nil))))))) (sds_nil))
      (sds_one (sd_if (eb_tru (ED.er (EL.ed (el_comp [("row", 10)] rfl sc_law_fault.nd rfl (nsA hG (by decide)) (id_lst (ed_var 8)) (blkOk_by (N := N_law_fault) (sc := defScope s_law_fault) (by decide +kernel)) (fun _ q1 _ _ _ _ _ => gd_name (ns (q1.trans hG) (by decide)) (by decide) sc_law_fault.nd rfl (by first | exact Or.inl rfl | exact Or.inr rfl)) (fun _ q1 _ _ _ _ _ => ebs_one (EW.eb (ew_and (eb_cmp (od_eq hr.units) (ed_ix (ed_var 10) (ed_int)) (ED.er (ed_var 6)) (nomark _)) (ew_and1 (EW.eb (ew_or (eb_cmp (od_in (u65 hr)) (ed_var 4) (ED.er (ed_sl (ed_var 10) (eo_no) (eo_e (ed_int)))) rfl) (ew_or1 (eb_cmp (od_in (u65 hr)) (ed_var 5) (ED.er (ed_sl (ed_var 10) (eo_no) (eo_e (ed_int)))) rfl)))))))) (fun _ q1 _ _ _ _ _ => ed_var 10))))) (sds_one (sd_ret (ed_tup (eds_cons (ed_var 1) (eds_cons (ed_var 3) (eds_cons (ed_str) (eds_nil))))))) (sds_nil)))))))))))
      (sds_one (sd_ret (ed_non)))
abbrev s_plan_fault : Stmt := topS 5
abbrev N_plan_fault : List Str := ["plan", "met", "had", "number", "tables", "seated", "at", "one", "other", "boards"]
theorem sc_plan_fault : FnScope N_plan_fault ["plan"] (defScope s_plan_fault) := ⟨rfl, rfl, rfl, by decide +kernel, rfl, by decide +kernel, by decide +kernel⟩
theorem dv_plan_fault {f : Addr} {k : Nat} (b_enumerate : mg "enumerate" = none) (cdv : Value) (A : Around) (outer : List PySem.Env) (s : Shared) (H : Hp) (E : XK) (hr : Room k (A.deeper (envOfC "plan_fault" (defScope s_plan_fault) s.heap.objs.size f cdv))) (G : Gh) (hG : G.slots = []) :
    SDs (cxOf CX0 P w K mg base N_plan_fault "plan_fault" (defScope s_plan_fault) f cdv A outer s H E).nox G (defBody s_plan_fault) (tb_plan_fault) := by
  unfold tb_plan_fault
  exact sds_cons (sd_par2 (nsA hG (by decide)) rfl sc_plan_fault.nd rfl rfl (by decide) rfl rfl (eps_l (el_lst (eds_nil)) (fun _ q1 => eps_l (el_lst (eds_nil)) (fun _ q2 => eps_nil))))
      (sds_cons (sd_for (ms := [3, 4]) PassesOwn.never rfl (id_enumT (ed_var 0) rfl b_enumerate) (gd_tup rfl (gds_cons (gd_name (ns hG (by decide)) (by decide) sc_plan_fault.nd rfl (by first | exact Or.inl rfl | exact Or.inr rfl)) (gds_cons (gd_name (ns hG (by decide)) (by decide) sc_plan_fault.nd rfl (by first | exact Or.inl rfl | exact Or.inr rfl)) (gds_nil)))) (sds_cons (sd_setL (ns hG (by decide)) sc_plan_fault.nd rfl (by first | exact Or.inl rfl | exact Or.inr rfl) (el_lst (eds_nil)))
      (sds_one (sd_for (ms := [6, 7, 8, 9]) PassesOwn.never rfl (id_enumT (ed_var 4) rfl b_enumerate) (gd_tup rfl (gds_cons (gd_name (ns hG (by decide)) (by decide) sc_plan_fault.nd rfl (by first | exact Or.inl rfl | exact Or.inr rfl)) (gds_cons (gd_tup rfl (gds_cons (gd_name (ns hG (by decide)) (by decide) sc_plan_fault.nd rfl (by first | exact Or.inl rfl | exact Or.inr rfl)) (gds_cons (gd_name (ns hG (by decide)) (by decide) sc_plan_fault.nd rfl (by first | exact Or.inl rfl | exact Or.inr rfl)) (gds_cons (gd_name (ns hG (by decide)) (by decide) sc_plan_fault.nd rfl (by first | exact Or.inl rfl | exact Or.inr rfl)) (gds_nil))))) (gds_nil)))) (sds_cons (sd_if (EW.eb (ew_or (eb_cmp (od_in (u65 hr)) (ed_var 7) (er_var 5) rfl) (ew_or (eb_cmp (od_in (u65 hr)) (ed_var 8) (er_var 5) rfl) (ew_or1 (eb_cmp (od_eq hr.units) (ed_var 7) (ED.er (ed_var 8)) (nomark _)))))) (sds_one (sd_ret (ed_tup (eds_cons (ed_var 3) (eds_cons (ed_var 6) (eds_cons (ed_str) (eds_nil))))))) (sds_nil))
      (sds_cons (sd_if (EW.eb (ew_or (eb_cmp (od_in (u65 hr)) (ed_tup (eds_cons (ed_var 7) (eds_cons (ed_var 8) (eds_nil)))) (er_var 1) rfl) (ew_or1 (eb_cmp (od_in (u65 hr)) (ed_tup (eds_cons (ed_var 8) (eds_cons (ed_var 7) (eds_nil)))) (er_var 1) rfl)))) (sds_one (sd_ret (ed_tup (eds_cons (ed_var 3) (eds_cons (ed_var 6) (eds_cons (ed_str) (eds_nil))))))) (sds_nil))
      (sds_cons (sd_if (EW.eb (ew_or (eb_cmp (od_in (u65 hr)) (ed_tup (eds_cons (ed_var 7) (eds_cons (ed_var 9) (eds_nil)))) (er_var 2) rfl) (ew_or1 (eb_cmp (od_in (u65 hr)) (ed_tup (eds_cons (ed_var 8) (eds_cons (ed_var 9) (eds_nil)))) (er_var 2) rfl)))) (sds_one (sd_ret (ed_tup (eds_cons (ed_var 3) (eds_cons (ed_var 6) (eds_cons (ed_str) (eds_nil))))))) (sds_nil))
      (sds_cons (sd_expr (ed_extd 5 (el_lst (eds_cons (ed_var 7) (eds_cons (ed_var 8) (eds_nil))))))
      (sds_cons (sd_expr (ed_app 1 (ed_tup (eds_cons (ed_var 7) (eds_cons (ed_var 8) (eds_nil))))))
      (sds_one (sd_expr (ed_extd 2 (el_lst (eds_cons (ed_tup (eds_cons (ed_var 7) (eds_cons (ed_var 9) (eds_nil)))) (eds_cons (ed_tup (eds_cons (ed_var 8) (eds_cons (ed_var 9) (eds_nil)))) (eds_nil))))))))))))))))
      (sds_one (sd_ret (ed_non))))
abbrev s_law_same : Stmt := topS 7
abbrev N_law_same : List Str := ["got", "due", "one", "other"]
theorem sc_law_same : FnScope N_law_same ["got", "due"] (defScope s_law_same) := ⟨rfl, rfl, rfl, by decide +kernel, rfl, by decide +kernel, by decide +kernel⟩
theorem dv_law_same {f : Addr} {k : Nat} (b_isinstance : mg "isinstance" = none) (b_int : mg "int" = none) (b_bool : mg "bool" = none) (b_str : mg "str" = none) (b_tuple : mg "tuple" = none) (b_zip : mg "zip" = none) (b_all : mg "all" = none) (b_len : mg "len" = none) {sp_law_same : SpD} {f_law_same : Addr} {fd_law_same : FuncData} {k_law_same : Nat} (C_law_same : FnOk P w K mg base CX0 k_law_same f_law_same fd_law_same ["got", "due"] (spL K sp_law_same)) (h_law_same : k_law_same ≤ k) (C_law_same_g : mg "_law_same" = some (.ref f_law_same)) (C_law_same_k : PySem.W.keepIn K (.ref f_law_same) = true) (C_law_same_b : Binds K fd_law_same ["got", "due"] []) (cdv : Value) (A : Around) (outer : List PySem.Env) (s : Shared) (H : Hp) (E : XK) (hr : Room k (A.deeper (envOfC "_law_same" (defScope s_law_same) s.heap.objs.size f cdv))) (G : Gh) (hG : G.slots = []) :
    SDs (cxOf CX0 P w K mg base N_law_same "_law_same" (defScope s_law_same) f cdv A outer s H E).nox G (defBody s_law_same) (tb_law_same sp_law_same) := by
  unfold tb_law_same
  exact sds_cons (sd_if (eb_cmp od_is (ed_var 1) (ED.er (ed_non)) (nomark _)) (sds_one (sd_ret (ed_cmp od_is (ed_var 0) (ED.er (ed_non)) (nomark _)))) (sds_nil))
      (sds_cons (sd_if (eb_tru (ED.er (ed_isi isi_bool (ed_var 1) rfl b_isinstance rfl b_bool bb_bool))) (sds_one (sd_ret (ed_and (ed_isi isi_bool (ed_var 0) rfl b_isinstance rfl b_bool bb_bool) (ed_one (ed_cmp (od_eq hr.units) (ed_var 0) (ED.er (ed_var 1)) (nomark _)))))) (sds_nil))
      (sds_cons (sd_if (eb_tru (ED.er (ed_isi isi_tuple (ed_var 1) rfl b_isinstance rfl b_tuple bb_tuple))) (sds_cons (sd_if (EW.eb (ew_or (eb_not (eb_tru (ED.er (ed_isi isi_tuple (ed_var 0) rfl b_isinstance rfl b_tuple bb_tuple)))) (ew_or1 (eb_cmp (od_ne hr.units) (ed_ca1 cd_len (ED.er (ed_var 0)) rfl b_len bb_len) (ED.er (ed_ca1 cd_len (ED.er (ed_var 1)) rfl b_len bb_len)) (nomark _))))) (sds_one (sd_ret (ed_bl))) (sds_nil))
      (sds_one (sd_ret (ed_ca1 (cd_all rfl) (ED.er (EL.ed (el_comp [("one", 2), ("other", 3)] rfl sc_law_same.nd rfl (nsA hG (by decide)) (id_zip (ed_var 0) (ed_var 1) rfl b_zip) (blkOk_by (N := N_law_same) (sc := defScope s_law_same) (by decide +kernel)) (fun _ q1 _ _ _ _ _ => gd_tup rfl (gds_cons (gd_name (ns (q1.trans hG) (by decide)) (by decide) sc_law_same.nd rfl (by first | exact Or.inl rfl | exact Or.inr rfl)) (gds_cons (gd_name (ns (q1.trans hG) (by decide)) (by decide) sc_law_same.nd rfl (by first | exact Or.inl rfl | exact Or.inr rfl)) (gds_nil)))) (fun _ q1 _ _ _ _ _ => ebs_nil) (fun _ q1 _ _ _ _ _ => ed_call C_law_same (hr.mono h_law_same) rfl C_law_same_g C_law_same_k C_law_same_b (ea_v (ed_var 2) (ea_v (ed_var 3) (ea_nil))))))) rfl b_all bb_all)))) (sds_nil))
      (sds_cons (sd_if (eb_tru (ED.er (ed_isi isi_str (ed_var 1) rfl b_isinstance rfl b_str bb_str))) (sds_one (sd_ret (ed_and (ed_isi isi_str (ed_var 0) rfl b_isinstance rfl b_str bb_str) (ed_one (ed_cmp (od_eq hr.units) (ed_var 0) (ED.er (ed_var 1)) (nomark _)))))) (sds_nil))
      (sds_one (sd_ret (ed_and (ed_isi isi_int (ed_var 0) rfl b_isinstance rfl b_int bb_int) (ed_and (ed_not (ed_isi isi_bool (ed_var 0) rfl b_isinstance rfl b_bool bb_bool)) (ed_one (ed_cmp (od_eq hr.units) (ed_var 0) (ED.er (ed_var 1)) (nomark _))))))))))
abbrev s_law_draw : Stmt := topS 8
abbrev N_law_draw : List Str := ["script", "town", "many", "k", "cell", "digits", "number", "more"]
theorem sc_law_draw : FnScope N_law_draw ["script", "town", "many"] (defScope s_law_draw) := ⟨rfl, rfl, rfl, by decide +kernel, rfl, by decide +kernel, by decide +kernel⟩
theorem dv_law_draw {f : Addr} {k : Nat} (b_len : mg "len" = none) (b_abs : mg "abs" = none) (b_max : mg "max" = none) (cdv : Value) (A : Around) (outer : List PySem.Env) (s : Shared) (H : Hp) (E : XK) (hr : Room k (A.deeper (envOfC "_law_draw" (defScope s_law_draw) s.heap.objs.size f cdv))) (G : Gh) (hG : G.slots = [1]) :
    SDs (cxOf CX0 P w K mg base N_law_draw "_law_draw" (defScope s_law_draw) f cdv A outer s H E).nox G (defBody s_law_draw) (tb_law_draw) := by
  unfold tb_law_draw
  exact sds_cons (sd_if (eb_not (eb_tru (er_var 1))) (sds_one (sd_expr (ed_app 1 (ed_ca1 (cd_max rfl) (ED.er (EL.ed (el_op od_cat (EL.ed (el_comp [("cell", 4)] rfl sc_law_draw.nd rfl (nsA hG (by decide)) (id_lst (ed_var 0)) (blkOk_by (N := N_law_draw) (sc := defScope s_law_draw) (by decide +kernel)) (fun _ q1 _ _ _ _ _ => gd_name (ns (q1.trans hG) (by decide)) (by decide) sc_law_draw.nd rfl (by first | exact Or.inl rfl | exact Or.inr rfl)) (fun _ q1 _ _ _ _ _ => ebs_nil) (fun _ q1 _ _ _ _ _ => ed_ca1 cd_abs (ED.er (ed_var 4)) rfl b_abs bb_abs))) (ED.er (EL.ed (el_lst (eds_cons (ed_int) (eds_nil)))))))) rfl b_max bb_max)))) (sds_nil))
      (sds_cons (sd_expr (ed_app 1 (ed_int)))
      (sds_cons (sd_set (ns hG (by decide)) sc_law_draw.nd rfl (by first | exact Or.inl rfl | exact Or.inr rfl) (ed_ca1 cd_len (er_var 1) rfl b_len bb_len))
      (sds_cons (sd_set (ns hG (by decide)) sc_law_draw.nd rfl (by first | exact Or.inl rfl | exact Or.inr rfl) (ed_if (eb_tru (ED.er (ed_var 0))) (ed_ix (ed_var 0) (ed_op od_mod (ed_var 3) (ED.er (ed_ca1 cd_len (ED.er (ed_var 0)) rfl b_len bb_len)))) (ed_int)))
      (sds_cons (sd_set (ns hG (by decide)) sc_law_draw.nd rfl (by first | exact Or.inl rfl | exact Or.inr rfl) (ed_op od_mod (ed_ixO 1 (ed_int)) (ED.er (ed_int))))
      (sds_cons (sd_setIx 1 (ed_int) (ed_op od_div (ed_ixO 1 (ed_int)) (ED.er (ed_int))))
      (sds_cons (sd_set (ns hG (by decide)) sc_law_draw.nd rfl (by first | exact Or.inl rfl | exact Or.inr rfl) (ed_op od_mod (ed_op od_add (ed_op od_add (ed_var 4) (ED.er (ed_op od_mul (ed_int) (ED.er (ed_var 5))))) (ED.er (ed_op od_mul (ed_int) (ED.er (ed_var 3))))) (ED.er (ed_int))))
      (sds_cons (sd_set (ns hG (by decide)) sc_law_draw.nd rfl (by first | exact Or.inl rfl | exact Or.inr rfl) (ed_op od_mod (ed_op od_mul (ed_op od_mod (ed_op od_mul (ed_var 6) (ED.er (ed_var 6))) (ED.er (ed_int))) (ED.er (ed_int))) (ED.er (ed_int))))
      (sds_cons (sd_set (ns hG (by decide)) sc_law_draw.nd rfl (by first | exact Or.inl rfl | exact Or.inr rfl) (ed_op od_mod (ed_op od_mul (ed_op od_mod (ed_op od_mul (ed_var 6) (ED.er (ed_var 6))) (ED.er (ed_int))) (ED.er (ed_int))) (ED.er (ed_int))))
      (sds_one (sd_ret (ed_op od_mod (ed_op od_add (ed_op od_mul (ed_op od_div (ed_var 6) (ED.er (ed_int))) (ED.er (ed_int))) (ED.er (ed_op od_div (ed_var 7) (ED.er (ed_int))))) (ED.er (ed_var 2)))))))))))))
abbrev s_law_spoilt : Stmt := topS 11
abbrev N_law_spoilt : List Str := ["script", "town", "plan", "rounds", "number", "tables", "at", "way", "row", "%g0", "%g1", "%g2", "%g3", "%g4", "%g5"]
theorem sc_law_spoilt : FnScope N_law_spoilt ["script", "town", "plan"] (defScope s_law_spoilt) := ⟨rfl, rfl, rfl, by decide +kernel, rfl, by decide +kernel, by decide +kernel⟩
theorem dv_law_spoilt {f : Addr} {k : Nat} (b_tuple : mg "tuple" = none) (b_len : mg "len" = none) (b_list : mg "list" = none) {sp_law_draw : SpD} {f_law_draw : Addr} {fd_law_draw : FuncData} {k_law_draw : Nat} (C_law_draw : FnOk P w K mg base CX0 k_law_draw f_law_draw fd_law_draw ["script", "town", "many"] (spL K sp_law_draw)) (h_law_draw : k_law_draw ≤ k) (C_law_draw_g : mg "_law_draw" = some (.ref f_law_draw)) (C_law_draw_k : PySem.W.keepIn K (.ref f_law_draw) = true) (C_law_draw_b : Binds K fd_law_draw ["script", "town", "many"] []) (cdv : Value) (A : Around) (outer : List PySem.Env) (s : Shared) (H : Hp) (E : XK) (hr : Room k (A.deeper (envOfC "_law_spoilt" (defScope s_law_spoilt) s.heap.objs.size f cdv))) (G : Gh) (hG : G.slots = [1]) :
    SDs (cxOf CX0 P w K mg base N_law_spoilt "_law_spoilt" (defScope s_law_spoilt) f cdv A outer s H E).nox G (defBody s_law_spoilt) (tb_law_spoilt_k24 sp_law_draw) := by
  unfold tb_law_spoilt_k24
  exact sds_cons (sd_setLC [("tables", 5)] (ns hG (by decide)) rfl sc_law_spoilt.nd rfl rfl (sw_true rfl rfl rfl (by decide +kernel)) rfl (nsA hG (by decide)) (id_tup (ed_var 2)) (blkOk_by (N := N_law_spoilt) (sc := defScope s_law_spoilt) (by decide +kernel)) (fun _ q2 _ _ _ _ _ => gd_name (ns (q2.trans hG) (by decide)) (by decide) sc_law_spoilt.nd rfl (by first | exact Or.inl rfl | exact Or.inr rfl)) (fun _ q2 _ _ _ _ _ => ebs_nil) (fun _ q2 _ _ _ _ _ => ed_newG (el_caT1 cd_list (ED.er (ed_var 5)) rfl b_list bb_list)))
      (sds_cons (sd_set (ns hG (by decide)) sc_law_spoilt.nd rfl (by first | exact Or.inl rfl | exact Or.inr rfl) (ed_call C_law_draw (hr.mono h_law_draw) rfl C_law_draw_g C_law_draw_k C_law_draw_b (ea_v (ed_var 0) (ea_o 1 (ea_v (ed_ca1 cd_len (er_var 3) rfl b_len bb_len) (ea_nil))))))
      (sds_cons (sd_set (ns hG (by decide)) sc_law_spoilt.nd rfl (by first | exact Or.inl rfl | exact Or.inr rfl) (ed_ixO 3 (ed_var 4)))
      (sds_cons (sd_par2 (nsA hG (by decide)) rfl sc_law_spoilt.nd rfl rfl (by decide) rfl rfl (eps_d (ed_call C_law_draw (hr.mono h_law_draw) rfl C_law_draw_g C_law_draw_k C_law_draw_b (ea_v (ed_var 0) (ea_o 1 (ea_v (ed_ca1 cd_len (er_gl (ed_var 5)) rfl b_len bb_len) (ea_nil))))) (eps_d (ed_call C_law_draw (hr.mono h_law_draw) rfl C_law_draw_g C_law_draw_k C_law_draw_b (ea_v (ed_var 0) (ea_o 1 (ea_v (ed_int) (ea_nil))))) (eps_nil))))
      (sds_cons (sd_if (eb_cmp (od_eq hr.units) (ed_var 7) (ED.er (ed_int)) (nomark _)) (sds_one (sd_setSlG (ed_var 5) (ed_var 6) (ed_op od_add (ed_var 6) (ED.er (ed_int))) (EL.ed (el_lst (eds_nil))))) (sds_one (sd_if (eb_cmp (od_eq hr.units) (ed_var 7) (ED.er (ed_int)) (nomark _)) (sds_one (sd_expr (ed_appG (ed_var 5) (ed_ixG (ed_var 5) (ed_var 6))))) (sds_one (sd_if (eb_cmp (od_eq hr.units) (ed_var 7) (ED.er (ed_int)) (nomark _)) (sds_one (sd_setIx 3 (ed_var 4) (ed_ixO 3 (ed_call C_law_draw (hr.mono h_law_draw) rfl C_law_draw_g C_law_draw_k C_law_draw_b (ea_v (ed_var 0) (ea_o 1 (ea_v (ed_ca1 cd_len (er_var 3) rfl b_len bb_len) (ea_nil)))))))) (sds_cons (sd_setL (ns hG (by decide)) sc_law_spoilt.nd rfl (by first | exact Or.inl rfl | exact Or.inr rfl) (el_caT1 cd_list (ED.er (ed_ixG (ed_var 5) (ed_var 6))) rfl b_list bb_list))
      (sds_cons (sd_setIx 8 (ed_op od_sub (ed_var 7) (ED.er (ed_int))) (ed_call C_law_draw (hr.mono h_law_draw) rfl C_law_draw_g C_law_draw_k C_law_draw_b (ea_v (ed_var 0) (ea_o 1 (ea_v (ed_op od_add (ed_op od_mul (ed_int) (ED.er (ed_ca1 cd_len (er_gl (ed_var 5)) rfl b_len bb_len))) (ED.er (ed_int))) (ea_nil))))))
      (sds_one (sd_setIxG (ed_var 5) (ed_var 6) (ed_caT1 cd_tuple (er_var 8) rfl b_tuple bb_tuple))))))))))
      (sds_one (sd_ret (ed_caT1 cd_tuple (ED.er (EL.ed (el_comp [("tables", 5)] rfl sc_law_spoilt.nd rfl (nsA hG (by decide)) (id_lst (ed_fzv 3)) (blkOk_by (N := N_law_spoilt) (sc := defScope s_law_spoilt) (by decide +kernel)) (fun _ q1 _ _ _ _ _ => gd_name (ns (q1.trans hG) (by decide)) (by decide) sc_law_spoilt.nd rfl (by first | exact Or.inl rfl | exact Or.inr rfl)) (fun _ q1 _ _ _ _ _ => ebs_one (eb_tru (er_gl (ed_var 5)))) (fun _ q1 _ _ _ _ _ => ed_caT1 cd_tuple (er_gl (ed_var 5)) rfl b_tuple bb_tuple)))) rfl b_tuple bb_tuple)))))))
abbrev s_turning : Stmt := topS 4
abbrev N_turning : List Str := ["tables", "rounds", "even", "plan", "number", "gone", "row", "table"]
theorem sc_turning : FnScope N_turning ["tables", "rounds"] (defScope s_turning) := ⟨rfl, rfl, rfl, by decide +kernel, rfl, by decide +kernel, by decide +kernel⟩
theorem dv_turning {f : Addr} {k : Nat} (b_tuple : mg "tuple" = none) (b_range : mg "range" = none) (b_int : mg "int" = none) {A_NoPlan : Addr} (x_NoPlan : PySem.W.excIn K A_NoPlan [.type "ValueError", .type "Exception", .type "BaseException", .type "object"] "ValueError.__new__" = true) (g_NoPlan : mg "NoPlan" = some (.ref A_NoPlan)) (k_NoPlan : PySem.W.keepIn K (.ref A_NoPlan) = true) (b_NoPlan : PySem.W.subIn K (.ref A_NoPlan) (.type "BaseException") = some true) (t_NoPlan : PySem.W.typeIn K (.ref A_NoPlan) = some (.type "type")) (cdv : Value) (A : Around) (outer : List PySem.Env) (s : Shared) (H : Hp) (E : XK) (hr : Room k (A.deeper (envOfC "turning" (defScope s_turning) s.heap.objs.size f cdv))) (G : Gh) (hG : G.slots = []) (WD : WDt) (hW : Wish K G WD (fun cls d _ H' => E cls d H')) :
    SDs (cxOf (L2.CX P w) P w K mg base N_turning "turning" (defScope s_turning) f cdv A outer s H E) G (defBody s_turning) (tb_turning (.ref A_NoPlan) WD) := by
  unfold tb_turning
  exact sds_cons (sd_set (ns hG (by decide)) sc_turning.nd rfl (by first | exact Or.inl rfl | exact Or.inr rfl) (ed_cmp (od_eq hr.units) (ed_op od_mod (ed_var 0) (ED.er (ed_int))) (ED.er (ed_int)) (nomark _)))
      (sds_cons (sd_if (eb_not (eb_chain od_le od_le (ed_int) (ed_var 1) (ed_op od_sub (ed_var 0) (ED.er (ed_caT1 cd_int (ED.er (ed_var 2)) rfl b_int bb_int))))) (sds_one (sd_raise rfl (takes_of rfl rfl rfl rfl) hW (pmk_own0 PySem.F.excBase_ValueError x_NoPlan g_NoPlan k_NoPlan (raises_own b_NoPlan t_NoPlan) rfl))) (sds_nil))
      (SDs.nox (sds_cons (sd_setL (ns hG (by decide)) sc_turning.nd rfl (by first | exact Or.inl rfl | exact Or.inr rfl) (el_lst (eds_nil)))
      (sds_cons (sd_for (ms := [4]) PassesOwn.never rfl (id_range1 rfl b_range (ed_var 1)) (gd_name (ns hG (by decide)) (by decide) sc_turning.nd rfl (by first | exact Or.inl rfl | exact Or.inr rfl)) (sds_cons (sd_set (ns hG (by decide)) sc_turning.nd rfl (by first | exact Or.inl rfl | exact Or.inr rfl) (ed_op od_add (ed_var 4) (ED.er (ed_caT1 cd_int (ED.er (ed_and (ed_var 2) (ed_one (ed_cmp od_ge (ed_op od_mul (ed_int) (ED.er (ed_var 4))) (ED.er (ed_var 0)) (nomark _))))) rfl b_int bb_int))))
      (sds_cons (sd_setC [("table", 7)] (ns hG (by decide)) rfl sc_turning.nd rfl rfl (sw_true rfl rfl rfl (by decide +kernel)) rfl (nsA hG (by decide)) (id_range1 rfl b_range (ed_var 0)) (blkOk_by (N := N_turning) (sc := defScope s_turning) (by decide +kernel)) (fun _ q1 _ _ _ _ _ => gd_name (ns (q1.trans hG) (by decide)) (by decide) sc_turning.nd rfl (by first | exact Or.inl rfl | exact Or.inr rfl)) (fun _ q1 _ _ _ _ _ => ebs_nil) (fun _ q1 _ _ _ _ _ => ed_tup (eds_cons (ed_var 7) (eds_cons (ed_op od_add (ed_var 0) (ED.er (ed_op od_mod (ed_op od_sub (ed_var 7) (ED.er (ed_var 5))) (ED.er (ed_var 0))))) (eds_cons (ed_op od_mod (ed_op od_add (ed_var 7) (ED.er (ed_var 4))) (ED.er (ed_var 0))) (eds_nil))))))
      (sds_one (sd_expr (ed_app 3 (ed_caT1 cd_tuple (ED.er (ed_var 6)) rfl b_tuple bb_tuple)))))))
      (sds_one (sd_ret (ed_caT1 cd_tuple (er_var 3) rfl b_tuple bb_tuple)))))))
abbrev s_law : Stmt := topS 12
abbrev N_law : List Str := ["script", "town", "k", "tables", "plan", "plans", "j", "small", "row", "table", "number", "one"]
theorem sc_law : FnScope N_law ["script"] (defScope s_law) := ⟨rfl, rfl, rfl, by decide +kernel, rfl, by decide +kernel, by decide +kernel⟩
theorem dv_law {f : Addr} {k : Nat} (b_range : mg "range" = none) (b_all : mg "all" = none) (b_tuple : mg "tuple" = none) (b_max : mg "max" = none) {sp_law_fault : SpD} {f_law_fault : Addr} {fd_law_fault : FuncData} {k_law_fault : Nat} (C_law_fault : FnOk P w K mg base CX0 k_law_fault f_law_fault fd_law_fault ["plan"] (spL K sp_law_fault)) (h_law_fault : k_law_fault ≤ k) (C_law_fault_g : mg "_law_fault" = some (.ref f_law_fault)) (C_law_fault_k : PySem.W.keepIn K (.ref f_law_fault) = true) (C_law_fault_b : Binds K fd_law_fault ["plan"] []) {sp_plan_fault : SpD} {f_plan_fault : Addr} {fd_plan_fault : FuncData} {k_plan_fault : Nat} (C_plan_fault : FnOk P w K mg base CX0 k_plan_fault f_plan_fault fd_plan_fault ["plan"] (spL K sp_plan_fault)) (h_plan_fault : k_plan_fault ≤ k) (C_plan_fault_g : mg "plan_fault" = some (.ref f_plan_fault)) (C_plan_fault_k : PySem.W.keepIn K (.ref f_plan_fault) = true) (C_plan_fault_b : Binds K fd_plan_fault ["plan"] []) {sp_law_same : SpD} {f_law_same : Addr} {fd_law_same : FuncData} {k_law_same : Nat} (C_law_same : FnOk P w K mg base CX0 k_law_same f_law_same fd_law_same ["got", "due"] (spL K sp_law_same)) (h_law_same : k_law_same ≤ k) (C_law_same_g : mg "_law_same" = some (.ref f_law_same)) (C_law_same_k : PySem.W.keepIn K (.ref f_law_same) = true) (C_law_same_b : Binds K fd_law_same ["got", "due"] []) {sp_law_draw : SpD} {f_law_draw : Addr} {fd_law_draw : FuncData} {k_law_draw : Nat} (C_law_draw : FnOk P w K mg base CX0 k_law_draw f_law_draw fd_law_draw ["script", "town", "many"] (spL K sp_law_draw)) (h_law_draw : k_law_draw ≤ k) (C_law_draw_g : mg "_law_draw" = some (.ref f_law_draw)) (C_law_draw_k : PySem.W.keepIn K (.ref f_law_draw) = true) (C_law_draw_b : Binds K fd_law_draw ["script", "town", "many"] []) {sp_law_spoilt : SpD} {f_law_spoilt : Addr} {fd_law_spoilt : FuncData} {k_law_spoilt : Nat} (C_law_spoilt : FnOk P w K mg base CX0 k_law_spoilt f_law_spoilt fd_law_spoilt ["script", "town", "plan"] (spL K sp_law_spoilt)) (h_law_spoilt : k_law_spoilt ≤ k) (C_law_spoilt_g : mg "_law_spoilt" = some (.ref f_law_spoilt)) (C_law_spoilt_k : PySem.W.keepIn K (.ref f_law_spoilt) = true) (C_law_spoilt_b : Binds K fd_law_spoilt ["script", "town", "plan"] []) {sp_turning : SpX} {f_turning : Addr} {fd_turning : FuncData} {k_turning : Nat} (C_turning : FnOk P w K mg base (L2.CX P w) k_turning f_turning fd_turning ["tables", "rounds"] (spLX K sp_turning)) (h_turning : k_turning ≤ k) (C_turning_g : mg "turning" = some (.ref f_turning)) (C_turning_k : PySem.W.keepIn K (.ref f_turning) = true) (C_turning_b : Binds K fd_turning ["tables", "rounds"] []) (cdv : Value) (A : Around) (outer : List PySem.Env) (s : Shared) (H : Hp) (E : XK) (hr : Room k (A.deeper (envOfC "law" (defScope s_law) s.heap.objs.size f cdv))) (G : Gh) (hG : G.slots = []) :
    SDs (cxOf CX0 P w K mg base N_law "law" (defScope s_law) f cdv A outer s H E).nox G (defBody s_law) (tb_law_k24 sp_law_fault sp_plan_fault sp_law_same sp_law_draw sp_law_spoilt sp_turning) := by
  unfold tb_law_k24
  exact sds_cons (sd_setL (ns hG (by decide)) sc_law.nd rfl (by first | exact Or.inl rfl | exact Or.inr rfl) (el_lst (eds_nil)))
      (sds_cons (sd_for (ms := [2]) PassesOwn.never rfl (id_range1 rfl b_range (ed_int)) (gd_name (ns hG (by decide)) (by decide) sc_law.nd rfl (by first | exact Or.inl rfl | exact Or.inr rfl)) (sds_cons (sd_set (ns hG (by decide)) sc_law.nd rfl (by first | exact Or.inl rfl | exact Or.inr rfl) (ed_op od_add (ed_int) (ED.er (ed_call C_law_draw (hr.mono h_law_draw) rfl C_law_draw_g C_law_draw_k C_law_draw_b (ea_v (ed_var 0) (ea_o 1 (ea_v (ed_int) (ea_nil))))))))
      (sds_cons (sd_set (ns hG (by decide)) sc_law.nd rfl (by first | exact Or.inl rfl | exact Or.inr rfl) (ed_callX C_turning takes0 (fun _ _ _ _ h _ => h.elim) (hr.mono h_turning) rfl C_turning_g C_turning_k C_turning_b (ea_v (ed_var 3) (ea_v (ed_ca2 (cd_max2 rfl) (ed_int) (ED.er (ed_op od_sub (ed_var 3) (ED.er (ed_int)))) rfl b_max bb_max) (ea_nil)))))
      (sds_cons (sd_setL (ns hG (by decide)) sc_law.nd rfl (by first | exact Or.inl rfl | exact Or.inr rfl) (el_lst (eds_cons (ed_var 4) (eds_cons (ed_tup (eds_nil)) (eds_cons (ed_tup (eds_cons (ed_tup (eds_nil)) (eds_nil))) (eds_cons (ed_op od_add (ed_var 4) (ED.er (ed_sl (ed_var 4) (eo_no) (eo_e (ed_int))))) (eds_cons (ed_revT (ed_var 4)) (eds_nil))))))))
      (sds_cons (sd_for (ms := [6]) PassesOwn.never rfl (id_range1 rfl b_range (ed_int)) (gd_name (ns hG (by decide)) (by decide) sc_law.nd rfl (by first | exact Or.inl rfl | exact Or.inr rfl)) (sds_one (sd_expr (ed_app 5 (ed_call C_law_spoilt (hr.mono h_law_spoilt) rfl C_law_spoilt_g C_law_spoilt_k C_law_spoilt_b (ea_v (ed_var 0) (ea_o 1 (ea_v (ed_var 4) (ea_nil)))))))))
      (sds_cons (sd_setL (ns hG (by decide)) sc_law.nd rfl (by first | exact Or.inl rfl | exact Or.inr rfl) (el_lst (eds_nil)))
      (sds_cons (sd_for (ms := [6]) PassesOwn.never rfl (id_range1 rfl b_range (ed_int)) (gd_name (ns hG (by decide)) (by decide) sc_law.nd rfl (by first | exact Or.inl rfl | exact Or.inr rfl)) (sds_cons (sd_setC [("table", 9)] (ns hG (by decide)) rfl sc_law.nd rfl rfl (sw_true rfl rfl rfl (by decide +kernel)) rfl (nsA hG (by decide)) (id_range1 rfl b_range (ed_int)) (blkOk_by (N := N_law) (sc := defScope s_law) (by decide +kernel)) (fun _ q2 _ _ _ _ _ => gd_name (ns (q2.trans hG) (by decide)) (by decide) sc_law.nd rfl (by first | exact Or.inl rfl | exact Or.inr rfl)) (fun _ q2 _ _ _ _ _ => ebs_nil) (fun _ q2 _ _ _ _ _ => ed_caT1 cd_tuple (ED.er (EL.ed (el_comp [("number", 10)] rfl sc_law.nd rfl (nsA (q2.trans hG) (by decide)) (id_range1 rfl b_range (ed_int)) (blkOk_by rfl) (fun _ q3 _ _ _ _ _ => gd_name (ns (q3.trans (q2.trans hG)) (by decide)) (by decide) sc_law.nd rfl (by first | exact Or.inl rfl | exact Or.inr rfl)) (fun _ q3 _ _ _ _ _ => ebs_nil) (fun _ q3 _ _ _ _ _ => ed_call C_law_draw (hr.mono h_law_draw) rfl C_law_draw_g C_law_draw_k C_law_draw_b (ea_v (ed_var 0) (ea_o 1 (ea_v (ed_int) (ea_nil)))))))) rfl b_tuple bb_tuple))
      (sds_one (sd_expr (ed_app 7 (ed_caT1 cd_tuple (ED.er (ed_var 8)) rfl b_tuple bb_tuple))))))
      (sds_cons (sd_setL (ns hG (by decide)) sc_law.nd rfl (by first | exact Or.inl rfl | exact Or.inr rfl) (el_op od_cat (ed_fzv 5) (ED.er (EL.ed (el_lst (eds_cons (ed_caT1 cd_tuple (er_var 7) rfl b_tuple bb_tuple) (eds_cons (ed_caT1 cd_tuple (ED.er (EL.ed (el_sl (ed_fzv 7) (eo_no) (eo_e (ed_int))))) rfl b_tuple bb_tuple) (eds_nil))))))))
      (sds_one (sd_if (eb_not (eb_tru (ED.er (ed_ca1 (cd_all rfl) (ED.er (EL.ed (el_comp [("one", 11)] rfl sc_law.nd rfl (nsA hG (by decide)) (id_lst (ed_fzv 5)) (blkOk_by (N := N_law) (sc := defScope s_law) (by decide +kernel)) (fun _ q1 _ _ _ _ _ => gd_name (ns (q1.trans hG) (by decide)) (by decide) sc_law.nd rfl (by first | exact Or.inl rfl | exact Or.inr rfl)) (fun _ q1 _ _ _ _ _ => ebs_nil) (fun _ q1 _ _ _ _ _ => ed_call C_law_same (hr.mono h_law_same) rfl C_law_same_g C_law_same_k C_law_same_b (ea_v (ed_call C_plan_fault (hr.mono h_plan_fault) rfl C_plan_fault_g C_plan_fault_k C_plan_fault_b (ea_v (ed_var 11) (ea_nil))) (ea_v (ed_call C_law_fault (hr.mono h_law_fault) rfl C_law_fault_g C_law_fault_k C_law_fault_b (ea_v (ed_var 11) (ea_nil))) (ea_nil))))))) rfl b_all bb_all)))) (sds_one (sd_ret (ed_bl))) (sds_nil)))))))))))
      (sds_one (sd_ret (ed_bl))))
end
theorem all_mk {l : PySem.W.OpenLaw} {w : World} {K : PySem.W.Frag} {h : Heap} {mg : Str → Option Value} {fa : Addr} {f_law_fault : Addr} {od_law_fault an_law_fault : Option Addr} {sl_law_fault : Array (Option Value)} {oc_law_fault kV_law_fault dc_law_fault pm_law_fault cd_law_fault ct_law_fault : Value} {f_plan_fault : Addr} {od_plan_fault an_plan_fault : Option Addr} {sl_plan_fault : Array (Option Value)} {oc_plan_fault kV_plan_fault dc_plan_fault pm_plan_fault cd_plan_fault ct_plan_fault : Value} {f_law_same : Addr} {od_law_same an_law_same : Option Addr} {sl_law_same : Array (Option Value)} {oc_law_same kV_law_same dc_law_same pm_law_same cd_law_same ct_law_same : Value} {f_law_draw : Addr} {od_law_draw an_law_draw : Option Addr} {sl_law_draw : Array (Option Value)} {oc_law_draw kV_law_draw dc_law_draw pm_law_draw cd_law_draw ct_law_draw : Value} {f_law_spoilt : Addr} {od_law_spoilt an_law_spoilt : Option Addr} {sl_law_spoilt : Array (Option Value)} {oc_law_spoilt kV_law_spoilt dc_law_spoilt pm_law_spoilt cd_law_spoilt ct_law_spoilt : Value} {f_turning : Addr} {od_turning an_turning : Option Addr} {sl_turning : Array (Option Value)} {oc_turning kV_turning dc_turning pm_turning cd_turning ct_turning : Value} {f_law : Addr} {od_law an_law : Option Addr} {sl_law : Array (Option Value)} {oc_law kV_law dc_law pm_law cd_law ct_law : Value} {A_NoPlan : Addr} (X : K.In h) (G : h.Ns mainGlobals mg) (hfa : mg "law" = some (.ref fa))
    (a_law_fault : PySem.W.nsIn K mainGlobals "_law_fault" = some (some (.ref f_law_fault))) (l_law_fault : K.lookup f_law_fault = some ⟨oc_law_fault, od_law_fault, .func (PySem.W.fnOf "_law_fault" "_law_fault" (defArgs s_law_fault) (defBody s_law_fault) (defScope s_law_fault) .none kV_law_fault dc_law_fault pm_law_fault an_law_fault cd_law_fault ct_law_fault), sl_law_fault⟩) (c_law_fault : PySem.W.codeIn K cd_law_fault "_law_fault" = true) (k_law_fault : PySem.W.keepIn K (.ref f_law_fault) = true)
    (a_plan_fault : PySem.W.nsIn K mainGlobals "plan_fault" = some (some (.ref f_plan_fault))) (l_plan_fault : K.lookup f_plan_fault = some ⟨oc_plan_fault, od_plan_fault, .func (PySem.W.fnOf "plan_fault" "plan_fault" (defArgs s_plan_fault) (defBody s_plan_fault) (defScope s_plan_fault) .none kV_plan_fault dc_plan_fault pm_plan_fault an_plan_fault cd_plan_fault ct_plan_fault), sl_plan_fault⟩) (c_plan_fault : PySem.W.codeIn K cd_plan_fault "plan_fault" = true) (k_plan_fault : PySem.W.keepIn K (.ref f_plan_fault) = true)
    (a_law_same : PySem.W.nsIn K mainGlobals "_law_same" = some (some (.ref f_law_same))) (l_law_same : K.lookup f_law_same = some ⟨oc_law_same, od_law_same, .func (PySem.W.fnOf "_law_same" "_law_same" (defArgs s_law_same) (defBody s_law_same) (defScope s_law_same) .none kV_law_same dc_law_same pm_law_same an_law_same cd_law_same ct_law_same), sl_law_same⟩) (c_law_same : PySem.W.codeIn K cd_law_same "_law_same" = true) (k_law_same : PySem.W.keepIn K (.ref f_law_same) = true)
    (a_law_draw : PySem.W.nsIn K mainGlobals "_law_draw" = some (some (.ref f_law_draw))) (l_law_draw : K.lookup f_law_draw = some ⟨oc_law_draw, od_law_draw, .func (PySem.W.fnOf "_law_draw" "_law_draw" (defArgs s_law_draw) (defBody s_law_draw) (defScope s_law_draw) .none kV_law_draw dc_law_draw pm_law_draw an_law_draw cd_law_draw ct_law_draw), sl_law_draw⟩) (c_law_draw : PySem.W.codeIn K cd_law_draw "_law_draw" = true) (k_law_draw : PySem.W.keepIn K (.ref f_law_draw) = true)
    (a_law_spoilt : PySem.W.nsIn K mainGlobals "_law_spoilt" = some (some (.ref f_law_spoilt))) (l_law_spoilt : K.lookup f_law_spoilt = some ⟨oc_law_spoilt, od_law_spoilt, .func (PySem.W.fnOf "_law_spoilt" "_law_spoilt" (defArgs s_law_spoilt) (defBody s_law_spoilt) (defScope s_law_spoilt) .none kV_law_spoilt dc_law_spoilt pm_law_spoilt an_law_spoilt cd_law_spoilt ct_law_spoilt), sl_law_spoilt⟩) (c_law_spoilt : PySem.W.codeIn K cd_law_spoilt "_law_spoilt" = true) (k_law_spoilt : PySem.W.keepIn K (.ref f_law_spoilt) = true)
    (a_turning : PySem.W.nsIn K mainGlobals "turning" = some (some (.ref f_turning))) (l_turning : K.lookup f_turning = some ⟨oc_turning, od_turning, .func (PySem.W.fnOf "turning" "turning" (defArgs s_turning) (defBody s_turning) (defScope s_turning) .none kV_turning dc_turning pm_turning an_turning cd_turning ct_turning), sl_turning⟩) (c_turning : PySem.W.codeIn K cd_turning "turning" = true) (k_turning : PySem.W.keepIn K (.ref f_turning) = true)
    (a_law : PySem.W.nsIn K mainGlobals "law" = some (some (.ref f_law))) (l_law : K.lookup f_law = some ⟨oc_law, od_law, .func (PySem.W.fnOf "law" "law" (defArgs s_law) (defBody s_law) (defScope s_law) .none kV_law dc_law pm_law an_law cd_law ct_law), sl_law⟩) (c_law : PySem.W.codeIn K cd_law "law" = true) (k_law : PySem.W.keepIn K (.ref f_law) = true)
    (a_NoPlan : PySem.W.nsIn K mainGlobals "NoPlan" = some (some (.ref A_NoPlan))) (x_NoPlan : PySem.W.excIn K A_NoPlan [.type "ValueError", .type "Exception", .type "BaseException", .type "object"] "ValueError.__new__" = true) (k_NoPlan : PySem.W.keepIn K (.ref A_NoPlan) = true) (b_NoPlan : PySem.W.subIn K (.ref A_NoPlan) (.type "BaseException") = some true) (t_NoPlan : PySem.W.typeIn K (.ref A_NoPlan) = some (.type "type")) (i_NoPlan : PySem.W.isClsIn K A_NoPlan = true) (s_NoPlan : PySem.W.subIn K (.ref A_NoPlan) (.ref A_NoPlan) = some true)
    (z_enumerate : PySem.W.nsIn K mainGlobals "enumerate" = some none)
    (z_list : PySem.W.nsIn K mainGlobals "list" = some none)
    (z_isinstance : PySem.W.nsIn K mainGlobals "isinstance" = some none)
    (z_int : PySem.W.nsIn K mainGlobals "int" = some none)
    (z_bool : PySem.W.nsIn K mainGlobals "bool" = some none)
    (z_str : PySem.W.nsIn K mainGlobals "str" = some none)
    (z_tuple : PySem.W.nsIn K mainGlobals "tuple" = some none)
    (z_zip : PySem.W.nsIn K mainGlobals "zip" = some none)
    (z_all : PySem.W.nsIn K mainGlobals "all" = some none)
    (z_len : PySem.W.nsIn K mainGlobals "len" = some none)
    (z_abs : PySem.W.nsIn K mainGlobals "abs" = some none)
    (z_max : PySem.W.nsIn K mainGlobals "max" = some none)
    (z_range : PySem.W.nsIn K mainGlobals "range" = some none) :
    ∃ fd : FuncData, (∀ (s : Shared) (v : Value), BindsTo s fd ⟨[v], []⟩ [("script", v)]) ∧ ∀ base : Heap, K.In base → base.Ns mainGlobals mg → FnOk l.prog w K mg base CX0 4 fa fd ["script"] (spL K spLaw) := by
  cases hfa.symm.trans (PySem.W.mg_of X G a_law)
  have F_law_fault := fun_mk (st := s_law_fault) l_law_fault c_law_fault k_law_fault
  have B_law_fault := F_law_fault.binds (ps := ["plan"]) fun _ _ _ _ _ _ us hl => match us, hl with | [_], _ => rfl
  have g_law_fault := PySem.W.mg_of X G a_law_fault
  have F_plan_fault := fun_mk (st := s_plan_fault) l_plan_fault c_plan_fault k_plan_fault
  have B_plan_fault := F_plan_fault.binds (ps := ["plan"]) fun _ _ _ _ _ _ us hl => match us, hl with | [_], _ => rfl
  have g_plan_fault := PySem.W.mg_of X G a_plan_fault
  have F_law_same := fun_mk (st := s_law_same) l_law_same c_law_same k_law_same
  have B_law_same := F_law_same.binds (ps := ["got", "due"]) fun _ _ _ _ _ _ us hl => match us, hl with | [_, _], _ => rfl
  have g_law_same := PySem.W.mg_of X G a_law_same
  have F_law_draw := fun_mk (st := s_law_draw) l_law_draw c_law_draw k_law_draw
  have B_law_draw := F_law_draw.binds (ps := ["script", "town", "many"]) fun _ _ _ _ _ _ us hl => match us, hl with | [_, _, _], _ => rfl
  have g_law_draw := PySem.W.mg_of X G a_law_draw
  have F_law_spoilt := fun_mk (st := s_law_spoilt) l_law_spoilt c_law_spoilt k_law_spoilt
  have B_law_spoilt := F_law_spoilt.binds (ps := ["script", "town", "plan"]) fun _ _ _ _ _ _ us hl => match us, hl with | [_, _, _], _ => rfl
  have g_law_spoilt := PySem.W.mg_of X G a_law_spoilt
  have F_turning := fun_mk (st := s_turning) l_turning c_turning k_turning
  have B_turning := F_turning.binds (ps := ["tables", "rounds"]) fun _ _ _ _ _ _ us hl => match us, hl with | [_, _], _ => rfl
  have g_turning := PySem.W.mg_of X G a_turning
  have F_law := fun_mk (st := s_law) l_law c_law k_law
  have g_NoPlan := PySem.W.mg_of X G a_NoPlan
  have e_NoPlan : (fun cls => PySem.W.exmOne K cls (.ref A_NoPlan)) (.ref A_NoPlan) = some true := exm_sub b_NoPlan i_NoPlan t_NoPlan s_NoPlan
  have b_enumerate := PySem.W.mg_none_of X G z_enumerate
  have b_list := PySem.W.mg_none_of X G z_list
  have b_isinstance := PySem.W.mg_none_of X G z_isinstance
  have b_int := PySem.W.mg_none_of X G z_int
  have b_bool := PySem.W.mg_none_of X G z_bool
  have b_str := PySem.W.mg_none_of X G z_str
  have b_tuple := PySem.W.mg_none_of X G z_tuple
  have b_zip := PySem.W.mg_none_of X G z_zip
  have b_all := PySem.W.mg_none_of X G z_all
  have b_len := PySem.W.mg_none_of X G z_len
  have b_abs := PySem.W.mg_none_of X G z_abs
  have b_max := PySem.W.mg_none_of X G z_max
  have b_range := PySem.W.mg_none_of X G z_range
  refine ⟨PySem.W.fnOf "law" "law" (defArgs s_law) (defBody s_law) (defScope s_law) .none kV_law dc_law pm_law an_law cd_law ct_law, fun s v => .of_eq rfl, fun base _ _ => ?_⟩
  have ok_law_fault : FnOk l.prog w K mg base CX0 1 f_law_fault _ ["plan"] (spL K spFaultH) := fn_okD F_law_fault sc_law_fault sh_law_fault (fun cdv A outer s H E hr G hG => dv_law_fault b_enumerate b_list cdv A outer s H E hr G hG) rd_law_fault_k24
  have ok_plan_fault : FnOk l.prog w K mg base CX0 1 f_plan_fault _ ["plan"] (spL K spFault) := fn_okD F_plan_fault sc_plan_fault sh_plan_fault (fun cdv A outer s H E hr G hG => dv_plan_fault b_enumerate cdv A outer s H E hr G hG) rd_plan_fault
  have ok_law_same_z : FnOk l.prog w K mg base CX0 1 f_law_same _ ["got", "due"] (spL K spNo) := no_ok F_law_same sc_law_same
  have ok_law_same_0 : FnOk l.prog w K mg base CX0 2 f_law_same _ ["got", "due"] (spL K (spSame 0)) := fn_okD F_law_same sc_law_same (sh_law_same 0) (fun cdv A outer s H E hr G hG => dv_law_same b_isinstance b_int b_bool b_str b_tuple b_zip b_all b_len ok_law_same_z (by decide) g_law_same F_law_same.kp B_law_same cdv A outer s H E hr G hG) (rd_law_same 0 spNo (fun m e => nomatch e))
  have ok_law_same : FnOk l.prog w K mg base CX0 3 f_law_same _ ["got", "due"] (spL K (spSame 1)) := fn_okD F_law_same sc_law_same (sh_law_same 1) (fun cdv A outer s H E hr G hG => dv_law_same b_isinstance b_int b_bool b_str b_tuple b_zip b_all b_len ok_law_same_0 (by decide) g_law_same F_law_same.kp B_law_same cdv A outer s H E hr G hG) (rd_law_same 1 (spSame 0) (fun m e => by cases e; rfl))
  have ok_law_draw : FnOk l.prog w K mg base CX0 1 f_law_draw _ ["script", "town", "many"] (spL K spDraw) := fn_okD F_law_draw sc_law_draw sh_law_draw (fun cdv A outer s H E hr G hG => dv_law_draw b_len b_abs b_max cdv A outer s H E hr G hG) rd_law_draw
  have ok_law_spoilt : FnOk l.prog w K mg base CX0 2 f_law_spoilt _ ["script", "town", "plan"] (spL K spSpoil) := fn_okD F_law_spoilt sc_law_spoilt sh_law_spoilt (fun cdv A outer s H E hr G hG => dv_law_spoilt b_tuple b_len b_list ok_law_draw (by decide) g_law_draw F_law_draw.kp B_law_draw cdv A outer s H E hr G hG) rd_law_spoilt_k24
  have ok_turning : FnOk l.prog w K mg base (L2.CX l.prog w) 1 f_turning _ ["tables", "rounds"] (spLX K (spTurning (.ref A_NoPlan))) := fn_okX F_turning sc_turning (sh_turning _) (fun cdv A outer s H E hr G hG WD hW => dv_turning b_tuple b_range b_int x_NoPlan g_NoPlan k_NoPlan b_NoPlan t_NoPlan cdv A outer s H E hr G hG WD hW) (rd_turning _)
  have ok_law : FnOk l.prog w K mg base CX0 4 _ _ ["script"] (spL K spLaw) := fn_okD F_law sc_law sh_law (fun cdv A outer s H E hr G hG => dv_law b_range b_all b_tuple b_max ok_law_fault (by decide) g_law_fault F_law_fault.kp B_law_fault ok_plan_fault (by decide) g_plan_fault F_plan_fault.kp B_plan_fault ok_law_same (by decide) g_law_same F_law_same.kp B_law_same ok_law_draw (by decide) g_law_draw F_law_draw.kp B_law_draw ok_law_spoilt (by decide) g_law_spoilt F_law_spoilt.kp B_law_spoilt ok_turning (by decide) g_turning F_turning.kp B_turning cdv A outer s H E hr G hG) rd_law_k24
  exact ok_law
end LW
open PySem PySem.W PyProof.Rows
set_option maxHeartbeats 0 in
theorem PySem.Challenge.cw_boardcalls_k24_whole_faults_of_plans_holds : PySem.Challenge.rw_boardcalls_k24_whole_faults_of_plans.Holds := by
  w_on; o_law; k_head; (case hw => w_witness2)
  k_fill
  refine DL.law_walk (l := PySem.Challenge.rw_boardcalls_k24_whole_faults_of_plans) (n := 63) (k := 4) (x := "script") (sp := DL.spLaw) rfl (by decide) rfl ⟨rfl, by decide, by decide⟩ (fun w h Y => PySem.W.kIn_of Y) ?F (fun ns Q hl _ q => ⟨ns, rfl, hl, q⟩)
  case F =>
    intro w mg fa h KX G hmg
    refine' LW.all_mk KX G hmg ?a_law_fault ?l_law_fault ?c_law_fault ?k_law_fault ?a_plan_fault ?l_plan_fault ?c_plan_fault ?k_plan_fault ?a_law_same ?l_law_same ?c_law_same ?k_law_same ?a_law_draw ?l_law_draw ?c_law_draw ?k_law_draw ?a_law_spoilt ?l_law_spoilt ?c_law_spoilt ?k_law_spoilt ?a_turning ?l_turning ?c_turning ?k_turning ?a_law ?l_law ?c_law ?k_law ?a_NoPlan ?x_NoPlan ?k_NoPlan ?b_NoPlan ?t_NoPlan ?i_NoPlan ?s_NoPlan ?z_enumerate ?z_list ?z_isinstance ?z_int ?z_bool ?z_str ?z_tuple ?z_zip ?z_all ?z_len ?z_abs ?z_max ?z_range
    (case a_law_fault => k_is); (case l_law_fault => k_is); (case c_law_fault => k_is); (case k_law_fault => k_is); (case a_plan_fault => k_is); (case l_plan_fault => k_is); (case c_plan_fault => k_is); (case k_plan_fault => k_is); (case a_law_same => k_is); (case l_law_same => k_is); (case c_law_same => k_is); (case k_law_same => k_is); (case a_law_draw => k_is); (case l_law_draw => k_is); (case c_law_draw => k_is); (case k_law_draw => k_is); (case a_law_spoilt => k_is); (case l_law_spoilt => k_is); (case c_law_spoilt => k_is); (case k_law_spoilt => k_is); (case a_turning => k_is); (case l_turning => k_is); (case c_turning => k_is); (case k_turning => k_is); (case a_law => k_is); (case l_law => k_is); (case c_law => k_is); (case k_law => k_is); (case a_NoPlan => k_is); (case k_NoPlan => k_is); (case b_NoPlan => k_is); (case t_NoPlan => k_is); (case i_NoPlan => k_is); (case z_enumerate => k_is); (case z_list => k_is); (case z_isinstance => k_is); (case z_int => k_is); (case z_bool => k_is); (case z_str => k_is); (case z_tuple => k_is); (case z_zip => k_is); (case z_all => k_is); (case z_len => k_is); (case z_abs => k_is); (case z_max => k_is); (case z_range => k_is); (case x_NoPlan => k_exc); (case s_NoPlan => (first | rfl | k_is))
