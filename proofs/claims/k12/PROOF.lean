import PyProof.Rows.All
import HandS.ForMost
import HandS.Exc
import HandS.Deep
import HandS.Wide
import HandS.TupAny
import HandS.TupMul
import HandS.IsInst
import HandS.SortInts
import HandS.Style
import HandS.Zip
import HandS.CallSlots
import HandS.Lambda
import HandS.ExcCtx
import HandS.Dict
import HandS.Star
import HandS.MakeKwOnly
import PyProof.NeKinds
import HandS.EndBits
import HandS.SetFor
import HandS.Strs
import KE.KExcInit
import HandS.ExcInit
import HandS.Small
import KE.KExcIs
import HandS.ExcField
import HandS.HotCalls
import KE.KNestM
import HandS.DictComp
import HandS.More
import HandS.List
import PyProof.P3Eq
import PyProof.ReprLen
import PyProof.TupleOfSeq
import PyProof.Rows.Digits
import HandS.NoneIn
import HandS.Property
import HandS.MakeKw
import HandS.Iter
import HandS.Walk
import PyProof.DictUpdate
import PyProof.DictDisplay
import KE.KDictDisplayH
import HandS.ExcValue
import HandS.Text
import PyProof.ListStr
import HandS.DictEq
import PyProof.EqAt
import HandS.Call
import HandS.Hot
import HandS.Conv
import HandS.SortOrd
import HandS.SortRule
import KE.DataMinMax
import HandS.NamedTupSort
import KE.KDictPairs
import HandS.TupSets
import PyProof.DictTable
import HandS.ListItems
import HandS.FStr
import HandS.RaiseMore
import PyProof.Rows.SortShellAny
import KE.GoesRaise
import KE.KEqNest
import KE.KDictCopyH
import KE.DataEq
import KE.KDictWalk
import HandS.TupLen
import KE.KSortTup
import PySem.Challenge.RW_lenspairs_k12_whole_numbers_of_solids
set_option Elab.async false
set_option linter.all false
set_option maxRecDepth 100000
set_option maxHeartbeats 4000000
/-! FL1: pure data D, the state of a def's body over it (Sta), the readings by functions. -/
namespace FL
open PySem PySem.Spec PyProof.Rows L2

/-- what holds of the whole law: the tables of code objects, where its classes stand -/
class FE where
  tabs : List (Addr × Str)
  cl : Str → Addr
  /-- the hash of a key -/
  hs : Option Key → Int := fun _ => 0
/-- a caught exception: its object, its dict, its class -/
structure EId where
  a : Addr
  d : Option Addr
  C : Str
deriving DecidableEq
/-- pure data -/
inductive D where
  | non
  | bl (b : Bool)
  | int (i : Int)
  | str (x : Str)
  | tup (xs : List D)
  | lst (xs : List D)
  | scr (ns : List Int)
  | fn (a : Addr)
  | dct (kvs : List (Key × D))
  | exc (x : EId) (fs : List (Str × D))
  | clo (a : Addr) (R : Hp → Prop)
  | dcf (kvs : List (Key × D))
  | err (n : Str) (C : Addr) (fs : List (Str × D))
  | dl1 (h : Int) (k : Option Key) (d : D)
  | ins (C : Addr) (fs : List (Str × D))
  | dcu (kvs : List (List Int × D))

instance : Inhabited D := ⟨.non⟩

/-- an exception's dict -/
def XD (F : Hp) (d : Option Addr) (fsV : List (Str × V)) : Prop := match d with
  | some d => F d = some (.xd fsV)
  | none => fsV = []
theorem XD.mono {F F' : Hp} {d : Option Addr} {fsV : List (Str × V)} (h : XD F d fsV) (e : Same F F') : XD F' d fsV := by
  cases d with
  | none => exact h
  | some d => exact e _ _ h
/-- an exception object of the class at C that has been made, its dict at d -/
def exV (e C : Addr) (d : Option Addr) : HO := .ext fun h => ∃ (oe : Obj) (vs : Array Value), h.get? e = some oe ∧ oe.cls = .ref C ∧ oe.dict = d ∧ oe.data = .fields vs
/-- a key that is a number, a text or None -/
def keyIs : Option Key → Value → Prop
  | none, v => v = .none
  | some (.inl i), v => (∃ t, v = .int i t) ∨ ∃ b : Bool, v = .bool b ∧ (if b = true then 1 else 0) = i
  | some (.inr x), v => ∃ t, v = .str x t
/-- a dict of one entry -/
def LfO (n : Int) (a : Addr) (k : Option Key) (u : Value) : HO := .ext fun h => (a == sysModules) = false ∧ ∃ (o : Obj) (es : Array DictEntry) (ep : Nat) (key : Value), h.get? a = some o ∧ o.ExactDict ∧ o.data = .dict es ep ∧ es.toList = [⟨n, key, u⟩] ∧ keyIs k key
/-- no table -/
def NT (o : HO) : Prop := ∀ ps, o ≠ .tbl ps
/-- no tuple of which only the items are known: a tuple is told with its object, which has no dict -/
def PlO (o : HO) : Prop := (∀ xs, o ≠ .tup xs) ∧ ∀ u xs, o = .frz u (.tup xs) → u.dict = none
def NoT (F : Hp) : Prop := ∀ q o, F q = some o → NT o ∧ PlO o

/-- an entry: the key, where it stands, the value -/
abbrev Ent := List Key × Addr × Value
def DTt (P : Program) (w : World) (a : Addr) (xs : List Ent) (h : Heap) : Prop :=
  ∃ ob rows ep, h.get? a = some ob ∧ ob.ExactDict ∧ ob.data = .dict rows ep ∧ rows.toList = xs.map (entryOfKey (tupleKind (mixKind P w))) ∧ (xs.map fun e => e.1).Nodup
def DTo (P : Program) (w : World) (a : Addr) (xs : List Ent) : HO := .ext fun h => xs.length ≤ sizeLine ∧ (a == sysModules) = false ∧ DTt P w a xs h

mutual
inductive Rep (K : PySem.W.Frag) (F : Hp) : V → D → Prop
  | non : Rep K F .non .non
  | bl (b : Bool) : Rep K F (.bl b) (.bl b)
  | int (i : Int) : Rep K F (.int i) (.int i)
  | str (x : Str) : Rep K F (.str x) (.str x)
  | fn (a : Addr) : Rep K F (.ref a) (.fn a)
  | tup {a : Addr} {xs : List V} {ds : List D} : SqT K F a xs → Reps K F xs ds → Rep K F (.ref a) (.tup ds)
  | lst {a : Addr} {xs : List V} {ds : List D} : F a = some (.lst xs) → Reps K F xs ds → Rep K F (.ref a) (.lst ds)
  | scr {a : Addr} {ns : List Int} : SqL K F a (ns.map V.int) → Rep K F (.ref a) (.scr ns)
  | dct {a : Addr} {kvs : List (Key × V)} {ds : List (Key × D)} : F a = some (.dK kvs) → kvs.map (·.1) = ds.map (·.1) → Reps K F (kvs.map (·.2)) (ds.map (·.2)) → Rep K F (.ref a) (.dct ds)
  | exc {x : EId} {fsV : List (Str × V)} {fs : List (Str × D)} : XD F x.d fsV → fsV.map (·.1) = fs.map (·.1) → Reps K F (fsV.map (·.2)) (fs.map (·.2)) → Rep K F (.ref x.a) (.exc x fs)
  | clo {a : Addr} {R : Hp → Prop} : (∀ G G' : Hp, Same G G' → R G → R G') → R F → Rep K F (.ref a) (.clo a R)
  | dcf {a : Addr} {o : Obj} {kvs : List (Key × V)} {ds : List (Key × D)} : F a = some (.frz o (.dK kvs)) → kvs.map (·.1) = ds.map (·.1) → Reps K F (kvs.map (·.2)) (ds.map (·.2)) → Rep K F (.ref a) (.dcf ds)
  | err {e C : Addr} {d : Option Addr} {n : Str} {fsV : List (Str × V)} {fs : List (Str × D)} : F e = some (exV e C d) → XD F d fsV → fsV.map (·.1) = fs.map (·.1) → Reps K F (fsV.map (·.2)) (fs.map (·.2)) → Rep K F (.ref e) (.err n C fs)
  | dl1 {a : Addr} {n : Int} {k : Option Key} {u : Value} {v : V} {d : D} : F a = some (LfO n a k u) → RelV v u → Rep K F v d → Rep K F (.ref a) (.dl1 n k d)
  | ins {a C : Addr} {dx : Addr} {fsV : List (Str × V)} {fs : List (Str × D)} : F a = some (.ins C dx fsV) → fsV.map (·.1) = fs.map (·.1) → Reps K F (fsV.map (·.2)) (fs.map (·.2)) → Rep K F (.ref a) (.ins C fs)
  | dcu {P : Program} {w : World} {a : Addr} {o : Obj} {xs : List Ent} {vs : List V} {kvs : List (List Int × D)} : F a = some (.frz o (DTo P w a xs)) → Paired (fun (x : Ent) (p : List Int × D) => SqT K F x.2.1 (p.1.map V.int) ∧ x.1 = p.1.map Sum.inl) xs kvs → Paired (fun (v : V) (x : Ent) => RelV v x.2.2) vs xs → Reps K F vs (kvs.map (·.2)) → Rep K F (.ref a) (.dcu kvs)
inductive Reps (K : PySem.W.Frag) (F : Hp) : List V → List D → Prop
  | nil : Reps K F [] []
  | cons {v : V} {vs : List V} {d : D} {ds : List D} : Rep K F v d → Reps K F vs ds → Reps K F (v :: vs) (d :: ds)
end

theorem sm_rd {H H' : Hp} {a : Addr} {u : HO} (e : Same H H') (h : Rd H a u) : Rd H' a u := by
  rcases h with h | ⟨o, h⟩
  · exact .inl (e _ _ h)
  · exact .inr ⟨o, e _ _ h⟩
theorem sm_tup {K : PySem.W.Frag} {H H' : Hp} {a : Addr} {xs : List V} (e : Same H H') (h : SqT K H a xs) : SqT K H' a xs := by
  rcases h with h | h
  · exact .inl (sm_rd e h)
  · exact .inr h

section
variable {K : PySem.W.Frag} {F F' : Hp}
mutual
theorem Rep.mono (e : Same F F') : ∀ {v : V} {d : D}, Rep K F v d → Rep K F' v d
  | _, _, .non => .non
  | _, _, .bl b => .bl b
  | _, _, .int i => .int i
  | _, _, .str x => .str x
  | _, _, .fn a => .fn a
  | _, _, .tup h r => .tup (sm_tup e h) (Reps.mono e r)
  | _, _, .lst h r => .lst (e _ _ h) (Reps.mono e r)
  | _, _, .scr h => .scr (Same.seq e h)
  | _, _, .dct h k r => .dct (e _ _ h) k (Reps.mono e r)
  | _, _, .exc h1 k r => .exc (h1.mono e) k (Reps.mono e r)
  | _, _, .clo m h => .clo m (m _ _ e h)
  | _, _, .dcf h k r => .dcf (e _ _ h) k (Reps.mono e r)
  | _, _, .err h1 h2 k r => .err (e _ _ h1) (h2.mono e) k (Reps.mono e r)
  | _, _, .dl1 h1 h2 r => .dl1 (e _ _ h1) h2 (Rep.mono e r)
  | _, _, .ins h k r => .ins (e _ _ h) k (Reps.mono e r)
  | _, _, .dcu h1 h2 h3 r => .dcu (e _ _ h1) (Paired.mapP h2 fun _ _ ⟨a, b⟩ => ⟨sm_tup e a, b⟩) h3 (Reps.mono e r)
theorem Reps.mono (e : Same F F') : ∀ {vs : List V} {ds : List D}, Reps K F vs ds → Reps K F' vs ds
  | _, _, .nil => .nil
  | _, _, .cons h r => .cons (Rep.mono e h) (Reps.mono e r)
end
theorem Reps.length : ∀ {vs : List V} {ds : List D}, Reps K F vs ds → vs.length = ds.length
  | _, _, .nil => rfl
  | _, _, .cons _ r => congrArg (· + 1) (Reps.length r)
theorem Reps.append : ∀ {vs ws : List V} {ds es : List D}, Reps K F vs ds → Reps K F ws es → Reps K F (vs ++ ws) (ds ++ es)
  | _, _, _, _, .nil, q => q
  | _, _, _, _, .cons h r, q => .cons h (Reps.append r q)
theorem Reps.get : ∀ {vs : List V} {ds : List D} {i : Nat} {d : D}, Reps K F vs ds → ds[i]? = some d → ∃ v, vs[i]? = some v ∧ Rep K F v d
  | _, _, _, _, .nil, e => by simp at e
  | _, _, 0, _, .cons h r, e => by
    simp at e
    subst e
    exact ⟨_, rfl, h⟩
  | _, _, i + 1, d, .cons h r, e => by
    obtain ⟨v, h1, h2⟩ := Reps.get (i := i) (d := d) r (by simpa using e)
    exact ⟨v, by simpa using h1, h2⟩
theorem Reps.take : ∀ {vs : List V} {ds : List D} (n : Nat), Reps K F vs ds → Reps K F (vs.take n) (ds.take n)
  | _, _, 0, _ => .nil
  | _, _, _ + 1, .nil => .nil
  | _, _, n + 1, .cons h r => .cons h (Reps.take n r)
theorem Reps.drop : ∀ {vs : List V} {ds : List D} (n : Nat), Reps K F vs ds → Reps K F (vs.drop n) (ds.drop n)
  | _, _, 0, r => r
  | _, _, _ + 1, .nil => .nil
  | _, _, n + 1, .cons h r => Reps.drop n r
theorem Reps.set {v : V} {d : D} (h : Rep K F v d) : ∀ {vs : List V} {ds : List D} (i : Nat), Reps K F vs ds → Reps K F (vs.set i v) (ds.set i d)
  | _, _, _, .nil => .nil
  | _, _, 0, .cons _ r => .cons h r
  | _, _, i + 1, .cons q r => .cons q (Reps.set h i r)
theorem Reps.ints : ∀ (ns : List Int), Reps K F (ns.map V.int) (ns.map D.int)
  | [] => .nil
  | n :: ns => .cons (.int n) (Reps.ints ns)
theorem Reps.of_ints : ∀ {vs : List V} {ns : List Int}, Reps K F vs (ns.map D.int) → vs = ns.map V.int
  | _, [], .nil => rfl
  | _, n :: ns, .cons h r => by
    cases h
    rw [Reps.of_ints r]
    rfl
theorem Reps.snoc {vs : List V} {ds : List D} {v : V} {d : D} (r : Reps K F vs ds) (h : Rep K F v d) : Reps K F (vs ++ [v]) (ds ++ [d]) := r.append (.cons h .nil)
theorem Reps.reverse : ∀ {vs : List V} {ds : List D}, Reps K F vs ds → Reps K F vs.reverse ds.reverse
  | _, _, .nil => .nil
  | _, _, .cons h r => by
    rw [List.reverse_cons, List.reverse_cons]
    exact (Reps.reverse r).append (.cons h .nil)
end

/-! ### slots -/
/-- a dict is no code object -/
theorem dto_not_code {P : Program} {w : World} {D c : Addr} {xs : List Ent} {q : Str} : DTo P w D xs ≠ LamX.CodeO c q := fun z => by
  let o : Obj := { cls := .none, data := .fields #[.none, .str q 0] }
  let g : Heap := Heap.push ⟨Array.replicate c o, {}⟩ o
  have there : g.get? c = some o := by
    have := Heap.get?_push_size (⟨Array.replicate c o, {}⟩ : Heap) (show o.isFreed = false from rfl)
    rwa [show (Heap.mk (Array.replicate c o) {}).objs.size = c from Array.size_replicate ..] at this
  have only : ∀ b u, g.get? b = some u → u = o := fun b u e => by
    rcases Heap.get?_push_cases e with ⟨_, e⟩ | e
    · exact e
    · obtain ⟨e, _⟩ := Heap.get?_some_iff.mp e
      have e : (Array.replicate c o)[b]? = some u := e
      rw [Array.getElem?_replicate] at e
      split at e
      · exact (Option.some.inj e).symm
      · cases e
  have k : (∃ (oc : Obj) (vs : Array Value) (t : Tok), g.get? c = some oc ∧ oc.data = .fields vs ∧ vs[1]? = some (.str q t)) := ⟨o, _, _, there, rfl, rfl⟩
  obtain ⟨_, _, o', es, ep, g', _, d, _⟩ := (congrFun (HO.ext.inj z) g).mpr k
  cases only _ _ g'
  cases d
/-- the entries of a dict whose keys are tuples of whole numbers -/
abbrev EntU (K : PySem.W.Frag) (F : Hp) (xs : List Ent) (kvs : List (List Int × D)) : Prop := Paired (fun x p => SqT K F x.2.1 (p.1.map V.int) ∧ x.1 = p.1.map Sum.inl ∧ ∃ v, RelV v x.2.2 ∧ Rep K F v p.2) xs kvs
/-- what a mutable thing holds: a list, an instance, a dict -/
inductive M where
  | lst (ds : List D)
  | ins (C : Addr) (fs : List (Str × D))
  | dct (kvs : List (Key × D))
  | dtu (kvs : List (List Int × D))
def MRep (K : PySem.W.Frag) (F H : Hp) (p : Addr) : M → Prop
  | .lst ds => ∃ vs, H p = some (.lst vs) ∧ Reps K F vs ds
  | .ins C fs => ∃ dx fsV, H p = some (.ins C dx fsV) ∧ fsV.map (·.1) = fs.map (·.1) ∧ Reps K F (fsV.map (·.2)) (fs.map (·.2))
  | .dct ds => ∃ kvs, H p = some (.dK kvs) ∧ kvs.map (·.1) = ds.map (·.1) ∧ Reps K F (kvs.map (·.2)) (ds.map (·.2))
  | .dtu ds => ∃ P w xs, H p = some (DTo P w p xs) ∧ EntU K F xs ds
theorem MRep.here {K : PySem.W.Frag} {F H : Hp} {p : Addr} {m : M} (h : MRep K F H p m) : ∃ o, H p = some o := by
  cases m with
  | lst ds => obtain ⟨vs, e, _⟩ := h; exact ⟨_, e⟩
  | ins C fs => obtain ⟨dx, fsV, e, _⟩ := h; exact ⟨_, e⟩
  | dct ds => obtain ⟨kvs, e, _⟩ := h; exact ⟨_, e⟩
  | dtu ds => obtain ⟨P, w, xs, e, _⟩ := h; exact ⟨_, e⟩
/-- a thing that may be changed -/
def Mut (o : HO) : Prop := (∃ vs, o = .lst vs) ∨ (∃ C dx fs, o = .ins C dx fs) ∨ (∃ kvs, o = .dK kvs) ∨ ∃ P w a xs, o = DTo P w a xs
theorem Mut.nt {o : HO} (h : Mut o) : NT o := fun ps z => by
  subst z
  rcases h with ⟨_, h⟩ | ⟨_, _, _, h⟩ | ⟨_, h⟩ | ⟨_, _, _, _, h⟩ <;> cases h
theorem MRep.mut {K : PySem.W.Frag} {F H : Hp} {p : Addr} {m : M} (h : MRep K F H p m) : ∃ o, H p = some o ∧ Mut o := by
  cases m with
  | lst ds => obtain ⟨vs, e, _⟩ := h; exact ⟨_, e, .inl ⟨_, rfl⟩⟩
  | ins C fs => obtain ⟨dx, fsV, e, _⟩ := h; exact ⟨_, e, .inr (.inl ⟨_, _, _, rfl⟩)⟩
  | dct ds => obtain ⟨kvs, e, _⟩ := h; exact ⟨_, e, .inr (.inr (.inl ⟨_, rfl⟩))⟩
  | dtu ds => obtain ⟨P, w, xs, e, _⟩ := h; exact ⟨_, e, .inr (.inr (.inr ⟨_, _, _, _, rfl⟩))⟩
theorem tabs_upd {T : List (Addr × Str)} {H : Hp} {p : Addr} {o o' : HO} (t : LamX.Tabs T H) (h : H p = some o) (m : Mut o) : LamX.Tabs T (upd H p o') := fun q hq => by
  obtain ⟨ps, h1, h2, h3⟩ := t q hq
  have nx : ∀ {b : Addr} {u : HO}, H b = some u → ¬ Mut u → b ≠ p := fun {b u} e n z => by
    subst z
    rw [h] at e
    cases e
    exact n m
  refine ⟨ps, by rw [upd_ne (nx h1 fun z => z.nt _ rfl)]; exact h1, h2, fun pos cv hc => ?_⟩
  obtain ⟨c, e1, e2⟩ := h3 pos cv hc
  refine ⟨c, e1, ?_⟩
  rw [upd_ne (nx e2 fun z => by
    rcases z with ⟨_, h⟩ | ⟨_, _, _, h⟩ | ⟨_, h⟩ | ⟨_, _, _, _, h⟩ <;> first | exact dto_not_code h.symm | (unfold LamX.CodeO at h; cases h))]
  exact e2
theorem Mut.pl {o : HO} (h : Mut o) : PlO o := by
  rcases h with ⟨_, rfl⟩ | ⟨_, _, _, rfl⟩ | ⟨_, rfl⟩ | ⟨_, _, _, _, rfl⟩ <;> exact ⟨fun _ z => (nomatch z), fun _ _ z => (nomatch z)⟩
theorem MRep.mono {K : PySem.W.Frag} {F F' H H' : Hp} {p : Addr} {m : M} (h : MRep K F H p m) (e : Same F F') (k : ∀ o, H p = some o → H' p = some o) : MRep K F' H' p m := by
  cases m with
  | lst ds => obtain ⟨vs, e1, r⟩ := h; exact ⟨vs, k _ e1, r.mono e⟩
  | ins C fs => obtain ⟨dx, fsV, e1, l, r⟩ := h; exact ⟨dx, fsV, k _ e1, l, r.mono e⟩
  | dct ds => obtain ⟨kvs, e1, l, r⟩ := h; exact ⟨kvs, k _ e1, l, r.mono e⟩
  | dtu ds => obtain ⟨P, w, xs, e1, r⟩ := h; exact ⟨P, w, xs, k _ e1, Paired.mapP r fun _ _ ⟨a, b, v, c, d⟩ => ⟨sm_tup e a, b, v, c, d.mono e⟩⟩

/-- a name's tie to things at other places: the thing at j itself; a list, never changed, of the things at js -/
inductive Lnk where
  | al (j : Nat)
  | ls (js : List Nat)
def LnkF (π : Nat → Addr) (F : Hp) (a : Addr) : Lnk → Prop
  | .al j => a = π j
  | .ls js => F a = some (.lst (js.map fun j => V.ref (π j)))
theorem LnkF.mono {π : Nat → Addr} {F F' : Hp} {a : Addr} (e : Same F F') : ∀ {L : Lnk}, LnkF π F a L → LnkF π F' a L
  | .al _, h => h
  | .ls _, h => e _ _ h
inductive Slot where
  /-- not known -/
  | no
  /-- data, never changed -/
  | val (d : D)
  /-- a thing of our own -/
  | own (m : M)
  /-- a thing that was handed to us, at the place π i -/
  | io (m : M)
  /-- an instance of the class at C, never changed; its one field f is the thing at the place π j -/
  | lk (C : Addr) (f : Str) (j : Nat)
  /-- tied to other places -/
  | ln (L : Lnk)
abbrev Rho := List Slot

/-- what the state is compared with: the heap at a beginning, its frozen part, what may be changed of it: handed in, own -/
structure Cfg where
  H0 : Hp
  F0 : Hp
  io : List Addr
  ow : List Addr

def SlotOk (K : PySem.W.Frag) (π : Nat → Addr) (c : Cfg) (F H : Hp) (σ : L2.St) (i : Nat) : Slot → Prop
  | .no => True
  | .val d => ∃ v, σ[i]? = some (some v) ∧ Rep K F v d
  | .own m => ∃ p, σ[i]? = some (some (.ref p)) ∧ F p = none ∧ (c.H0 p = none ∨ p ∈ c.ow) ∧ MRep K F H p m
  | .io m => σ[i]? = some (some (.ref (π i))) ∧ F (π i) = none ∧ π i ∈ c.io ∧ MRep K F H (π i) m
  | .lk C f j => ∃ a dx, σ[i]? = some (some (.ref a)) ∧ F a = some (.ins C dx [(f, .ref (π j))])
  | .ln L => ∃ a, σ[i]? = some (some (.ref a)) ∧ LnkF π F a L
/-- slot i is at p, ours to change -/
def OwnAt (σ : L2.St) (ρ : Rho) (i : Nat) (p : Addr) : Prop := σ[i]? = some (some (.ref p)) ∧ ∃ m, ρ[i]? = some (.own m) ∨ ρ[i]? = some (.io m)

/-- the tables, in a state -/
structure StT [FE] (c : Cfg) (F H : Hp) : Prop where
  tb : LamX.Tabs FE.tabs H
  tk : ∀ q ps, c.H0 q = some (.tbl ps) → ∃ ps', H q = some (.tbl ps')
  nt : NoT F
section
variable [FE]
structure Sta (K : PySem.W.Frag) (π : Nat → Addr) (c : Cfg) (F H : Hp) (σ : L2.St) (ρ : Rho) : Prop where
  h0 : ∀ q o, c.H0 q = some o → q ∉ c.io → q ∉ c.ow → NT o → H q = some o
  hio : ∀ q, q ∈ c.io ∨ q ∈ c.ow → ∃ o, H q = some o
  f0 : Same c.F0 F
  f : Same F H
  nf : ∀ q o, c.H0 q = some o → c.F0 q = none → F q = none
  len : σ.length = ρ.length
  rep : ∀ i s, ρ[i]? = some s → SlotOk K π c F H σ i s
  dis : ∀ i j p, OwnAt σ ρ i p → OwnAt σ ρ j p → i = j
  t : StT c F H

/-- the heap has grown, nothing has changed -/
structure GrT (F H F' H' : Hp) : Prop where
  tb : LamX.Tabs FE.tabs H → LamX.Tabs FE.tabs H'
  tk : ∀ q ps, H q = some (.tbl ps) → ∃ ps', H' q = some (.tbl ps')
  nt : NoT F → NoT F'
theorem GrT.of {F H F' H' : Hp} (h : Same H H') (n : NoT F → NoT F') : GrT F H F' H' := ⟨fun t => t.ext h, fun q ps e => ⟨ps, h _ _ e⟩, n⟩
theorem NoT.upd {F : Hp} {p : Addr} {o : HO} (h : NoT F) (n : NT o ∧ PlO o) : NoT (upd F p o) := fun q u e => by
  by_cases z : q = p
  · subst z
    rw [upd_same] at e
    cases e
    exact n
  · rw [upd_ne z] at e
    exact h _ _ e
structure Grw (F H F' H' : Hp) : Prop where
  f : Same F F'
  h : LamX.ExtN H H'
  fh : Same F' H'
  nf : ∀ q o, H q = some o → F q = none → F' q = none
  t : GrT F H F' H'
theorem extN {H H' : Hp} (h : Same H H') : LamX.ExtN H H' := fun b o e _ => h b o e
theorem Grw.refl {F H : Hp} (h : Same F H) : Grw F H F H := ⟨Same.refl _, extN (Same.refl _), h, fun _ _ _ e => e, .of (Same.refl _) fun n => n⟩
theorem sm_new {H : Hp} {p : Addr} {o : HO} (h : H p = none) : Same H (upd H p o) := fun a u e => by
  rw [upd_ne (ne_of_none e h)]
  exact e
theorem sm_upd2 {F H : Hp} (e : Same F H) {p : Addr} {o : HO} : Same (upd F p o) (upd H p o) := fun a u h => by
  by_cases q : a = p
  · subst q
    rw [upd_same] at h ⊢
    exact h
  · rw [upd_ne q] at h ⊢
    exact e _ _ h
theorem sm_updR {F H : Hp} (e : Same F H) {p : Addr} {o : HO} (h : F p = none) : Same F (upd H p o) := fun a u q => by
  rw [upd_ne (ne_of_none q h)]
  exact e _ _ q
/-- a new thing, frozen at once -/
theorem Grw.newF {F H : Hp} {p : Addr} {o : HO} (h : Same F H) (e : H p = none) (n : NT o := by intro ps z; cases z) (m : PlO o := by exact ⟨fun _ z => (nomatch z), fun _ _ z => (nomatch z)⟩) : Grw F H (upd F p o) (upd H p o) :=
  ⟨sm_new (Same.free h e), extN (sm_new e), sm_upd2 h, fun q u h1 h2 => by rw [upd_ne (ne_of_none h1 e)]; exact h2, .of (sm_new e) fun x => x.upd ⟨n, m⟩⟩
/-- a new thing, not frozen -/
theorem Grw.newO {F H : Hp} {p : Addr} {o : HO} (h : Same F H) (e : H p = none) : Grw F H F (upd H p o) :=
  ⟨Same.refl _, extN (sm_new e), sm_updR h (Same.free h e), fun _ _ _ q => q, .of (sm_new e) fun x => x⟩
/-- a new tuple, told with its object -/
theorem Grw.newT {F H : Hp} {p : Addr} {o : Obj} {xs : List V} (h : Same F H) (e : H p = none) (d : o.dict = none) : Grw F H (upd F p (.frz o (.tup xs))) (upd H p (.frz o (.tup xs))) :=
  Grw.newF h e (m := ⟨fun _ z => (nomatch z), fun u ys z => by
    cases z
    exact d⟩)
theorem Grw.trans {F H F1 H1 F2 H2 : Hp} (a : Grw F H F1 H1) (b : Grw F1 H1 F2 H2) : Grw F H F2 H2 :=
  ⟨a.f.trans b.f, a.h.trans b.h, b.fh, fun q o h e => by
    by_cases z : ∃ ps, o = .tbl ps
    · obtain ⟨ps, rfl⟩ := z
      obtain ⟨ps', e'⟩ := a.t.tk q ps h
      exact b.nf q _ e' (a.nf q _ h e)
    · exact b.nf q o (a.h _ _ h fun ps y => z ⟨ps, y⟩) (a.nf q o h e),
   ⟨fun t => b.t.tb (a.t.tb t), fun q ps e => by
    obtain ⟨ps', e'⟩ := a.t.tk q ps e
    exact b.t.tk q ps' e', fun n => b.t.nt (a.t.nt n)⟩⟩
/-- what stood stands, of its kind -/
theorem Grw.any {F H F' H' : Hp} (g : Grw F H F' H') {q : Addr} {o : HO} (e : H q = some o) : ∃ o', H' q = some o' := by
  by_cases z : ∃ ps, o = .tbl ps
  · obtain ⟨ps, rfl⟩ := z
    obtain ⟨ps', e'⟩ := g.t.tk q ps e
    exact ⟨_, e'⟩
  · exact ⟨o, g.h _ _ e fun ps y => z ⟨ps, y⟩⟩

section
variable {K : PySem.W.Frag} {π : Nat → Addr} {c : Cfg} {F H F' H' : Hp} {σ σ' : L2.St} {ρ ρ' : Rho}
theorem Sta.any (S : Sta K π c F H σ ρ) {q : Addr} {o : HO} (e : c.H0 q = some o) : ∃ o', H q = some o' := by
  by_cases h1 : q ∈ c.io
  · exact S.hio q (.inl h1)
  · by_cases h2 : q ∈ c.ow
    · exact S.hio q (.inr h2)
    · by_cases z : ∃ ps, o = .tbl ps
      · obtain ⟨ps, rfl⟩ := z
        obtain ⟨ps', e'⟩ := S.t.tk q ps e
        exact ⟨_, e'⟩
      · exact ⟨o, S.h0 q o e h1 h2 fun ps y => z ⟨ps, y⟩⟩
theorem Sta.grow (S : Sta K π c F H σ ρ) (g : Grw F H F' H') : Sta K π c F' H' σ ρ := by
  refine ⟨fun q o e n n' nt => g.h _ _ (S.h0 q o e n n' nt) nt, fun q hq => ?_, S.f0.trans g.f, g.fh, fun q o e n => ?_, S.len, fun i s hs => ?_, S.dis, ⟨g.t.tb S.t.tb, fun q ps e => ?_, g.t.nt S.t.nt⟩⟩
  · obtain ⟨o, e⟩ := S.hio q hq
    exact g.any e
  · obtain ⟨o', e'⟩ := S.any e
    exact g.nf q o' e' (S.nf q o e n)
  · have z := S.rep i s hs
    cases s with
    | lk C f jj => obtain ⟨a, dx, e, h⟩ := z; exact ⟨a, dx, e, g.f _ _ h⟩
    | ln L => obtain ⟨a, e, h⟩ := z; exact ⟨a, e, LnkF.mono g.f h⟩
    | no => trivial
    | val d =>
      obtain ⟨v, e, r⟩ := z
      exact ⟨v, e, r.mono g.f⟩
    | own m =>
      obtain ⟨p, e, n, fr, r⟩ := z
      obtain ⟨o, ho, hm⟩ := r.mut
      exact ⟨p, e, g.nf p o ho n, fr, r.mono g.f fun o' ho' => g.h _ _ ho' (by rw [ho] at ho'; cases ho'; exact hm.nt)⟩
    | io m =>
      obtain ⟨e, n, fr, r⟩ := z
      obtain ⟨o, ho, hm⟩ := r.mut
      exact ⟨e, g.nf _ o ho n, fr, r.mono g.f fun o' ho' => g.h _ _ ho' (by rw [ho] at ho'; cases ho'; exact hm.nt)⟩
  · obtain ⟨ps', e'⟩ := S.t.tk q ps e
    exact g.t.tk q ps' e'
theorem Sta.val (S : Sta K π c F H σ ρ) {i : Nat} {d : D} (h : ρ[i]? = some (.val d)) : ∃ v, σ[i]? = some (some v) ∧ Rep K F v d := S.rep i _ h

/-- what may be changed now -/
def isO : Slot → Bool
  | .own _ => true
  | _ => false
def isI : Slot → Bool
  | .io _ => true
  | _ => false
def adr : Option (Option V) → Option Addr
  | some (some (.ref p)) => some p
  | _ => none
theorem adr_eq {x : Option (Option V)} {p : Addr} (h : adr x = some p) : x = some (some (.ref p)) := by
  unfold adr at h
  split at h
  · cases h
    rfl
  · cases h
def adrs (t : Slot → Bool) (σ : L2.St) (ρ : Rho) : List Addr := (List.range ρ.length).filterMap fun i => if (ρ[i]?.map t).getD false = true then adr σ[i]? else none
theorem mem_adrs {t : Slot → Bool} {p : Addr} : p ∈ adrs t σ ρ ↔ ∃ (i : Nat) (s : Slot), σ[i]? = some (some (V.ref p)) ∧ ρ[i]? = some s ∧ t s = true := by
  constructor
  · intro h
    obtain ⟨i, hi, e⟩ := List.mem_filterMap.mp h
    cases h2 : ρ[i]? with
    | none => rw [h2] at e; cases e
    | some s =>
      rw [h2] at e
      by_cases z : t s = true
      · rw [if_pos (show ((some s).map t).getD false = true from z)] at e
        exact ⟨i, s, adr_eq e, h2, z⟩
      · rw [if_neg (show ¬ ((some s).map t).getD false = true from z)] at e
        cases e
  · rintro ⟨i, s, h1, h2, h3⟩
    refine List.mem_filterMap.mpr ⟨i, List.mem_range.mpr (List.getElem?_eq_some_iff.mp h2).1, ?_⟩
    rw [h2, if_pos (show ((some s).map t).getD false = true from h3), h1]
    rfl
/-- the state as its own beginning -/
def cfg (F H : Hp) (σ : L2.St) (ρ : Rho) : Cfg := ⟨H, F, adrs isI σ ρ, adrs isO σ ρ⟩
theorem Sta.ownO (S : Sta K π c F H σ ρ) {p : Addr} (h : p ∈ adrs isO σ ρ) : F p = none ∧ (c.H0 p = none ∨ p ∈ c.ow) ∧ ∃ o, H p = some o := by
  obtain ⟨i, s, e, hs, z⟩ := mem_adrs.mp h
  cases s with
  | lk C f jj => cases z
  | ln L => cases z
  | own m =>
    obtain ⟨q, e', n, fr, r⟩ := S.rep i _ hs
    rw [e] at e'
    cases e'
    exact ⟨n, fr, r.here⟩
  | no => cases z
  | val d => cases z
  | io m => cases z
theorem Sta.ownI (S : Sta K π c F H σ ρ) {p : Addr} (h : p ∈ adrs isI σ ρ) : F p = none ∧ p ∈ c.io ∧ ∃ o, H p = some o := by
  obtain ⟨i, s, e, hs, z⟩ := mem_adrs.mp h
  cases s with
  | lk C f jj => cases z
  | ln L => cases z
  | io m =>
    obtain ⟨e', n, fr, r⟩ := S.rep i _ hs
    rw [e] at e'
    cases e'
    exact ⟨n, fr, r.here⟩
  | no => cases z
  | val d => cases z
  | own m => cases z
theorem Sta.self (S : Sta K π c F H σ ρ) : Sta K π (cfg F H σ ρ) F H σ ρ := by
  refine ⟨fun q o e _ _ _ => e, fun q hq => ?_, Same.refl _, S.f, fun q o _ n => n, S.len, fun i s hs => ?_, S.dis, ⟨S.t.tb, fun q ps e => ⟨ps, e⟩, S.t.nt⟩⟩
  · rcases hq with hq | hq
    · exact (S.ownI hq).2.2
    · exact (S.ownO hq).2.2
  · have z := S.rep i s hs
    cases s with
    | lk C f jj => exact z
    | ln L => exact z
    | no => trivial
    | val d => exact z
    | own m =>
      obtain ⟨p, e, n, fr, r⟩ := z
      exact ⟨p, e, n, .inr (mem_adrs.mpr ⟨i, _, e, hs, rfl⟩), r⟩
    | io m =>
      obtain ⟨e, n, fr, r⟩ := z
      exact ⟨e, n, mem_adrs.mpr ⟨i, _, e, hs, rfl⟩, r⟩
/-- from a part's end to the whole's -/
theorem Sta.back (S : Sta K π c F H σ ρ) (T : Sta K π (cfg F H σ ρ) F' H' σ' ρ') : Sta K π c F' H' σ' ρ' := by
  have ne : ∀ q o, c.H0 q = some o → q ∉ c.io → q ∉ c.ow → q ∉ adrs isI σ ρ ∧ q ∉ adrs isO σ ρ := fun q o e n1 n2 => ⟨fun h => n1 (S.ownI h).2.1, fun h => by
    rcases (S.ownO h).2.1 with z | z
    · rw [e] at z
      cases z
    · exact n2 z⟩
  have sm : ∀ q, (∃ o, H q = some o) → ∃ o, H' q = some o := fun q ⟨o, e⟩ => T.any e
  refine ⟨fun q o e n n' nt => T.h0 q o (S.h0 q o e n n' nt) (ne q o e n n').1 (ne q o e n n').2 nt, fun q hq => sm q (S.hio q hq), S.f0.trans T.f0, T.f, fun q o e n => ?_, T.len, fun i s hs => ?_, T.dis, ⟨T.t.tb, fun q ps e => by
    obtain ⟨ps', e'⟩ := S.t.tk q ps e
    exact T.t.tk q ps' e', T.t.nt⟩⟩
  · obtain ⟨o', e'⟩ := S.any e
    exact T.nf q o' e' (S.nf q o e n)
  · have z := T.rep i s hs
    cases s with
    | lk C f jj => exact z
    | ln L => exact z
    | no => trivial
    | val d => exact z
    | own m =>
      obtain ⟨p, e, n, f, r⟩ := z
      refine ⟨p, e, n, ?_, r⟩
      rcases f with f | f
      · refine .inl ?_
        cases e : c.H0 p with
        | none => rfl
        | some o =>
          obtain ⟨o', e'⟩ := S.any e
          have f : H p = none := f
          rw [e'] at f
          cases f
      · exact (S.ownO f).2.1
    | io m =>
      obtain ⟨e, n, f, r⟩ := z
      exact ⟨e, n, (S.ownI f).2.1, r⟩

theorem Sta.ownAt (S : Sta K π c F H σ ρ) {i : Nat} {p : Addr} (h : OwnAt σ ρ i p) : F p = none ∧ (c.H0 p = none ∨ p ∈ c.ow ∨ p ∈ c.io) ∧ ∃ o, H p = some o := by
  obtain ⟨e, m, h | h⟩ := h
  · obtain ⟨q, e', n, fr, r⟩ := S.rep i _ h
    rw [e] at e'
    cases e'
    exact ⟨n, fr.elim .inl fun z => .inr (.inl z), r.here⟩
  · obtain ⟨e', n, fr, r⟩ := S.rep i _ h
    rw [e] at e'
    cases e'
    exact ⟨n, .inr (.inr fr), r.here⟩
theorem Sta.ownMut (S : Sta K π c F H σ ρ) {i : Nat} {p : Addr} (h : OwnAt σ ρ i p) : ∃ o, H p = some o ∧ Mut o := by
  obtain ⟨e, m, h | h⟩ := h
  · obtain ⟨q, e', n, fr, r⟩ := S.rep i _ h
    rw [e] at e'
    cases e'
    exact r.mut
  · obtain ⟨e', n, fr, r⟩ := S.rep i _ h
    rw [e] at e'
    cases e'
    exact r.mut
/-- a slot gets data -/
theorem Sta.set (S : Sta K π c F H σ ρ) {i : Nat} (hi : i < ρ.length) {v : V} {d : D} (r : Rep K F v d) : Sta K π c F H (σ.set i (some v)) (ρ.set i (.val d)) := by
  have hl : i < σ.length := by rw [S.len]; exact hi
  refine ⟨S.h0, S.hio, S.f0, S.f, S.nf, by simpa using S.len, fun j s hs => ?_, fun j k p h1 h2 => ?_, S.t⟩
  · by_cases e : j = i
    · subst e
      rw [List.getElem?_set_self hi] at hs
      cases hs
      exact ⟨v, List.getElem?_set_self hl, r⟩
    · rw [List.getElem?_set_ne (Ne.symm e)] at hs
      have z := S.rep j s hs
      have g : (σ.set i (some v))[j]? = σ[j]? := List.getElem?_set_ne (Ne.symm e)
      cases s with
      | lk C f jj => obtain ⟨a, dx, e1, h1⟩ := z; exact ⟨a, dx, g.trans e1, h1⟩
      | ln L => obtain ⟨a, e1, h1⟩ := z; exact ⟨a, g.trans e1, h1⟩
      | no => trivial
      | val d => obtain ⟨w, e1, r1⟩ := z; exact ⟨w, g.trans e1, r1⟩
      | own m => obtain ⟨p, e1, r1⟩ := z; exact ⟨p, g.trans e1, r1⟩
      | io m => obtain ⟨e1, r1⟩ := z; exact ⟨g.trans e1, r1⟩
  · have key : ∀ j, OwnAt (σ.set i (some v)) (ρ.set i (.val d)) j p → OwnAt σ ρ j p := fun j h => by
      obtain ⟨e, m, h⟩ := h
      by_cases q : j = i
      · subst q
        rw [List.getElem?_set_self hi] at h
        rcases h with h | h <;> cases h
      · rw [List.getElem?_set_ne (Ne.symm q)] at e h
        exact ⟨e, m, h⟩
    exact S.dis j k p (key j h1) (key k h2)
/-- a slot is forgotten -/
theorem Sta.forget (S : Sta K π c F H σ ρ) (i : Nat) : Sta K π c F H σ (ρ.set i .no) := by
  refine ⟨S.h0, S.hio, S.f0, S.f, S.nf, by simpa using S.len, fun j s hs => ?_, fun j k p h1 h2 => ?_, S.t⟩
  · by_cases e : j = i
    · subst e
      by_cases hi : j < ρ.length
      · rw [List.getElem?_set_self hi] at hs
        cases hs
        trivial
      · have z : (ρ.set j Slot.no)[j]? = none := by simp; omega
        rw [z] at hs
        cases hs
    · rw [List.getElem?_set_ne (Ne.symm e)] at hs
      exact S.rep j s hs
  · have key : ∀ j, OwnAt σ (ρ.set i .no) j p → OwnAt σ ρ j p := fun j h => by
      obtain ⟨e, m, h⟩ := h
      by_cases q : j = i
      · subst q
        by_cases hi : j < ρ.length
        · rw [List.getElem?_set_self hi] at h
          rcases h with h | h <;> cases h
        · have z : (ρ.set j Slot.no)[j]? = none := by simp; omega
          rw [z] at h
          rcases h with h | h <;> cases h
      · rw [List.getElem?_set_ne (Ne.symm q)] at h
        exact ⟨e, m, h⟩
    exact S.dis j k p (key j h1) (key k h2)
/-- a slot gets a new thing of its own -/
theorem Sta.setOwn (S : Sta K π c F H σ ρ) {i : Nat} (hi : i < ρ.length) {p : Addr} {m : M} (n : F p = none) (fr : c.H0 p = none ∨ p ∈ c.ow) (r : MRep K F H p m) (nw : ∀ j, ¬ OwnAt σ ρ j p) :
    Sta K π c F H (σ.set i (some (.ref p))) (ρ.set i (.own m)) := by
  have hl : i < σ.length := by rw [S.len]; exact hi
  refine ⟨S.h0, S.hio, S.f0, S.f, S.nf, by simpa using S.len, fun j s hs => ?_, fun j k q h1 h2 => ?_, S.t⟩
  · by_cases e : j = i
    · subst e
      rw [List.getElem?_set_self hi] at hs
      cases hs
      exact ⟨p, List.getElem?_set_self hl, n, fr, r⟩
    · rw [List.getElem?_set_ne (Ne.symm e)] at hs
      have z := S.rep j s hs
      have g : (σ.set i (some (V.ref p)))[j]? = σ[j]? := List.getElem?_set_ne (Ne.symm e)
      cases s with
      | lk C f jj => obtain ⟨a, dx, e1, h1⟩ := z; exact ⟨a, dx, g.trans e1, h1⟩
      | ln L => obtain ⟨a, e1, h1⟩ := z; exact ⟨a, g.trans e1, h1⟩
      | no => trivial
      | val d => obtain ⟨w, e1, r1⟩ := z; exact ⟨w, g.trans e1, r1⟩
      | own m => obtain ⟨p, e1, r1⟩ := z; exact ⟨p, g.trans e1, r1⟩
      | io m => obtain ⟨e1, r1⟩ := z; exact ⟨g.trans e1, r1⟩
  · have key : ∀ j, OwnAt (σ.set i (some (.ref p))) (ρ.set i (.own m)) j q → (j = i ∧ q = p) ∨ (j ≠ i ∧ OwnAt σ ρ j q) := fun j h => by
      obtain ⟨e, m', h⟩ := h
      by_cases z : j = i
      · subst z
        rw [List.getElem?_set_self hl] at e
        cases e
        exact .inl ⟨rfl, rfl⟩
      · rw [List.getElem?_set_ne (Ne.symm z)] at e h
        exact .inr ⟨z, e, m', h⟩
    rcases key j h1 with ⟨a, b⟩ | ⟨a, b⟩
    · rcases key k h2 with ⟨a', b'⟩ | ⟨a', b'⟩
      · rw [a, a']
      · rw [b] at b'
        exact absurd b' (nw k)
    · rcases key k h2 with ⟨a', b'⟩ | ⟨a', b'⟩
      · rw [b'] at b
        exact absurd b (nw j)
      · exact S.dis j k q b b'
/-- our own thing has changed -/
theorem Sta.change (S : Sta K π c F H σ ρ) {i : Nat} {p : Addr} {m : M} {o : HO} (h : OwnAt σ ρ i p) (r : MRep K F (upd H p o) p m) (s' : Slot) (hs' : (s' = .own m ∧ ∃ m0, ρ[i]? = some (.own m0)) ∨ (s' = .io m ∧ ∃ m0, ρ[i]? = some (.io m0))) :
    Sta K π c F (upd H p o) σ (ρ.set i s') := by
  obtain ⟨n, fr, o0, ho⟩ := S.ownAt h
  have hi : i < ρ.length := by
    obtain ⟨_, m0, z | z⟩ := h <;> exact (List.getElem?_eq_some_iff.mp z).1
  obtain ⟨om, hom, mm⟩ := S.ownMut h
  refine ⟨fun q u e nq nq' nt => ?_, fun q hq => ?_, S.f0, sm_updR S.f n, S.nf, by simpa using S.len, fun j s hs => ?_, fun j k q h1 h2 => ?_, ⟨tabs_upd S.t.tb hom mm, fun q ps e => ?_, S.t.nt⟩⟩
  · have z : q ≠ p := fun z => by
      subst z
      rcases fr with z | z | z
      · rw [e] at z; cases z
      · exact nq' z
      · exact nq z
    rw [upd_ne z]
    exact S.h0 q u e nq nq' nt
  · by_cases z : q = p
    · subst z
      exact ⟨o, upd_same⟩
    · rw [upd_ne z]
      exact S.hio q hq
  · by_cases e : j = i
    · subst e
      rw [List.getElem?_set_self hi] at hs
      cases hs
      rcases hs' with ⟨rfl, m0, z⟩ | ⟨rfl, m0, z⟩
      · obtain ⟨p', e1, e2, e3, e4⟩ := S.rep j _ z
        have hp := h.1
        rw [e1] at hp
        cases hp
        exact ⟨p, e1, n, e3, r⟩
      · obtain ⟨e1, e2, e3, e4⟩ := S.rep j _ z
        have hp : p = π j := by
          have := h.1
          rw [e1] at this
          cases this
          rfl
        subst hp
        exact ⟨e1, e2, e3, r⟩
    · rw [List.getElem?_set_ne (Ne.symm e)] at hs
      have z := S.rep j s hs
      cases s with
      | lk C f jj => exact z
      | ln L => exact z
      | no => trivial
      | val d => exact z
      | own m' =>
        obtain ⟨q, e1, e2, e3, r1⟩ := z
        have nq : q ≠ p := fun z => by
          subst z
          exact e (S.dis j i q ⟨e1, m', .inl hs⟩ h)
        exact ⟨q, e1, e2, e3, r1.mono (Same.refl _) fun u hu => by rw [upd_ne nq]; exact hu⟩
      | io m' =>
        obtain ⟨e1, e2, e3, r1⟩ := z
        have nq : π j ≠ p := fun z => by
          rw [z] at e1
          exact e (S.dis j i p ⟨e1, m', .inr hs⟩ h)
        exact ⟨e1, e2, e3, r1.mono (Same.refl _) fun u hu => by rw [upd_ne nq]; exact hu⟩
  · have key : ∀ j, OwnAt σ (ρ.set i s') j q → OwnAt σ ρ j q := fun j hj => by
      obtain ⟨e, m', hj⟩ := hj
      by_cases z : j = i
      · subst z
        rcases hs' with ⟨_, m0, y⟩ | ⟨_, m0, y⟩
        · exact ⟨e, m0, .inl y⟩
        · exact ⟨e, m0, .inr y⟩
      · rw [List.getElem?_set_ne (Ne.symm z)] at hj
        exact ⟨e, m', hj⟩
    exact S.dis j k q (key j h1) (key k h2)
  · obtain ⟨ps', e'⟩ := S.t.tk q ps e
    exact ⟨ps', by rw [upd_ne (fun z => by subst z; rw [hom] at e'; cases e'; exact mm.nt _ rfl)]; exact e'⟩
/-- our own list is frozen -/
theorem Sta.freezeG (S : Sta K π c F H σ ρ) {i : Nat} {m : M} {d : D} (h : ρ[i]? = some (.own m)) (hn : c.ow = []) (hd : ∀ p, MRep K F H p m → ∃ o, NT o ∧ H p = some o ∧ ∀ G : Hp, Same F G → G p = some o → Rep K G (.ref p) d) :
    ∃ F', Grw F F F' F' ∧ Same F F' ∧ Sta K π c F' H σ (ρ.set i (.val d)) := by
  obtain ⟨p, e, n, fr, hm⟩ := S.rep i _ h
  obtain ⟨o, nt, ho, hr⟩ := hd p hm
  have hi : i < ρ.length := (List.getElem?_eq_some_iff.mp h).1
  have hp : c.H0 p = none := by
    rcases fr with z | z
    · exact z
    · rw [hn] at z
      cases z
  have sm : Same F (upd F p o) := sm_new n
  have pl : PlO o := by
    obtain ⟨o', e', mu⟩ := hm.mut
    rw [ho] at e'
    cases e'
    exact mu.pl
  refine ⟨upd F p o, ⟨sm, extN sm, Same.refl _, fun q o h1 h2 => (by rw [h1] at h2; cases h2), .of sm fun x => x.upd ⟨nt, pl⟩⟩, sm, S.h0, S.hio, S.f0.trans sm, fun a u q => ?_, fun q o e1 e2 => ?_, by simpa using S.len, fun j s hs => ?_, fun j k q h1 h2 => ?_, ⟨S.t.tb, S.t.tk, S.t.nt.upd ⟨nt, pl⟩⟩⟩
  · by_cases z : a = p
    · subst z
      rw [upd_same] at q
      cases q
      exact ho
    · rw [upd_ne z] at q
      exact S.f _ _ q
  · rw [upd_ne (fun z => by subst z; rw [hp] at e1; cases e1)]
    exact S.nf q o e1 e2
  · by_cases z : j = i
    · subst z
      rw [List.getElem?_set_self hi] at hs
      cases hs
      exact ⟨_, e, hr _ sm upd_same⟩
    · rw [List.getElem?_set_ne (Ne.symm z)] at hs
      have y := S.rep j s hs
      cases s with
      | lk C f jj => obtain ⟨a, dx, e1, h1⟩ := y; exact ⟨a, dx, e1, sm _ _ h1⟩
      | ln L => obtain ⟨a, e1, h1⟩ := y; exact ⟨a, e1, LnkF.mono sm h1⟩
      | no => trivial
      | val d => obtain ⟨w, e1, r1⟩ := y; exact ⟨w, e1, r1.mono sm⟩
      | own m' =>
        obtain ⟨q, e1, e2, e3, r1⟩ := y
        have nq : q ≠ p := fun w => by
          subst w
          exact z (S.dis j i q ⟨e1, m', .inl hs⟩ ⟨e, _, .inl h⟩)
        exact ⟨q, e1, by rw [upd_ne nq]; exact e2, e3, r1.mono sm fun _ hu => hu⟩
      | io m' =>
        obtain ⟨e1, e2, e3, r1⟩ := y
        have nq : π j ≠ p := fun w => by
          rw [w] at e1
          exact z (S.dis j i p ⟨e1, m', .inr hs⟩ ⟨e, _, .inl h⟩)
        exact ⟨e1, by rw [upd_ne nq]; exact e2, e3, r1.mono sm fun _ hu => hu⟩
  · have key : ∀ j, OwnAt σ (ρ.set i (.val d)) j q → OwnAt σ ρ j q := fun j hj => by
      obtain ⟨e, m', hj⟩ := hj
      by_cases z : j = i
      · subst z
        rw [List.getElem?_set_self hi] at hj
        rcases hj with hj | hj <;> cases hj
      · rw [List.getElem?_set_ne (Ne.symm z)] at hj
        exact ⟨e, m', hj⟩
    exact S.dis j k q (key j h1) (key k h2)
theorem Sta.freeze (S : Sta K π c F H σ ρ) {i : Nat} {ds : List D} (h : ρ[i]? = some (.own (.lst ds))) (hn : c.ow = []) :
    ∃ F', Grw F F F' F' ∧ Same F F' ∧ Sta K π c F' H σ (ρ.set i (.val (.lst ds))) :=
  S.freezeG h hn fun p ⟨vs, ho, r⟩ => ⟨_, (by intro ps z; cases z), ho, fun G sm e => .lst e (r.mono sm)⟩
theorem Sta.freezeD (S : Sta K π c F H σ ρ) {i : Nat} {ds : List (Key × D)} (h : ρ[i]? = some (.own (.dct ds))) (hn : c.ow = []) :
    ∃ F', Grw F F F' F' ∧ Same F F' ∧ Sta K π c F' H σ (ρ.set i (.val (.dct ds))) :=
  S.freezeG h hn fun p ⟨kvs, ho, hk, r⟩ => ⟨_, (by intro ps z; cases z), ho, fun G sm e => .dct e hk (r.mono sm)⟩
/-- a new thing is frozen -/
theorem frz_newG (S : Sta K π c F H σ ρ) {p : Addr} {o : HO} (nt : NT o) (ho : H p = some o) (f1 : F p = none) (f2 : c.H0 p = none) (f3 : ∀ j, ¬ OwnAt σ ρ j p) (pl : PlO o := by exact ⟨fun _ z => (nomatch z), fun _ _ z => (nomatch z)⟩) : Same F (upd F p o) ∧ Sta K π c (upd F p o) H σ ρ := by
  have sm : Same F (upd F p o) := sm_new f1
  refine ⟨sm, S.h0, S.hio, S.f0.trans sm, fun a u q => ?_, fun q o e n => ?_, S.len, fun i s hs => ?_, S.dis, ⟨S.t.tb, S.t.tk, S.t.nt.upd ⟨nt, pl⟩⟩⟩
  · by_cases z : a = p
    · subst z
      rw [upd_same] at q
      cases q
      exact ho
    · rw [upd_ne z] at q
      exact S.f _ _ q
  · rw [upd_ne (fun z => by subst z; rw [f2] at e; cases e)]
    exact S.nf q _ e n
  · have z := S.rep i s hs
    cases s with
    | lk C f jj => obtain ⟨a, dx, e1, h1⟩ := z; exact ⟨a, dx, e1, sm _ _ h1⟩
    | ln L => obtain ⟨a, e1, h1⟩ := z; exact ⟨a, e1, LnkF.mono sm h1⟩
    | no => trivial
    | val d => obtain ⟨w, e1, q⟩ := z; exact ⟨w, e1, q.mono sm⟩
    | own m' =>
      obtain ⟨q, e1, e2, e3, q1⟩ := z
      have nq : q ≠ p := fun w => by subst w; exact f3 i ⟨e1, m', .inl hs⟩
      exact ⟨q, e1, by rw [upd_ne nq]; exact e2, e3, q1.mono sm fun _ hu => hu⟩
    | io m' =>
      obtain ⟨e1, e2, e3, q1⟩ := z
      have nq : π i ≠ p := fun w => by rw [w] at e1; exact f3 i ⟨e1, m', .inr hs⟩
      exact ⟨e1, by rw [upd_ne nq]; exact e2, e3, q1.mono sm fun _ hu => hu⟩
end
end
/-! ### new tuples: plain ones -/
/-- a new tuple with these items, its object has no dict -/
def NewT (H : Hp) (xs : List V) (Q : VK) : Prop := ∀ (p : Addr) (o : Obj), H p = none → o.dict = none → Q (.ref p) (upd H p (.frz o (.tup xs)))
theorem sqT_new {K : PySem.W.Frag} {H : Hp} {p : Addr} {o : Obj} {xs : List V} (h : H p = some (.frz o (.tup xs))) : SqT K H p xs := .inl (.inr ⟨o, h⟩)
section
variable {X : Cx} {pins : List (Addr × Obj)} {σ : L2.St} {H : Hp} {s : Shared}
theorem newT_ep {xs : List V} {its : List Value} {h' : Heap} {tk : Nat} {Q : VK} (I : Inv X pins σ H s) (z : xs.length ≤ sizeLine) (r : Vals xs its) (k : ∀ b ob, s.heap.get? b = some ob → h'.get? b = some ob) (q : NewT H xs Q) : EP X pins σ Q (.ref h'.objs.size) { s with heap := h'.push { cls := .type "tuple", data := .seq its.toArray }, toks := tk } := by
  let ob : Obj := { cls := .type "tuple", data := .seq its.toArray }
  have told : (h'.push ob).get? h'.objs.size = some ob := Heap.get?_push_size _ rfl
  have I1 : Inv X pins σ H { s with heap := h' } := I.kept (t' := s.toks) k
  have free : H h'.objs.size = none := I1.hok.fresh (Nat.le_refl _)
  have good : ObjOk X.prog X.w (upd H h'.objs.size (.frz ob (.tup xs))) (h'.push ob) h'.objs.size (.frz ob (.tup xs)) := ⟨told, z, its, r, IsTup.new _ _⟩
  have J := I1.laid (t' := tk) (h' := h'.push ob) (fun b u e => Heap.get?_push_of_some _ e) (Nat.le_refl _) good
  exact ⟨.ref h'.objs.size, _, J, rfl, q _ ob free rfl⟩
def tTupN (t : TA) : TE := fun σ H Q => t σ H fun xs H1 => xs.length ≤ sizeLine ∧ NewT H1 xs Q
end
end FL
/-! FL2: readings by functions, rules for expressions and tests. -/
namespace FL
open PySem PySem.Spec PyProof.Rows L2

inductive R (α : Type) where
  | ok (a : α) (ρ : Rho)
  | exc (C : Str) (fs : List (Str × D)) (ρ : Rho)
  | stuck
def R.bind {α β : Type} (x : R α) (k : α → Rho → R β) : R β := match x with
  | .ok a ρ => k a ρ
  | .exc C fs ρ => .exc C fs ρ
  | .stuck => .stuck
def R.of {α : Type} (x : Option α) (ρ : Rho) : R α := match x with
  | some a => .ok a ρ
  | none => .stuck
theorem R.ok_bind {α β : Type} (a : α) (ρ : Rho) (k : α → Rho → R β) : (R.ok a ρ).bind k = k a ρ := rfl
theorem R.exc_bind {α β : Type} (C : Str) (fs : List (Str × D)) (ρ : Rho) (k : α → Rho → R β) : (R.exc C fs ρ : R α).bind k = .exc C fs ρ := rfl
theorem R.stuck_bind {α β : Type} (k : α → Rho → R β) : (R.stuck : R α).bind k = .stuck := rfl
theorem R.of_some {α : Type} (a : α) (ρ : Rho) : R.of (some a) ρ = .ok a ρ := rfl
abbrev EF := Rho → R D
abbrev TF := Rho → R Bool

/-- how results lie -/
abbrev Rel (β α : Type) := Cfg → Hp → Hp → L2.St → Rho → β → α → Prop
section
variable [FE]
section
variable (K : PySem.W.Frag) (π : Nat → Addr) (W : WX)
def relE : Rel V D := fun _ F _ _ _ v d => Rep K F v d
def relT : Rel Bool Bool := fun _ _ _ _ _ b c => b = c
def relA : Rel (List V) (List D) := fun _ F _ _ _ vs ds => Reps K F vs ds
def relM : Rel V M := fun c F H σ ρ v m => ∃ p, v = .ref p ∧ F p = none ∧ c.H0 p = none ∧ (∀ j, ¬ OwnAt σ ρ j p) ∧ MRep K F H p m

def Po {α β : Type} (rel : Rel β α) (c : Cfg) (F : Hp) (σ : L2.St) (Q : β → Hp → Prop) : R α → Prop
  | .ok a ρ' => ∀ v F' H', Same F F' → Sta K π c F' H' σ ρ' → rel c F' H' σ ρ' v a → Q v H'
  | .exc C fs ρ' => ∀ d fsV F' H', Same F F' → Sta K π c F' H' σ ρ' → XD F' d fsV → fsV.map (·.1) = fs.map (·.1) → Reps K F' (fsV.map (·.2)) (fs.map (·.2)) → W (.ref (FE.cl C)) d σ H'
  | .stuck => False
def tG {α β : Type} (rel : Rel β α) (f : Rho → R α) : L2.St → Hp → (β → Hp → Prop) → Prop := fun σ H Q => ∃ c F ρ, Sta K π c F H σ ρ ∧ Po K π W rel c F σ Q (f ρ)
abbrev tE (f : EF) : TE := tG K π W (relE K) f
abbrev tT (f : TF) : TT := tG K π W relT f
abbrev tA (f : Rho → R (List D)) : TA := tG K π W (relA K) f
abbrev tM (f : Rho → R M) : TE := tG K π W (relM K) f
end

section
variable {K : PySem.W.Frag} {π : Nat → Addr} {W : WX} {α β α' β' : Type} {rel : Rel β α} {rel' : Rel β' α'} {c : Cfg} {F F' H H' : Hp} {σ : L2.St} {ρ ρ' : Rho}
theorem Po.mono {Q : β → Hp → Prop} (s : Same F F') : ∀ {r : R α}, Po K π W rel c F σ Q r → Po K π W rel c F' σ Q r
  | .ok a ρ', h => fun v F2 H2 s2 => h v F2 H2 (s.trans s2)
  | .exc C fs ρ', h => fun dd fsV F2 H2 s2 => h dd fsV F2 H2 (s.trans s2)
  | .stuck, h => h
theorem Po.imp {Q Q' : β → Hp → Prop} {r : R α} (h : Po K π W rel c F σ Q r) (k : ∀ v F' H' ρ' a, Same F F' → Sta K π c F' H' σ ρ' → rel c F' H' σ ρ' v a → Q v H' → Q' v H') : Po K π W rel c F σ Q' r := by
  cases r with
  | ok a ρ' => exact fun v F2 H2 s2 S r => k v F2 H2 ρ' a s2 S r (h v F2 H2 s2 S r)
  | exc C fs ρ' => exact h
  | stuck => exact h
/-- what follows a part -/
theorem po_bind {f : Rho → R α} {k : α → Rho → R α'} {Q : β' → Hp → Prop} {Q1 : β → Hp → Prop} (S : Sta K π c F H σ ρ) (h : Po K π W rel' c F σ Q ((f ρ).bind k))
    (cont : ∀ v F' H' ρ' a, Same F F' → Sta K π c F' H' σ ρ' → rel c F' H' σ ρ' v a → Po K π W rel' c F' σ Q (k a ρ') → Q1 v H') : tG K π W rel f σ H Q1 := by
  refine ⟨c, F, ρ, S, ?_⟩
  cases e : f ρ with
  | ok a ρ' =>
    rw [e] at h
    have h : Po K π W rel' c F σ Q (k a ρ') := h
    exact fun v F2 H2 s2 S2 r => cont v F2 H2 ρ' a s2 S2 r (h.mono s2)
  | exc C fs ρ' =>
    rw [e] at h
    exact h
  | stuck =>
    rw [e] at h
    exact h
/-- what a pure operation asks, at the end -/
theorem po_of {x : Option α} {Q : β → Hp → Prop} (h : Po K π W rel c F σ Q (R.of x ρ)) : ∃ a, x = some a ∧ ∀ v F' H', Same F F' → Sta K π c F' H' σ ρ → rel c F' H' σ ρ v a → Q v H' := by
  cases x with
  | none => exact h.elim
  | some a => exact ⟨a, rfl, h⟩
end

section
variable {X : Cx} {π : Nat → Addr} {W : WX} {e a b d : Expr} {es : List Expr} {pos p : Pos}
theorem PE.imp {t t' : TE} (h : PE X e t) (k : ∀ σ H Q, t' σ H Q → t σ H Q) : PE X e t' := ⟨fun pins s σ H Q I q => h.run pins s σ H Q I (k σ H Q q)⟩
theorem PT.imp {t t' : TT} (h : PT X e t) (k : ∀ σ H Q, t' σ H Q → t σ H Q) : PT X e t' := ⟨fun pins s σ H Q I q => h.run pins s σ H Q I (k σ H Q q)⟩
theorem PW.imp {t t' : TT} (h : PW X e t) (k : ∀ σ H Q, t' σ H Q → t σ H Q) : PW X e t' := ⟨fun wh pins s σ H Q I q => h.run wh pins s σ H Q I (k σ H Q q)⟩
theorem PA.imp {t t' : TA} (h : PA X es t) (k : ∀ σ H Q, t' σ H Q → t σ H Q) : PA X es t' := ⟨fun ps pins s σ H Q I q => h.run ps pins s σ H Q I (k σ H Q q)⟩

/-! ### names, constants -/
def vr (i : Nat) : EF := fun ρ => match ρ[i]? with
  | some (.val d) => .ok d ρ
  | _ => .stuck
def cst (d : D) : EF := fun ρ => .ok d ρ
theorem fe_vr {i : Nat} {x : Str} (h : PE X (.Name x pos) (tVar i)) : PE X (.Name x pos) (tE X.K π W (vr i)) := PE.imp h fun σ H Q ⟨c, F, ρ, S, q⟩ => by
  unfold vr at q
  split at q
  · rename_i d e
    obtain ⟨v, e1, r⟩ := S.val e
    exact ⟨v, e1, q v F H (Same.refl _) S r⟩
  · exact q.elim
theorem fe_cst {v : V} {d : D} (h : PE X e (tC v)) (hr : ∀ F, Rep X.K F v d) : PE X e (tE X.K π W (cst d)) := PE.imp h fun σ H Q ⟨c, F, ρ, S, q⟩ => q v F H (Same.refl _) S (hr F)
theorem fe_int {i : Int} {j : Nat} : PE X (.Constant (.int i) j pos) (tE X.K π W (cst (.int i))) := fe_cst pe_int fun _ => .int i
theorem fe_bl {i : Bool} {j : Nat} : PE X (.Constant (.bool i) j pos) (tE X.K π W (cst (.bl i))) := fe_cst pe_bl fun _ => .bl i
theorem fe_non {j : Nat} : PE X (.Constant .none j pos) (tE X.K π W (cst .non)) := fe_cst pe_non fun _ => .non
theorem fe_str {i : Str} {j : Nat} : PE X (.Constant (.str i) j pos) (tE X.K π W (cst (.str i))) := fe_cst pe_str fun _ => .str i
/-- a module's int -/
theorem fe_gint {x : Str} {i : Int} {t : Tok} (hg : Gl X x) (hm : X.mg x = some (.int i t)) (hd : (x == ("__debug__" : Str)) = false := by decide) : PE X (.Name x pos) (tE X.K π W (cst (.int i))) := fe_cst (pe_glob (v := .int i) hg hm ⟨t, rfl⟩ hd) fun _ => .int i
/-- a module's def -/
theorem fe_gfn {x : Str} {f : Addr} (hg : Gl X x) (hm : X.mg x = some (.ref f)) (hd : (x == ("__debug__" : Str)) = false := by decide) : PE X (.Name x pos) (tE X.K π W (cst (.fn f))) := fe_cst (pe_glob (v := .ref f) hg hm rfl hd) fun _ => .fn f

/-! ### operators -/
def op1 (o : D → Option D) (f : EF) : EF := fun ρ => (f ρ).bind fun x ρ => R.of (o x) ρ
def op2 (o : D → D → Option D) (f g : EF) : EF := fun ρ => (f ρ).bind fun x ρ => (g ρ).bind fun y ρ => R.of (o x y) ρ
def Op1 (K : PySem.W.Frag) (o : D → Option D) (r : V → Hp → VK → Prop) : Prop := ∀ {F H : Hp} {x : V} {dx d : D} {Q : VK}, Same F H → Rep K F x dx → o dx = some d → (∀ v F' H', Grw F H F' H' → Rep K F' v d → Q v H') → r x H Q
def Op2 (K : PySem.W.Frag) (o : D → D → Option D) (r : R2) : Prop := ∀ {F H : Hp} {x y : V} {dx dy d : D} {Q : VK}, Same F H → Rep K F x dx → Rep K F y dy → o dx dy = some d → (∀ v F' H', Grw F H F' H' → Rep K F' v d → Q v H') → r x y H Q
section
variable {K : PySem.W.Frag} {r r' : R2} {o o' : D → D → Option D} {f g h : EF}
/-- the reading of two operands and an operation -/
theorem rd_op2 {σ : L2.St} {H : Hp} {Q : VK} (q : Op2 K o r) (t : tE K π W (op2 o f g) σ H Q) : tOp r (tE K π W f) (tE K π W g) σ H Q := by
  obtain ⟨c, F, ρ, S, P⟩ := t
  refine po_bind S P fun x F1 H1 ρ1 dx s1 S1 r1 P1 => ?_
  refine po_bind S1 P1 fun y F2 H2 ρ2 dy s2 S2 r2 P2 => ?_
  obtain ⟨d, e, P3⟩ := po_of P2
  exact q S2.f (Rep.mono s2 r1) r2 e fun v F3 H3 gr rv => P3 v F3 H3 gr.f (S2.grow gr) rv
theorem rd_op1 {ru : V → Hp → VK → Prop} {o : D → Option D} {σ : L2.St} {H : Hp} {Q : VK} (q : Op1 K o ru) (t : tE K π W (op1 o f) σ H Q) : tUn ru (tE K π W f) σ H Q := by
  obtain ⟨c, F, ρ, S, P⟩ := t
  refine po_bind S P fun x F1 H1 ρ1 dx s1 S1 r1 P1 => ?_
  obtain ⟨d, e, P3⟩ := po_of P1
  exact q S1.f r1 e fun v F3 H3 gr rv => P3 v F3 H3 gr.f (S1.grow gr) rv
end
theorem fe_bin {op : Operator} {r : R2} {o : D → D → Option D} {f g : EF} (ho : OpR X (binaryOp op) r) (q : Op2 X.K o r) (ha : PE X a (tE X.K π W f)) (hb : PE X b (tE X.K π W g)) : PE X (.BinOp a op b pos) (tE X.K π W (op2 o f g)) :=
  PE.imp (pe_op ho ha hb) fun _ _ _ => rd_op2 q
theorem fe_un {op : UnaryOp} {r : V → Hp → VK → Prop} {o : D → Option D} {f : EF} (ho : UnR X (unaryOp op) r) (q : Op1 X.K o r) (ha : PE X a (tE X.K π W f)) : PE X (.UnaryOp op a pos) (tE X.K π W (op1 o f)) :=
  PE.imp (pe_un ho ha) fun _ _ _ => rd_op1 q
theorem fe_cmp {op : CmpOp} {r : R2} {o : D → D → Option D} {f g : EF} (ho : OpR X (compareOp op) r) (q : Op2 X.K o r) (ha : PE X a (tE X.K π W f)) (hb : PE X b (tE X.K π W g)) (hm : behindInMarks op b = false) : PE X (.Compare a [op] [b] pos) (tE X.K π W (op2 o f g)) :=
  PE.imp (pe_cmpR ho ha hb hm) fun _ _ _ => rd_op2 q
def tst (f : EF) : TF := fun ρ => (f ρ).bind fun x ρ => R.of (match x with | .bl b => some b | _ => none) ρ
theorem rd_tst {K : PySem.W.Frag} {f : EF} {σ : L2.St} {H : Hp} {Q : Bool → Hp → Prop} (t : tT K π W (tst f) σ H Q) : (tE K π W f) σ H fun x H1 => ∃ k, x = .bl k ∧ Q k H1 := by
  obtain ⟨c, F, ρ, S, P⟩ := t
  refine po_bind S P fun x F1 H1 ρ1 dx s1 S1 r1 P1 => ?_
  obtain ⟨d, e, P3⟩ := po_of P1
  cases r1 with
  | bl b =>
    cases e
    exact ⟨_, rfl, P3 _ F1 H1 (Same.refl _) S1 rfl⟩
  | _ => cases e
theorem ft_cmp {op : CmpOp} {r : R2} {o : D → D → Option D} {f g : EF} (ho : OpR X (compareOp op) r) (q : Op2 X.K o r) (ha : PE X a (tE X.K π W f)) (hb : PE X b (tE X.K π W g)) (hm : behindInMarks op b = false) : PT X (.Compare a [op] [b] pos) (tT X.K π W (tst (op2 o f g))) :=
  PT.imp (pt_cmpR ho ha hb hm) fun σ H Q t => by
    obtain ⟨c, F, ρ, S, P⟩ := t
    exact rd_op2 (π := π) (W := W) q (rd_tst ⟨c, F, ρ, S, P⟩)
/-- a chain of two comparisons -/
def chn (o o' : D → D → Option D) (f g h : EF) : EF := fun ρ => (f ρ).bind fun x ρ => (g ρ).bind fun y ρ => (R.of (o x y) ρ).bind fun z ρ => match z with
  | .bl true => (h ρ).bind fun w ρ => R.of (o' y w) ρ
  | .bl false => .ok (.bl false) ρ
  | _ => .stuck
theorem rd_chn {K : PySem.W.Frag} {r r' : R2} {o o' : D → D → Option D} {f g h : EF} {σ : L2.St} {H : Hp} {Q : VK} (q : Op2 K o r) (q' : Op2 K o' r') (t : tE K π W (chn o o' f g h) σ H Q) : tChain r r' (tE K π W f) (tE K π W g) (tE K π W h) σ H Q := by
  obtain ⟨c, F, ρ, S, P⟩ := t
  refine po_bind S P fun x F1 H1 ρ1 dx s1 S1 r1 P1 => ?_
  refine po_bind S1 P1 fun y F2 H2 ρ2 dy s2 S2 r2 P2 => ?_
  cases ed : o dx dy with
  | none =>
    rw [ed] at P2
    exact P2.elim
  | some d =>
    rw [ed] at P2
    refine q S2.f (Rep.mono s2 r1) r2 ed fun v F3 H3 gr rv => ?_
    have S3 := S2.grow gr
    cases rv with
    | bl b =>
      cases b with
      | true =>
        refine ⟨true, rfl, ?_⟩
        show (if true = true then _ else _)
        rw [if_pos rfl]
        have P3 : Po K π W (relE K) c F2 σ Q ((h ρ2).bind fun w ρ => R.of (o' dy w) ρ) := P2
        refine po_bind S3 (P3.mono gr.f) fun w F4 H4 ρ4 dw s4 S4 r4 P4 => ?_
        obtain ⟨d', e', P5⟩ := po_of P4
        exact q' S4.f (Rep.mono s4 (Rep.mono gr.f r2)) r4 e' fun v F5 H5 gr' rv => P5 v F5 H5 gr'.f (S4.grow gr') rv
      | false =>
        refine ⟨false, rfl, ?_⟩
        show (if false = true then _ else _)
        rw [if_neg Bool.false_ne_true]
        exact P2 (.bl false) F3 H3 gr.f S3 (.bl false)
    | _ => exact P2.elim
theorem fe_chn {op op' : CmpOp} {r r' : R2} {o o' : D → D → Option D} {f g h : EF} (ho : OpR X (compareOp op) r) (ho' : OpR X (compareOp op') r') (q : Op2 X.K o r) (q' : Op2 X.K o' r') (ha : PE X a (tE X.K π W f)) (hb : PE X b (tE X.K π W g)) (hd : PE X d (tE X.K π W h)) (hm : lastMarks [op, op'] [b, d] = false) :
    PE X (.Compare a [op, op'] [b, d] pos) (tE X.K π W (chn o o' f g h)) := PE.imp (pe_chain ho ho' ha hb hd (hm := hm)) fun _ _ _ => rd_chn q q'
/-! ### and, or, not, if -/
def anT (f g : TF) : TF := fun ρ => (f ρ).bind fun b ρ => if b = true then g ρ else .ok false ρ
def orT (f g : TF) : TF := fun ρ => (f ρ).bind fun b ρ => if b = true then .ok true ρ else g ρ
def noT (f : TF) : TF := fun ρ => (f ρ).bind fun b ρ => .ok (!b) ρ
def blE (f : TF) : EF := fun ρ => (f ρ).bind fun b ρ => .ok (.bl b) ρ
def ifE (t : TF) (f g : EF) : EF := fun ρ => (t ρ).bind fun b ρ => if b = true then f ρ else g ρ
def anE (f g : EF) : EF := fun ρ => (tst f ρ).bind fun b ρ => if b = true then g ρ else .ok (.bl false) ρ
def orE (f g : EF) : EF := fun ρ => (tst f ρ).bind fun b ρ => if b = true then .ok (.bl true) ρ else g ρ
section
variable {f g : TF} {rest : List Expr}
theorem fw_and (ha : PT X a (tT X.K π W f)) (hb : PW X (.BoolOp .And (b :: rest) pos) (tT X.K π W g)) : PW X (.BoolOp .And (a :: b :: rest) pos) (tT X.K π W (anT f g)) :=
  PW.imp (pw_and ha hb) fun σ H Q ⟨c, F, ρ, S, P⟩ => by
    refine po_bind S P fun b' F1 H1 ρ1 b1 s1 S1 r1 P1 => ?_
    cases r1
    cases b' with
    | true =>
      rw [if_pos rfl] at P1 ⊢
      exact ⟨c, F1, ρ1, S1, P1⟩
    | false =>
      rw [if_neg Bool.false_ne_true] at P1 ⊢
      exact P1 false F1 H1 (Same.refl _) S1 rfl
theorem fw_or (ha : PT X a (tT X.K π W f)) (hb : PW X (.BoolOp .Or (b :: rest) pos) (tT X.K π W g)) : PW X (.BoolOp .Or (a :: b :: rest) pos) (tT X.K π W (orT f g)) :=
  PW.imp (pw_or ha hb) fun σ H Q ⟨c, F, ρ, S, P⟩ => by
    refine po_bind S P fun b' F1 H1 ρ1 b1 s1 S1 r1 P1 => ?_
    cases r1
    cases b' with
    | true =>
      rw [if_pos rfl] at P1 ⊢
      exact P1 true F1 H1 (Same.refl _) S1 rfl
    | false =>
      rw [if_neg Bool.false_ne_true] at P1 ⊢
      exact ⟨c, F1, ρ1, S1, P1⟩
theorem ft_not (ha : PT X a (tT X.K π W f)) : PT X (.UnaryOp .Not a pos) (tT X.K π W (noT f)) :=
  PT.imp (pt_not ha) fun σ H Q ⟨c, F, ρ, S, P⟩ => by
    refine po_bind S P fun b' F1 H1 ρ1 b1 s1 S1 r1 P1 => ?_
    cases r1
    exact P1 (!b') F1 H1 (Same.refl _) S1 rfl
theorem ft_val {f : EF} (h : PE X e (tE X.K π W f)) (he : ∀ whole, isTrue e X.env whole = (do let v ← whole; standAt e.pos; holding [v] (truthy v)) := by intro _; rfl) : PT X e (tT X.K π W (tst f)) :=
  PT.imp (pt_val h he) fun _ _ _ => rd_tst
theorem fe_not {f : EF} (ha : PE X a (tE X.K π W f)) : PE X (.UnaryOp .Not a pos) (tE X.K π W (blE (noT (tst f)))) :=
  PE.imp (pe_not ha) fun σ H Q ⟨c, F, ρ, S, P⟩ => by
    refine rd_tst (Q := fun k H1 => Q (.bl (!k)) H1) ⟨c, F, ρ, S, ?_⟩
    unfold blE noT at P
    cases ef : tst f ρ with
    | ok b' ρ1 =>
      rw [ef] at P
      have P : Po X.K π W (relE X.K) c F σ Q (.ok (.bl (!b')) ρ1) := P
      exact fun v F1 H1 s1 S1 r1 => by
        cases r1
        exact P _ F1 H1 s1 S1 (.bl _)
    | exc C fs ρ1 => rw [ef] at P; exact P
    | stuck => rw [ef] at P; exact P
theorem fe_and {f g : EF} (ha : PE X a (tE X.K π W f)) (hb : PE X (.BoolOp .And (b :: rest) pos) (tE X.K π W g)) : PE X (.BoolOp .And (a :: b :: rest) pos) (tE X.K π W (anE f g)) :=
  PE.imp (pe_and ha hb) fun σ H Q ⟨c, F, ρ, S, P⟩ => by
    have z : tT X.K π W (tst f) σ H fun k H1 => if k = true then (tE X.K π W g) σ H1 Q else Q (.bl false) H1 := by
      refine po_bind S P fun b' F1 H1 ρ1 b1 s1 S1 r1 P1 => ?_
      cases r1
      cases b' with
      | true =>
        rw [if_pos rfl] at P1 ⊢
        exact ⟨c, F1, ρ1, S1, P1⟩
      | false =>
        rw [if_neg Bool.false_ne_true] at P1 ⊢
        exact P1 _ F1 H1 (Same.refl _) S1 (.bl false)
    exact rd_tst z
theorem fe_if {t : TF} {f g : EF} (hc : PT X d (tT X.K π W t)) (ha : PE X a (tE X.K π W f)) (hb : PE X b (tE X.K π W g)) : PE X (.IfExp d a b pos) (tE X.K π W (ifE t f g)) :=
  PE.imp (pe_ifExp hc ha hb) fun σ H Q ⟨c, F, ρ, S, P⟩ => by
    refine po_bind S P fun b' F1 H1 ρ1 b1 s1 S1 r1 P1 => ?_
    cases r1
    cases b' with
    | true =>
      rw [if_pos rfl] at P1 ⊢
      exact ⟨c, F1, ρ1, S1, P1⟩
    | false =>
      rw [if_neg Bool.false_ne_true] at P1 ⊢
      exact ⟨c, F1, ρ1, S1, P1⟩
/-- truth of any value -/
def truD : D → Option Bool
  | .non => some false
  | .bl b => some b
  | .int i => some (i != 0)
  | .str x => if x.length ≤ 100000 then some (x.length != 0) else none
  | .tup xs => some (!xs.isEmpty)
  | .lst xs => some (!xs.isEmpty)
  | _ => none
def tru (f : EF) : TF := fun ρ => (f ρ).bind fun x ρ => R.of (truD x) ρ
theorem le_line {n : Nat} (h : n ≤ 100000) : n ≤ sizeLine := Nat.le_trans h (by decide)
theorem lt_line {n : Nat} (h : n ≤ 100000) : n < sizeLine := Nat.lt_of_le_of_lt h (by decide)
end

/-! ### argument lists, displays -/
def nilA : Rho → R (List D) := fun ρ => .ok [] ρ
def cnsA (f : EF) (g : Rho → R (List D)) : Rho → R (List D) := fun ρ => (f ρ).bind fun x ρ => (g ρ).bind fun xs ρ => .ok (x :: xs) ρ
theorem fa_nil : PA X [] (tA X.K π W nilA) := PA.imp pa_nil fun σ H Q ⟨c, F, ρ, S, P⟩ => P [] F H (Same.refl _) S .nil
theorem fa_cons {f : EF} {g : Rho → R (List D)} (ha : PE X e (tE X.K π W f)) (hr : PA X es (tA X.K π W g)) (hs : starEach (e :: es) X.env = (false, eval e X.env) :: starEach es X.env := by rfl) : PA X (e :: es) (tA X.K π W (cnsA f g)) :=
  PA.imp (pa_cons ha hr hs) fun σ H Q ⟨c, F, ρ, S, P⟩ => by
    refine po_bind S P fun x F1 H1 ρ1 dx s1 S1 r1 P1 => ?_
    refine po_bind S1 P1 fun xs F2 H2 ρ2 ds s2 S2 r2 P2 => ?_
    exact P2 (x :: xs) F2 H2 (Same.refl _) S2 (.cons (Rep.mono s2 r1) r2)
def small (n : Nat) : Bool := decide (n ≤ 100000)
theorem small_le {n : Nat} (h : small n = true) : n ≤ 100000 := of_decide_eq_true h
def dTup (g : Rho → R (List D)) : EF := fun ρ => (g ρ).bind fun xs ρ => if small xs.length = true then .ok (.tup xs) ρ else .stuck
def dLst (g : Rho → R (List D)) : Rho → R M := fun ρ => (g ρ).bind fun xs ρ => if small xs.length = true then .ok (.lst xs) ρ else .stuck
theorem pe_tupN {x1} {t : TA} (h : PA X es t) : PE X (.Tuple es x1 pos) (tTupN t) := by
  constructor
  intro pins s σ H Q I q
  apply wpAny_Tuple_spliced
  refine thn (h.run pos pins s σ H _ I q) fun us s1 ⟨xs, H1, I1, r, z, n⟩ => ?_
  have sz : us.length ≤ sizeLine := r.length ▸ z
  exact ⟨sz, newT_ep (tk := s1.toks) I1 z r (fun _ _ e => e) n⟩
theorem fe_tup {x1} {g : Rho → R (List D)} (h : PA X es (tA X.K π W g)) : PE X (.Tuple es x1 pos) (tE X.K π W (dTup g)) :=
  PE.imp (pe_tupN h) fun σ H Q ⟨c, F, ρ, S, P⟩ => by
    refine po_bind S P fun xs F1 H1 ρ1 ds s1 S1 r1 P1 => ?_
    split at P1
    · rename_i hz
      have hl : xs.length ≤ 100000 := by rw [Reps.length r1]; exact small_le hz
      refine ⟨le_line hl, fun p o hp hd => ?_⟩
      have gr := Grw.newT (xs := xs) S1.f hp hd
      exact P1 _ _ _ gr.f (S1.grow gr) (.tup (sqT_new upd_same) (Reps.mono gr.f r1))
    · exact P1.elim
theorem Sta.fresh {K : PySem.W.Frag} {c : Cfg} {F H : Hp} {σ : L2.St} {ρ : Rho} (S : Sta K π c F H σ ρ) {q : Addr} (h : H q = none) : F q = none ∧ c.H0 q = none ∧ ∀ j, ¬ OwnAt σ ρ j q := by
  refine ⟨Same.free S.f h, ?_, fun j hj => ?_⟩
  · cases e : c.H0 q with
    | none => rfl
    | some o =>
      obtain ⟨o', e'⟩ := S.any e
      rw [h] at e'
      cases e'
  · obtain ⟨o, e⟩ := (S.ownAt hj).2.2
    rw [h] at e
    cases e
theorem fm_lst {g : Rho → R (List D)} (h : PA X es (tA X.K π W g)) : PE X (.List es pos) (tM X.K π W (dLst g)) :=
  PE.imp (pe_lst h) fun σ H Q ⟨c, F, ρ, S, P⟩ => by
    refine po_bind S P fun xs F1 H1 ρ1 ds s1 S1 r1 P1 => ?_
    split at P1
    · rename_i hz
      have hl : xs.length ≤ 100000 := by rw [Reps.length r1]; exact small_le hz
      refine ⟨le_line hl, fun p hp => ?_⟩
      have gr := Grw.newO (o := .lst xs) S1.f hp
      obtain ⟨f1, f2, f3⟩ := S1.fresh hp
      exact P1 _ _ _ gr.f (S1.grow gr) ⟨p, rfl, f1, f2, f3, xs, upd_same, r1⟩
    · exact P1.elim
/-- a new list, as data -/
def frz (f : Rho → R M) : EF := fun ρ => (f ρ).bind fun m ρ => match m with
  | .lst ds => .ok (.lst ds) ρ
  | .dct ds => .ok (.dct ds) ρ
  | _ => .stuck
theorem fe_frz {f : Rho → R M} (h : PE X e (tM X.K π W f)) : PE X e (tE X.K π W (frz f)) :=
  PE.imp h fun σ H Q ⟨c, F, ρ, S, P⟩ => by
    refine po_bind S P fun v F1 H1 ρ1 m s1 S1 r1 P1 => ?_
    obtain ⟨p, rfl, f1, f2, f3, hm⟩ := r1
    cases m with
    | ins C fs => exact P1.elim
    | dtu ds => exact P1.elim
    | lst ds =>
      obtain ⟨vs, ho, r⟩ := hm
      obtain ⟨sm, S'⟩ := frz_newG S1 (by intro ps z; cases z) ho f1 f2 f3
      exact P1 (.ref p) _ H1 sm S' (.lst upd_same (Reps.mono sm r))
    | dct ds =>
      obtain ⟨kvs, ho, hk, r⟩ := hm
      obtain ⟨sm, S'⟩ := frz_newG S1 (by intro ps z; cases z) ho f1 f2 f3
      exact P1 (.ref p) _ H1 sm S' (.dct upd_same hk (Reps.mono sm r))
end
end
end FL
/-! FL3: operations on data. -/
namespace FL
open PySem PySem.Spec PyProof.Rows L2

/-! ### data as the library's data -/
mutual
def toP : D → PyData
  | .non => .none
  | .bl b => .bool b
  | .int i => .int i
  | .str x => .str x
  | .tup xs => .tuple (toPs xs)
  | .lst xs => .list (toPs xs)
  | .scr _ => .none
  | .fn _ => .none
  | .dct _ => .none
  | .exc _ _ => .none
  | .clo _ _ => .none
  | .dcf _ => .none
  | .dcu _ => .none
  | .ins _ _ => .none
  | .err _ _ _ => .none
  | .dl1 _ _ _ => .none
def toPs : List D → List PyData
  | [] => []
  | x :: xs => toP x :: toPs xs
end
/-- plain data, at most n deep -/
def shp : Nat → D → Bool
  | _, .non => true
  | _, .bl _ => true
  | _, .int _ => true
  | _, .str x => PyData.strOk x
  | n + 1, .tup xs => xs.all (shp n)
  | n + 1, .lst xs => xs.all (shp n)
  | _, _ => false
theorem shp_all {n : Nat} : ∀ {xs : List D}, (∀ x, shp n x = true → (toP x).canLay0 = true ∧ (toP x).depth ≤ n) → xs.all (shp n) = true → PyData.canLayAll0 (toPs xs) = true ∧ PyData.depthAll (toPs xs) ≤ n
  | [], _, _ => ⟨by simp [toPs, PyData.canLayAll0], by simp [toPs, PyData.depthAll]⟩
  | x :: xs, h, e => by
    rw [List.all_cons, Bool.and_eq_true] at e
    obtain ⟨h1, h2⟩ := h x e.1
    obtain ⟨h3, h4⟩ := shp_all (n := n) h e.2
    simp only [toPs, PyData.canLayAll0, PyData.depthAll, h1, h3, Bool.and_self, true_and]
    omega
theorem shp_ok : ∀ (n : Nat) (d : D), shp n d = true → (toP d).canLay0 = true ∧ (toP d).depth ≤ n
  | n, .non, _ => ⟨by simp [toP, PyData.canLay0], by simp [toP, PyData.depth]⟩
  | n, .bl _, _ => ⟨by simp [toP, PyData.canLay0], by simp [toP, PyData.depth]⟩
  | n, .int _, _ => ⟨by simp [toP, PyData.canLay0], by simp [toP, PyData.depth]⟩
  | n, .str x, h => ⟨by simpa [toP, PyData.canLay0, shp] using h, by simp [toP, PyData.depth]⟩
  | n + 1, .tup xs, h => by
    obtain ⟨h1, h2⟩ := shp_all (n := n) (shp_ok n) (by simpa [shp] using h)
    simp only [toP, PyData.canLay0, PyData.depth, h1, true_and]
    omega
  | n + 1, .lst xs, h => by
    obtain ⟨h1, h2⟩ := shp_all (n := n) (shp_ok n) (by simpa [shp] using h)
    simp only [toP, PyData.canLay0, PyData.depth, h1, true_and]
    omega
  | 0, .tup xs, h => by simp [shp] at h
  | 0, .lst xs, h => by simp [shp] at h
  | n, .scr _, h => by cases n <;> simp [shp] at h
  | n, .fn _, h => by cases n <;> simp [shp] at h
  | n, .dct _, h => by cases n <;> simp [shp] at h
  | n, .exc _ _, h => by cases n <;> simp [shp] at h
  | n, .clo _ _, h => by cases n <;> simp [shp] at h
  | n, .dcf _, h => by cases n <;> simp [shp] at h
  | n, .dcu _, h => by cases n <;> simp [shp] at h
  | n, .ins _ _, h => by cases n <;> simp [shp] at h
  | n, .err _ _ _, h => by cases n <;> simp [shp] at h
  | n, .dl1 _ _ _, h => by cases n <;> simp [shp] at h
section
variable {K : PySem.W.Frag} {F H : Hp}
theorem dpAll_of {n : Nat} (h : ∀ v d, shp n d = true → Rep K F v d → Dp K H v (toP d)) : ∀ {vs : List V} {ds : List D}, ds.all (shp n) = true → Reps K F vs ds → DpAll K H vs (toPs ds)
  | _, _, _, .nil => by rw [toPs]; exact .nil
  | _, _, e, .cons r rs => by
    rw [List.all_cons, Bool.and_eq_true] at e
    rw [toPs]
    exact .cons (h _ _ e.1 r) (dpAll_of h e.2 rs)
theorem dp_of (s : Same F H) : ∀ (n : Nat) (v : V) (d : D), shp n d = true → Rep K F v d → Dp K H v (toP d)
  | n, _, .non, _, .non => by rw [toP]; exact .non
  | n, _, .bl _, _, .bl _ => by rw [toP]; exact .bl _
  | n, _, .int _, _, .int _ => by rw [toP]; exact .int _
  | n, _, .str _, _, .str _ => by rw [toP]; exact .str _
  | n + 1, _, .tup xs, h, .tup q r => by rw [toP]; exact .tup (sm_tup s q) (dpAll_of (dp_of s n) (by simpa [shp] using h) r)
  | n + 1, _, .lst xs, h, .lst q r => by rw [toP]; exact .lst (SqL.of (s _ _ q)) (dpAll_of (dp_of s n) (by simpa [shp] using h) r)
  | 0, _, .tup xs, h, _ => by simp [shp] at h
  | 0, _, .lst xs, h, _ => by simp [shp] at h
  | n, _, .scr _, h, _ => by cases n <;> simp [shp] at h
  | n, _, .fn _, h, _ => by cases n <;> simp [shp] at h
  | n, _, .dct _, h, _ => by cases n <;> simp [shp] at h
  | n, _, .exc _ _, h, _ => by cases n <;> simp [shp] at h
  | n, _, .clo _ _, h, _ => by cases n <;> simp [shp] at h
  | n, _, .dcf _, h, _ => by cases n <;> simp [shp] at h
  | n, _, .dcu _, h, _ => by cases n <;> simp [shp] at h
  | n, _, .ins _ _, h, _ => by cases n <;> simp [shp] at h
  | n, _, .err _ _ _, h, _ => by cases n <;> simp [shp] at h
  | n, _, .dl1 _ _ _, h, _ => by cases n <;> simp [shp] at h
end
theorem shaped_of {d : D} (h : shp 8 d = true) : SeqAt.shaped (toP d) = true := by
  obtain ⟨h1, h2⟩ := shp_ok 8 d h
  unfold SeqAt.shaped
  rw [h1, Bool.true_and]
  exact decide_eq_true (by omega)
def eqd (x y : D) : Bool := PyData.eqv (toP x) (toP y)
def eqD (x y : D) : Option D := if shp 8 x = true ∧ shp 8 y = true then some (.bl (eqd x y)) else none
def neD (x y : D) : Option D := if shp 8 x = true ∧ shp 8 y = true then some (.bl (!eqd x y)) else none

/-! ### arithmetic -/
def addD : D → D → Option D
  | .int a, .int b => some (.int (a + b))
  | .str a, .str b => if small (a.length + b.length) = true then some (.str (a ++ b)) else none
  | .lst xs, .lst ys => if small (xs.length + ys.length) = true then some (.lst (xs ++ ys)) else none
  | .tup xs, .tup ys => if small (xs.length + ys.length) = true then some (.tup (xs ++ ys)) else none
  | _, _ => none
def subD : D → D → Option D
  | .int a, .int b => some (.int (a - b))
  | _, _ => none
def mulOk (a b : Int) : Bool := decide (a.natAbs < 2 ^ 64) || decide (b.natAbs < 2 ^ 64) || decide (a.natAbs.log2 + b.natAbs.log2 < 1000000)
def mulD : D → D → Option D
  | .int a, .int b => if mulOk a b = true then some (.int (a * b)) else none
  | .lst xs, .int k => if 0 ≤ k ∧ k ≤ 100000 ∧ xs.length * k.toNat ≤ 100000 then some (.lst (List.replicate k.toNat xs).flatten) else none
  | .tup xs, .int k => if 2 ≤ k ∧ k ≤ 1000 ∧ xs.length ≤ 1000 ∧ xs ≠ [] then some (.tup (List.replicate k.toNat xs).flatten) else none
  | _, _ => none
def fdivD : D → D → Option D
  | .int a, .int b => if (b ≠ 0 ∧ b.natAbs < 1073741824) ∨ (b ≠ 0 ∧ b.natAbs.log2 < 9000) then some (.int (a.fdiv b)) else none
  | _, _ => none
def modD : D → D → Option D
  | .int a, .int b => if b ≠ 0 then some (.int (a.fmod b)) else none
  | _, _ => none
def powD : D → D → Option D
  | .int a, .int b => if 0 ≤ b ∧ b ≤ 1000000 ∧ a.natAbs < 2 ^ 64 then some (.int (a ^ b.toNat)) else none
  | _, _ => none
def negD : D → Option D
  | .int a => some (.int (-a))
  | _ => none
def cmpD (p : Int → Int → Bool) : D → D → Option D
  | .int a, .int b => some (.bl (p a b))
  | _, _ => none
def ltD := cmpD fun a b => decide (a < b)
def leD := cmpD fun a b => decide (a ≤ b)
def gtD := cmpD fun a b => decide (b < a)
def geD := cmpD fun a b => decide (b ≤ a)
def flatD : D → Bool
  | .non => true
  | .bl _ => true
  | .int _ => true
  | .str _ => true
  | _ => false
def inD : D → D → Option D
  | x, .lst ys => if shp 7 x = true ∧ ys.all (shp 7) = true then some (.bl (ys.any fun y => eqd y x)) else none
  | x, .tup ys => if flatD x = true ∧ ys.all flatD = true then some (.bl (ys.any fun y => eqd y x)) else none
  | .str c, .str z => match c.cps.toList with
    | [n] => some (.bl (decide (n ∈ z.cps.toList)))
    | _ => none
  | _, _ => none
/-- t + u: where one of both is empty the other one itself -/
def rCatN (K : PySem.W.Frag) : R2 := fun x y H Q => ∃ (a b : Addr) (xs ys : List V), x = .ref a ∧ y = .ref b ∧ SqT K H a xs ∧ SqT K H b ys ∧ xs.length + ys.length ≤ sizeLine ∧
  (xs = [] → Q (.ref b) H) ∧ (xs ≠ [] → ys = [] → Q (.ref a) H) ∧ (xs ≠ [] → ys ≠ [] → NewT H (xs ++ ys) Q)
theorem o_catN {X : Cx} : OpR X (binaryOp .Add) (rCatN X.K) := by
  rintro pins s σ H x y v u Q I rx ry ⟨a, b, xs, ys, rfl, rfl, ta, tb, z, left, right, both⟩
  cases rx
  cases ry
  obtain ⟨its, r1, p1, _⟩ := I.tuple ta
  obtain ⟨jts, r2, p2, _⟩ := I.tuple tb
  match xs, its, r1, p1 with
  | [], _, .nil, p1 => exact cat_tup0 p1 p2 ⟨.ref b, H, I, rfl, left rfl⟩
  | x :: xs, w :: ws, r1, p1 =>
    have l1 := r1.length
    have l2 := r2.length
    refine HT.cat_tup p1 p2 (by simp) (fun e => ?_) (fun e => newT_ep (tk := s.toks) I (by rw [List.length_append]; exact z) (r1.append r2) (fun _ _ e => e) (both (by simp) fun e' => ?_)) (by omega)
    · exact ⟨.ref a, H, I, rfl, right (by simp) (r2.nil_iff.mp e)⟩
    · subst e'
      exact e (r2.nil_iff.mpr rfl)
/-- a tuple times a number, as long as it stays within the bounds -/
def rTimes (K : PySem.W.Frag) : R2 := fun x y H Q => ∃ (a : Addr) (m : Nat) (vs : List V), x = .ref a ∧ y = .int m ∧ SqT K H a vs ∧ vs ≠ [] ∧ 2 ≤ m ∧ m ≤ 1000000 ∧ vs.length * m ≤ 1000000 ∧
    NewT H (List.replicate m vs).flatten Q
theorem o_times {X : Cx} : OpR X (binaryOp .Mult) (rTimes X.K) := by
  rintro pins s σ H x y v u Q I rx ry ⟨a, m, vs, rfl, rfl, ht, h0, h2, h3, h4, q⟩
  cases rx
  obtain ⟨tk, rfl⟩ := ry
  obtain ⟨us, rv, ⟨⟨c, od, dt, slo⟩, hob, hcl, nn, hdt⟩, _⟩ := I.tuple ht
  dsimp only at hcl hdt
  subst hcl
  subst hdt
  have el : us.length = vs.length := rv.length.symm
  have hpos : 0 < us.length := by
    rw [el]
    exact List.length_pos_iff.mpr h0
  have sz : us.toArray.size = vs.length := List.size_toArray.trans el
  have hemp : us.toArray.isEmpty = false := by
    match us, hpos with
    | _ :: _, _ => rfl
  have prod : ((us.toArray.size : Nat) : Int) * (m : Int) ≤ 1000000 := by
    rw [sz]
    have : ((vs.length * m : Nat) : Int) ≤ 1000000 := by omega
    rwa [Int.natCast_mul] at this
  have flat : (List.replicate m us).flatten.length ≤ 1000000 := by
    rw [PyProof.Rows.lm_len_rep_flat, el, Nat.mul_comm]
    exact h4
  have line : 1000000 ≤ sizeLine := by decide
  have b0 : (decide ((m : Int) < -(2 ^ 63)) || decide ((m : Int) ≥ 2 ^ 63)) = false :=
    Bool.or_eq_false_iff.mpr ⟨decide_eq_false (by omega), decide_eq_false (by omega)⟩
  have b1 : (us.toArray.isEmpty || (m : Int) == 1) = false :=
    Bool.or_eq_false_iff.mpr ⟨hemp, beq_eq_false_iff_ne.mpr (by omega)⟩
  have b2 : (decide ((m : Int) ≤ 0) || us.toArray.isEmpty) = false :=
    Bool.or_eq_false_iff.mpr ⟨decide_eq_false (by omega), hemp⟩
  have b4 : Builtin.Tuple.tupleTooMany (((us.toArray.size : Nat) : Int) * (m : Int)) = false := by
    unfold Builtin.Tuple.tupleTooMany
    have := line
    exact decide_eq_false (by rw [sizeLine_eq]; omega)
  have fold := size_rep us m
  have hs2 : (List.foldl (fun x1 x2 => x1 ++ x2) #[] (List.replicate (m : Int).toNat us.toArray)).size ≤ sizeLine := by
    rw [Int.toNat_natCast, fold, List.size_toArray]
    exact Nat.le_trans flat line
  have body := tuple_mulW a us.toArray nn od slo (m : Int) tk b0 b1 b2 (by omega) b4 hs2
  have back := int_rmul_tuple (m : Int) tk a us.toArray nn od slo
  have is_t : s.heap.get? a = some { cls := .type "tuple", dict := od, data := .seq us.toArray nn, slots := slo } := hob
  refine wpAny_binaryOp_repeat_ref (U := "int") (T := "tuple") (by decide) ⟨_, is_t, rfl⟩ (fun s' => typeIs_int s' _ tk) noFill_tuple_mul F.fills_int_mul F.slot_int_rmul repeat_tuple F.slot_int_index.lookup ?_
  refine call_meets F.slot_int_rmul (typeIs_int s _ tk) F.entry_int_rmul (F.args_int_rmul_2 _ _) back ⟨is_t, rfl, ⟨_, is_t, rfl⟩, ?_⟩
  refine call_meets F.slot_tuple_mul ⟨_, is_t, rfl⟩ F.entry_tuple_mul (F.args_tuple_mul_2 _ _) body ⟨is_t, ?_⟩
  rw [Int.toNat_natCast, fold]
  have lv : (List.replicate m vs).flatten.length ≤ sizeLine := by
    rw [PyProof.Rows.lm_len_rep_flat, Nat.mul_comm]
    exact Nat.le_trans h4 line
  exact newT_ep (tk := s.toks) I lv (rv.rep m) (fun _ _ e => e) q
section
variable [FE]
variable {X : Cx} {K : PySem.W.Frag}
theorem q_add : Op2 K addD (fun x y H Q => (rI0 fun i j => .int (i + j)) x y H Q ∨ (∃ i j, x = V.str i ∧ y = V.str j ∧ i.length + j.length ≤ sizeLine ∧ Q (.str (i ++ j)) H) ∨ rCat x y H Q ∨ rCatN K x y H Q) := by
  intro F H x y dx dy d Q s rx ry e k
  cases rx <;> cases ry <;> first | (cases e; done) | skip
  · rename_i i j
    cases e
    exact .inl ⟨i, j, rfl, rfl, k _ F H (Grw.refl s) (.int _)⟩
  · rename_i i j
    simp only [addD] at e
    split at e
    · rename_i hz
      cases e
      exact .inr (.inl ⟨i, j, rfl, rfl, le_line (small_le hz), k _ F H (Grw.refl s) (.str _)⟩)
    · cases e
  · rename_i a xs ds h1 r1 b ys es h2 r2
    simp only [addD] at e
    split at e
    · rename_i hz
      cases e
      have hl : xs.length + ys.length ≤ 100000 := by rw [Reps.length r1, Reps.length r2]; exact small_le hz
      refine .inr (.inr (.inr ⟨a, b, xs, ys, rfl, rfl, sm_tup s h1, sm_tup s h2, le_line hl, fun z => ?_, fun z1 z2 => ?_, fun z1 z2 p o hp hd => ?_⟩))
      · subst z
        cases r1
        exact k _ F H (Grw.refl s) (.tup h2 r2)
      · subst z2
        cases r2
        rw [List.append_nil] at *
        exact k _ F H (Grw.refl s) (.tup h1 r1)
      · have g := Grw.newT (xs := xs ++ ys) s hp hd
        exact k _ _ _ g (.tup (sqT_new upd_same) ((Reps.mono g.f r1).append (Reps.mono g.f r2)))
    · cases e
  · rename_i a xs ds h1 r1 b ys es h2 r2
    simp only [addD] at e
    split at e
    · rename_i hz
      cases e
      have hl : xs.length + ys.length ≤ 100000 := by rw [Reps.length r1, Reps.length r2]; exact small_le hz
      refine .inr (.inr (.inl ⟨a, b, xs, ys, rfl, rfl, s _ _ h1, s _ _ h2, le_line hl, fun p hp => ?_⟩))
      have g := Grw.newF (o := .lst (xs ++ ys)) s hp
      exact k _ _ _ g (.lst upd_same ((Reps.mono g.f r1).append (Reps.mono g.f r2)))
    · cases e
theorem o_add : OpR X (binaryOp .Add) (fun x y H Q => (rI0 fun i j => .int (i + j)) x y H Q ∨ (∃ i j, x = V.str i ∧ y = V.str j ∧ i.length + j.length ≤ sizeLine ∧ Q (.str (i ++ j)) H) ∨ rCat x y H Q ∨ rCatN X.K x y H Q) :=
  op_add.or (op_add_str.or (op_cat.or o_catN))
theorem q_sub : Op2 K subD (rI0 fun i j => .int (i - j)) := by
  intro F H x y dx dy d Q s rx ry e k
  cases rx <;> cases ry <;> first | (cases e; done) | skip
  rename_i i j
  cases e
  exact ⟨i, j, rfl, rfl, k _ F H (Grw.refl s) (.int _)⟩
theorem Reps.rep {F : Hp} {vs : List V} {ds : List D} (r : Reps K F vs ds) : ∀ n : Nat, Reps K F (List.replicate n vs).flatten (List.replicate n ds).flatten
  | 0 => .nil
  | n + 1 => by
    rw [List.replicate_succ, List.replicate_succ, List.flatten_cons, List.flatten_cons]
    exact r.append (Reps.rep r n)
theorem q_mul : Op2 K mulD (fun x y H Q => (rI CMul fun i j => .int (i * j)) x y H Q ∨ (rI CMulW fun i j => .int (i * j)) x y H Q ∨ rRep x y H Q ∨ rTimes K x y H Q) := by
  intro F H x y dx dy d Q s rx ry e k
  cases rx <;> cases ry <;> first | (cases e; done) | skip
  · rename_i i j
    simp only [mulD] at e
    split at e
    · rename_i hz
      cases e
      have q := k _ F H (Grw.refl s) (.int (i * j))
      unfold mulOk at hz
      rw [Bool.or_eq_true, Bool.or_eq_true, decide_eq_true_eq, decide_eq_true_eq, decide_eq_true_eq] at hz
      rcases hz with (hz | hz) | hz
      · exact .inl ⟨i, j, rfl, rfl, .inl (by omega), q⟩
      · exact .inl ⟨i, j, rfl, rfl, .inr (by omega), q⟩
      · exact .inr (.inl ⟨i, j, rfl, rfl, hz, q⟩)
    · cases e
  · rename_i a xs ds h1 r1 j
    simp only [mulD] at e
    split at e
    · rename_i hz
      cases e
      obtain ⟨z1, z2, z3, z4⟩ := hz
      have hl := Reps.length r1
      have hm : xs.length * j.toNat ≤ 1000 * 1000 := Nat.mul_le_mul (by omega) (by omega)
      refine .inr (.inr (.inr ⟨a, j.toNat, xs, rfl, by rw [show ((j.toNat : Nat) : Int) = j by omega], sm_tup s h1, fun z => ?_, by omega, by omega, by omega, fun p o hp hd => ?_⟩))
      · subst z
        cases r1
        exact z4 rfl
      · have g := Grw.newT (xs := (List.replicate j.toNat xs).flatten) s hp hd
        exact k _ _ _ g (.tup (sqT_new upd_same) ((Reps.mono g.f r1).rep _))
    · cases e
  · rename_i a xs ds h1 r1 j
    simp only [mulD] at e
    split at e
    · rename_i hz
      cases e
      obtain ⟨z1, z2, z3⟩ := hz
      refine .inr (.inr (.inl ⟨a, j, xs, rfl, rfl, s _ _ h1, by omega, by omega, le_line (by rw [Reps.length r1]; exact z3), fun p hp => ?_⟩))
      have g := Grw.newF (o := .lst (List.replicate j.toNat xs).flatten) s hp
      exact k _ _ _ g (.lst upd_same ((Reps.mono g.f r1).rep _))
    · cases e
theorem o_mul : OpR X (binaryOp .Mult) (fun x y H Q => (rI CMul fun i j => .int (i * j)) x y H Q ∨ (rI CMulW fun i j => .int (i * j)) x y H Q ∨ rRep x y H Q ∨ rTimes X.K x y H Q) :=
  op_mul.or (op_mulW.or (op_rep.or o_times))
def CDivA (_ j : Int) : Prop := j ≠ 0 ∧ j.natAbs.log2 < 9000
theorem op_fdivA : OpR X (binaryOp .FloorDiv) (rI CDivA fun i j => .int (i.fdiv j)) := opI fun _ _ _ _ _ _ _ hc q => floordiv_int hc.1 q (.inl (PyProof.noPylong_of_log2 hc.2))
theorem q_fdiv : Op2 K fdivD (fun x y H Q => (rI CDivN fun i j => .int (i.fdiv j)) x y H Q ∨ (rI CDivA fun i j => .int (i.fdiv j)) x y H Q) := by
  intro F H x y dx dy d Q s rx ry e k
  cases rx <;> cases ry <;> first | (cases e; done) | skip
  rename_i i j
  simp only [fdivD] at e
  split at e
  · rename_i hz
    cases e
    have q := k _ F H (Grw.refl s) (.int (i.fdiv j))
    rcases hz with hz | hz
    · exact .inl ⟨i, j, rfl, rfl, hz, q⟩
    · exact .inr ⟨i, j, rfl, rfl, hz, q⟩
  · cases e
theorem o_fdiv : OpR X (binaryOp .FloorDiv) (fun x y H Q => (rI CDivN fun i j => .int (i.fdiv j)) x y H Q ∨ (rI CDivA fun i j => .int (i.fdiv j)) x y H Q) := op_fdivN.or op_fdivA
theorem q_mod : Op2 K modD (rI (fun _ j => j ≠ 0) fun i j => .int (i.fmod j)) := by
  intro F H x y dx dy d Q s rx ry e k
  cases rx <;> cases ry <;> first | (cases e; done) | skip
  rename_i i j
  simp only [modD] at e
  split at e
  · rename_i hz
    cases e
    exact ⟨i, j, rfl, rfl, hz, k _ F H (Grw.refl s) (.int _)⟩
  · cases e
theorem q_pow : Op2 K powD (rI CPow fun i j => .int (i ^ j.toNat)) := by
  intro F H x y dx dy d Q s rx ry e k
  cases rx <;> cases ry <;> first | (cases e; done) | skip
  rename_i i j
  simp only [powD] at e
  split at e
  · rename_i hz
    cases e
    exact ⟨i, j, rfl, rfl, hz, k _ F H (Grw.refl s) (.int _)⟩
  · cases e
theorem q_neg : Op1 K negD (rU fun i => .int (-i)) := by
  intro F H x dx d Q s rx e k
  cases rx <;> first | (cases e; done) | skip
  rename_i i
  cases e
  exact ⟨i, rfl, k _ F H (Grw.refl s) (.int _)⟩
theorem q_cmp {p : Int → Int → Bool} : Op2 K (cmpD p) (rI0 fun i j => .bl (p i j)) := by
  intro F H x y dx dy d Q s rx ry e k
  cases rx <;> cases ry <;> first | (cases e; done) | skip
  rename_i i j
  cases e
  exact ⟨i, j, rfl, rfl, k _ F H (Grw.refl s) (.bl _)⟩
theorem q_eq : Op2 K eqD (rEqD K) := by
  intro F H x y dx dy d Q s rx ry e k
  unfold eqD at e
  split at e
  · rename_i hz
    cases e
    exact ⟨_, _, dp_of s 8 _ _ hz.1 rx, dp_of s 8 _ _ hz.2 ry, shaped_of hz.1, shaped_of hz.2, k _ F H (Grw.refl s) (.bl _)⟩
  · cases e
theorem q_ne : Op2 K neD (rNeD K) := by
  intro F H x y dx dy d Q s rx ry e k
  unfold neD at e
  split at e
  · rename_i hz
    cases e
    exact ⟨_, _, dp_of s 8 _ _ hz.1 rx, dp_of s 8 _ _ hz.2 ry, shaped_of hz.1, shaped_of hz.2, k _ F H (Grw.refl s) (.bl _)⟩
  · cases e
theorem flat_rep {F : Hp} {v : V} {d : D} (r : Rep K F v d) (h : flatD d = true) : flatV v = true := by cases r <;> first | rfl | cases h
theorem flats_rep {F : Hp} : ∀ {vs : List V} {ds : List D}, Reps K F vs ds → ds.all flatD = true → vs.all flatV = true
  | _, _, .nil, _ => rfl
  | _, _, .cons r rs, h => by
    rw [List.all_cons, Bool.and_eq_true] at h ⊢
    exact ⟨flat_rep r h.1, flats_rep rs h.2⟩
theorem eqv_rep {F : Hp} {x y : V} {dx dy : D} (r : Rep K F x dx) (q : Rep K F y dy) (h : flatD dx = true) (h' : flatD dy = true) : eqV x y = eqd dx dy := by
  cases r <;> cases q <;> first | (cases h; done) | (cases h'; done) | (simp [eqd, toP, PyData.eqv, eqV]; done) | (simp only [eqd, toP, PyData.eqv, eqV]; done) | rfl
theorem anyv_rep {F : Hp} {x : V} {dx : D} (r : Rep K F x dx) (h : flatD dx = true) : ∀ {vs : List V} {ds : List D}, Reps K F vs ds → ds.all flatD = true → (vs.any fun y => eqV y x) = ds.any fun y => eqd y dx
  | _, _, .nil, _ => rfl
  | _, _, .cons q qs, e => by
    rw [List.all_cons, Bool.and_eq_true] at e
    rw [List.any_cons, List.any_cons, eqv_rep q r e.1 h, anyv_rep r h qs e.2]
theorem any_toPs {dx : D} : ∀ ds : List D, ((toPs ds).any fun z => PyData.eqv z (toP dx)) = ds.any fun y => eqd y dx
  | [] => rfl
  | d :: ds => by
    rw [toPs, List.any_cons, List.any_cons, any_toPs ds]
    rfl
theorem shp_mono1 : ∀ (n : Nat) (d : D), shp n d = true → shp (n + 1) d = true
  | n, .non, _ => by simp [shp]
  | n, .bl _, _ => by simp [shp]
  | n, .int _, _ => by simp [shp]
  | n, .str x, h => by simpa [shp] using h
  | n + 1, .tup xs, h => by
    simp only [shp, List.all_eq_true] at h ⊢
    exact fun x hx => shp_mono1 n x (h x hx)
  | n + 1, .lst xs, h => by
    simp only [shp, List.all_eq_true] at h ⊢
    exact fun x hx => shp_mono1 n x (h x hx)
  | 0, .tup xs, h => by simp [shp] at h
  | 0, .lst xs, h => by simp [shp] at h
  | n, .scr _, h => by cases n <;> simp [shp] at h
  | n, .fn _, h => by cases n <;> simp [shp] at h
  | n, .dct _, h => by cases n <;> simp [shp] at h
  | n, .exc _ _, h => by cases n <;> simp [shp] at h
  | n, .clo _ _, h => by cases n <;> simp [shp] at h
  | n, .dcf _, h => by cases n <;> simp [shp] at h
  | n, .dcu _, h => by cases n <;> simp [shp] at h
  | n, .ins _ _, h => by cases n <;> simp [shp] at h
  | n, .err _ _ _, h => by cases n <;> simp [shp] at h
  | n, .dl1 _ _ _, h => by cases n <;> simp [shp] at h
def rInA (K : PySem.W.Frag) : R2 := fun x y H Q => rInD K x y H Q ∨ rIn K false x y H Q ∨ (∃ (c : Nat) (z : Str), x = .str ⟨#[c]⟩ ∧ y = .str z ∧ Q (.bl (decide (c ∈ z.cps.toList))) H)
theorem str_one {c : Str} {n : Nat} (h : c.cps.toList = [n]) : c = ⟨#[n]⟩ := by
  obtain ⟨a⟩ := c
  congr 1
  exact Array.toList_inj.mp h
theorem in_cases {F H : Hp} {x y : V} {dx dy d : D} {Q : VK} (s : Same F H) (rx : Rep K F x dx) (ry : Rep K F y dy) (e : inD dx dy = some d) :
    ∃ b, d = .bl b ∧ (((∃ p q, Dp K H x p ∧ Dp K H y (.list q) ∧ SeqAt.shaped p = true ∧ SeqAt.shaped (.list q) = true ∧ (q.any fun z => PyData.eqv z p) = b)) ∨ (∃ p xs, y = .ref p ∧ (SqL K H p xs ∨ SqT K H p xs) ∧ flatV x = true ∧ xs.all flatV = true ∧ inV x xs = b) ∨
      (∃ (c : Nat) (z : Str), x = .str ⟨#[c]⟩ ∧ y = .str z ∧ decide (c ∈ z.cps.toList) = b)) := by
  cases ry with
  | @lst a ys ds h1 r1 =>
    have e : (if shp 7 dx = true ∧ ds.all (shp 7) = true then some (D.bl (ds.any fun y => eqd y dx)) else none) = some d := by cases dx <;> exact e
    split at e
    · rename_i hz
      cases e
      have e8 : shp 8 (.lst ds) = true := by simpa [shp] using hz.2
      refine ⟨_, rfl, .inl ⟨_, _, dp_of s 7 _ _ hz.1 rx, ?_, shaped_of (shp_mono1 7 _ hz.1), ?_, any_toPs ds⟩⟩
      · have z := dp_of s 8 _ _ e8 (Rep.lst (K := K) h1 r1)
        rw [toP] at z
        exact z
      · have z := shaped_of e8
        rw [toP] at z
        exact z
    · cases e
  | @tup a ys ds h1 r1 =>
    have e : (if flatD dx = true ∧ ds.all flatD = true then some (D.bl (ds.any fun y => eqd y dx)) else none) = some d := by cases dx <;> exact e
    split at e
    · rename_i hz
      cases e
      exact ⟨_, rfl, .inr (.inl ⟨a, ys, rfl, .inr (sm_tup s h1), flat_rep rx hz.1, flats_rep r1 hz.2, anyv_rep rx hz.1 r1 hz.2⟩)⟩
    · cases e
  | str z =>
    cases rx with
    | str c =>
      simp only [inD] at e
      split at e
      · rename_i n hn
        cases e
        exact ⟨_, rfl, .inr (.inr ⟨n, z, by rw [str_one hn], rfl, rfl⟩)⟩
      · cases e
    | _ => cases e
  | _ => cases rx <;> cases e
theorem q_in : Op2 K inD (rInA K) := by
  intro F H x y dx dy d Q s rx ry e k
  obtain ⟨b, rfl, h⟩ := in_cases (Q := Q) s rx ry e
  have q := k (.bl b) F H (Grw.refl s) (.bl b)
  rcases h with ⟨p, w, h1, h2, h3, h4, h5⟩ | ⟨p, xs, h1, h2, h3, h4, h5⟩ | ⟨c, z, h1, h2, h3⟩
  · exact .inl ⟨p, w, h1, h2, h3, h4, by rw [h5]; exact q⟩
  · refine .inr (.inl ⟨p, xs, h1, h2, h3, h4, ?_⟩)
    rw [if_neg Bool.false_ne_true, h5]
    exact q
  · exact .inr (.inr ⟨c, z, h1, h2, by rw [h3]; exact q⟩)
theorem o_in (hu : X.A.units + 65 < cLine) : OpR X (compareOp .In) (rInA X.K) := (op_inD hu).or (op_in_seq.or op_in_sign)
end
end FL
/-! FL4: subscripts, slices, built-in calls. -/
namespace FL
open PySem PySem.Spec PyProof.Rows L2

/-! ### a tuple read backwards -/
section
variable {prog : Program} {w : World} {A : Around} {E : Value → Shared → Prop} {s : Shared}
end
section
variable [FE]
variable {X : Cx} {π : Nat → Addr} {W : WX}
end

/-! ### subscripts -/
def ixD : D → D → Option D
  | .tup xs, .int i => atI xs i
  | .lst xs, .int i => atI xs i
  | .scr ns, .int i => (atI ns i).map D.int
  | .str z, .int i => if z.length ≤ 100000 then (atI z.cps.toList i).map fun c => D.str ⟨#[c]⟩ else none
  | _, _ => none
theorem Reps.atI {K : PySem.W.Frag} {F : Hp} {vs : List V} {ds : List D} {i : Int} {d : D} (r : Reps K F vs ds) (h : L2.atI ds i = some d) : ∃ v, L2.atI vs i = some v ∧ Rep K F v d := by
  unfold L2.atI at h ⊢
  rw [Reps.length r]
  cases e : ixN ds.length i with
  | none => rw [e] at h; cases h
  | some j =>
    rw [e] at h
    exact r.get h
theorem atI_map {α β : Type} (f : α → β) (xs : List α) (i : Int) : L2.atI (xs.map f) i = (L2.atI xs i).map f := by
  unfold L2.atI
  rw [List.length_map]
  cases ixN xs.length i with
  | none => rfl
  | some j =>
    show (xs.map f)[j]? = (xs[j]?).map f
    rw [List.getElem?_map]
variable [FE] in
theorem q_ix {K : PySem.W.Frag} : Op2 K ixD (rIx K) := by
  intro F H x y dx dy d Q s rx ry e k
  cases rx <;> cases ry <;> first | (cases e; done) | skip
  · rename_i z i
    simp only [ixD] at e
    split at e
    · rename_i hz
      cases h : L2.atI z.cps.toList i with
      | none => rw [h] at e; cases e
      | some c =>
        rw [h] at e
        cases e
        exact .inr (.inr ⟨z, i, c, rfl, rfl, le_line hz, h, k _ F H (Grw.refl s) (.str _)⟩)
    · cases e
  · rename_i a xs ds h1 r1 i
    obtain ⟨v, h2, r2⟩ := r1.atI e
    exact .inr (.inl ⟨a, xs, i, v, rfl, rfl, sm_tup s h1, h2, k _ F H (Grw.refl s) r2⟩)
  · rename_i a xs ds h1 r1 i
    obtain ⟨v, h2, r2⟩ := r1.atI e
    exact .inl ⟨a, xs, i, v, rfl, rfl, SqL.of (s _ _ h1), h2, k _ F H (Grw.refl s) r2⟩
  · rename_i a ns h1 i
    simp only [ixD] at e
    cases h : L2.atI ns i with
    | none => rw [h] at e; cases e
    | some c =>
      rw [h] at e
      cases e
      exact .inl ⟨a, ns.map V.int, i, .int c, rfl, rfl, Same.seq s h1, by rw [atI_map, h]; rfl, k _ F H (Grw.refl s) (.int c)⟩
section
variable [FE]
variable {X : Cx} {π : Nat → Addr} {W : WX} {a b : Expr} {pos p2 : Pos}
theorem fe_ix {f g : EF} (ha : PE X a (tE X.K π W f)) (hb : PE X b (tE X.K π W g)) (hs : PlainIx b) : PE X (.Subscript a b pos) (tE X.K π W (op2 ixD f g)) := PE.imp (pe_ix ix_seq ha hb hs) fun _ _ _ => rd_op2 q_ix

/-! ### slices -/
def relO : Rel (Option Int) (Option Int) := fun _ _ _ _ _ b c => b = c
abbrev tO (K : PySem.W.Frag) (π : Nat → Addr) (W : WX) (f : Rho → R (Option Int)) : TO := tG K π W relO f
def noO : Rho → R (Option Int) := fun ρ => .ok none ρ
def smO (f : EF) : Rho → R (Option Int) := fun ρ => (f ρ).bind fun x ρ => match x with
  | .int i => .ok (some i) ρ
  | _ => .stuck
theorem PO.imp {o : Option Expr} {t t' : TO} (h : PO X o t) (k : ∀ σ H Q, t' σ H Q → t σ H Q) : PO X o t' := ⟨fun pins s σ H Q I q => h.run pins s σ H Q I (k σ H Q q)⟩
theorem fo_none : PO X none (tO X.K π W noO) := PO.imp po_none fun σ H Q ⟨c, F, ρ, S, P⟩ => P none F H (Same.refl _) S rfl
theorem fo_some {f : EF} (ha : PE X a (tE X.K π W f)) : PO X (some a) (tO X.K π W (smO f)) := PO.imp (po_some ha) fun σ H Q ⟨c, F, ρ, S, P⟩ => by
  refine po_bind S P fun x F1 H1 ρ1 dx s1 S1 r1 P1 => ?_
  cases r1 <;> first | (exact P1.elim) | skip
  rename_i i
  exact ⟨i, rfl, P1 (some i) F1 H1 (Same.refl _) S1 rfl⟩
def cut {α : Type} (xs : List α) (lo hi : Option Int) : List α := (xs.drop (HT.sIx xs.length 0 lo)).take (HT.sIx xs.length xs.length hi - HT.sIx xs.length 0 lo)
def cutD (d : D) (lo hi : Option Int) : Option D := match d with
  | .tup xs => some (.tup (cut xs lo hi))
  | .lst xs => some (.lst (cut xs lo hi))
  | .scr ns => some (.lst ((cut ns lo hi).map D.int))
  | .str z => if z.length ≤ 100000 then some (.str (cutS z lo hi)) else none
  | _ => none
def slF (f : EF) (g h : Rho → R (Option Int)) : EF := fun ρ => (f ρ).bind fun x ρ => (g ρ).bind fun l ρ => (h ρ).bind fun u ρ => R.of (cutD x l u) ρ
theorem Reps.cut {K : PySem.W.Frag} {F : Hp} {vs : List V} {ds : List D} (r : Reps K F vs ds) (lo hi : Option Int) : Reps K F (cutV vs lo hi) (FL.cut ds lo hi) := by
  unfold cutV FL.cut
  rw [Reps.length r]
  exact (r.drop _).take _
theorem cut_map {α β : Type} (f : α → β) (xs : List α) (lo hi : Option Int) : cut (xs.map f) lo hi = (cut xs lo hi).map f := by
  unfold cut
  rw [List.length_map, List.map_take, List.map_drop]
theorem cut_whole {α : Type} {xs : List α} {lo hi : Option Int} (h : HT.sIx xs.length 0 lo = 0 ∧ HT.sIx xs.length xs.length hi = xs.length) : cut xs lo hi = xs := by
  unfold cut
  rw [h.1, h.2, List.drop_zero, Nat.sub_zero, List.take_length]
/-- t[lo:hi]: t itself where that is all of it, else a new one -/
def rSlN (K : PySem.W.Frag) : V → Option Int → Option Int → Hp → VK → Prop := fun x lo hi H Q => ∃ (a : Addr) (xs : List V), x = .ref a ∧ SqT K H a xs ∧
  if HT.sIx xs.length 0 lo = 0 ∧ HT.sIx xs.length xs.length hi = xs.length then Q (.ref a) H else NewT H (cutV xs lo hi) Q
theorem sl_tupN {X : Cx} : SlR X (rSlN X.K) := by
  rintro pins s σ H x v vl vu lo hi sl Q I rx hs pl pu ⟨a, xs, rfl, tx, q⟩
  cases rx
  obtain ⟨its, r, ht, hz⟩ := I.tuple tx
  have same : its.toArray.size = xs.length := List.size_toArray.trans r.length.symm
  refine ⟨"tuple", _, PyProof.Rows.slot_tuple_getitem.lookup, ht.typeIs, ?_⟩
  split at q
  · rename_i all
    exact getItem_tuple_whole ht hs pl pu (by rw [same]; exact all) ⟨.ref a, H, I, rfl, q⟩
  · rename_i part
    refine HT.getItem_tuple_cut ht hs pl pu (by rw [same]; exact part) ?_ (by rw [same]; exact hz)
    have rc := (r.drop (HT.sIx xs.length 0 lo)).take (HT.sIx xs.length xs.length hi - HT.sIx xs.length 0 lo)
    rw [same]
    exact newT_ep (tk := s.toks) I (Nat.le_trans (cutV_length xs lo hi) hz) rc (fun _ _ e => e) q
def rSlAll (K : PySem.W.Frag) : V → Option Int → Option Int → Hp → VK → Prop := fun x lo hi H Q => rSlN K x lo hi H Q ∨ rSlL K x lo hi H Q ∨ rSlS x lo hi H Q
theorem q_cut {K : PySem.W.Frag} {F H : Hp} {x : V} {dx d : D} {lo hi : Option Int} {Q : VK} (s : Same F H) (rx : Rep K F x dx) (e : cutD dx lo hi = some d) (k : ∀ v F' H', Grw F H F' H' → Rep K F' v d → Q v H') : rSlAll K x lo hi H Q := by
  cases rx <;> first | (cases e; done) | skip
  · rename_i z
    simp only [cutD] at e
    split at e
    · rename_i hz
      cases e
      exact .inr (.inr ⟨z, rfl, le_line hz, k _ F H (Grw.refl s) (.str _)⟩)
    · cases e
  · rename_i a xs ds h1 r1
    cases e
    refine .inl ⟨a, xs, rfl, sm_tup s h1, ?_⟩
    split
    · rename_i hw
      rw [Reps.length r1] at hw
      rw [cut_whole hw] at k
      exact k _ F H (Grw.refl s) (.tup h1 r1)
    · intro p o hp hd
      have g := Grw.newT (xs := cutV xs lo hi) s hp hd
      exact k _ _ _ g (.tup (sqT_new upd_same) ((Reps.mono g.f r1).cut lo hi))
  · rename_i a xs ds h1 r1
    cases e
    refine .inr (.inl ⟨a, xs, rfl, SqL.of (s _ _ h1), fun p hp => ?_⟩)
    have g := Grw.newF (o := .lst (cutV xs lo hi)) s hp
    exact k _ _ _ g (.lst upd_same ((Reps.mono g.f r1).cut lo hi))
  · rename_i a ns h1
    cases e
    refine .inr (.inl ⟨a, ns.map V.int, rfl, Same.seq s h1, fun p hp => ?_⟩)
    have g := Grw.newF (o := .lst (cutV (ns.map V.int) lo hi)) s hp
    refine k _ _ _ g (.lst upd_same ?_)
    rw [show cutV (ns.map V.int) lo hi = (cut ns lo hi).map V.int from cut_map V.int ns lo hi]
    exact Reps.ints _
theorem fe_sl {f : EF} {g h : Rho → R (Option Int)} {lo hi : Option Expr} (ha : PE X a (tE X.K π W f)) (hl : PO X lo (tO X.K π W g)) (hu : PO X hi (tO X.K π W h)) : PE X (.Subscript a (.Slice lo hi none p2) pos) (tE X.K π W (slF f g h)) :=
  PE.imp (pe_slice (r := rSlAll X.K) (sl_tupN.or (sl_list.or sl_str)) ha hl hu) fun σ H Q ⟨c, F, ρ, S, P⟩ => by
    refine po_bind S P fun x F1 H1 ρ1 dx s1 S1 r1 P1 => ?_
    refine po_bind S1 P1 fun l F2 H2 ρ2 dl s2 S2 r2 P2 => ?_
    refine po_bind S2 P2 fun u F3 H3 ρ3 du s3 S3 r3 P3 => ?_
    obtain ⟨d, e, P4⟩ := po_of P3
    cases r2
    cases r3
    exact q_cut S3.f (Rep.mono (s2.trans s3) r1) e fun v F4 H4 gr rv => P4 v F4 H4 gr.f (S3.grow gr) rv
end

/-! ### calls of built-ins -/
variable [FE] in
def OpC (K : PySem.W.Frag) (o : List D → Option D) (r : List V → Hp → VK → Prop) : Prop := ∀ {F H : Hp} {vs : List V} {ds : List D} {d : D} {Q : VK}, Same F H → Reps K F vs ds → o ds = some d → (∀ v F' H', Grw F H F' H' → Rep K F' v d → Q v H') → r vs H Q
def opC (o : List D → Option D) (g : Rho → R (List D)) : EF := fun ρ => (g ρ).bind fun xs ρ => R.of (o xs) ρ
section
variable [FE]
variable {X : Cx} {π : Nat → Addr} {W : WX} {e : Expr} {es : List Expr} {pos p : Pos} {x : Str} {id T : String} {r : List V → Hp → VK → Prop} {o : List D → Option D} {g : Rho → R (List D)}
theorem rd_opC {K : PySem.W.Frag} {σ : L2.St} {H : Hp} {Q : VK} (q : OpC K o r) (t : tE K π W (opC o g) σ H Q) : tCB r (tA K π W g) σ H Q := by
  obtain ⟨c, F, ρ, S, P⟩ := t
  refine po_bind S P fun vs F1 H1 ρ1 ds s1 S1 r1 P1 => ?_
  obtain ⟨d, e, P2⟩ := po_of P1
  exact q S1.f r1 e fun v F2 H2 gr rv => P2 v F2 H2 gr.f (S1.grow gr) rv
theorem fe_callB (q : OpC X.K o r) (hc : CallR X (.builtin id) r) (hg : Gl X x) (hm : X.mg x = none) (hv : bootBuiltins x = some (.builtin id)) (ha : PA X (e :: es) (tA X.K π W g)) (hn : x ≠ "__name__" := by decide) (hdb : (x == ("__debug__" : Str)) = false := by decide)
    (he : starEach (e :: es) X.env = (false, eval e X.env) :: starEach es X.env := by rfl) (hpl : (backTo pos (starEach es X.env)).any (·.1) = false := by rfl) : PE X (.Call (.Name x p) (e :: es) [] pos) (tE X.K π W (opC o g)) :=
  PE.imp (pe_callB hc hg hm hv ha hn hdb he hpl) fun _ _ _ => rd_opC q
theorem fe_callTy (q : OpC X.K o r) (hc : CallR X (.type T) r) (hg : Gl X x) (hm : X.mg x = none) (hv : bootBuiltins x = some (.type T)) (ha : PA X (e :: es) (tA X.K π W g)) (hn : x ≠ "__name__" := by decide) (hdb : (x == ("__debug__" : Str)) = false := by decide)
    (he : starEach (e :: es) X.env = (false, eval e X.env) :: starEach es X.env := by rfl) (hpl : (backTo pos (starEach es X.env)).any (·.1) = false := by rfl) : PE X (.Call (.Name x p) (e :: es) [] pos) (tE X.K π W (opC o g)) :=
  PE.imp (pe_callTy hc hg hm hv ha hn hdb he hpl) fun _ _ _ => rd_opC q
end
/-- len -/
def lenC : List D → Option D
  | [.str z] => if z.length ≤ 100000 then some (.int z.length) else none
  | [.tup xs] => some (.int xs.length)
  | [.lst xs] => some (.int xs.length)
  | [.scr ns] => some (.int ns.length)
  | _ => none
def rLenA (K : PySem.W.Frag) : List V → Hp → VK → Prop := fun xs H Q => ∃ x n, xs = [x] ∧ LenV K x H n ∧ Q (.int n) H
theorem Reps.one {K : PySem.W.Frag} {F : Hp} {vs : List V} {d : D} (r : Reps K F vs [d]) : ∃ v, vs = [v] ∧ Rep K F v d := by
  cases r with
  | cons h t =>
    cases t
    exact ⟨_, rfl, h⟩
theorem Reps.two {K : PySem.W.Frag} {F : Hp} {vs : List V} {d e : D} (r : Reps K F vs [d, e]) : ∃ v w, vs = [v, w] ∧ Rep K F v d ∧ Rep K F w e := by
  cases r with
  | cons h t =>
    obtain ⟨w, rfl, h2⟩ := Reps.one t
    exact ⟨_, _, rfl, h, h2⟩
section
variable [FE]
variable {X : Cx} {K : PySem.W.Frag}
theorem q_len : OpC K lenC (rLenA K) := by
  intro F H vs ds d Q s r e k
  unfold lenC at e
  split at e
  · rename_i z
    split at e
    · rename_i hz
      cases e
      obtain ⟨v, rfl, h⟩ := Reps.one r
      cases h
      exact ⟨.str z, z.length, rfl, ⟨le_line hz, rfl⟩, k _ F H (Grw.refl s) (.int _)⟩
    · cases e
  · cases e
    obtain ⟨v, rfl, h⟩ := Reps.one r
    cases h with
    | tup h1 r1 => exact ⟨_, _, rfl, .inr ⟨_, sm_tup s h1, rfl⟩, by rw [Reps.length r1]; exact k _ F H (Grw.refl s) (.int _)⟩
  · cases e
    obtain ⟨v, rfl, h⟩ := Reps.one r
    cases h with
    | lst h1 r1 => exact ⟨_, _, rfl, .inl ⟨_, SqL.of (s _ _ h1), rfl⟩, by rw [Reps.length r1]; exact k _ F H (Grw.refl s) (.int _)⟩
  · cases e
    obtain ⟨v, rfl, h⟩ := Reps.one r
    cases h with
    | scr h1 => exact ⟨_, _, rfl, .inl ⟨_, Same.seq s h1, rfl⟩, by rw [List.length_map]; exact k _ F H (Grw.refl s) (.int _)⟩
  · cases e
theorem o_len : CallR X (.builtin "len") (rLenA X.K) := call_len
def absC : List D → Option D
  | [.int i] => some (.int (if i < 0 then -i else i))
  | _ => none
theorem q_abs : OpC K absC (fun xs H Q => ∃ i, xs = [V.int i] ∧ Q (.int (if i < 0 then -i else i)) H) := by
  intro F H vs ds d Q s r e k
  unfold absC at e
  split at e
  · cases e
    obtain ⟨v, rfl, h⟩ := Reps.one r
    cases h
    exact ⟨_, rfl, k _ F H (Grw.refl s) (.int _)⟩
  · cases e
def intC : List D → Option D
  | [.int i] => some (.int i)
  | [.bl b] => some (.int (if b then 1 else 0))
  | _ => none
theorem q_int : OpC K intC (fun xs H Q => (∃ i, xs = [V.int i] ∧ Q (.int i) H) ∨ ∃ k, xs = [V.bl k] ∧ Q (.int (if k then 1 else 0)) H) := by
  intro F H vs ds d Q s r e k
  unfold intC at e
  split at e
  · cases e
    obtain ⟨v, rfl, h⟩ := Reps.one r
    cases h
    exact .inl ⟨_, rfl, k _ F H (Grw.refl s) (.int _)⟩
  · cases e
    obtain ⟨v, rfl, h⟩ := Reps.one r
    cases h
    exact .inr ⟨_, rfl, k _ F H (Grw.refl s) (.int _)⟩
  · cases e
def maxC : List D → Option D
  | [.int i, .int j] => some (.int (if j > i then j else i))
  | _ => none
theorem q_max : OpC K maxC (fun xs H Q => ∃ i j, xs = [V.int i, V.int j] ∧ Q (.int (if j > i then j else i)) H) := by
  intro F H vs ds d Q s r e k
  unfold maxC at e
  split at e
  · cases e
    obtain ⟨v, w, rfl, h, h2⟩ := Reps.two r
    cases h
    cases h2
    exact ⟨_, _, rfl, k _ F H (Grw.refl s) (.int _)⟩
  · cases e
def minC : List D → Option D
  | [.int i, .int j] => some (.int (if j < i then j else i))
  | _ => none
theorem q_min : OpC K minC (fun xs H Q => ∃ i j, xs = [V.int i, V.int j] ∧ Q (.int (if j < i then j else i)) H) := by
  intro F H vs ds d Q s r e k
  unfold minC at e
  split at e
  · cases e
    obtain ⟨v, w, rfl, h, h2⟩ := Reps.two r
    cases h
    cases h2
    exact ⟨_, _, rfl, k _ F H (Grw.refl s) (.int _)⟩
  · cases e
/-- tuple(x) -/
def tupC : List D → Option D
  | [.lst xs] => some (.tup xs)
  | [.tup xs] => some (.tup xs)
  | _ => none
def rTupN (K : PySem.W.Frag) : List V → Hp → VK → Prop := fun xs H Q => ∃ (p : Addr) (ys : List V), xs = [V.ref p] ∧ ((SqL K H p ys ∧ NewT H ys Q) ∨ (SqT K H p ys ∧ Q (.ref p) H))
theorem call_tupN {X : Cx} : CallR X (.type "tuple") (rTupN X.K) := by
  rintro pins s σ H xs us Q I r ⟨p, ys, rfl, q⟩
  obtain ⟨_, rfl, rx⟩ := vals1 r
  cases rx
  rcases q with ⟨sq, n⟩ | ⟨sq, q⟩
  · obtain ⟨its, rv, pl, hz⟩ := I.list sq
    have same := rv.length
    exact call_tuple_list pl.isList (fun h' keep => newT_ep (tk := s.toks) I hz rv keep n) (by rw [List.size_toArray]; omega)
  · obtain ⟨its, _, pl, _⟩ := I.tuple sq
    exact call_tuple_same pl ⟨.ref p, H, I, rfl, q⟩
theorem q_tup : OpC K tupC (rTupN K) := by
  intro F H vs ds d Q s r e k
  unfold tupC at e
  split at e
  · cases e
    obtain ⟨v, rfl, h⟩ := Reps.one r
    cases h with
    | lst h1 r1 =>
      refine ⟨_, _, rfl, .inl ⟨SqL.of (s _ _ h1), fun p o hp hd => ?_⟩⟩
      exact k _ _ _ (Grw.newT s hp hd) (.tup (sqT_new upd_same) (Reps.mono (sm_new (Same.free s hp)) r1))
  · cases e
    obtain ⟨v, rfl, h⟩ := Reps.one r
    cases h with
    | tup h1 r1 => exact ⟨_, _, rfl, .inr ⟨sm_tup s h1, k _ F H (Grw.refl s) (.tup h1 r1)⟩⟩
  · cases e
/-- all, any of a list of truths -/
def bools : List D → Option (List Bool)
  | [] => some []
  | .bl b :: r => (bools r).map (b :: ·)
  | _ :: _ => none
theorem bools_rep {F : Hp} : ∀ {vs : List V} {ds : List D} {bs : List Bool}, Reps K F vs ds → bools ds = some bs → vs = bs.map V.bl
  | _, [], _, .nil, e => by cases e; rfl
  | _, .bl b :: ds, bs, .cons h r, e => by
    cases h
    simp only [bools] at e
    cases h : bools ds with
    | none => rw [h] at e; cases e
    | some l =>
      rw [h] at e
      cases e
      rw [bools_rep r h]
      rfl
  | _, .non :: _, _, _, e => by cases e
  | _, .int _ :: _, _, _, e => by cases e
  | _, .str _ :: _, _, _, e => by cases e
  | _, .tup _ :: _, _, _, e => by cases e
  | _, .lst _ :: _, _, _, e => by cases e
  | _, .scr _ :: _, _, _, e => by cases e
  | _, .fn _ :: _, _, _, e => by cases e
  | _, .dct _ :: _, _, _, e => by cases e
  | _, .exc _ _ :: _, _, _, e => by cases e
  | _, .clo _ _ :: _, _, _, e => by cases e
  | _, .dcf _ :: _, _, _, e => by cases e
  | _, .dcu _ :: _, _, _, e => by cases e
  | _, .ins _ _ :: _, _, _, e => by cases e
  | _, .err _ _ _ :: _, _, _, e => by cases e
  | _, .dl1 _ _ _ :: _, _, _, e => by cases e
def allC : List D → Option D
  | [.lst xs] => (bools xs).map fun bs => .bl (bs.all id)
  | _ => none
theorem q_all : OpC K allC (rAll K) := by
  intro F H vs ds d Q s r e k
  unfold allC at e
  split at e
  · rename_i xs
    cases hb : bools xs with
    | none => rw [hb] at e; cases e
    | some bs =>
      rw [hb] at e
      cases e
      obtain ⟨v, rfl, h⟩ := Reps.one r
      cases h with
      | lst h1 r1 =>
        rw [bools_rep r1 hb] at h1
        exact ⟨_, bs, rfl, SqL.of (s _ _ h1), k _ F H (Grw.refl s) (.bl _)⟩
  · cases e
end
end FL
/-! FL5: statements, loops. -/
namespace FL
open PySem PySem.Spec PyProof.Rows L2

inductive Res where
  | v (d : D)
  | m (m : M)
inductive Fl where
  | nx
  | rt (r : Res)
  | bk
  | ct
abbrev SF := Rho → R Fl
section
variable [FE]
variable (K : PySem.W.Frag) (π : Nat → Addr) (W : WX)
def relR (c : Cfg) (F H : Hp) (σ : L2.St) (ρ : Rho) (v : V) : Res → Prop
  | .v d => Rep K F v d
  | .m m => relM K c F H σ ρ v m
def PoS (c : Cfg) (F : Hp) (σ : L2.St) (D : Ends) : R Fl → Prop
  | .ok .nx ρ' => ∀ σ' F' H', Same F F' → Sta K π c F' H' σ' ρ' → D.nx σ' H'
  | .ok (.rt r) ρ' => ∀ v σ' F' H', Same F F' → Sta K π c F' H' σ' ρ' → relR K c F' H' σ' ρ' v r → D.rt v H'
  | .ok .bk ρ' => ∀ σ' F' H', Same F F' → Sta K π c F' H' σ' ρ' → D.bk σ' H'
  | .ok .ct ρ' => ∀ σ' F' H', Same F F' → Sta K π c F' H' σ' ρ' → D.ct σ' H'
  | .exc C fs ρ' => ∀ dd fsV σ' F' H', Same F F' → Sta K π c F' H' σ' ρ' → XD F' dd fsV → fsV.map (·.1) = fs.map (·.1) → Reps K F' (fsV.map (·.2)) (fs.map (·.2)) → W (.ref (FE.cl C)) dd σ' H'
  | .stuck => False
def tS (f : SF) : TS := fun D σ H => ∃ c F ρ, c.ow = [] ∧ Sta K π c F H σ ρ ∧ PoS K π W c F σ D (f ρ)
/-- a target -/
abbrev GF := D → Rho → Option Rho
def Off (ns : List Nat) (σ σ' : L2.St) : Prop := σ'.length = σ.length ∧ ∀ j, j ∉ ns → σ'[j]? = σ[j]?
def PoG (ns : List Nat) (c : Cfg) (F : Hp) (σ : L2.St) (Q : L2.St → Hp → Prop) : Option Rho → Prop
  | some ρ' => ∀ σ' F' H', Same F F' → Off ns σ σ' → Sta K π c F' H' σ' ρ' → Q σ' H'
  | none => False
def tGt (ns : List Nat) (g : GF) : TG := fun v σ H Q => ∃ c F ρ d, Sta K π c F H σ ρ ∧ Rep K F v d ∧ PoG K π ns c F σ Q (g d ρ)
abbrev GFs := List D → Rho → Option Rho
def tGts (ns : List Nat) (g : GFs) : TGs := fun vs σ H Q => ∃ c F ρ ds, Sta K π c F H σ ρ ∧ Reps K F vs ds ∧ PoG K π ns c F σ Q (g ds ρ)
end
section
variable [FE]
variable {K : PySem.W.Frag} {π : Nat → Addr} {W : WX} {c : Cfg} {F F' H H' : Hp} {σ σ' : L2.St} {ρ ρ' : Rho} {D : Ends}
theorem PoS.mono (s : Same F F') : ∀ {r : R Fl}, PoS K π W c F σ D r → PoS K π W c F' σ' D r
  | .ok .nx ρ', h => fun σ2 F2 H2 s2 => h σ2 F2 H2 (s.trans s2)
  | .ok (.rt r) ρ', h => fun v σ2 F2 H2 s2 => h v σ2 F2 H2 (s.trans s2)
  | .ok .bk ρ', h => fun σ2 F2 H2 s2 => h σ2 F2 H2 (s.trans s2)
  | .ok .ct ρ', h => fun σ2 F2 H2 s2 => h σ2 F2 H2 (s.trans s2)
  | .exc C fs ρ', h => fun dd fsV σ2 F2 H2 s2 => h dd fsV σ2 F2 H2 (s.trans s2)
  | .stuck, h => h
/-- an expression, then what follows -/
theorem pos_bind {α β : Type} {rel : Rel β α} {f : Rho → R α} {k : α → Rho → R Fl} {Q1 : β → Hp → Prop} (S : Sta K π c F H σ ρ) (h : PoS K π W c F σ D ((f ρ).bind k))
    (cont : ∀ v F' H' ρ' a, Same F F' → Sta K π c F' H' σ ρ' → rel c F' H' σ ρ' v a → PoS K π W c F' σ D (k a ρ') → Q1 v H') : tG K π W rel f σ H Q1 := by
  refine ⟨c, F, ρ, S, ?_⟩
  cases e : f ρ with
  | ok a ρ' =>
    rw [e] at h
    have h : PoS K π W c F σ D (k a ρ') := h
    exact fun v F2 H2 s2 S2 r => cont v F2 H2 ρ' a s2 S2 r (h.mono s2)
  | exc C fs ρ' =>
    rw [e] at h
    exact fun dd fsV F2 H2 s2 S2 => h dd fsV σ F2 H2 s2 S2
  | stuck =>
    rw [e] at h
    exact h
theorem Off.refl {ns : List Nat} (σ : L2.St) : Off ns σ σ := ⟨rfl, fun _ _ => rfl⟩
theorem Off.trans {ns ms : List Nat} {σ1 σ2 σ3 : L2.St} (a : Off ns σ1 σ2) (b : Off ms σ2 σ3) : Off (ns ++ ms) σ1 σ3 := ⟨b.1.trans a.1, fun j hj => (b.2 j fun z => hj (List.mem_append_right _ z)).trans (a.2 j fun z => hj (List.mem_append_left _ z))⟩
theorem Off.set {i : Nat} {σ : L2.St} {x : Option V} : Off [i] σ (σ.set i x) := ⟨by simp, fun j hj => List.getElem?_set_ne (fun z => hj (by simp [z]))⟩
theorem PoG.mono {ns : List Nat} {Q : L2.St → Hp → Prop} (s : Same F F') : ∀ {r : Option Rho}, PoG K π ns c F σ Q r → PoG K π ns c F' σ Q r
  | some ρ', h => fun σ2 F2 H2 s2 => h σ2 F2 H2 (s.trans s2)
  | none, h => h.elim
end

section
variable [FE]
variable {X : Cx} {π : Nat → Addr} {W : WX} {e a b : Expr} {pos : Pos} {st : Stmt} {rest : List Stmt}
theorem PS.imp {t t' : TS} (h : PS X st t) (k : ∀ D σ H, t' D σ H → t D σ H) : PS X st t' := ⟨fun pins s σ H D I q => h.run pins s σ H D I (k D σ H q)⟩
theorem PSs.imp {t t' : TS} (h : PSs X rest t) (k : ∀ D σ H, t' D σ H → t D σ H) : PSs X rest t' := ⟨fun pins s σ H D I q => h.run pins s σ H D I (k D σ H q)⟩
theorem PG.imp {t t' : TG} (h : PG X e t) (k : ∀ v σ H Q, t' v σ H Q → t v σ H Q) : PG X e t' := ⟨fun pins s σ H v u Q I r q => h.run pins s σ H v u Q I r (k v σ H Q q)⟩
theorem PGs.imp {es : List Expr} {t t' : TGs} (h : PGs X es t) (k : ∀ v σ H Q, t' v σ H Q → t v σ H Q) : PGs X es t' := ⟨fun pins s σ H v u Q I r q => h.run pins s σ H v u Q I r (k v σ H Q q)⟩

/-! ### blocks -/
def nxS : SF := fun ρ => .ok .nx ρ
def seqS (f g : SF) : SF := fun ρ => (f ρ).bind fun fl ρ => match fl with
  | .nx => g ρ
  | o => .ok o ρ
theorem fss_nil : PSs X [] (tS X.K π W nxS) := PSs.imp pss_nil fun D σ H ⟨c, F, ρ, h0, S, P⟩ => P σ F H (Same.refl _) S
theorem fss_cons {f g : SF} (h1 : PS X st (tS X.K π W f)) (h2 : PSs X rest (tS X.K π W g)) : PSs X (st :: rest) (tS X.K π W (seqS f g)) :=
  PSs.imp (pss_cons h1 h2) fun D σ H ⟨c, F, ρ, h0, S, P⟩ => by
    refine ⟨c, F, ρ, h0, S, ?_⟩
    unfold seqS at P
    cases ef : f ρ with
    | stuck => rw [ef] at P; exact P
    | exc C fs ρ' => rw [ef] at P; exact P
    | ok fl ρ' =>
      rw [ef] at P
      cases fl with
      | nx => exact fun σ2 F2 H2 s2 S2 => ⟨c, F2, ρ', h0, S2, PoS.mono s2 P⟩
      | rt r => exact P
      | bk => exact P
      | ct => exact P
theorem fss_one {f : SF} (h1 : PS X st (tS X.K π W f)) : PSs X [st] (tS X.K π W f) := pss_one h1
/-- a slot's own list becomes data -/
def frzAt (i : Nat) (ρ : Rho) : Option Rho := match ρ[i]? with
  | some (.own (.lst ds)) => some (ρ.set i (.val (.lst ds)))
  | some (.own (.dct ds)) => some (ρ.set i (.val (.dct ds)))
  | _ => none
def frzS (i : Nat) (g : SF) : SF := fun ρ => match frzAt i ρ with
  | some ρ' => g ρ'
  | none => .stuck
theorem fss_frz {i : Nat} {g : SF} (h : PSs X rest (tS X.K π W g)) : PSs X rest (tS X.K π W (frzS i g)) :=
  PSs.imp h fun D σ H ⟨c, F, ρ, h0, S, P⟩ => by
    unfold frzS frzAt at P
    cases e : ρ[i]? with
    | none => rw [e] at P; exact P.elim
    | some s =>
      rw [e] at P
      cases s with
      | lk C f jj => exact P.elim
      | ln L => exact P.elim
      | own m =>
        cases m with
        | lst ds =>
          obtain ⟨F', _, sm, S'⟩ := S.freeze e h0
          exact ⟨c, F', _, h0, S', PoS.mono sm P⟩
        | dct ds =>
          obtain ⟨F', _, sm, S'⟩ := S.freezeD e h0
          exact ⟨c, F', _, h0, S', PoS.mono sm P⟩
        | ins _ _ => exact P.elim
        | dtu _ => exact P.elim
      | no => exact P.elim
      | val _ => exact P.elim
      | io _ => exact P.elim
/-- some slots are forgotten -/
def wipeR (ks : List Nat) (ρ : Rho) : Rho := ks.foldl (fun ρ i => ρ.set i .no) ρ
theorem Sta.wipe {K : PySem.W.Frag} {c : Cfg} {F H : Hp} {σ : L2.St} : ∀ {ks : List Nat} {ρ : Rho}, Sta K π c F H σ ρ → Sta K π c F H σ (wipeR ks ρ)
  | [], _, S => S
  | k :: ks, _, S => Sta.wipe (ks := ks) (S.forget k)

/-! ### small statements -/
def exS (f : EF) : SF := fun ρ => (f ρ).bind fun _ ρ => .ok .nx ρ
theorem fs_expr {f : EF} (he : PE X e (tE X.K π W f)) (hs : swapsWith e none pos.line X.env = pure false := by rfl) : PS X (.Expr e pos) (tS X.K π W (exS f)) :=
  PS.imp (ps_expr he hs) fun D σ H ⟨c, F, ρ, h0, S, P⟩ => by
    refine pos_bind S P fun v F1 H1 ρ1 d s1 S1 r1 P1 => ?_
    exact P1 σ F1 H1 (Same.refl _) S1
def retS (f : EF) : SF := fun ρ => (f ρ).bind fun d ρ => .ok (.rt (.v d)) ρ
theorem fs_ret {f : EF} (he : PE X e (tE X.K π W f)) : PS X (.Return (some e) pos) (tS X.K π W (retS f)) :=
  PS.imp (ps_ret he) fun D σ H ⟨c, F, ρ, h0, S, P⟩ => by
    refine pos_bind S P fun v F1 H1 ρ1 d s1 S1 r1 P1 => ?_
    exact P1 v σ F1 H1 (Same.refl _) S1 r1
def retM (f : Rho → R M) : SF := fun ρ => (f ρ).bind fun d ρ => .ok (.rt (.m d)) ρ
theorem fs_retM {f : Rho → R M} (he : PE X e (tM X.K π W f)) : PS X (.Return (some e) pos) (tS X.K π W (retM f)) :=
  PS.imp (ps_ret he) fun D σ H ⟨c, F, ρ, h0, S, P⟩ => by
    refine pos_bind S P fun v F1 H1 ρ1 d s1 S1 r1 P1 => ?_
    exact P1 v σ F1 H1 (Same.refl _) S1 r1
def ifS (t : TF) (f g : SF) : SF := fun ρ => (t ρ).bind fun b ρ => if b = true then f ρ else g ρ
theorem fs_if {c : Expr} {xs ys : List Stmt} {t : TF} {f g : SF} (hc : PT X c (tT X.K π W t)) (ha : PSs X xs (tS X.K π W f)) (hb : PSs X ys (tS X.K π W g)) : PS X (.If c xs ys pos) (tS X.K π W (ifS t f g)) :=
  PS.imp (ps_if hc ha hb) fun D σ H ⟨c, F, ρ, h0, S, P⟩ => by
    refine pos_bind S P fun b F1 H1 ρ1 d s1 S1 r1 P1 => ?_
    cases r1
    cases b with
    | true =>
      rw [if_pos rfl] at P1 ⊢
      exact ⟨c, F1, ρ1, h0, S1, P1⟩
    | false =>
      rw [if_neg Bool.false_ne_true] at P1 ⊢
      exact ⟨c, F1, ρ1, h0, S1, P1⟩
def bkS : SF := fun ρ => .ok .bk ρ
def ctS : SF := fun ρ => .ok .ct ρ
/-! ### names stored -/
def setR (i : Nat) (s : Slot) (ρ : Rho) : Option Rho := if i < ρ.length then some (ρ.set i s) else none
def nxO : Option Rho → R Fl
  | some ρ => .ok .nx ρ
  | none => .stuck
def setS (i : Nat) (f : EF) : SF := fun ρ => (f ρ).bind fun d ρ => nxO (setR i (.val d) ρ)
theorem fs_set {i : Nat} {x : Str} {f : EF} {pos' : Pos} (hN : X.N.Nodup) (hi : X.N[i]? = some x) (hx : Loc X.env.scope x) (he : PE X e (tE X.K π W f)) (hs : swapsWith e (some (.Name x pos')) pos.line X.env = pure false := by rfl)
    (hf : X.fn x = true ∨ X.env.scope.names.lookup x = some .local := by first | exact .inl rfl | exact .inr rfl | assumption) : PS X (.Assign [.Name x pos'] e pos) (tS X.K π W (setS i f)) :=
  PS.imp (ps_set hN hi hx he hs hf) fun D σ H ⟨c, F, ρ, h0, S, P⟩ => by
    refine pos_bind S P fun v F1 H1 ρ1 d s1 S1 r1 P1 => ?_
    unfold setR at P1
    split at P1
    · rename_i hl
      exact P1 _ F1 H1 (Same.refl _) (S1.set hl r1)
    · exact P1.elim
def setM (i : Nat) (f : Rho → R M) : SF := fun ρ => (f ρ).bind fun m ρ => nxO (setR i (.own m) ρ)
/-- targets -/
def nmG (i : Nat) : GF := fun d ρ => setR i (.val d) ρ
theorem fg_name {i : Nat} {x : Str} (hN : X.N.Nodup) (hi : X.N[i]? = some x) (hx : Loc X.env.scope x) (hf : X.fn x = true ∨ X.env.scope.names.lookup x = some .local := by first | exact .inl rfl | exact .inr rfl | assumption) : PG X (.Name x pos) (tGt X.K π [i] (nmG i)) :=
  PG.imp (pg_name hN hi hx hf) fun v σ H Q ⟨c, F, ρ, d, S, r, P⟩ => by
    unfold nmG setR at P
    split at P
    · rename_i hl
      exact P _ F H (Same.refl _) Off.set (S.set hl r)
    · exact P.elim
def nilG : GFs := fun ds ρ => match ds with
  | [] => some ρ
  | _ => none
def cnsG (g : GF) (h : GFs) : GFs := fun ds ρ => match ds with
  | d :: ds => (g d ρ).bind fun ρ => h ds ρ
  | [] => none
theorem fgs_nil : PGs X [] (tGts X.K π [] nilG) := PGs.imp pgs_nil fun vs σ H Q ⟨c, F, ρ, ds, S, r, P⟩ => by
  cases r with
  | nil => exact ⟨rfl, P σ F H (Same.refl _) (Off.refl _) S⟩
  | cons _ _ => exact P.elim
theorem fgs_cons {es : List Expr} {g : GF} {h : GFs} {ns ms : List Nat} (h1 : PG X e (tGt X.K π ns g)) (h2 : PGs X es (tGts X.K π ms h)) (hs : (assignEach (e :: es) X.env).map (·.2) = assign e X.env :: (assignEach es X.env).map (·.2) := by rfl) : PGs X (e :: es) (tGts X.K π (ns ++ ms) (cnsG g h)) :=
  PGs.imp (pgs_cons h1 h2 hs) fun vs σ H Q ⟨c, F, ρ, ds, S, r, P⟩ => by
    cases r with
    | nil => exact P.elim
    | @cons v vs d ds rv rs =>
      refine ⟨v, vs, rfl, c, F, ρ, d, S, rv, ?_⟩
      have P : PoG X.K π (ns ++ ms) c F σ Q ((g d ρ).bind fun ρ => h ds ρ) := P
      cases eg : g d ρ with
      | some ρ' =>
        rw [eg] at P
        have P : PoG X.K π (ns ++ ms) c F σ Q (h ds ρ') := P
        refine fun σ2 F2 H2 s2 of2 S2 => ⟨c, F2, ρ', ds, S2, rs.mono s2, ?_⟩
        cases eh : h ds ρ' with
        | none => rw [eh] at P; exact P
        | some ρ2 =>
          rw [eh] at P
          exact fun σ3 F3 H3 s3 of3 S3 => P σ3 F3 H3 (s2.trans s3) (of2.trans of3) S3
      | none => rw [eg] at P; exact P
def tupG (n : Nat) (h : GFs) : GF := fun d ρ => match d with
  | .tup ds => if ds.length = n then h ds ρ else none
  | _ => none
theorem fg_tup {es : List Expr} {k : Nat} {h : GFs} {n : Nat} (hc : X.calm = true) {ns : List Nat} (hh : PGs X es (tGts X.K π ns h)) (hn : (assignEach es X.env).length = n := by rfl) (hst : (assignEach es X.env).findIdx? (·.1) = none := by rfl) : PG X (.Tuple es k pos) (tGt X.K π ns (tupG n h)) :=
  PG.imp (pg_tup hc hh hn hst) fun v σ H Q ⟨c, F, ρ, d, S, r, P⟩ => by
    cases r with
    | @tup a xs ds h1 r1 =>
      have P : PoG X.K π ns c F σ Q (if ds.length = n then h ds ρ else none) := P
      split at P
      · rename_i hl
        exact ⟨a, xs, rfl, sm_tup S.f h1, by rw [Reps.length r1]; exact hl, c, F, ρ, ds, S, r1, P⟩
      · exact P.elim
    | _ => exact P.elim
def asgS (f : EF) (g : GF) : SF := fun ρ => (f ρ).bind fun d ρ => nxO (g d ρ)
theorem fs_asg {tg : Expr} {f : EF} {g : GF} {ns : List Nat} (he : PE X e (tE X.K π W f)) (hg : PG X tg (tGt X.K π ns g)) (hs : swapsWithSole [tg] e pos.line X.env = pure false := by rfl) (hw : swappedStores [tg] e X.env = pure none := by rfl)
    (h1 : (assignEach [tg] X.env).map (·.2) = [assign tg X.env] := by rfl) : PS X (.Assign [tg] e pos) (tS X.K π W (asgS f g)) :=
  PS.imp (ps_asg he hg hs hw h1) fun D σ H ⟨c, F, ρ, h0, S, P⟩ => by
    refine pos_bind S P fun v F1 H1 ρ1 d s1 S1 r1 P1 => ?_
    refine ⟨c, F1, ρ1, d, S1, r1, ?_⟩
    cases eg : g d ρ1 with
    | some ρ' =>
      rw [eg] at P1
      exact fun σ2 F2 H2 s2 _ S2 => P1 σ2 F2 H2 s2 S2
    | none => rw [eg] at P1; exact P1
/-- a, b = x, y -/
def parS (i j : Nat) (g : Rho → R (List D)) : SF := fun ρ => (g ρ).bind fun ds ρ => nxO (match ds with
  | [x, y] => (setR i (.val x) ρ).bind fun ρ => setR j (.val y) ρ
  | _ => none)
theorem fs_par {i j : Nat} {x y : Str} {px py pt : Pos} {kt k2 pt2} {g : Rho → R (List D)} (hc : X.calm = true) (hN : X.N.Nodup) (hi : X.N[i]? = some x) (hj : X.N[j]? = some y) (hij : i ≠ j)
    (hx : X.env.scope.names.lookup x = some .local) (hy : X.env.scope.names.lookup y = some .local) (ha : PA X [a, b] (tA X.K π W g))
    (hw : swappedStores [.Tuple [.Name x px, .Name y py] kt pt] (.Tuple [a, b] k2 pt2) X.env = pure (some [x, y]))
    (hs : swapsWithSole [.Tuple [.Name x px, .Name y py] kt pt] (.Tuple [a, b] k2 pt2) pos.line X.env = pure false := by rfl) :
    PS X (.Assign [.Tuple [.Name x px, .Name y py] kt pt] (.Tuple [a, b] k2 pt2) pos) (tS X.K π W (parS i j g)) :=
  PS.imp (ps_par hc hN hi hj hij hx hy ha hw hs) fun D σ H ⟨c, F, ρ, h0, S, P⟩ => by
    refine pos_bind S P fun vs F1 H1 ρ1 ds s1 S1 r1 P1 => ?_
    split at P1
    · obtain ⟨v, w, rfl, r2, r3⟩ := Reps.two r1
      unfold setR at P1
      split at P1
      · rename_i hl
        have P1 : PoS X.K π W c F1 σ D (nxO (if j < (ρ1.set i (.val _)).length then some _ else none)) := P1
        split at P1
        · rename_i hl2
          exact ⟨v, w, rfl, P1 _ F1 H1 (Same.refl _) ((S1.set hl r2).set hl2 r3)⟩
        · exact P1.elim
      · exact P1.elim
    · exact P1.elim
def par3S (i j l : Nat) (g : Rho → R (List D)) : SF := fun ρ => (g ρ).bind fun ds ρ => nxO (match ds with
  | [x, y, z] => (setR i (.val x) ρ).bind fun ρ => (setR j (.val y) ρ).bind fun ρ => setR l (.val z) ρ
  | _ => none)
theorem Reps.three {K : PySem.W.Frag} {F : Hp} {vs : List V} {d e f : D} (r : Reps K F vs [d, e, f]) : ∃ v w u, vs = [v, w, u] ∧ Rep K F v d ∧ Rep K F w e ∧ Rep K F u f := by
  cases r with
  | cons h t =>
    obtain ⟨w, u, rfl, h2, h3⟩ := Reps.two t
    exact ⟨_, _, _, rfl, h, h2, h3⟩
theorem setR_some {i : Nat} {s : Slot} {ρ ρ' : Rho} (h : setR i s ρ = some ρ') : i < ρ.length ∧ ρ' = ρ.set i s := by
  unfold setR at h
  split at h
  · cases h
    exact ⟨‹_›, rfl⟩
  · cases h
theorem fs_par3 {i j l : Nat} {x y z : Str} {d : Expr} {px py pz pt : Pos} {kt k2 pt2} {g : Rho → R (List D)} (hc : X.calm = true) (hN : X.N.Nodup) (hi : X.N[i]? = some x) (hj : X.N[j]? = some y) (hl : X.N[l]? = some z) (hij : i ≠ j) (hil : i ≠ l) (hjl : j ≠ l)
    (hx : X.env.scope.names.lookup x = some .local) (hy : X.env.scope.names.lookup y = some .local) (hz : X.env.scope.names.lookup z = some .local) (ha : PA X [a, b, d] (tA X.K π W g))
    (hw : swappedStores [.Tuple [.Name x px, .Name y py, .Name z pz] kt pt] (.Tuple [a, b, d] k2 pt2) X.env = pure (some [x, y, z]))
    (hs : swapsWithSole [.Tuple [.Name x px, .Name y py, .Name z pz] kt pt] (.Tuple [a, b, d] k2 pt2) pos.line X.env = pure false := by rfl) :
    PS X (.Assign [.Tuple [.Name x px, .Name y py, .Name z pz] kt pt] (.Tuple [a, b, d] k2 pt2) pos) (tS X.K π W (par3S i j l g)) :=
  PS.imp (ps_par3 hc hN hi hj hl hij hil hjl hx hy hz ha hw hs) fun D σ H ⟨c, F, ρ, h0, S, P⟩ => by
    refine pos_bind S P fun vs F1 H1 ρ1 ds s1 S1 r1 P1 => ?_
    split at P1
    · rename_i d1 d2 d3
      obtain ⟨v, w, u, rfl, r2, r3, r4⟩ := Reps.three r1
      cases e1 : setR i (.val d1) ρ1 with
      | none => rw [e1] at P1; exact P1.elim
      | some ρ2 =>
        rw [e1] at P1
        obtain ⟨hl1, rfl⟩ := setR_some e1
        cases e2 : setR j (.val d2) (ρ1.set i (.val d1)) with
        | none =>
          have P1 : PoS X.K π W c F1 σ D (nxO ((setR j (.val d2) (ρ1.set i (.val d1))).bind fun ρ => setR l (.val d3) ρ)) := P1
          rw [e2] at P1
          exact P1.elim
        | some ρ3 =>
          have P1 : PoS X.K π W c F1 σ D (nxO ((setR j (.val d2) (ρ1.set i (.val d1))).bind fun ρ => setR l (.val d3) ρ)) := P1
          rw [e2] at P1
          obtain ⟨hl2, rfl⟩ := setR_some e2
          have P1 : PoS X.K π W c F1 σ D (nxO (setR l (.val d3) ((ρ1.set i (.val d1)).set j (.val d2)))) := P1
          cases e3 : setR l (.val d3) ((ρ1.set i (.val d1)).set j (.val d2)) with
          | none => rw [e3] at P1; exact P1.elim
          | some ρ4 =>
            rw [e3] at P1
            obtain ⟨hl3, rfl⟩ := setR_some e3
            exact ⟨v, w, u, rfl, P1 _ F1 H1 (Same.refl _) (((S1.set hl1 r2).set hl2 r3).set hl3 r4)⟩
    · exact P1.elim

/-! ### our own lists -/
/-- the list of slot i, put back by the way it stands -/
def getM (i : Nat) (ρ : Rho) : Option (List D × (List D → Slot)) := match ρ[i]? with
  | some (.own (.lst ds)) => some (ds, fun es => .own (.lst es))
  | some (.io (.lst ds)) => some (ds, fun es => .io (.lst es))
  | _ => none
theorem Sta.getM {K : PySem.W.Frag} {c : Cfg} {F H : Hp} {σ : L2.St} {ρ : Rho} (S : Sta K π c F H σ ρ) {i : Nat} {ds : List D} {k : List D → Slot} (h : FL.getM i ρ = some (ds, k)) :
    ∃ p vs, σ[i]? = some (some (.ref p)) ∧ H p = some (.lst vs) ∧ Reps K F vs ds ∧ ∀ es ws, Reps K F ws es → Sta K π c F (upd H p (.lst ws)) σ (ρ.set i (k es)) := by
  unfold FL.getM at h
  split at h
  · rename_i ds' e
    cases h
    obtain ⟨p, e1, n, fr, vs, ho, r⟩ := S.rep i _ e
    exact ⟨p, vs, e1, ho, r, fun es ws q => S.change (o := .lst ws) ⟨e1, _, .inl e⟩ (m := .lst es) ⟨ws, upd_same, q⟩ _ (.inl ⟨rfl, _, e⟩)⟩
  · rename_i ds' e
    cases h
    obtain ⟨e1, n, fr, vs, ho, r⟩ := S.rep i _ e
    exact ⟨_, vs, e1, ho, r, fun es ws q => S.change (o := .lst ws) ⟨e1, _, .inr e⟩ (m := .lst es) ⟨ws, upd_same, q⟩ _ (.inr ⟨rfl, _, e⟩)⟩
  · cases h
/-- x.append(e) -/
def mutS (i : Nat) (f : EF) (o : List D → D → Option (List D)) : SF := fun ρ => match getM i ρ with
  | none => .stuck
  | some _ => (f ρ).bind fun d ρ => match getM i ρ with
    | some (ds, k) => match o ds d with
      | some es => .ok .nx (ρ.set i (k es))
      | none => .stuck
    | none => .stuck
def appO (ds : List D) (d : D) : Option (List D) := if small (ds.length + 1) = true then some (ds ++ [d]) else none
/-- what a method of our own list asks -/
theorem rd_mut {K : PySem.W.Frag} {i : Nat} {f : EF} {o : List D → D → Option (List D)} {r : V → List V → Hp → VK → Prop} {σ : L2.St} {H : Hp} {D : Ends}
    (q : ∀ {F H : Hp} {p : Addr} {vs : List V} {ds es : List FL.D} {v : V} {d : FL.D} {Q : VK}, Same F H → H p = some (.lst vs) → Reps K F vs ds → Rep K F v d → o ds d = some es → (∀ ws, Reps K F ws es → Q .non (upd H p (.lst ws))) → r (.ref p) [v] H Q)
    (h : tS K π W (mutS i f o) D σ H) : tDrop (tBM K "list" r (tVar i) (tCons (tE K π W f) tNil)) D σ H := by
  obtain ⟨c, F, ρ, h0, S, P⟩ := h
  unfold mutS at P
  split at P
  · exact P.elim
  · rename_i z eg
    obtain ⟨ds0, k0⟩ := z
    obtain ⟨p, vs0, e0, ho0, _⟩ := S.getM eg
    refine ⟨.ref p, e0, .inl ⟨rfl, vs0, SqL.of ho0⟩, ?_⟩
    have key : tE K π W f σ H fun v H1 => r (.ref p) [v] H1 fun _ H2 => D.nx σ H2 := by
      refine pos_bind S P fun v F1 H1 ρ1 d s1 S1 r1 P1 => ?_
      split at P1
      · rename_i ds k eg2
        split at P1
        · rename_i es eo
          obtain ⟨p', vs, e1, ho, rr, fin⟩ := S1.getM eg2
          rw [e0] at e1
          cases e1
          exact q S1.f ho rr r1 eo fun ws hw => P1 _ F1 _ (Same.refl _) (fin _ _ hw)
        · exact P1.elim
      · exact P1.elim
    exact key
theorem fs_append {i : Nat} {x : Str} {f : EF} {p apos cpos : Pos} (hx : PE X (.Name x p) (tVar i)) (he : PE X e (tE X.K π W f)) (hs : swapsWith (.Call (.Attribute (.Name x p) "append" apos) [e] [] cpos) none pos.line X.env = pure false := by rfl)
    (hbase : attributeBase (.Name x p) "append" X.env (eval (.Name x p) X.env) = eval (.Name x p) X.env := by rfl)
    (hfew : ((backTo cpos (starEach [e] X.env)).all (fun x => !x.1) && (backToKw cpos (keywordEach [] X.env)).all (fun x => x.1.isSome) && decide ([e].length + ([] : List Keyword).length + (if ([] : List Keyword).isEmpty then 0 else 1) < 30)) = true := by rfl)
    (hline : (apos.endLine == cpos.line) = true := by rfl) (hst : starEach [e] X.env = (false, eval e X.env) :: starEach [] X.env := by rfl) :
    PS X (.Expr (.Call (.Attribute (.Name x p) "append" apos) [e] [] cpos) pos) (tS X.K π W (mutS i f appO)) :=
  PS.imp (ps_expr (pe_bm PySem.F.plainAttrs_list PySem.F.slot_list_append PySem.F.type_list_append mt_append hx (pa_cons he pa_nil hst) hbase hfew hline hst (by rfl)) hs) fun D σ H h =>
    rd_mut (r := rAppend) (fun {F H p vs ds es v d Q} s ho rr rv eo k => by
      unfold appO at eo
      split at eo
      · rename_i hz
        cases eo
        have hl := small_le hz
        exact ⟨p, vs, v, rfl, rfl, ho, lt_line (by rw [Reps.length rr]; omega), k _ (rr.snoc rv)⟩
      · cases eo) h
/-- x[j] = e, of our own list -/
def putO (ds : List D) (j : D) (d : D) : Option (List D) := match j with
  | .int z => match ixN ds.length z with
    | some n => some (ds.set n d)
    | none => none
  | _ => none
def subG (i : Nat) (g : EF) : D → Rho → R Unit := fun d ρ => match getM i ρ with
  | none => .stuck
  | some _ => (g ρ).bind fun j ρ => match getM i ρ with
    | some (ds, k) => match putO ds j d with
      | some es => .ok () (ρ.set i (k es))
      | none => .stuck
    | none => .stuck
def subS (i : Nat) (f g : EF) : SF := fun ρ => (f ρ).bind fun d ρ => (subG i g d ρ).bind fun _ ρ => .ok .nx ρ
theorem fs_sub {i : Nat} {x : Str} {j : Expr} {f g : EF} {p tpos : Pos} (hx : PE X (.Name x p) (tVar i)) (he : PE X e (tE X.K π W f)) (hj : PE X j (tE X.K π W g))
    (ha : ∀ v, assign (.Subscript (.Name x p) j tpos) X.env v = (do
      let ov ← holding [v] (eval (.Name x p) X.env)
      let iv ← holding [v, ov] (eval j X.env)
      standAt tpos
      holding [v, ov, iv] (setItem ov iv v)
      release [v, ov, iv] []) := by intro _; rfl)
    (hs : swapsWithSole [(.Subscript (.Name x p) j tpos)] e pos.line X.env = pure false := by rfl) (hw : swappedStores [(.Subscript (.Name x p) j tpos)] e X.env = pure none := by rfl)
    (h1 : (assignEach [(.Subscript (.Name x p) j tpos)] X.env).map (·.2) = [assign (.Subscript (.Name x p) j tpos) X.env] := by rfl) :
    PS X (.Assign [.Subscript (.Name x p) j tpos] e pos) (tS X.K π W (subS i f g)) :=
  PS.imp (ps_asg he (pg_sub hx hj set_list ha) hs hw h1) fun D σ H ⟨c, F, ρ, h0, S, P⟩ => by
    refine pos_bind S P fun v F1 H1 ρ1 d s1 S1 r1 P1 => ?_
    unfold subG at P1
    split at P1
    · exact P1.elim
    · rename_i z eg
      obtain ⟨ds0, k0⟩ := z
      obtain ⟨q, vs0, e0, ho0, _⟩ := S1.getM eg
      refine ⟨.ref q, e0, ?_⟩
      have P2 : PoS X.K π W c F1 σ D ((g ρ1).bind fun j ρ => (match getM i ρ with
        | some (ds, k) => match putO ds j d with
          | some es => (R.ok () (ρ.set i (k es)) : R Unit)
          | none => .stuck
        | none => .stuck).bind fun _ ρ => .ok .nx ρ) := by
        cases hg : g ρ1 with
        | ok a b => rw [hg] at P1; exact P1
        | exc C fs b => rw [hg] at P1; exact P1
        | stuck => rw [hg] at P1; exact P1
      refine pos_bind S1 P2 fun w F2 H2 ρ2 dj s2 S2 r2 P3 => ?_
      cases eg2 : getM i ρ2 with
      | none => rw [eg2] at P3; exact P3.elim
      | some z =>
        obtain ⟨ds, k⟩ := z
        rw [eg2] at P3
        obtain ⟨q', vs, e1, ho, rr, fin⟩ := S2.getM eg2
        rw [e0] at e1
        cases e1
        cases ep : putO ds dj d with
        | none =>
          have P3 : PoS X.K π W c F2 σ D ((match putO ds dj d with
            | some es => (R.ok () (ρ2.set i (k es)) : R Unit)
            | none => .stuck).bind fun _ ρ => .ok .nx ρ) := P3
          rw [ep] at P3
          exact P3.elim
        | some es =>
          have P3 : PoS X.K π W c F2 σ D ((match putO ds dj d with
            | some es => (R.ok () (ρ2.set i (k es)) : R Unit)
            | none => .stuck).bind fun _ ρ => .ok .nx ρ) := P3
          rw [ep] at P3
          have P3 : PoS X.K π W c F2 σ D (.ok .nx (ρ2.set i (k es))) := P3
          unfold putO at ep
          split at ep
          · rename_i zz
            split at ep
            · rename_i n en
              cases ep
              cases r2
              refine ⟨q, vs, zz, n, rfl, rfl, ho, by rw [Reps.length rr]; exact en, P3 _ F2 _ (Same.refl _) (fin _ _ (Reps.set (Rep.mono s2 r1) n rr))⟩
            · cases ep
          · cases ep
/-- x[j], of our own list -/
def ixM (i : Nat) (g : EF) : EF := fun ρ => match getM i ρ with
  | none => .stuck
  | some _ => (g ρ).bind fun j ρ => match getM i ρ, j with
    | some (ds, _), .int z => R.of (atI ds z) ρ
    | _, _ => .stuck
theorem fe_ixM {i : Nat} {x : Str} {g : EF} {p : Pos} (hx : PE X (.Name x p) (tVar i)) (hb : PE X b (tE X.K π W g)) (hs : PlainIx b) : PE X (.Subscript (.Name x p) b pos) (tE X.K π W (ixM i g)) :=
  PE.imp (pe_ix ix_list hx hb hs) fun σ H Q ⟨c, F, ρ, S, P⟩ => by
    unfold ixM at P
    split at P
    · exact P.elim
    · rename_i z eg
      obtain ⟨ds0, k0⟩ := z
      obtain ⟨q, vs0, e0, ho0, _⟩ := S.getM eg
      refine ⟨.ref q, e0, ?_⟩
      refine po_bind S P fun w F2 H2 ρ2 dj s2 S2 r2 P3 => ?_
      cases eg2 : getM i ρ2 with
      | none =>
        rw [eg2] at P3
        exact P3.elim
      | some z =>
        obtain ⟨ds, k⟩ := z
        rw [eg2] at P3
        obtain ⟨q', vs, e1, ho, rr, fin⟩ := S2.getM eg2
        rw [e0] at e1
        cases e1
        cases r2 <;> first | (exact P3.elim) | skip
        rename_i zz
        obtain ⟨d, ed, P4⟩ := po_of P3
        obtain ⟨v, h2, r3⟩ := rr.atI ed
        exact ⟨q, vs, zz, v, rfl, rfl, SqL.of ho, h2, P4 v F2 H2 (Same.refl _) S2 r3⟩
/-- len of our own list -/
def lenM (i : Nat) : EF := fun ρ => match getM i ρ with
  | some (ds, _) => .ok (.int ds.length) ρ
  | none => .stuck
end
end FL
/-! FL6: loops, comprehensions. -/
namespace FL
open PySem PySem.Spec PyProof.Rows L2

/-! ### while -/
def whN (ks : List Nat) (t : TF) (b : SF) : Nat → Rho → R Fl
  | 0, _ => .stuck
  | n + 1, ρ => (t ρ).bind fun c ρ => if c = true then (b ρ).bind fun fl ρ => match fl with
      | .nx => whN ks t b n (wipeR ks ρ)
      | .ct => whN ks t b n (wipeR ks ρ)
      | .bk => .ok .nx (wipeR ks ρ)
      | .rt r => .ok (.rt r) ρ
    else .ok .nx ρ
def isStuck : R Fl → Bool
  | .stuck => true
  | _ => false
open Classical in
noncomputable def whS (ks : List Nat) (t : TF) (b : SF) : SF := fun ρ => if h : ∃ n, isStuck (whN ks t b n ρ) = false then whN ks t b (Classical.choose h) ρ else .stuck
theorem whN_mono {ks : List Nat} {t : TF} {b : SF} : ∀ {n m : Nat} {ρ : Rho}, n ≤ m → isStuck (whN ks t b n ρ) = false → whN ks t b m ρ = whN ks t b n ρ
  | 0, _, _, _, h => by cases h
  | n + 1, 0, _, hl, _ => by omega
  | n + 1, m + 1, ρ, hl, h => by
    unfold whN at h ⊢
    cases et : t ρ with
    | stuck => rfl
    | exc C fs ρ' => rfl
    | ok c ρ' =>
      rw [et] at h
      simp only [R.ok_bind] at h ⊢
      cases c with
      | false => rfl
      | true =>
        rw [if_pos rfl] at h ⊢
        cases eb : b ρ' with
        | stuck => rfl
        | exc C fs ρ2 => simp only [eb, R.exc_bind]; rfl
        | ok fl ρ2 =>
          rw [eb] at h
          simp only [R.ok_bind, if_true] at h ⊢
          cases fl with
          | nx => exact whN_mono (by omega) h
          | ct => exact whN_mono (by omega) h
          | bk => rfl
          | rt r => rfl
theorem whS_eq {ks : List Nat} {t : TF} {b : SF} {n : Nat} {ρ : Rho} (h : isStuck (whN ks t b n ρ) = false) : whS ks t b ρ = whN ks t b n ρ := by
  have hx : ∃ n, isStuck (whN ks t b n ρ) = false := ⟨n, h⟩
  unfold whS
  rw [dif_pos hx]
  have h2 := Classical.choose_spec hx
  rcases Nat.le_total n (Classical.choose hx) with z | z
  · exact whN_mono z h
  · exact (whN_mono z h2).symm
section
variable [FE]
variable {X : Cx} {π : Nat → Addr} {W : WX} {pos : Pos}
theorem fs_while {cx : Expr} {body : List Stmt} {t : TF} {b : SF} {ks : List Nat} (hp : PassesOwn (model X.prog X.w) X.A X.env X.xe) (hc : PT X cx (tT X.K π W t)) (hb : PSs X body (tS X.K π W b)) : PS X (.While cx body [] pos) (tS X.K π W (whS ks t b)) :=
  PS.imp (ps_while hp hc hb) fun D σ H ⟨c, F, ρ, h0, S, P⟩ => by
    unfold whS at P
    split at P
    · rename_i hx
      generalize Classical.choose hx = n at P
      refine ⟨fun m σ H => ∃ F ρ, Sta X.K π c F H σ ρ ∧ PoS X.K π W c F σ D (whN ks t b m ρ), ⟨n, F, ρ, S, P⟩, ?_⟩
      rintro m σ1 H1 ⟨F1, ρ1, S1, P1⟩
      cases m with
      | zero => exact P1.elim
      | succ m =>
        unfold whN at P1
        refine pos_bind S1 P1 fun b' F2 H2 ρ2 d s2 S2 r2 P2 => ?_
        cases r2
        cases b' with
        | false =>
          rw [if_neg Bool.false_ne_true] at P2 ⊢
          exact P2 σ1 F2 H2 (Same.refl _) S2
        | true =>
          rw [if_pos rfl] at P2 ⊢
          refine ⟨fun σ3 H3 => ∃ F3 ρ3, Sta X.K π c F3 H3 σ3 ρ3 ∧ PoS X.K π W c F3 σ3 D (whN ks t b m ρ3), fun σ3 H3 w => ⟨m, Nat.lt_succ_self m, w⟩, c, F2, ρ2, h0, S2, ?_⟩
          cases eb : b ρ2 with
          | stuck => rw [eb] at P2; exact P2
          | exc C fs ρ3 => rw [eb] at P2; exact P2
          | ok fl ρ3 =>
            rw [eb] at P2
            cases fl with
            | nx => exact fun σ3 F3 H3 s3 S3 => ⟨F3, _, S3.wipe, PoS.mono s3 P2⟩
            | ct => exact fun σ3 F3 H3 s3 S3 => ⟨F3, _, S3.wipe, PoS.mono s3 P2⟩
            | bk => exact fun σ3 F3 H3 s3 S3 => P2 σ3 F3 H3 s3 S3.wipe
            | rt r => exact P2
    · exact P.elim
end

/-! ### what is walked -/
variable [FE] in
structure Wk (K : PySem.W.Frag) (F : Hp) (J : It) (ds : List D) : Prop where
  go : ∀ F' H', Same F F' → Same F' H' → ∀ i d, ds[i]? = some d → J.go i H' ∧ ∀ x H2, J.yld i H' x H2 → ∃ F2, Grw F' H' F2 H2 ∧ Rep K F2 x d
  stop : ∀ H', Same F H' → J.stop ds.length H'
variable [FE] in
theorem Wk.mono {K : PySem.W.Frag} {F F' : Hp} {J : It} {ds : List D} (w : Wk K F J ds) (s : Same F F') : Wk K F' J ds := ⟨fun F2 H2 s1 s2 => w.go F2 H2 (s.trans s1) s2, fun H2 s1 => w.stop H2 (s.trans s1)⟩
variable [FE] in
def relI (K : PySem.W.Frag) : Rel It (List D) := fun _ F _ _ _ J ds => Wk K F J ds
abbrev IF := Rho → R (List D)
variable [FE] in
abbrev tI (K : PySem.W.Frag) (π : Nat → Addr) (W : WX) (it : IF) : TI := tG K π W (relI K) it
section
variable [FE]
variable {X : Cx} {π : Nat → Addr} {W : WX} {tg e a b : Expr} {pos p : Pos}
theorem PI.imp {w w' : TI} (h : PI X tg e w) (k : ∀ σ H R, w' σ H R → w σ H R) : PI X tg e w' := ⟨fun pins s σ H R I q => h.run pins s σ H R I (k σ H R q)⟩
def seqD : D → Option (List D)
  | .tup xs => some xs
  | .lst xs => some xs
  | .scr ns => some (ns.map D.int)
  | _ => none
def seqI (f : EF) : IF := fun ρ => (f ρ).bind fun d ρ => R.of (seqD d) ρ
theorem wk_listL {K : PySem.W.Frag} {F : Hp} {q : Addr} {xs : List V} {ds : List D} (h : SqL K F q xs) (r : Reps K F xs ds) : Wk K F (Itl K q) ds := by
  refine ⟨fun F' H' s1 s2 i d hd => ?_, fun H' s => ⟨xs, Same.seq s h, by rw [Reps.length r]; exact Nat.le_refl _⟩⟩
  obtain ⟨v, hv, rv⟩ := r.get hd
  refine ⟨⟨xs, v, Same.seq (s1.trans s2) h, hv⟩, fun x H2 ⟨e1, e2⟩ => ?_⟩
  subst e1
  have := e2 xs (Same.seq (s1.trans s2) h)
  rw [hv] at this
  cases this
  exact ⟨F', Grw.refl s2, rv.mono s1⟩
theorem wk_tup {K : PySem.W.Frag} {F : Hp} {q : Addr} {xs : List V} {ds : List D} (h : SqT K F q xs) (r : Reps K F xs ds) : Wk K F (Itt K q) ds := by
  refine ⟨fun F' H' s1 s2 i d hd => ?_, fun H' s => ⟨xs, sm_tup s h, by rw [Reps.length r]; exact Nat.le_refl _⟩⟩
  obtain ⟨v, hv, rv⟩ := r.get hd
  refine ⟨⟨xs, v, sm_tup (s1.trans s2) h, hv⟩, fun x H2 ⟨e1, e2⟩ => ?_⟩
  subst e1
  have := e2 xs (sm_tup (s1.trans s2) h)
  rw [hv] at this
  cases this
  exact ⟨F', Grw.refl s2, rv.mono s1⟩
theorem PI.or {w w' : TI} (h : PI X tg e w) (h' : PI X tg e w') : PI X tg e (fun σ H R => w σ H R ∨ w' σ H R) := ⟨fun pins s σ H R I q => q.elim (h.run pins s σ H R I) (h'.run pins s σ H R I)⟩
theorem fi_seq {f : EF} (he : PE X e (tE X.K π W f)) : PI X tg e (tI X.K π W (seqI f)) :=
  PI.imp (PI.or (pi_list he) (pi_tup he)) fun σ H R ⟨c, F, ρ, S, P⟩ => by
    unfold seqI at P
    cases ef : f ρ with
    | stuck => rw [ef] at P; exact P.elim
    | exc C fs ρ1 =>
      rw [ef] at P
      exact .inl ⟨c, F, ρ, S, by rw [ef]; exact P⟩
    | ok d ρ1 =>
      rw [ef] at P
      have P : Po X.K π W (relI X.K) c F σ R (FL.R.of (seqD d) ρ1) := P
      cases d <;> first | (exact P.elim) | skip
      · rename_i xs
        refine .inr ⟨c, F, ρ, S, ?_⟩
        rw [ef]
        intro v F1 H1 s1 S1 r1
        cases r1 with
        | @tup q vs _ h1 r1 => exact ⟨q, rfl, ⟨vs, sm_tup S1.f h1⟩, P _ F1 H1 s1 S1 (wk_tup h1 r1)⟩
      · rename_i xs
        refine .inl ⟨c, F, ρ, S, ?_⟩
        rw [ef]
        intro v F1 H1 s1 S1 r1
        cases r1 with
        | @lst q vs _ h1 r1 => exact ⟨q, rfl, ⟨vs, SqL.of (S1.f _ _ h1)⟩, P _ F1 H1 s1 S1 (wk_listL (SqL.of h1) r1)⟩
      · rename_i ns
        refine .inl ⟨c, F, ρ, S, ?_⟩
        rw [ef]
        intro v F1 H1 s1 S1 r1
        cases r1 with
        | @scr q _ h1 => exact ⟨q, rfl, ⟨_, Same.seq S1.f h1⟩, P _ F1 H1 s1 S1 (wk_listL h1 (Reps.ints _))⟩
/-- range -/
def rangeL (lo : Int) : Nat → List D
  | 0 => []
  | n + 1 => .int lo :: rangeL (lo + 1) n
theorem rangeL_length : ∀ (n : Nat) (lo : Int), (rangeL lo n).length = n
  | 0, _ => rfl
  | n + 1, lo => by rw [rangeL, List.length_cons, rangeL_length n]
theorem rangeL_get : ∀ (n : Nat) (lo : Int) (i : Nat) (d : D), (rangeL lo n)[i]? = some d → i < n ∧ d = .int (lo + i)
  | 0, _, _, _, h => by simp [rangeL] at h
  | n + 1, lo, 0, d, h => by
    simp [rangeL] at h
    exact ⟨by omega, by rw [← h]; simp⟩
  | n + 1, lo, i + 1, d, h => by
    obtain ⟨h1, h2⟩ := rangeL_get n (lo + 1) i d (by simpa [rangeL] using h)
    refine ⟨by omega, ?_⟩
    rw [h2]
    congr 1
    omega
theorem wk_range {K : PySem.W.Frag} {F : Hp} {lo : Int} {n : Nat} : Wk K F (Itr lo n) (rangeL lo n) := by
  refine ⟨fun F' H' s1 s2 i d hd => ?_, fun H' s => ?_⟩
  · obtain ⟨h1, rfl⟩ := rangeL_get n lo i d hd
    refine ⟨h1, fun x H2 ⟨e1, e2⟩ => ?_⟩
    subst e1
    subst e2
    exact ⟨F', Grw.refl s2, .int _⟩
  · rw [rangeL_length]
    exact Nat.le_refl _
def rgOk (i : Int) : Bool := decide (i.natAbs < 2 ^ 62)
def rng1 (g : Rho → R (List D)) : IF := fun ρ => (g ρ).bind fun ds ρ => R.of (match ds with
  | [.int j] => if rgOk j = true then some (rangeL 0 j.toNat) else none
  | _ => none) ρ
def rng2 (g : Rho → R (List D)) : IF := fun ρ => (g ρ).bind fun ds ρ => R.of (match ds with
  | [.int i, .int j] => if rgOk i = true ∧ rgOk j = true then some (rangeL i (j - i).toNat) else none
  | _ => none) ρ
theorem fi_range1 {g : Rho → R (List D)} (hg : Gl X "range") (hm : X.mg "range" = none) (ha : PA X [a] (tA X.K π W g)) (hs : starEach [a] X.env = [(false, eval a X.env)] := by rfl) : PI X tg (.Call (.Name "range" p) [a] [] pos) (tI X.K π W (rng1 g)) :=
  PI.imp (pi_range1 hg hm ha hs) fun σ H R ⟨c, F, ρ, S, P⟩ => by
    refine po_bind S P fun vs F1 H1 ρ1 ds s1 S1 r1 P1 => ?_
    obtain ⟨l, e, P2⟩ := po_of P1
    split at e
    · rename_i j
      split at e
      · rename_i hz
        cases e
        obtain ⟨v, rfl, h⟩ := Reps.one r1
        cases h
        have hz : j.natAbs < 2 ^ 62 := of_decide_eq_true hz
        exact ⟨j, rfl, by omega, by omega, P2 _ F1 H1 (Same.refl _) S1 wk_range⟩
      · cases e
    · cases e
theorem fi_range2 {g : Rho → R (List D)} (hg : Gl X "range") (hm : X.mg "range" = none) (ha : PA X [a, b] (tA X.K π W g)) (hs : starEach [a, b] X.env = [(false, eval a X.env), (false, eval b X.env)] := by rfl) (hs2 : starEach [b] X.env = [(false, eval b X.env)] := by rfl) :
    PI X tg (.Call (.Name "range" p) [a, b] [] pos) (tI X.K π W (rng2 g)) :=
  PI.imp (pi_range2 hg hm ha hs hs2) fun σ H R ⟨c, F, ρ, S, P⟩ => by
    refine po_bind S P fun vs F1 H1 ρ1 ds s1 S1 r1 P1 => ?_
    obtain ⟨l, e, P2⟩ := po_of P1
    split at e
    · rename_i i j
      split at e
      · rename_i hz
        cases e
        obtain ⟨v, w, rfl, h, h2⟩ := Reps.two r1
        cases h
        cases h2
        have z1 : i.natAbs < 2 ^ 62 := of_decide_eq_true hz.1
        have z2 : j.natAbs < 2 ^ 62 := of_decide_eq_true hz.2
        exact ⟨i, j, rfl, ⟨by omega, by omega, by omega, by omega⟩, P2 _ F1 H1 (Same.refl _) S1 wk_range⟩
      · cases e
    · cases e

/-! ### for -/
/-- behind a turn -/
def aftF (ks : List Nat) (k : Rho → R Fl) : Fl → Rho → R Fl
  | .nx, ρ => k (wipeR ks ρ)
  | .ct, ρ => k (wipeR ks ρ)
  | .bk, ρ => .ok .nx (wipeR ks ρ)
  | .rt r, ρ => .ok (.rt r) ρ
def bindO {α : Type} (x : Option Rho) (k : Rho → R α) : R α := match x with
  | some ρ => k ρ
  | none => .stuck
def forL (ks : List Nat) (g : GF) (b : SF) : List D → Rho → R Fl
  | [], ρ => .ok .nx ρ
  | d :: ds, ρ => bindO (g d ρ) fun ρ => (b ρ).bind (aftF ks (forL ks g b ds))
def forS (ks : List Nat) (it : IF) (g : GF) (b : SF) : SF := fun ρ => (it ρ).bind fun ds ρ => forL ks g b ds ρ
theorem fs_for {body : List Stmt} {it : IF} {g : GF} {b : SF} {ks ns : List Nat} (hp : PassesOwn (model X.prog X.w) X.A X.env X.xe) (hc : X.calm = true) (hi : PI X tg e (tI X.K π W it)) (hg : PG X tg (tGt X.K π ns g)) (hb : PSs X body (tS X.K π W b))
    (hs : ∀ x, foldedSetIterable e X.env x = pure x := by intro _; rfl) : PS X (.For tg e body [] pos) (tS X.K π W (forS ks it g b)) :=
  PS.imp (ps_for hp hc hi hg hb hs) fun D σ H ⟨c, F, ρ, h0, S, P⟩ => by
    refine pos_bind S P fun J F1 H1 ρ1 ds s1 S1 wk P1 => ?_
    refine ⟨fun i m σ H => i + m = ds.length ∧ ∃ F ρ, Same F1 F ∧ Sta X.K π c F H σ ρ ∧ PoS X.K π W c F σ D (forL ks g b (ds.drop i) ρ), ⟨ds.length, by omega, F1, ρ1, Same.refl _, S1, P1⟩, ?_⟩
    rintro i m σ2 H2 ⟨him, F2, ρ2, s2, S2, P2⟩
    cases m with
    | zero =>
      have hi : i = ds.length := by omega
      subst hi
      rw [List.drop_length] at P2
      exact .inl ⟨wk.stop H2 (s2.trans S2.f), P2 σ2 F2 H2 (Same.refl _) S2⟩
    | succ m =>
      have hlt : i < ds.length := by omega
      obtain ⟨hgo, hy⟩ := wk.go F2 H2 s2 S2.f i ds[i] (by simp [hlt])
      rw [List.drop_eq_getElem_cons hlt] at P2
      refine .inr ⟨hgo, fun σ3 H3 => ∃ F3 ρ3, Same F1 F3 ∧ Sta X.K π c F3 H3 σ3 ρ3 ∧ PoS X.K π W c F3 σ3 D (forL ks g b (ds.drop (i + 1)) ρ3), fun σ3 H3 ⟨F3, ρ3, a1, a2, a3⟩ => ⟨m, Nat.lt_succ_self m, by omega, F3, ρ3, a1, a2, a3⟩, fun x H3 yl => ?_⟩
      obtain ⟨F3, gr, rx⟩ := hy x H3 yl
      refine ⟨c, F3, ρ2, ds[i], S2.grow gr, rx, ?_⟩
      have P2 : PoS X.K π W c F2 σ2 D (bindO (g ds[i] ρ2) fun ρ => (b ρ).bind (aftF ks (forL ks g b (ds.drop (i + 1))))) := P2
      cases eg : g ds[i] ρ2 with
      | none => rw [eg] at P2; exact P2
      | some ρ3 =>
        rw [eg] at P2
        intro σ4 F4 H4 s4 of4 S4
        refine ⟨c, F4, ρ3, h0, S4, ?_⟩
        have P2 : PoS X.K π W c F4 σ4 D ((b ρ3).bind (aftF ks (forL ks g b (ds.drop (i + 1))))) := PoS.mono (gr.f.trans s4) P2
        have s14 : Same F1 F4 := s2.trans (gr.f.trans s4)
        cases eb : b ρ3 with
        | stuck => rw [eb] at P2; exact P2
        | exc C fs ρ4 => rw [eb] at P2; exact P2
        | ok fl ρ4 =>
          rw [eb] at P2
          cases fl with
          | nx => exact fun σ5 F5 H5 s5 S5 => ⟨F5, _, s14.trans s5, S5.wipe, PoS.mono s5 P2⟩
          | ct => exact fun σ5 F5 H5 s5 S5 => ⟨F5, _, s14.trans s5, S5.wipe, PoS.mono s5 P2⟩
          | bk => exact fun σ5 F5 H5 s5 S5 => P2 σ5 F5 H5 s5 S5.wipe
          | rt r => exact P2

end

/-! ### comprehensions -/
/-- an exception: nothing is said of it -/
def noX {α : Type} (x : R α) : R α := match x with
  | .exc _ _ _ => .stuck
  | y => y
abbrev W0 : WX := fun _ _ _ _ => False
/-- the turns of a comprehension -/
def cmpL (ks : List Nat) (g : GF) (t : TF) (f : EF) : List D → List D → Rho → R M
  | acc, [], ρ => .ok (.lst acc) ρ
  | acc, d :: ds, ρ => bindO (g d ρ) fun ρ => (noX (t ρ)).bind fun b ρ => if b = true then (noX (f ρ)).bind fun x ρ => if small (acc.length + 1) = true then cmpL ks g t f (acc ++ [x]) ds (wipeR ks ρ) else .stuck else cmpL ks g t f acc ds (wipeR ks ρ)
/-- the slots of a comprehension's names as they were -/
def resR : List Nat → Rho → Rho → Option Rho
  | [], _, ρ => some ρ
  | k :: ks, ρ0, ρ => match ρ0[k]? with
    | some (.val d) => resR ks ρ0 (ρ.set k (.val d))
    | some .no => resR ks ρ0 (ρ.set k .no)
    | none => resR ks ρ0 ρ
    | _ => none
def cmpM (ks : List Nat) (it : IF) (g : GF) (t : TF) (f : EF) : Rho → R M := fun ρ => (it ρ).bind fun ds ρ0 => (cmpL ks g t f [] ds (wipeR ks ρ0)).bind fun m ρ => bindO (resR ks ρ0 ρ) fun ρ => .ok m ρ
theorem wipe_at {σ : L2.St} {j : Nat} : ∀ {vs : List Nat}, j ∈ vs → j < σ.length → (wipe σ vs)[j]? = some none
  | v :: vs, h, hl => by
    unfold wipe
    by_cases e : v = j
    · subst e
      exact List.getElem?_set_self (by rw [wipe_length]; exact hl)
    · rw [List.getElem?_set_ne e]
      exact wipe_at ((List.mem_cons.mp h).resolve_left (fun z => e z.symm)) hl
theorem wipe_off {σ σ' : L2.St} {vs : List Nat} (h : Off vs σ σ') : wipe σ' vs = wipe σ vs := by
  refine List.ext_getElem? fun j => ?_
  by_cases hj : j ∈ vs
  · by_cases hl : j < σ.length
    · rw [wipe_at hj hl, wipe_at hj (by rw [h.1]; exact hl)]
    · rw [List.getElem?_eq_none (by rw [wipe_length, h.1]; omega), List.getElem?_eq_none (by rw [wipe_length]; omega)]
  · rw [wipe_out hj, wipe_out hj, h.2 j hj]
theorem wipe_wipe {σ : L2.St} {vs : List Nat} : wipe (wipe σ vs) vs = wipe σ vs := (wipe_off (σ := σ) (σ' := wipe σ vs) ⟨wipe_length _ _, fun j hj => wipe_out hj⟩)
theorem wipeR_get {j : Nat} : ∀ {ks : List Nat} {ρ : Rho}, (wipeR ks ρ)[j]? = if j ∈ ks ∧ j < ρ.length then some .no else ρ[j]?
  | [], ρ => by simp [wipeR]
  | k :: ks, ρ => by
    show (wipeR ks (ρ.set k .no))[j]? = _
    rw [wipeR_get, List.length_set]
    by_cases hl : j < ρ.length
    · by_cases h1 : j ∈ ks
      · rw [if_pos ⟨h1, hl⟩, if_pos ⟨List.mem_cons_of_mem _ h1, hl⟩]
      · rw [if_neg (fun z => h1 z.1)]
        by_cases h2 : k = j
        · subst h2
          rw [List.getElem?_set_self hl, if_pos ⟨List.mem_cons_self, hl⟩]
        · rw [List.getElem?_set_ne h2, if_neg (fun z => (List.mem_cons.mp z.1).elim (fun q => h2 q.symm) h1)]
    · rw [if_neg (fun z => hl z.2), if_neg (fun z => hl z.2)]
      rw [List.getElem?_eq_none (by rw [List.length_set]; omega), List.getElem?_eq_none (by omega)]
section
variable [FE]
variable {K : PySem.W.Frag} {π : Nat → Addr} {c : Cfg} {F F' H H' : Hp} {σ : L2.St} {ρ ρ' : Rho}
/-- into the block: the names of the block are not seen -/
theorem Sta.into (S : Sta K π c F H σ ρ) (ks : List Nat) : Sta K π c F H (L2.wipe σ ks) (wipeR ks ρ) := by
  have S1 : Sta K π c F H σ (wipeR ks ρ) := S.wipe
  have hl : (wipeR ks ρ).length = ρ.length := by rw [← S1.len, S.len]
  have out : ∀ j, j ∉ ks → (L2.wipe σ ks)[j]? = σ[j]? := fun j hj => wipe_out hj
  have nin : ∀ j s, (wipeR ks ρ)[j]? = some s → s ≠ .no → j ∉ ks := fun j s e hs hj => by
    rw [wipeR_get] at e
    by_cases hlt : j < ρ.length
    · rw [if_pos ⟨hj, hlt⟩] at e
      cases e
      exact hs rfl
    · rw [if_neg (fun z => hlt z.2), List.getElem?_eq_none (by omega)] at e
      cases e
  refine ⟨S1.h0, S1.hio, S1.f0, S1.f, S1.nf, by rw [L2.wipe_length]; exact S1.len, fun j s hs => ?_, fun i j p h1 h2 => ?_, S1.t⟩
  · have z := S1.rep j s hs
    cases s with
    | lk C f jj => obtain ⟨a, dx, e, r⟩ := z; exact ⟨a, dx, (out j (nin j _ hs (fun q => nomatch q))).trans e, r⟩
    | ln L => obtain ⟨a, e, r⟩ := z; exact ⟨a, (out j (nin j _ hs (fun q => nomatch q))).trans e, r⟩
    | no => trivial
    | val d => obtain ⟨v, e, r⟩ := z; exact ⟨v, (out j (nin j _ hs (fun q => nomatch q))).trans e, r⟩
    | own m => obtain ⟨p, e, r⟩ := z; exact ⟨p, (out j (nin j _ hs (fun q => nomatch q))).trans e, r⟩
    | io m => obtain ⟨e, r⟩ := z; exact ⟨(out j (nin j _ hs (fun q => nomatch q))).trans e, r⟩
  · have key : ∀ j, OwnAt (L2.wipe σ ks) (wipeR ks ρ) j p → OwnAt σ (wipeR ks ρ) j p := fun j ⟨e, m, h⟩ => by
      have hj : j ∉ ks := by
        rcases h with h | h
        · exact nin j _ h (fun q => nomatch q)
        · exact nin j _ h (fun q => nomatch q)
      exact ⟨(out j hj).symm.trans e, m, h⟩
    exact S1.dis i j p (key i h1) (key j h2)
/-- out of the block -/
theorem Sta.outof {ks : List Nat} (S0 : Sta K π c F H σ ρ) (g : Same F F') : ∀ {ls : List Nat} {ρ1 ρ2 : Rho}, (∀ l ∈ ls, l ∈ ks) → (∀ j s, ρ1[j]? = some s → SlotOk K π c F' H' σ j s) → (∀ i j p, OwnAt σ ρ1 i p → OwnAt σ ρ1 j p → i = j) → ρ1.length = ρ.length → resR ls ρ ρ1 = some ρ2 →
    (∀ j s, ρ2[j]? = some s → SlotOk K π c F' H' σ j s) ∧ (∀ i j p, OwnAt σ ρ2 i p → OwnAt σ ρ2 j p → i = j) ∧ ρ2.length = ρ.length ∧ ∀ j p, OwnAt σ ρ2 j p → OwnAt σ ρ1 j p
  | [], ρ1, ρ2, _, h1, h2, h3, e => by
    cases e
    exact ⟨h1, h2, h3, fun _ _ h => h⟩
  | l :: ls, ρ1, ρ2, hs, h1, h2, h3, e => by
    have step : ∀ s : Slot, SlotOk K π c F' H' σ l s → isO s = false → isI s = false → resR ls ρ (ρ1.set l s) = some ρ2 → (∀ j s, ρ2[j]? = some s → SlotOk K π c F' H' σ j s) ∧ (∀ i j p, OwnAt σ ρ2 i p → OwnAt σ ρ2 j p → i = j) ∧ ρ2.length = ρ.length ∧ ∀ j p, OwnAt σ ρ2 j p → OwnAt σ ρ1 j p := fun s ok no ni e => by
      have key : ∀ j p, OwnAt σ (ρ1.set l s) j p → OwnAt σ ρ1 j p := fun j p ⟨q, m, h⟩ => by
        by_cases hj : l = j
        · subst hj
          by_cases hlt : l < ρ1.length
          · rw [List.getElem?_set_self hlt] at h
            rcases h with h | h
            · cases h; cases no
            · cases h; cases ni
          · rw [List.getElem?_eq_none (by rw [List.length_set]; omega)] at h
            rcases h with h | h <;> cases h
        · rw [List.getElem?_set_ne hj] at h
          exact ⟨q, m, h⟩
      have q1 : ∀ j s', (ρ1.set l s)[j]? = some s' → SlotOk K π c F' H' σ j s' := fun j s' e' => by
        by_cases hj : l = j
        · subst hj
          by_cases hlt : l < ρ1.length
          · rw [List.getElem?_set_self hlt] at e'
            cases e'
            exact ok
          · rw [List.getElem?_eq_none (by rw [List.length_set]; omega)] at e'
            cases e'
        · rw [List.getElem?_set_ne hj] at e'
          exact h1 j s' e'
      obtain ⟨a1, a2, a3, a4⟩ := Sta.outof S0 g (ls := ls) (ρ1 := ρ1.set l s) (fun l hl => hs l (List.mem_cons_of_mem _ hl)) q1 (fun i j p a b => h2 i j p (key i p a) (key j p b)) (by rw [List.length_set]; exact h3) e
      exact ⟨a1, a2, a3, fun j p h => key j p (a4 j p h)⟩
    unfold resR at e
    cases eq : ρ[l]? with
    | none =>
      rw [eq] at e
      exact Sta.outof S0 g (fun l hl => hs l (List.mem_cons_of_mem _ hl)) h1 h2 h3 e
    | some s =>
      rw [eq] at e
      cases s with
      | lk C f jj => cases e
      | ln L => cases e
      | no => exact step .no trivial rfl rfl e
      | val d =>
        obtain ⟨v, e1, r⟩ := S0.rep l _ eq
        exact step (.val d) ⟨v, e1, r.mono g⟩ rfl rfl e
      | own m => cases e
      | io m => cases e
/-- a list that is no slot's changes -/
theorem Sta.other (S : Sta K π c F H σ ρ) {p : Addr} {o : HO} (n : F p = none) (n0 : c.H0 p = none) (nio : p ∉ c.io ∧ p ∉ c.ow) (nw : ∀ j, ¬ OwnAt σ ρ j p) {om : HO} (hom : H p = some om) (mm : Mut om) : Sta K π c F (upd H p o) σ ρ := by
  refine ⟨fun q u e h1 h2 nt => ?_, fun q hq => ?_, S.f0, sm_updR S.f n, S.nf, S.len, fun j s hs => ?_, S.dis, ⟨tabs_upd S.t.tb hom mm, fun q ps e => by
    obtain ⟨ps', e'⟩ := S.t.tk q ps e
    exact ⟨ps', by rw [upd_ne (fun z => by subst z; rw [hom] at e'; cases e'; exact mm.nt _ rfl)]; exact e'⟩, S.t.nt⟩⟩
  · rw [upd_ne (fun z => by subst z; rw [n0] at e; cases e)]
    exact S.h0 q u e h1 h2 nt
  · rw [upd_ne (fun z => by subst z; exact hq.elim nio.1 nio.2)]
    exact S.hio q hq
  · have z := S.rep j s hs
    cases s with
    | lk C f jj => exact z
    | ln L => exact z
    | no => trivial
    | val d => exact z
    | own m =>
      obtain ⟨q, e1, e2, e3, r⟩ := z
      have nq : q ≠ p := fun w => by subst w; exact nw j ⟨e1, m, .inl hs⟩
      exact ⟨q, e1, e2, e3, r.mono (Same.refl _) fun u hu => by rw [upd_ne nq]; exact hu⟩
    | io m =>
      obtain ⟨e1, e2, e3, r⟩ := z
      have nq : π j ≠ p := fun w => by rw [w] at e1; exact nw j ⟨e1, m, .inr hs⟩
      exact ⟨e1, e2, e3, r.mono (Same.refl _) fun u hu => by rw [upd_ne nq]; exact hu⟩
theorem Sta.notOwn (S : Sta K π c F H σ ρ) {p : Addr} {o : HO} (hH : c.H0 p = some o) (hn : p ∉ c.io ∧ p ∉ c.ow) : ∀ j, ¬ OwnAt σ ρ j p := fun j h => by
  obtain ⟨_, z, _⟩ := S.ownAt h
  rcases z with z | z | z
  · rw [hH] at z; cases z
  · exact hn.2 z
  · exact hn.1 z
end

section
variable [FE]
variable {X : Cx} {π : Nat → Addr} {W : WX}
theorem rd_lc {it : IF} {g : GF} {t : TF} {f : EF} {ns vs : List Nat} {σ : L2.St} {H : Hp} {Q : VK} (hns : ∀ j ∈ ns, j ∈ vs) (h : tM X.K π W (cmpM vs it g t f) σ H Q) : tLc (tI X.K π W it) (tGt X.K π ns g) (tT X.K π W0 t) (tE X.K π W0 f) vs σ H Q := by
  obtain ⟨c, F, ρ, S, P⟩ := h
  refine po_bind S P fun J F1 H1 ρ1 ds s1 S1 wk P1 => ?_
  intro Dd hD
  obtain ⟨fD, hD0, nD⟩ := S1.fresh hD
  have hDio : Dd ∉ c.io ∧ Dd ∉ c.ow := by
    refine ⟨fun z => ?_, fun z => ?_⟩
    · obtain ⟨o, e⟩ := S1.hio Dd (.inl z)
      rw [hD] at e
      cases e
    · obtain ⟨o, e⟩ := S1.hio Dd (.inr z)
      rw [hD] at e
      cases e
  refine ⟨fun i m H' => i + m = ds.length ∧ ∃ F2 ρ2 accV accD, Same F1 F2 ∧ Sta X.K π c F2 H' (wipe σ vs) ρ2 ∧ H' Dd = some (.lst accV) ∧ Reps X.K F2 accV accD ∧ F2 Dd = none ∧ (∀ j, ¬ OwnAt (wipe σ vs) ρ2 j Dd) ∧
      Po X.K π W (relM X.K) c F2 σ Q ((cmpL vs g t f accD (ds.drop i) ρ2).bind fun m ρ => bindO (resR vs ρ1 ρ) fun ρ => .ok m ρ), ⟨ds.length, by omega, F1, wipeR vs ρ1, [], [], Same.refl _, ?_, upd_same, .nil, fD, ?_, P1⟩, ?_⟩
  · exact (S1.into vs).grow (Grw.newO S1.f hD)
  · intro j hj
    obtain ⟨_, _, o, e⟩ := (S1.into vs).ownAt hj
    rw [hD] at e
    cases e
  · rintro i m H2 ⟨him, F2, ρ2, accV, accD, s2, S2, hacc, racc, f2D, nw2, P2⟩
    cases m with
    | zero =>
      have hi : i = ds.length := by omega
      subst hi
      rw [List.drop_length] at P2
      refine .inl ⟨wk.stop H2 (s2.trans S2.f), ?_⟩
      have P2 : Po X.K π W (relM X.K) c F2 σ Q (bindO (resR vs ρ1 ρ2) fun ρ => .ok (.lst accD) ρ) := P2
      cases er : resR vs ρ1 ρ2 with
      | none => rw [er] at P2; exact P2.elim
      | some ρ3 =>
        rw [er] at P2
        have l12 : ρ2.length = ρ1.length := by
          have h1 := S2.len
          have h2 := S1.len
          rw [wipe_length] at h1
          omega
        have q1 : ∀ j s, ρ2[j]? = some s → SlotOk X.K π c F2 H2 σ j s := fun j s hj => by
          have z := S2.rep j s hj
          cases s with
          | lk C f jj => obtain ⟨a, dx, e, r⟩ := z; exact ⟨a, dx, (wipe_some e).1, r⟩
          | ln L => obtain ⟨a, e, r⟩ := z; exact ⟨a, (wipe_some e).1, r⟩
          | no => trivial
          | val d => obtain ⟨v, e, r⟩ := z; exact ⟨v, (wipe_some e).1, r⟩
          | own m => obtain ⟨p, e, r⟩ := z; exact ⟨p, (wipe_some e).1, r⟩
          | io m => obtain ⟨e, r⟩ := z; exact ⟨(wipe_some e).1, r⟩
        have key : ∀ j p, OwnAt σ ρ2 j p → OwnAt (wipe σ vs) ρ2 j p := fun j p ⟨e, m, h⟩ => by
          refine ⟨?_, m, h⟩
          rcases h with h | h
          · obtain ⟨q, e1, _⟩ := S2.rep j _ h
            have := (wipe_some e1).1
            rw [e] at this
            cases this
            exact e1
          · obtain ⟨e1, _⟩ := S2.rep j _ h
            have := (wipe_some e1).1
            rw [e] at this
            cases this
            exact e1
        obtain ⟨a1, a2, a3, a4⟩ := S1.outof (ks := vs) (F' := F2) (H' := H2) s2 (ls := vs) (ρ1 := ρ2) (ρ2 := ρ3) (fun l hl => hl) q1 (fun i j p h1 h2 => S2.dis i j p (key i p h1) (key j p h2)) l12 er
        have S3 : Sta X.K π c F2 H2 σ ρ3 := ⟨S2.h0, S2.hio, S2.f0, S2.f, S2.nf, by rw [a3]; exact S1.len, a1, a2, S2.t⟩
        exact P2 (.ref Dd) F2 H2 (Same.refl _) S3 ⟨Dd, rfl, f2D, hD0, fun j hj => nw2 j (key j Dd (a4 j Dd hj)), accV, hacc, racc⟩
    | succ m =>
      have hlt : i < ds.length := by omega
      obtain ⟨hgo, hy⟩ := wk.go F2 H2 s2 S2.f i ds[i] (by simp [hlt])
      rw [List.drop_eq_getElem_cons hlt] at P2
      refine .inr ⟨hgo, fun H' => ∃ F2 ρ2 accV accD, Same F1 F2 ∧ Sta X.K π c F2 H' (wipe σ vs) ρ2 ∧ H' Dd = some (.lst accV) ∧ Reps X.K F2 accV accD ∧ F2 Dd = none ∧ (∀ j, ¬ OwnAt (wipe σ vs) ρ2 j Dd) ∧
        Po X.K π W (relM X.K) c F2 σ Q ((cmpL vs g t f accD (ds.drop (i + 1)) ρ2).bind fun m ρ => bindO (resR vs ρ1 ρ) fun ρ => .ok m ρ), fun H' h => ⟨m, Nat.lt_succ_self m, by omega, h⟩, fun x H3 yl => ?_⟩
      obtain ⟨F3, gr, rx⟩ := hy x H3 yl
      have T2 := S2.self
      have hT : (cfg F2 H2 (wipe σ vs) ρ2).H0 Dd = some (.lst accV) := hacc
      have hTn : Dd ∉ (cfg F2 H2 (wipe σ vs) ρ2).io ∧ Dd ∉ (cfg F2 H2 (wipe σ vs) ρ2).ow := by
        refine ⟨fun z => ?_, fun z => ?_⟩
        · obtain ⟨j, s, e, h, k⟩ := mem_adrs.mp z
          cases s with
          | lk C f jj => cases k
          | ln L => cases k
          | io m => exact nw2 j ⟨e, m, .inr h⟩
          | no => cases k
          | val _ => cases k
          | own _ => cases k
        · obtain ⟨j, s, e, h, k⟩ := mem_adrs.mp z
          cases s with
          | lk C f jj => cases k
          | ln L => cases k
          | own m => exact nw2 j ⟨e, m, .inl h⟩
          | no => cases k
          | val _ => cases k
          | io _ => cases k
      refine ⟨cfg F2 H2 (wipe σ vs) ρ2, F3, ρ2, ds[i], T2.grow gr, rx, ?_⟩
      have P2 : Po X.K π W (relM X.K) c F2 σ Q ((bindO (g ds[i] ρ2) fun ρ => (noX (t ρ)).bind fun b ρ => if b = true then (noX (f ρ)).bind fun x ρ => if small (accD.length + 1) = true then cmpL vs g t f (accD ++ [x]) (ds.drop (i + 1)) (wipeR vs ρ) else .stuck
        else cmpL vs g t f accD (ds.drop (i + 1)) (wipeR vs ρ)).bind fun m ρ => bindO (resR vs ρ1 ρ) fun ρ => .ok m ρ) := P2
      cases eg : g ds[i] ρ2 with
      | none => rw [eg] at P2; exact P2
      | some ρ3 =>
        rw [eg] at P2
        intro σ4 F4 H4 s4 of4 T4
        have of5 : Off vs (wipe σ vs) σ4 := ⟨of4.1, fun j hj => of4.2 j fun z => hj (hns j z)⟩
        have w4 : wipe σ4 vs = wipe σ vs := (wipe_off of5).trans wipe_wipe
        refine ⟨w4, cfg F2 H2 (wipe σ vs) ρ2, F4, ρ3, T4, ?_⟩
        have s24 : Same F2 F4 := gr.f.trans s4
        have P4 := Po.mono s24 P2
        cases et : t ρ3 with
        | stuck => simp only [bindO, et, noX, R.stuck_bind] at P4; exact P4.elim
        | exc C fs ρ4 => simp only [bindO, et, noX, R.stuck_bind] at P4; exact P4.elim
        | ok b ρ4 =>
          simp only [bindO, et, noX, R.ok_bind] at P4
          intro b' F5 H5 s5 T5 rb
          cases rb
          -- the turn's end
          have fin : ∀ {F6 H6 ρ6 acV acD}, Same F5 F6 → Sta X.K π (cfg F2 H2 (wipe σ vs) ρ2) F6 H6 σ4 ρ6 → Reps X.K F6 acV acD → Sta X.K π c F6 (upd H6 Dd (.lst acV)) (wipe σ vs) (wipeR vs ρ6) ∧ F6 Dd = none ∧ (∀ j, ¬ OwnAt (wipe σ vs) (wipeR vs ρ6) j Dd) := fun {F6 H6 ρ6 acV acD} s6 T6 r6 => by
            have n6 : F6 Dd = none := T6.nf Dd _ hT f2D
            have B6 := (S2.back T6).into vs
            have B6T := T6.into vs
            rw [w4] at B6 B6T
            have nw6 : ∀ j, ¬ OwnAt (wipe σ vs) (wipeR vs ρ6) j Dd := B6T.notOwn hT hTn
            exact ⟨B6.other n6 hD0 hDio nw6 (T6.h0 Dd _ hT hTn.1 hTn.2 (by intro ps z; cases z)) (.inl ⟨_, rfl⟩), n6, nw6⟩
          cases b with
          | false =>
            rw [if_neg Bool.false_ne_true] at P4 ⊢
            have hd5 : H5 Dd = some (.lst accV) := T5.h0 Dd _ hT hTn.1 hTn.2 (by intro ps z; cases z)
            obtain ⟨k1, k2, k3⟩ := fin (Same.refl _) T5 (racc.mono (s24.trans s5))
            have ee : upd H5 Dd (.lst accV) = H5 := by
              funext q
              by_cases z : q = Dd
              · subst z
                rw [upd_same, hd5]
              · rw [upd_ne z]
            rw [ee] at k1
            exact ⟨F5, _, accV, accD, s2.trans (s24.trans s5), k1, hd5, racc.mono (s24.trans s5), k2, k3, P4.mono s5⟩
          | true =>
            rw [if_pos rfl] at P4 ⊢
            refine ⟨cfg F2 H2 (wipe σ vs) ρ2, F5, ρ4, T5, ?_⟩
            cases ef : f ρ4 with
            | stuck => simp only [ef, noX, R.stuck_bind] at P4; exact P4.elim
            | exc C fs ρ5 => simp only [ef, noX, R.stuck_bind] at P4; exact P4.elim
            | ok d ρ5 =>
              simp only [ef, noX, R.ok_bind] at P4
              intro y F6 H6 s6 T6 ry
              split at P4
              · rename_i hz
                have hd6 : H6 Dd = some (.lst accV) := T6.h0 Dd _ hT hTn.1 hTn.2 (by intro ps z; cases z)
                have s26 : Same F2 F6 := s24.trans (s5.trans s6)
                have rr := (racc.mono s26).snoc ry
                obtain ⟨k1, k2, k3⟩ := fin s6 T6 rr
                have hl := small_le hz
                exact ⟨accV, hd6, lt_line (by rw [Reps.length racc]; omega), F6, _, _, _, s2.trans s26, k1, upd_same, rr, k2, k3, P4.mono (s5.trans s6)⟩
              · exact P4.elim
theorem fm_lc {elt tg iter : Expr} {ifs : List Expr} {scope : Scope} {own : List (Str × Nat)} {pos : Pos} {it : IF} {g : GF} {t : TF} {f : EF} {ns : List Nat} (hc : X.calm = true) (hN : X.N.Nodup) (hi : PI X tg iter (tI X.K π W it)) (ok : BlkOk X.N X.env.scope scope own)
    (hg : ∀ (s : Shared) (H : Hp) (C : Addr) (cl : List (Str × Addr)) (fp : List Addr), PG (X.blk s H scope (compEnvC scope cl C X.env) fp) tg (tGt X.K π ns g))
    (ht : ∀ (s : Shared) (H : Hp) (C : Addr) (cl : List (Str × Addr)) (fp : List Addr), PTs (X.blk s H scope (compEnvC scope cl C X.env) fp) ifs (tT X.K π W0 t))
    (he : ∀ (s : Shared) (H : Hp) (C : Addr) (cl : List (Str × Addr)) (fp : List Addr), PE (X.blk s H scope (compEnvC scope cl C X.env) fp) elt (tE X.K π W0 f))
    (hns : ∀ j ∈ ns, j ∈ own.map (·.2)) (hs : ∀ x, foldedSetIterable iter X.env x = pure x := by intro _; rfl) : PE X (.ListComp elt [⟨tg, iter, ifs, 0⟩] scope pos) (tM X.K π W (cmpM (own.map (·.2)) it g t f)) := by
  exact PE.imp (pe_lc hc hN hi ok hg ht he (hs := hs)) fun _ _ _ h => rd_lc hns h
end
end FL
/-! FL7: defs and their calls. -/
namespace FL
open PySem PySem.Spec PyProof.Rows L2

/-! ### what a def promises -/
structure RoomG (k : Nat) (A : Around) : Prop where
  r : Room k A
  g : A.guards = some []
theorem RoomG.mono {j k : Nat} {A : Around} (r : RoomG k A) (h : j ≤ k) : RoomG j A := ⟨r.r.mono h, r.g⟩
theorem RoomG.deeper {k : Nat} {A : Around} (r : RoomG (k + 1) A) (env : Env) : RoomG k (A.deeper env) := ⟨r.r.deeper env, r.g⟩
structure FnG (P : Program) (w : World) (K : PySem.W.Frag) (mg : Str → Option Value) (base : Heap) (k : Nat) (f : Addr) (fd : FuncData) (ps : List Str) (sp : Sp) : Prop where
  len : ∀ vs H Q E, sp vs H Q E → vs.length = ps.length
  run : ∀ (A : Around) (outer : List Env) (s : Shared) (H : Hp) (args : Args) (us : List Value) (vs : List V) (Q : VK) (E : XK), RoomG k A → Env0 P w K mg base A outer s H → BindsTo s fd args (ps.zip us) → Vals vs us → sp vs H Q E →
    codeAny (model P w) A (.call (.ref f) args) (CR (L2N.CX P w) outer P w H s Q E) s
theorem FnG.mono {P : Program} {w : World} {K : PySem.W.Frag} {mg : Str → Option Value} {base : Heap} {j k : Nat} {f : Addr} {fd : FuncData} {ps : List Str} {sp : Sp} (F : FnG P w K mg base j f fd ps sp) (h : j ≤ k) : FnG P w K mg base k f fd ps sp :=
  ⟨F.len, fun A outer s H args us vs Q E hr => F.run A outer s H args us vs Q E (hr.mono h)⟩

inductive Arg where
  | val (d : D)
  | io (m : M)
  /-- an instance of the class at C, its one field f is the thing that is handed in at j -/
  | lk (C : Addr) (f : Str) (j : Nat)
  /-- tied to what is handed in at other places -/
  | ln (L : Lnk)
inductive RG where
  | ok (r : Res) (outs : List M)
  | exc (C : Str) (fs : List (Str × D)) (outs : List M)
  | stuck
inductive ArgsR (K : PySem.W.Frag) (F H : Hp) : List V → List Arg → Prop
  | nil : ArgsR K F H [] []
  | val {v : V} {d : D} {vs : List V} {as : List Arg} : Rep K F v d → ArgsR K F H vs as → ArgsR K F H (v :: vs) (.val d :: as)
  | io {p : Addr} {m : M} {vs : List V} {as : List Arg} : F p = none → MRep K F H p m → ArgsR K F H vs as → ArgsR K F H (.ref p :: vs) (.io m :: as)
  | lk {a : Addr} {C : Addr} {f : Str} {j : Nat} {vs : List V} {as : List Arg} : ArgsR K F H vs as → ArgsR K F H (.ref a :: vs) (.lk C f j :: as)
  | ln {a : Addr} {L : Lnk} {vs : List V} {as : List Arg} : ArgsR K F H vs as → ArgsR K F H (.ref a :: vs) (.ln L :: as)
def ioA : List V → List Arg → List Addr
  | v :: vs, .io _ :: as => (match v with | .ref p => [p] | _ => []) ++ ioA vs as
  | _ :: vs, .val _ :: as => ioA vs as
  | _ :: vs, .lk _ _ _ :: as => ioA vs as
  | _ :: vs, .ln _ :: as => ioA vs as
  | _, _ => []
theorem ioA_io {p : Addr} {m : M} {vs : List V} {as : List Arg} : ioA (.ref p :: vs) (.io m :: as) = p :: ioA vs as := rfl
variable [FE] in
structure PostG (K : PySem.W.Frag) (F H : Hp) (A : List Addr) (outs : List M) (F' H' : Hp) : Prop where
  f : Same F F'
  fh : Same F' H'
  keep : ∀ q o, H q = some o → q ∉ A → NT o → H' q = some o
  nf : ∀ q o, H q = some o → F q = none → F' q = none
  outs : Paired (fun p m => MRep K F' H' p m) A outs
  t : StT ⟨H, F, A, []⟩ F' H'
def ResR (K : PySem.W.Frag) (H F' H' : Hp) (v : V) : Res → Prop
  | .v d => Rep K F' v d
  | .m m => ∃ p, v = .ref p ∧ H p = none ∧ F' p = none ∧ MRep K F' H' p m
variable [FE] in
def PoR (K : PySem.W.Frag) (F H : Hp) (A : List Addr) (Q : VK) (E : XK) : RG → Prop
  | .ok r outs => ∀ v F' H', PostG K F H A outs F' H' → ResR K H F' H' v r → Q v H'
  | .exc C fs outs => ∀ dd fsV F' H', PostG K F H A outs F' H' → XD F' dd fsV → fsV.map (·.1) = fs.map (·.1) → Reps K F' (fsV.map (·.2)) (fs.map (·.2)) → E (.ref (FE.cl C)) dd H'
  | .stuck => False
variable [FE] in
def spG (K : PySem.W.Frag) (n : Nat) (G : List Arg → RG) : Sp := fun vs H Q E => ∃ F as, (Same F H ∧ LamX.Tabs FE.tabs H ∧ NoT F) ∧ ArgsR K F H vs as ∧ vs.length = n ∧ (ioA vs as).Nodup ∧ PoR K F H (ioA vs as) Q E (G as)
theorem ArgsR.length {K : PySem.W.Frag} {F H : Hp} : ∀ {vs : List V} {as : List Arg}, ArgsR K F H vs as → vs.length = as.length
  | _, _, .nil => rfl
  | _, _, .lk r => congrArg (· + 1) (ArgsR.length r)
  | _, _, .ln r => congrArg (· + 1) (ArgsR.length r)
  | _, _, .val _ r => congrArg (· + 1) (ArgsR.length r)
  | _, _, .io _ _ r => congrArg (· + 1) (ArgsR.length r)

/-- where a def's body runs -/
abbrev cxF (P : Program) (w : World) (K : PySem.W.Frag) (mg : Str → Option Value) (base : Heap) (N : List Str) (qual : Str) (scope : Scope) (f : Addr) (cd : Value) (A : Around) (outer : List Env) (s : Shared) (H : Hp) (E : XK) : Cx := cxOf (L2N.CX P w) P w K mg base N qual scope f cd A outer s H E
theorem RoomG.u64 {k : Nat} {A : Around} (r : RoomG k A) : A.units + 64 < cLine := by have := r.r.un; omega
theorem RoomG.u65 {k : Nat} {A : Around} (r : RoomG k A) : A.units + 65 < cLine := by have := r.r.un; omega
/-! ### a def's body -/
def toS : Arg → Slot
  | .val d => .val d
  | .io m => .io m
  | .lk _ _ _ => .no
  | .ln _ => .no
def collect : List Arg → Nat → Rho → Option (List M)
  | [], _, _ => some []
  | .val _ :: as, i, ρ => collect as (i + 1) ρ
  | .lk _ _ _ :: as, i, ρ => collect as (i + 1) ρ
  | .ln _ :: as, i, ρ => collect as (i + 1) ρ
  | .io _ :: as, i, ρ => match ρ[i]? with
    | some (.io m) => (collect as (i + 1) ρ).map (m :: ·)
    | _ => none
def endG (as : List Arg) (k : List M → RG) (ρ : Rho) : RG := match collect as 0 ρ with
  | some outs => k outs
  | none => .stuck
def rho0 (l : Nat) (as : List Arg) : Rho := as.map toS ++ List.replicate (l - as.length) .no
/-- the def by its body: l names -/
def bodyG (l : Nat) (g : SF) (as : List Arg) : RG := match g (rho0 l as) with
  | .ok .nx ρ => endG as (.ok (.v .non)) ρ
  | .ok (.rt r) ρ => endG as (.ok r) ρ
  | .exc C fs ρ => endG as (.exc C fs) ρ
  | _ => .stuck
def adrV : Option V → Addr
  | some (.ref p) => p
  | _ => 0
section
variable {K : PySem.W.Frag} {F H : Hp} {vs : List V} {as : List Arg}
theorem ArgsR.at : ∀ {vs : List V} {as : List Arg} {i : Nat} {a : Arg}, ArgsR K F H vs as → as[i]? = some a → ∃ v, vs[i]? = some v ∧ match a with
    | .val d => Rep K F v d
    | .io m => ∃ p, v = .ref p ∧ F p = none ∧ MRep K F H p m ∧ p ∈ ioA vs as
    | .lk _ _ _ => True
    | .ln _ => True
  | _, _, _, _, .nil, e => by simp at e
  | _, _, 0, _, .lk r, e => by
    simp at e
    subst e
    exact ⟨_, rfl, trivial⟩
  | _, _, i + 1, a, .lk r, e => by
    obtain ⟨v, h1, h2⟩ := ArgsR.at (i := i) (a := a) r (by simpa using e)
    exact ⟨v, by simpa using h1, h2⟩
  | _, _, 0, _, .ln r, e => by
    simp at e
    subst e
    exact ⟨_, rfl, trivial⟩
  | _, _, i + 1, a, .ln r, e => by
    obtain ⟨v, h1, h2⟩ := ArgsR.at (i := i) (a := a) r (by simpa using e)
    exact ⟨v, by simpa using h1, h2⟩
  | _, _, 0, _, .val h r, e => by
    simp at e
    subst e
    exact ⟨_, rfl, h⟩
  | _, _, 0, _, .io n h r, e => by
    simp at e
    subst e
    exact ⟨_, rfl, _, rfl, n, h, by simp [ioA]⟩
  | _, _, i + 1, a, .val h r, e => by
    obtain ⟨v, h1, h2⟩ := ArgsR.at (i := i) (a := a) r (by simpa using e)
    exact ⟨v, by simpa using h1, h2⟩
  | _, _, i + 1, a, .io n h r, e => by
    obtain ⟨v, h1, h2⟩ := ArgsR.at (i := i) (a := a) r (by simpa using e)
    refine ⟨v, by simpa using h1, ?_⟩
    cases a with
    | val d => exact h2
    | io m =>
      obtain ⟨p, e1, e2, e3, e4⟩ := h2
      exact ⟨p, e1, e2, e3, by simp [ioA, e4]⟩
    | lk _ _ _ => trivial
    | ln _ => trivial
theorem ArgsR.here : ∀ {vs : List V} {as : List Arg}, ArgsR K F H vs as → ∀ q ∈ ioA vs as, ∃ o, H q = some o
  | _, _, .nil, q, h => by simp [ioA] at h
  | _, _, .lk r, q, h => ArgsR.here r q (by simpa [ioA] using h)
  | _, _, .ln r, q, h => ArgsR.here r q (by simpa [ioA] using h)
  | _, _, .val _ r, q, h => ArgsR.here r q (by simpa [ioA] using h)
  | _, _, .io n m r, q, h => by
    rw [ioA_io] at h
    rcases List.mem_cons.mp h with h | h
    · rw [h]; exact m.here
    · exact ArgsR.here r q h
/-- two places of one thing -/
theorem ArgsR.uniq : ∀ {vs : List V} {as : List Arg} {i j : Nat} {p : Addr} {m m' : M}, ArgsR K F H vs as → (ioA vs as).Nodup → as[i]? = some (.io m) → as[j]? = some (.io m') → vs[i]? = some (.ref p) → vs[j]? = some (.ref p) → i = j
  | _, _, _, _, _, _, _, .nil, _, e, _, _, _ => by simp at e
  | _, _, 0, 0, _, _, _, _, _, _, _, _, _ => rfl
  | _, _, i + 1, j + 1, p, m, m', .lk r, nd, e1, e2, e3, e4 => by
    rw [ArgsR.uniq (i := i) (j := j) (p := p) (m := m) (m' := m') r (by simpa [ioA] using nd) (by simpa using e1) (by simpa using e2) (by simpa using e3) (by simpa using e4)]
  | _, _, 0, j + 1, p, m, m', .lk r, nd, e1, e2, e3, e4 => by simp at e1
  | _, _, i + 1, 0, p, m, m', .lk r, nd, e1, e2, e3, e4 => by simp at e2
  | _, _, i + 1, j + 1, p, m, m', .ln r, nd, e1, e2, e3, e4 => by
    rw [ArgsR.uniq (i := i) (j := j) (p := p) (m := m) (m' := m') r (by simpa [ioA] using nd) (by simpa using e1) (by simpa using e2) (by simpa using e3) (by simpa using e4)]
  | _, _, 0, j + 1, p, m, m', .ln r, nd, e1, e2, e3, e4 => by simp at e1
  | _, _, i + 1, 0, p, m, m', .ln r, nd, e1, e2, e3, e4 => by simp at e2
  | _, _, i + 1, j + 1, p, m, m', .val _ r, nd, e1, e2, e3, e4 => by
    rw [ArgsR.uniq (i := i) (j := j) (p := p) (m := m) (m' := m') r (by simpa [ioA] using nd) (by simpa using e1) (by simpa using e2) (by simpa using e3) (by simpa using e4)]
  | _, _, i + 1, j + 1, p, m, m', .io _ _ r, nd, e1, e2, e3, e4 => by
    rw [ioA_io] at nd
    have nd := List.nodup_cons.mp nd
    rw [ArgsR.uniq (i := i) (j := j) (p := p) (m := m) (m' := m') r nd.2 (by simpa using e1) (by simpa using e2) (by simpa using e3) (by simpa using e4)]
  | _, _, 0, j + 1, p, m, m', .val _ r, nd, e1, e2, e3, e4 => by simp at e1
  | _, _, i + 1, 0, p, m, m', .val _ r, nd, e1, e2, e3, e4 => by simp at e2
  | _, _, 0, j + 1, p, m, m', .io _ _ r, nd, e1, e2, e3, e4 => by
    rw [ioA_io] at nd
    have nd := List.nodup_cons.mp nd
    obtain ⟨v, h1, q, h2, _, _, h3⟩ := r.at (i := j) (a := .io m') (by simpa using e2)
    rw [List.getElem?_cons_succ, h1] at e4
    cases e4
    cases h2
    simp at e3
    subst e3
    exact absurd h3 nd.1
  | _, _, i + 1, 0, p, m, m', .io _ _ r, nd, e1, e2, e3, e4 => by
    rw [ioA_io] at nd
    have nd := List.nodup_cons.mp nd
    obtain ⟨v, h1, q, h2, _, _, h3⟩ := r.at (i := i) (a := .io m) (by simpa using e1)
    rw [List.getElem?_cons_succ, h1] at e3
    cases e3
    cases h2
    simp at e4
    subst e4
    exact absurd h3 nd.1
theorem start_get {N : List Str} {vs : List V} {i : Nat} {v : V} (h : vs[i]? = some v) : (L2.start N vs)[i]? = some (some v) := by
  unfold L2.start
  have hl : i < vs.length := (List.getElem?_eq_some_iff.mp h).1
  rw [List.getElem?_append_left (by simpa using hl), List.getElem?_map, h]
  rfl
theorem rho0_get {l i : Nat} {as : List Arg} {s : Slot} (h : (rho0 l as)[i]? = some s) : s = .no ∨ ∃ a, as[i]? = some a ∧ s = toS a := by
  unfold rho0 at h
  by_cases hl : i < as.length
  · rw [List.getElem?_append_left (by simpa using hl), List.getElem?_map] at h
    cases e : as[i]? with
    | none => rw [e] at h; cases h
    | some a =>
      rw [e] at h
      cases h
      exact .inr ⟨a, rfl, rfl⟩
  · rw [List.getElem?_append_right (by simpa using hl), List.getElem?_replicate] at h
    split at h
    · cases h
      exact .inl rfl
    · cases h
variable [FE] in
theorem Sta.start {N : List Str} (s : Same F H ∧ LamX.Tabs FE.tabs H ∧ NoT F) (r : ArgsR K F H vs as) (nd : (ioA vs as).Nodup) (hl : vs.length ≤ N.length) :
    Sta K (fun i => adrV vs[i]?) ⟨H, F, ioA vs as, []⟩ F H (L2.start N vs) (rho0 N.length as) := by
  have hlen := r.length
  refine ⟨fun q o e _ _ _ => e, fun q hq => ?_, Same.refl _, s.1, fun q o _ n => n, ?_, fun i sl hs => ?_, fun i j p h1 h2 => ?_, ⟨s.2.1, fun q ps e => ⟨ps, e⟩, s.2.2⟩⟩
  · rcases hq with hq | hq
    · exact r.here q hq
    · cases hq
  · unfold L2.start rho0
    rw [List.length_append, List.length_append, List.length_map, List.length_map, List.length_replicate, List.length_replicate]
    omega
  · rcases rho0_get hs with rfl | ⟨a, ha, rfl⟩
    · trivial
    · obtain ⟨v, hv, z⟩ := r.at ha
      cases a with
      | lk C f jj => trivial
      | ln L => trivial
      | val d => exact ⟨v, start_get hv, z⟩
      | io m =>
        obtain ⟨p, rfl, n, hm, hp⟩ := z
        have e : adrV vs[i]? = p := by rw [hv]; rfl
        refine ⟨?_, ?_, ?_, ?_⟩
        · show _ = some (some (V.ref (adrV vs[i]?)))
          rw [e]
          exact start_get hv
        · show F (adrV vs[i]?) = none
          rw [e]
          exact n
        · show adrV vs[i]? ∈ ioA vs as
          rw [e]
          exact hp
        · show MRep K F H (adrV vs[i]?) m
          rw [e]
          exact hm
  · have key : ∀ j, OwnAt (L2.start N vs) (rho0 N.length as) j p → ∃ m, as[j]? = some (.io m) ∧ vs[j]? = some (.ref p) := fun j ⟨e, m, h⟩ => by
      have z : ∃ m, as[j]? = some (.io m) := by
        rcases h with h | h
        · rcases rho0_get h with h | ⟨a, _, h⟩
          · cases h
          · cases a <;> cases h
        · rcases rho0_get h with h | ⟨a, ha, h⟩
          · cases h
          · cases a with
            | lk C f jj => cases h
            | ln L => cases h
            | val d => cases h
            | io m' => exact ⟨m', ha⟩
      obtain ⟨m', ha⟩ := z
      obtain ⟨v, hv, _⟩ := r.at ha
      have := start_get (N := N) hv
      rw [e] at this
      cases this
      exact ⟨m', ha, hv⟩
    obtain ⟨m1, a1, b1⟩ := key i h1
    obtain ⟨m2, a2, b2⟩ := key j h2
    exact r.uniq nd a1 a2 b1 b2
variable [FE] in
/-- what the handed things hold at the end -/
theorem collect_ok {F' H' : Hp} {σ : L2.St} {c : Cfg} {π : Nat → Addr} {ρ : Rho} (S : Sta K π c F' H' σ ρ) : ∀ {vs : List V} {as : List Arg} {i : Nat} {outs : List M}, ArgsR K F H vs as → (∀ j v, vs[j]? = some v → π (i + j) = adrV (some v)) → collect as i ρ = some outs → Paired (fun p m => MRep K F' H' p m) (ioA vs as) outs
  | _, _, _, _, .nil, _, e => by
    cases e
    exact .nil
  | _, _, i, outs, .lk r, h, e => by
    have := collect_ok S (i := i + 1) r (fun j v hv => by rw [← h (j + 1) v (by simpa using hv)]; congr 1; omega) (by simpa [collect] using e)
    simpa [ioA] using this
  | _, _, i, outs, .ln r, h, e => by
    have := collect_ok S (i := i + 1) r (fun j v hv => by rw [← h (j + 1) v (by simpa using hv)]; congr 1; omega) (by simpa [collect] using e)
    simpa [ioA] using this
  | _, _, i, outs, .val _ r, h, e => by
    have := collect_ok S (i := i + 1) r (fun j v hv => by rw [← h (j + 1) v (by simpa using hv)]; congr 1; omega) (by simpa [collect] using e)
    simpa [ioA] using this
  | _, _, i, outs, .io (p := p) n m r, h, e => by
    unfold collect at e
    split at e
    · rename_i m1 e1
      cases e2 : collect _ (i + 1) ρ with
      | none => rw [e2] at e; cases e
      | some l =>
        rw [e2] at e
        cases e
        have := collect_ok S (i := i + 1) r (fun j v hv => by rw [← h (j + 1) v (by simpa using hv)]; congr 1; omega) e2
        obtain ⟨_, _, _, q⟩ := S.rep i _ e1
        have hp : π i = p := by
          have z := h 0 (.ref p) (by simp)
          simpa [adrV] using z
        rw [hp] at q
        have z : Paired (fun p m => MRep K F' H' p m) (p :: ioA _ _) (m1 :: l) := .cons q this
        simpa [ioA] using z
    · cases e
end
section
variable {P : Program} {w : World} {K : PySem.W.Frag} {mg : Str → Option Value} {base : Heap}
variable [FE] in
/-- from a body: what follows it in the def's caller -/
theorem body_end {N : List Str} {F H : Hp} {vs : List V} {as : List Arg} {Q : VK} {E : XK} {g : SF} (s : Same F H ∧ LamX.Tabs FE.tabs H ∧ NoT F) (r : ArgsR K F H vs as) (nd : (ioA vs as).Nodup) (hl : vs.length ≤ N.length) (h : PoR K F H (ioA vs as) Q E (bodyG N.length g as)) :
    tS K (fun i => adrV vs[i]?) (fun cls d _ H => E cls d H) g { nx := fun _ H' => Q .non H', rt := Q } (L2.start N vs) H := by
  refine ⟨⟨H, F, ioA vs as, []⟩, F, rho0 N.length as, rfl, Sta.start s r nd hl, ?_⟩
  unfold bodyG at h
  have post : ∀ {σ' : L2.St} {F' H' : Hp} {ρ' : Rho} {outs : List M}, Sta K (fun i => adrV vs[i]?) ⟨H, F, ioA vs as, []⟩ F' H' σ' ρ' → collect as 0 ρ' = some outs → PostG K F H (ioA vs as) outs F' H' := fun {σ' F' H' ρ' outs} S e =>
    ⟨S.f0, S.f, fun q o eq n nt => S.h0 q o eq n (fun z => by cases z) nt, fun q o eq n => S.nf q o eq n, collect_ok S r (fun j v hv => by simp [hv]) e, ⟨S.t.tb, S.t.tk, S.t.nt⟩⟩
  cases eg : g (rho0 N.length as) with
  | stuck => rw [eg] at h; exact h
  | exc C fs ρ' =>
    rw [eg] at h
    have h : PoR K F H (ioA vs as) Q E (endG as (.exc C fs) ρ') := h
    unfold endG at h
    cases ec : collect as 0 ρ' with
    | none => rw [ec] at h; exact h.elim
    | some outs =>
      rw [ec] at h
      exact fun dd fsV σ' F' H' s' S' => h dd fsV F' H' (post S' ec)
  | ok fl ρ' =>
    rw [eg] at h
    cases fl with
    | bk => exact h.elim
    | ct => exact h.elim
    | nx =>
      have h : PoR K F H (ioA vs as) Q E (endG as (.ok (.v .non)) ρ') := h
      unfold endG at h
      cases ec : collect as 0 ρ' with
      | none => rw [ec] at h; exact h.elim
      | some outs =>
        rw [ec] at h
        exact fun σ' F' H' s' S' => h .non F' H' (post S' ec) .non
    | rt rr =>
      have h : PoR K F H (ioA vs as) Q E (endG as (.ok rr) ρ') := h
      unfold endG at h
      cases ec : collect as 0 ρ' with
      | none => rw [ec] at h; exact h.elim
      | some outs =>
        rw [ec] at h
        refine fun v σ' F' H' s' S' rv => h v F' H' (post S' ec) ?_
        cases rr with
        | v d => exact rv
        | m m =>
          obtain ⟨p, e, n, n0, _, hm⟩ := rv
          exact ⟨p, e, n0, n, hm⟩
variable [FE] in
/-- THE RULE for a def -/
theorem fnG {x qual : Str} {st : Stmt} {f : Addr} {fd : FuncData} {N ps : List Str} {k : Nat} {g : SF} (Fd : Fun K x qual st f fd) (Sc : FnScope N ps (defScope st))
    (hbody : ∀ (cdv : Value) (A : Around) (outer : List Env) (s : Shared) (H : Hp) (E : XK) (π : Nat → Addr) (W : WX), RoomG k (cxF P w K mg base N qual (defScope st) f cdv A outer s H E).A → L2N.Takes (cxF P w K mg base N qual (defScope st) f cdv A outer s H E) W →
      PassesOwn (model P w) (cxF P w K mg base N qual (defScope st) f cdv A outer s H E).A (cxF P w K mg base N qual (defScope st) f cdv A outer s H E).env (cxF P w K mg base N qual (defScope st) f cdv A outer s H E).xe →
      PSs (cxF P w K mg base N qual (defScope st) f cdv A outer s H E) (defBody st) (tS K π W g)) : FnG P w K mg base (k + 1) f fd ps (spG K ps.length (bodyG N.length g)) := by
  obtain ⟨oc, od, kV, doc, pm, an, cdv, ct, osl, rfl, lk, hcd⟩ := Fd.ex
  refine ⟨fun vs H Q E ⟨_, _, _, _, h, _⟩ => h, fun A outer s H args us vs Q E hr e0 hb r hsp => ?_⟩
  obtain ⟨F, as, sm, ra, hl, nd, hP⟩ := hsp
  have KX : K.In s.heap := e0.mod.kin.keeps fun b o e => (e0.bs b o e).1
  have lim : s.heap.NoLimit := e0.mod.nolimit.keeps fun b o e => (e0.bs b o e).1
  have hps : ps.length ≤ N.length := by
    have := congrArg List.length Sc.pre
    rw [List.length_take] at this
    omega
  refine codeAny_call_function hr.r.depth (KX _ _ lk) rfl Sc.co Sc.gen rfl (PySem.W.codeRec_of KX hcd) (hb _ _ _ _ ?_)
  refine wpAny_newFunctionEnv_cells Sc.kind (fun ⟨n, v⟩ hy => ?_) fun env he s1 x => ?_
  · rcases Sc.par n (List.of_mem_zip hy).1 with q | q
    · exact .inl q
    · exact .inr ⟨q, PySem.W.cellsFrom_some _ _ _ (.inl q)⟩
  · subst he
    refine ⟨lim.keeps x.toInCall.keep, codeAny_func ?_⟩
    have hx := hbody cdv A outer s H E (fun i => adrV vs[i]?) (fun cls d _ H => E cls d H) (hr.deeper _) (L2N.takes_of rfl rfl rfl rfl) (passes_of rfl)
    have I : Inv (cxOf (L2N.CX P w) P w K mg base N qual (defScope st) f cdv A outer s H E) [] (L2.start N vs) H s1 := inv_start Sc hr.r.hd e0 hl r x
    have run := hx.run [] s1 (L2.start N vs) H { nx := fun _ H' => Q .non H', rt := Q } I (body_end sm ra nd (by omega) hP)
    refine wpAny_mono run (fun fl s' hs => ?_) fun e s' hs => hs
    cases fl with
    | ret u =>
      obtain ⟨v, σ', H', J, rv, q⟩ := hs
      exact ⟨v, H', J.os, J.bare, J.base, J.hok, rv, q⟩
    | next =>
      obtain ⟨σ', H', J, q⟩ := hs
      exact ⟨V.non, H', J.os, J.bare, J.base, J.hok, rfl, q⟩
    | brk =>
      obtain ⟨_, _, _, q⟩ := hs
      exact q.elim
    | cont =>
      obtain ⟨_, _, _, q⟩ := hs
      exact q.elim
end
end FL
/-! FL8: calls of defs. -/
namespace FL
open PySem PySem.Spec PyProof.Rows L2

/-! ### arguments -/
inductive AA where
  | val (d : D)
  | sl (i : Nat)
  | lk (i j : Nat)
  | ln (i : Nat) (L : Lnk)
inductive AAs (K : PySem.W.Frag) (F : Hp) (σ : L2.St) : List V → List AA → Prop
  | nil : AAs K F σ [] []
  | val {v : V} {d : D} {vs : List V} {as : List AA} : Rep K F v d → AAs K F σ vs as → AAs K F σ (v :: vs) (.val d :: as)
  | sl {v : V} {i : Nat} {vs : List V} {as : List AA} : σ[i]? = some (some v) → AAs K F σ vs as → AAs K F σ (v :: vs) (.sl i :: as)
  | lk {v : V} {i j : Nat} {vs : List V} {as : List AA} : σ[i]? = some (some v) → AAs K F σ vs as → AAs K F σ (v :: vs) (.lk i j :: as)
  | ln {a : Addr} {i : Nat} {L : Lnk} {vs : List V} {as : List AA} : σ[i]? = some (some (.ref a)) → AAs K F σ vs as → AAs K F σ (.ref a :: vs) (.ln i L :: as)
def relB (K : PySem.W.Frag) : Rel (List V) (List AA) := fun _ F _ σ _ vs as => AAs K F σ vs as
abbrev BF := Rho → R (List AA)
section
variable {K : PySem.W.Frag} {F F' H H' : Hp} {σ : L2.St} {vs : List V} {as : List AA}
theorem AAs.mono (e : Same F F') : ∀ {vs : List V} {as : List AA}, AAs K F σ vs as → AAs K F' σ vs as
  | _, _, .nil => .nil
  | _, _, .val h r => .val (h.mono e) (AAs.mono e r)
  | _, _, .sl h r => .sl h (AAs.mono e r)
  | _, _, .lk h r => .lk h (AAs.mono e r)
  | _, _, .ln h r => .ln h (AAs.mono e r)
theorem AAs.length : ∀ {vs : List V} {as : List AA}, AAs K F σ vs as → vs.length = as.length
  | _, _, .nil => rfl
  | _, _, .val _ r => congrArg (· + 1) (AAs.length r)
  | _, _, .sl _ r => congrArg (· + 1) (AAs.length r)
  | _, _, .lk _ r => congrArg (· + 1) (AAs.length r)
  | _, _, .ln _ r => congrArg (· + 1) (AAs.length r)
theorem AAs.append : ∀ {vs ws : List V} {as bs : List AA}, AAs K F σ vs as → AAs K F σ ws bs → AAs K F σ (vs ++ ws) (as ++ bs)
  | _, _, _, _, .nil, r => r
  | _, _, _, _, .val h q, r => .val h (AAs.append q r)
  | _, _, _, _, .sl h q, r => .sl h (AAs.append q r)
  | _, _, _, _, .lk h q, r => .lk h (AAs.append q r)
  | _, _, _, _, .ln h q, r => .ln h (AAs.append q r)
theorem AAs.get : ∀ {vs : List V} {as : List AA} (i : Nat), AAs K F σ vs as → (∃ v a, vs[i]? = some v ∧ as[i]? = some a ∧ AAs K F σ [v] [a]) ∨ (vs[i]? = none ∧ as[i]? = none)
  | _, _, _, .nil => .inr ⟨by simp, by simp⟩
  | _, _, 0, .val h _ => .inl ⟨_, _, rfl, rfl, .val h .nil⟩
  | _, _, 0, .sl h _ => .inl ⟨_, _, rfl, rfl, .sl h .nil⟩
  | _, _, 0, .lk h _ => .inl ⟨_, _, rfl, rfl, .lk h .nil⟩
  | _, _, 0, .ln h _ => .inl ⟨_, _, rfl, rfl, .ln h .nil⟩
  | _, _, i + 1, .val _ r => by simpa using AAs.get i r
  | _, _, i + 1, .sl _ r => by simpa using AAs.get i r
  | _, _, i + 1, .lk _ r => by simpa using AAs.get i r
  | _, _, i + 1, .ln _ r => by simpa using AAs.get i r
def pick {α : Type} (ord : List Nat) (l : List α) : List α := ord.filterMap fun i => l[i]?
theorem AAs.pick (r : AAs K F σ vs as) : ∀ ord : List Nat, AAs K F σ (FL.pick ord vs) (FL.pick ord as)
  | [] => .nil
  | i :: ord => by
    have z := AAs.pick r ord
    unfold FL.pick at z ⊢
    rcases r.get i with ⟨v, a, e1, e2, h⟩ | ⟨e1, e2⟩
    · rw [List.filterMap_cons, List.filterMap_cons, e1, e2]
      exact h.append z
    · rw [List.filterMap_cons, List.filterMap_cons, e1, e2]
      exact z
theorem vals_get : ∀ {vs : List V} {us : List Value} (i : Nat), Vals vs us → (∃ v u, vs[i]? = some v ∧ us[i]? = some u ∧ Vals [v] [u]) ∨ (vs[i]? = none ∧ us[i]? = none)
  | _, _, _, .nil => .inr ⟨by simp, by simp⟩
  | _, _, 0, .cons h _ => .inl ⟨_, _, rfl, rfl, .cons h .nil⟩
  | _, _, i + 1, .cons _ r => by simpa using vals_get i r
theorem vals_pick {vs : List V} {us : List Value} (r : Vals vs us) : ∀ ord : List Nat, Vals (pick ord vs) (pick ord us)
  | [] => .nil
  | i :: ord => by
    have z := vals_pick r ord
    unfold pick at z ⊢
    rcases vals_get i r with ⟨v, a, e1, e2, h⟩ | ⟨e1, e2⟩
    · rw [List.filterMap_cons, List.filterMap_cons, e1, e2]
      exact h.append z
    · rw [List.filterMap_cons, List.filterMap_cons, e1, e2]
      exact z
end
def ioM (ρ : Rho) (i : Nat) : Option M := match ρ[i]? with
  | some (.own m) => some m
  | some (.io m) => some m
  | _ => none
def lnkC (ρ : Rho) (i : Nat) : Option (Addr × Str × Nat) := match ρ[i]? with
  | some (.lk C f j) => some (C, f, j)
  | _ => none
def toArgs (ρ : Rho) : List AA → Option (List Arg)
  | [] => some []
  | .lk i j :: as => (lnkC ρ i).bind fun p => (toArgs ρ as).map (.lk p.1 p.2.1 j :: ·)
  | .ln _ L :: as => (toArgs ρ as).map (.ln L :: ·)
  | .val d :: as => (toArgs ρ as).map (.val d :: ·)
  | .sl i :: as => (ioM ρ i).bind fun m => (toArgs ρ as).map (.io m :: ·)
def slsA : List AA → List Nat
  | [] => []
  | .lk _ _ :: as => slsA as
  | .ln _ _ :: as => slsA as
  | .val _ :: as => slsA as
  | .sl i :: as => i :: slsA as
def newM : List AA → List M → Nat → Option M
  | .sl j :: as, m :: ms, i => if i = j then some m else newM as ms i
  | .val _ :: as, ms, i => newM as ms i
  | .lk _ _ :: as, ms, i => newM as ms i
  | .ln _ _ :: as, ms, i => newM as ms i
  | _, _, _ => none
def putM (m : M) : Slot → Slot
  | .own _ => .own m
  | .io _ => .io m
  | s => s
def putA (as : List AA) (outs : List M) (ρ : Rho) : Rho := ρ.mapIdx fun i s => match newM as outs i with
  | some m => putM m s
  | none => s
def nodN : List Nat → Bool
  | [] => true
  | a :: l => !(l.contains a) && nodN l
theorem nodN_of : ∀ {l : List Nat}, nodN l = true → l.Nodup
  | [], _ => List.nodup_nil
  | a :: l, h => by
    unfold nodN at h
    rw [Bool.and_eq_true] at h
    refine List.nodup_cons.mpr ⟨fun z => ?_, nodN_of h.2⟩
    have := h.1
    rw [List.contains_iff_mem.mpr z] at this
    cases this
section
variable [FE]
variable {K : PySem.W.Frag} {π : Nat → Addr} {c : Cfg} {F F' H H' : Hp} {σ : L2.St} {ρ : Rho} {vs : List V} {as : List AA} {gs : List Arg} {outs : List M}
theorem Sta.ioM (S : Sta K π c F H σ ρ) {i : Nat} {m : M} (h : FL.ioM ρ i = some m) : ∃ p, σ[i]? = some (some (.ref p)) ∧ F p = none ∧ MRep K F H p m ∧ OwnAt σ ρ i p := by
  unfold FL.ioM at h
  split at h
  · rename_i m' e
    cases h
    obtain ⟨p, e1, e2, _, e4⟩ := S.rep i _ e
    exact ⟨p, e1, e2, e4, e1, m, .inl e⟩
  · rename_i m' e
    cases h
    obtain ⟨e1, e2, _, e4⟩ := S.rep i _ e
    exact ⟨π i, e1, e2, e4, e1, m, .inr e⟩
  · cases h
theorem Sta.lnkC (S : Sta K π c F H σ ρ) {i : Nat} {p : Addr × Str × Nat} (h : FL.lnkC ρ i = some p) : ∃ a dx, σ[i]? = some (some (.ref a)) ∧ F a = some (.ins p.1 dx [(p.2.1, .ref (π p.2.2))]) := by
  unfold FL.lnkC at h
  split at h
  · rename_i C f j e
    cases h
    exact S.rep i _ e
  · cases h
theorem lk_inv {i j : Nat} {as : List AA} (e : toArgs ρ (.lk i j :: as) = some gs) : ∃ p l, FL.lnkC ρ i = some p ∧ toArgs ρ as = some l ∧ gs = .lk p.1 p.2.1 j :: l := by
  unfold toArgs at e
  cases e0 : FL.lnkC ρ i with
  | none => rw [e0] at e; cases e
  | some p =>
    rw [e0] at e
    cases e1 : toArgs ρ as with
    | none => rw [e1] at e; cases e
    | some l =>
      rw [e1] at e
      cases e
      exact ⟨p, l, rfl, rfl, rfl⟩
theorem AAs.args (S : Sta K π c F H σ ρ) : ∀ {vs : List V} {as : List AA} {gs : List Arg}, AAs K F σ vs as → toArgs ρ as = some gs → ArgsR K F H vs gs
  | _, _, _, .nil, e => by
    cases e
    exact .nil
  | _, _, gs, .lk h r, e => by
    obtain ⟨p, l, e0, e1, rfl⟩ := lk_inv e
    obtain ⟨a, dx, a1, _⟩ := S.lnkC e0
    rw [h] at a1
    cases a1
    exact .lk (AAs.args S r e1)
  | _, _, gs, .ln (as := as) h r, e => by
    unfold toArgs at e
    cases e1 : toArgs ρ as with
    | none => rw [e1] at e; cases e
    | some l =>
      rw [e1] at e
      cases e
      exact .ln (AAs.args S r e1)
  | _, _, gs, .val (as := as) h r, e => by
    unfold toArgs at e
    cases e1 : toArgs ρ as with
    | none => rw [e1] at e; cases e
    | some l =>
      rw [e1] at e
      cases e
      exact .val h (AAs.args S r e1)
  | _, _, gs, .sl (i := i) (as := as) h r, e => by
    unfold toArgs at e
    cases e0 : FL.ioM ρ i with
    | none => rw [e0] at e; cases e
    | some m =>
      rw [e0] at e
      cases e1 : toArgs ρ as with
      | none => rw [e1] at e; cases e
      | some l =>
        rw [e1] at e
        cases e
        obtain ⟨p, a1, a2, a3, a4⟩ := S.ioM e0
        rw [h] at a1
        cases a1
        exact .io a2 a3 (AAs.args S r e1)
theorem AAs.own (S : Sta K π c F H σ ρ) {q : Addr} : ∀ {vs : List V} {as : List AA} {gs : List Arg}, AAs K F σ vs as → toArgs ρ as = some gs → q ∈ ioA vs gs → ∃ i ∈ slsA as, OwnAt σ ρ i q
  | _, _, _, .nil, e, h => by
    cases e
    simp [ioA] at h
  | _, _, gs, .lk h r, e, hq => by
    obtain ⟨p, l, e0, e1, rfl⟩ := lk_inv e
    obtain ⟨i, hi, o⟩ := AAs.own S r e1 (by simpa [ioA] using hq)
    exact ⟨i, by simpa [slsA] using hi, o⟩
  | _, _, gs, .ln (as := as) h r, e, hq => by
    unfold toArgs at e
    cases e1 : toArgs ρ as with
    | none => rw [e1] at e; cases e
    | some l =>
      rw [e1] at e
      cases e
      obtain ⟨i, hi, o⟩ := AAs.own S r e1 (by simpa [ioA] using hq)
      exact ⟨i, by simpa [slsA] using hi, o⟩
  | _, _, gs, .val (as := as) h r, e, hq => by
    unfold toArgs at e
    cases e1 : toArgs ρ as with
    | none => rw [e1] at e; cases e
    | some l =>
      rw [e1] at e
      cases e
      obtain ⟨i, hi, o⟩ := AAs.own S r e1 (by simpa [ioA] using hq)
      exact ⟨i, by simpa [slsA] using hi, o⟩
  | _, _, gs, .sl (i := i) (as := as) h r, e, hq => by
    unfold toArgs at e
    cases e0 : FL.ioM ρ i with
    | none => rw [e0] at e; cases e
    | some m =>
      rw [e0] at e
      cases e1 : toArgs ρ as with
      | none => rw [e1] at e; cases e
      | some l =>
        rw [e1] at e
        cases e
        obtain ⟨p, a1, a2, a3, a4⟩ := S.ioM e0
        rw [h] at a1
        cases a1
        rw [ioA_io] at hq
        rcases List.mem_cons.mp hq with z | z
        · subst z
          exact ⟨i, by simp [slsA], a4⟩
        · obtain ⟨j, hj, o⟩ := AAs.own S r e1 z
          exact ⟨j, by simp [slsA, hj], o⟩
theorem AAs.nod (S : Sta K π c F H σ ρ) : ∀ {vs : List V} {as : List AA} {gs : List Arg}, AAs K F σ vs as → toArgs ρ as = some gs → (slsA as).Nodup → (ioA vs gs).Nodup
  | _, _, _, .nil, e, _ => by
    cases e
    exact List.nodup_nil
  | _, _, gs, .lk h r, e, nd => by
    obtain ⟨p, l, e0, e1, rfl⟩ := lk_inv e
    simpa [ioA] using AAs.nod S r e1 (by simpa [slsA] using nd)
  | _, _, gs, .ln (as := as) h r, e, nd => by
    unfold toArgs at e
    cases e1 : toArgs ρ as with
    | none => rw [e1] at e; cases e
    | some l =>
      rw [e1] at e
      cases e
      simpa [ioA] using AAs.nod S r e1 (by simpa [slsA] using nd)
  | _, _, gs, .val (as := as) h r, e, nd => by
    unfold toArgs at e
    cases e1 : toArgs ρ as with
    | none => rw [e1] at e; cases e
    | some l =>
      rw [e1] at e
      cases e
      simpa [ioA] using AAs.nod S r e1 (by simpa [slsA] using nd)
  | _, _, gs, .sl (i := i) (as := as) h r, e, nd => by
    unfold toArgs at e
    cases e0 : FL.ioM ρ i with
    | none => rw [e0] at e; cases e
    | some m =>
      rw [e0] at e
      cases e1 : toArgs ρ as with
      | none => rw [e1] at e; cases e
      | some l =>
        rw [e1] at e
        cases e
        obtain ⟨p, a1, a2, a3, a4⟩ := S.ioM e0
        rw [h] at a1
        cases a1
        have nd := List.nodup_cons.mp (show (i :: slsA as).Nodup from nd)
        rw [ioA_io]
        refine List.nodup_cons.mpr ⟨fun z => ?_, AAs.nod S r e1 nd.2⟩
        obtain ⟨j, hj, o⟩ := AAs.own S r e1 z
        have := S.dis i j _ a4 o
        subst this
        exact nd.1 hj
theorem AAs.new (S : Sta K π c F H σ ρ) {rr : Addr → M → Prop} {i : Nat} {q : Addr} (ow : OwnAt σ ρ i q) : ∀ {vs : List V} {as : List AA} {gs : List Arg} {outs : List M}, AAs K F σ vs as → toArgs ρ as = some gs → Paired rr (ioA vs gs) outs →
    (∃ m, newM as outs i = some m ∧ rr q m) ∨ (newM as outs i = none ∧ q ∉ ioA vs gs)
  | _, _, _, _, .nil, e, pr => by
    cases e
    exact .inr ⟨rfl, by simp [ioA]⟩
  | _, _, gs, outs, .lk h r, e, pr => by
    obtain ⟨p, l, e0, e1, rfl⟩ := lk_inv e
    have z := AAs.new S ow r e1 (rr := rr) (outs := outs) (by simpa [ioA] using pr)
    simpa [newM, ioA] using z
  | _, _, gs, outs, .ln (as := as) h r, e, pr => by
    unfold toArgs at e
    cases e1 : toArgs ρ as with
    | none => rw [e1] at e; cases e
    | some l =>
      rw [e1] at e
      cases e
      have z := AAs.new S ow r e1 (rr := rr) (outs := outs) (by simpa [ioA] using pr)
      simpa [newM, ioA] using z
  | _, _, gs, outs, .val (as := as) h r, e, pr => by
    unfold toArgs at e
    cases e1 : toArgs ρ as with
    | none => rw [e1] at e; cases e
    | some l =>
      rw [e1] at e
      cases e
      have z := AAs.new S ow r e1 (rr := rr) (outs := outs) (by simpa [ioA] using pr)
      simpa [newM, ioA] using z
  | _, _, gs, outs, .sl (i := j) (as := as) h r, e, pr => by
    unfold toArgs at e
    cases e0 : FL.ioM ρ j with
    | none => rw [e0] at e; cases e
    | some m =>
      rw [e0] at e
      cases e1 : toArgs ρ as with
      | none => rw [e1] at e; cases e
      | some l =>
        rw [e1] at e
        cases e
        obtain ⟨p, a1, a2, a3, a4⟩ := S.ioM e0
        rw [h] at a1
        cases a1
        rw [ioA_io] at pr ⊢
        cases pr with
        | @cons _ m1 _ ms h1 h2 =>
          by_cases z : i = j
          · subst z
            have : q = p := by
              have := ow.1
              rw [h] at this
              cases this
              rfl
            subst this
            exact .inl ⟨m1, by show (if i = i then _ else _) = _; rw [if_pos rfl], h1⟩
          · have e3 : newM (.sl j :: as) (m1 :: ms) i = newM as ms i := by show (if i = j then _ else _) = _; rw [if_neg z]
            rw [e3]
            rcases AAs.new S ow r e1 h2 with ⟨m2, y1, y2⟩ | ⟨y1, y2⟩
            · exact .inl ⟨m2, y1, y2⟩
            · refine .inr ⟨y1, fun w => ?_⟩
              rcases List.mem_cons.mp w with w | w
              · subst w
                exact z (S.dis i j _ ow a4)
              · exact y2 w
theorem paired_mem {α β : Type} {r : α → β → Prop} : ∀ {xs : List α} {ys : List β} {x : α}, Paired r xs ys → x ∈ xs → ∃ y, r x y
  | _, _, _, .nil, h => by cases h
  | _, _, _, .cons h t, m => by
    rcases List.mem_cons.mp m with e | m
    · subst e
      exact ⟨_, h⟩
    · exact paired_mem t m
/-- behind a call -/
theorem Sta.post (S : Sta K π c F H σ ρ) (r : AAs K F σ vs as) (e : toArgs ρ as = some gs) (P : PostG K F H (ioA vs gs) outs F' H') : Sta K π c F' H' σ (putA as outs ρ) := by
  have own : ∀ {q}, q ∈ ioA vs gs → ∃ i, OwnAt σ ρ i q := fun hq => by
    obtain ⟨i, _, o⟩ := r.own S e hq
    exact ⟨i, o⟩
  have lk : ∀ {i s}, (putA as outs ρ)[i]? = some s → ∃ s0, ρ[i]? = some s0 ∧ s = (match newM as outs i with | some m => putM m s0 | none => s0) := fun {i s} h => by
    unfold putA at h
    rw [List.getElem?_mapIdx] at h
    cases e : ρ[i]? with
    | none => rw [e] at h; cases h
    | some s0 =>
      rw [e] at h
      cases h
      exact ⟨s0, rfl, rfl⟩
  have any : ∀ {q o}, H q = some o → ∃ o', H' q = some o' := fun {q o} ho => by
    by_cases z : q ∈ ioA vs gs
    · obtain ⟨m, hm⟩ := paired_mem P.outs z
      exact hm.here
    · by_cases zt : ∃ ps, o = .tbl ps
      · obtain ⟨ps, rfl⟩ := zt
        obtain ⟨ps', e'⟩ := P.t.tk q ps ho
        exact ⟨_, e'⟩
      · exact ⟨o, P.keep q o ho z fun ps y => zt ⟨ps, y⟩⟩
  refine ⟨fun q o eq n1 n2 nt => ?_, fun q hq => ?_, S.f0.trans P.f, P.fh, fun q o e1 e2 => ?_, by unfold putA; rw [List.length_mapIdx]; exact S.len, fun i s hs => ?_, fun i j p h1 h2 => ?_, ⟨P.t.tb, fun q ps e => by
    obtain ⟨ps', e'⟩ := S.t.tk q ps e
    exact P.t.tk q ps' e', P.t.nt⟩⟩
  · refine P.keep q o (S.h0 q o eq n1 n2 nt) (fun z => ?_) nt
    obtain ⟨i, o'⟩ := own z
    rcases (S.ownAt o').2.1 with y | y | y
    · rw [eq] at y; cases y
    · exact n2 y
    · exact n1 y
  · obtain ⟨o, ho⟩ := S.hio q hq
    exact any ho
  · obtain ⟨o', e'⟩ := S.any e1
    exact P.nf q o' e' (S.nf q o e1 e2)
  · obtain ⟨s0, h0, rfl⟩ := lk hs
    have z := S.rep i s0 h0
    cases s0 with
    | lk C f jj =>
      obtain ⟨a, dx, e1, h1⟩ := z
      cases newM as outs i with
      | none => exact ⟨a, dx, e1, P.f _ _ h1⟩
      | some m => exact ⟨a, dx, e1, P.f _ _ h1⟩
    | ln L =>
      obtain ⟨a, e1, h1⟩ := z
      cases newM as outs i with
      | none => exact ⟨a, e1, LnkF.mono P.f h1⟩
      | some m => exact ⟨a, e1, LnkF.mono P.f h1⟩
    | no =>
      cases newM as outs i <;> trivial
    | val d =>
      obtain ⟨v, e1, r1⟩ := z
      cases newM as outs i with
      | none => exact ⟨v, e1, r1.mono P.f⟩
      | some m => exact ⟨v, e1, r1.mono P.f⟩
    | own m0 =>
      obtain ⟨p, e1, e2, e3, e4⟩ := z
      obtain ⟨o, ho, hmu⟩ := e4.mut
      rcases r.new S (i := i) (q := p) ⟨e1, m0, .inl h0⟩ e P.outs with ⟨m, y1, y2⟩ | ⟨y1, y2⟩
      · rw [y1]
        exact ⟨p, e1, P.nf p o ho e2, e3, y2⟩
      · rw [y1]
        exact ⟨p, e1, P.nf p o ho e2, e3, e4.mono P.f fun o' ho' => P.keep p o' ho' y2 (by rw [ho] at ho'; cases ho'; exact hmu.nt)⟩
    | io m0 =>
      obtain ⟨e1, e2, e3, e4⟩ := z
      obtain ⟨o, ho, hmu⟩ := e4.mut
      rcases r.new S (i := i) (q := π i) ⟨e1, m0, .inr h0⟩ e P.outs with ⟨m, y1, y2⟩ | ⟨y1, y2⟩
      · rw [y1]
        exact ⟨e1, P.nf _ o ho e2, e3, y2⟩
      · rw [y1]
        exact ⟨e1, P.nf _ o ho e2, e3, e4.mono P.f fun o' ho' => P.keep _ o' ho' y2 (by rw [ho] at ho'; cases ho'; exact hmu.nt)⟩
  · have key : ∀ j, OwnAt σ (putA as outs ρ) j p → OwnAt σ ρ j p := fun j h => by
      obtain ⟨e, m, h⟩ := h
      rcases h with h | h
      · obtain ⟨s0, h0, e0⟩ := lk h
        cases s0 with
        | own m0 => exact ⟨e, m0, .inl h0⟩
        | io m0 => exact ⟨e, m0, .inr h0⟩
        | no => cases hn : newM as outs j <;> rw [hn] at e0 <;> cases e0
        | val d => cases hn : newM as outs j <;> rw [hn] at e0 <;> cases e0
        | lk C f jj => cases hn : newM as outs j <;> rw [hn] at e0 <;> cases e0
        | ln L => cases hn : newM as outs j <;> rw [hn] at e0 <;> cases e0
      · obtain ⟨s0, h0, e0⟩ := lk h
        cases s0 with
        | own m0 => exact ⟨e, m0, .inl h0⟩
        | io m0 => exact ⟨e, m0, .inr h0⟩
        | no => cases hn : newM as outs j <;> rw [hn] at e0 <;> cases e0
        | val d => cases hn : newM as outs j <;> rw [hn] at e0 <;> cases e0
        | lk C f jj => cases hn : newM as outs j <;> rw [hn] at e0 <;> cases e0
        | ln L => cases hn : newM as outs j <;> rw [hn] at e0 <;> cases e0
    exact S.dis i j p (key i h1) (key j h2)
end

/-! ### the reading of a call -/
def okA (n : Nat) (as : List AA) : Bool := as.length == n && nodN (slsA as)
def callG {α : Type} (n : Nat) (G : List Arg → RG) (f : BF) (k : Res → Rho → R α) : Rho → R α := fun ρ => (f ρ).bind fun as ρ => if okA n as = true then match toArgs ρ as with
    | some gs => match G gs with
      | .ok r outs => k r (putA as outs ρ)
      | .exc C fs outs => .exc C fs (putA as outs ρ)
      | .stuck => .stuck
    | none => .stuck
  else .stuck
def asE : Res → Rho → R D
  | .v d, ρ => .ok d ρ
  | .m (.lst ds), ρ => .ok (.lst ds) ρ
  | .m (.dct ds), ρ => .ok (.dct ds) ρ
  | .m _, _ => .stuck
def asM : Res → Rho → R M
  | .m m, ρ => .ok m ρ
  | .v _, _ => .stuck
abbrev callE (n : Nat) (G : List Arg → RG) (f : BF) : EF := callG n G f asE
abbrev callM (n : Nat) (G : List Arg → RG) (f : BF) : Rho → R M := callG n G f asM
section
variable [FE]
variable {X : Cx} {π : Nat → Addr} {W : WX} {e : Expr} {es : List Expr} {pos p : Pos} {k : Nat} {f : Addr} {fd : FuncData} {ps ks : List Str} {G : List Arg → RG} {x : Str} {kws : List Keyword} {nm : Option Str} {kpos : Pos}
abbrev tB (K : PySem.W.Frag) (π : Nat → Addr) (W : WX) (f : BF) : TA := tG K π W (relB K) f
def nilB : BF := fun ρ => .ok [] ρ
def cnsB (f : EF) (g : BF) : BF := fun ρ => (f ρ).bind fun x ρ => (g ρ).bind fun xs ρ => .ok (.val x :: xs) ρ
def slB (i : Nat) (g : BF) : BF := fun ρ => match ioM ρ i with
  | some _ => (g ρ).bind fun xs ρ => .ok (.sl i :: xs) ρ
  | none => .stuck
theorem rd_nilB {K : PySem.W.Frag} {σ : L2.St} {H : Hp} {Q : List V → Hp → Prop} : tB K π W nilB σ H Q → tNil σ H Q := fun ⟨c, F, ρ, S, P⟩ => P [] F H (Same.refl _) S .nil
theorem rd_cnsB {K : PySem.W.Frag} {σ : L2.St} {H : Hp} {Q : List V → Hp → Prop} {f : EF} {g : BF} : tB K π W (cnsB f g) σ H Q → tCons (tE K π W f) (tB K π W g) σ H Q := fun ⟨c, F, ρ, S, P⟩ => by
  refine po_bind S P fun x F1 H1 ρ1 dx s1 S1 r1 P1 => ?_
  refine po_bind S1 P1 fun xs F2 H2 ρ2 ds s2 S2 r2 P2 => ?_
  exact P2 (x :: xs) F2 H2 (Same.refl _) S2 (.val (Rep.mono s2 r1) r2)
theorem rd_slB {K : PySem.W.Frag} {σ : L2.St} {H : Hp} {Q : List V → Hp → Prop} {i : Nat} {g : BF} : tB K π W (slB i g) σ H Q → tCons (tVar i) (tB K π W g) σ H Q := fun ⟨c, F, ρ, S, P⟩ => by
  unfold slB at P
  cases e : ioM ρ i with
  | none => rw [e] at P; exact P.elim
  | some m =>
    rw [e] at P
    obtain ⟨p, e1, _⟩ := S.ioM e
    refine ⟨_, e1, ?_⟩
    refine po_bind S P fun xs F2 H2 ρ2 ds s2 S2 r2 P2 => ?_
    exact P2 (_ :: xs) F2 H2 (Same.refl _) S2 (.sl e1 r2)
theorem fb_nil : PA X [] (tB X.K π W nilB) := PA.imp pa_nil fun σ H Q => rd_nilB
theorem fb_cons {f : EF} {g : BF} (ha : PE X e (tE X.K π W f)) (hr : PA X es (tB X.K π W g)) (hs : starEach (e :: es) X.env = (false, eval e X.env) :: starEach es X.env := by rfl) : PA X (e :: es) (tB X.K π W (cnsB f g)) :=
  PA.imp (pa_cons ha hr hs) fun σ H Q => rd_cnsB
theorem fb_sl {i : Nat} {g : BF} (ha : PE X e (tVar i)) (hr : PA X es (tB X.K π W g)) (hs : starEach (e :: es) X.env = (false, eval e X.env) :: starEach es X.env := by rfl) : PA X (e :: es) (tB X.K π W (slB i g)) :=
  PA.imp (pa_cons ha hr hs) fun σ H Q => rd_slB
theorem PK.imp {t t' : TA} (h : PK X kws t) (k : ∀ σ H Q, t' σ H Q → t σ H Q) : PK X kws t' := ⟨fun pos pins s σ H Q I q => h.run pos pins s σ H Q I (k σ H Q q)⟩
theorem fk_nil : PK X [] (tB X.K π W nilB) := PK.imp pk_nil fun σ H Q => rd_nilB
theorem fk_cons {f : EF} {g : BF} (ha : PE X e (tE X.K π W f)) (hr : PK X kws (tB X.K π W g)) : PK X (⟨nm, e, kpos⟩ :: kws) (tB X.K π W (cnsB f g)) :=
  PK.imp (pk_cons ha hr) fun σ H Q => rd_cnsB
/-- the callee runs -/
theorem run_fnG {pins : List (Addr × Obj)} {σ : L2.St} {H : Hp} {s : Shared} {Q : VK} {us : List Value} {vs : List V} {sp : Sp} {args : Args} (F : FnG X.prog X.w X.K X.mg X.base k f fd ps sp) (hr : RoomG k X.A) (tk : L2N.Takes X W)
    (hb : BindsTo s fd args (ps.zip us)) (I : Inv X pins σ H s) (r : Vals vs us) (h : sp vs H Q fun cls d H' => W cls d σ H') : codeAny (model X.prog X.w) X.A (.call (.ref f) args) (fun r s' => match r with
      | .ok (.ret u) => EP X pins σ Q u s'
      | .ok _ => False
      | .error e => X.xe e s') s := by
  refine codeAny_mono (F.run X.A X.stack s H args us vs Q _ hr I.env0 hb r h) fun r s' hq => ?_
  cases r with
  | error e => exact L2N.passAt tk σ pins H s e s' I hq
  | ok fl =>
    cases fl with
    | ret u => exact I.after hq
    | next => exact False.elim hq
    | brk => exact False.elim hq
    | cont => exact False.elim hq
/-- from the reading of the arguments, with what they are -/
theorem rd_callP {α : Type} {rel : Rel V α} {σ : L2.St} {H : Hp} {Q : VK} {vs : List V} {as : List AA} {c : Cfg} {F : Hp} {ρ : Rho} {n : Nat} {kk : Res → Rho → R α}
    (hk : ∀ {r : Res} {ρ' : Rho} {v : V} {F' H' : Hp}, ResR X.K H F' H' v r → Sta X.K π c F' H' σ ρ' → c.H0 = c.H0 → (∀ q, H q = none → c.H0 q = none ∧ ∀ j, ¬ OwnAt σ ρ' j q) → Po X.K π W rel c F' σ Q (kk r ρ') → Q v H')
    (S : Sta X.K π c F H σ ρ) (ra : AAs X.K F σ vs as) (P : Po X.K π W rel c F σ Q (if okA n as = true then match toArgs ρ as with
      | some gs => match G gs with
        | .ok r outs => kk r (putA as outs ρ)
        | .exc C fs outs => .exc C fs (putA as outs ρ)
        | .stuck => .stuck
      | none => .stuck
    else .stuck)) : ∃ gs, toArgs ρ as = some gs ∧ (Same F H ∧ LamX.Tabs FE.tabs H ∧ NoT F) ∧ ArgsR X.K F H vs gs ∧ vs.length = n ∧ (ioA vs gs).Nodup ∧ PoR X.K F H (ioA vs gs) Q (fun cls d H' => W cls d σ H') (G gs) := by
  split at P
  · rename_i hok
    unfold okA at hok
    rw [Bool.and_eq_true] at hok
    have hl := beq_iff_eq.mp hok.1
    have hn := nodN_of hok.2
    cases e : toArgs ρ as with
    | none => rw [e] at P; exact P.elim
    | some gs =>
      rw [e] at P
      refine ⟨gs, rfl, ⟨S.f, S.t.tb, S.t.nt⟩, ra.args S e, ra.length.trans hl, ra.nod S e hn, ?_⟩
      have P : Po X.K π W rel c F σ Q (match G gs with
        | .ok r outs => kk r (putA as outs ρ)
        | .exc C fs outs => .exc C fs (putA as outs ρ)
        | .stuck => .stuck) := P
      cases eg : G gs with
      | stuck => rw [eg] at P; exact P
      | exc C fs outs =>
        rw [eg] at P
        exact fun dd fsV F' H' po hd hf hr => P dd fsV F' H' po.f (S.post ra e po) hd hf hr
      | ok r outs =>
        rw [eg] at P
        refine fun v F' H' po rv => hk rv (S.post ra e po) rfl (fun q hq => ?_) (Po.mono po.f P)
        refine ⟨?_, fun j hj => ?_⟩
        · cases z : c.H0 q with
          | none => rfl
          | some o =>
            obtain ⟨o', e'⟩ := S.any z
            rw [hq] at e'
            cases e'
        · have S' := S.post ra e po
          have z : ∃ m, ρ[j]? = some (.own m) ∨ ρ[j]? = some (.io m) := by
            obtain ⟨_, m, h⟩ := hj
            have lk : ∃ s0, ρ[j]? = some s0 ∧ ((∃ m, s0 = .own m) ∨ ∃ m, s0 = .io m) := by
              rcases h with h | h
              · unfold putA at h
                rw [List.getElem?_mapIdx] at h
                cases e0 : ρ[j]? with
                | none => rw [e0] at h; cases h
                | some s0 =>
                  rw [e0] at h
                  cases s0 with
                  | own m0 => exact ⟨_, rfl, .inl ⟨m0, rfl⟩⟩
                  | io m0 => exact ⟨_, rfl, .inr ⟨m0, rfl⟩⟩
                  | no => cases hn : newM as outs j <;> simp [hn, putM] at h
                  | val d => cases hn : newM as outs j <;> simp [hn, putM] at h
                  | lk C f jj => cases hn : newM as outs j <;> simp [hn, putM] at h
                  | ln L => cases hn : newM as outs j <;> simp [hn, putM] at h
              · unfold putA at h
                rw [List.getElem?_mapIdx] at h
                cases e0 : ρ[j]? with
                | none => rw [e0] at h; cases h
                | some s0 =>
                  rw [e0] at h
                  cases s0 with
                  | own m0 => exact ⟨_, rfl, .inl ⟨m0, rfl⟩⟩
                  | io m0 => exact ⟨_, rfl, .inr ⟨m0, rfl⟩⟩
                  | no => cases hn : newM as outs j <;> simp [hn, putM] at h
                  | val d => cases hn : newM as outs j <;> simp [hn, putM] at h
                  | lk C f jj => cases hn : newM as outs j <;> simp [hn, putM] at h
                  | ln L => cases hn : newM as outs j <;> simp [hn, putM] at h
            obtain ⟨s0, h0, ⟨m, rfl⟩ | ⟨m, rfl⟩⟩ := lk
            · exact ⟨m, .inl h0⟩
            · exact ⟨m, .inr h0⟩
          obtain ⟨o, ho⟩ := (S.ownAt ⟨hj.1, z⟩).2.2
          rw [hq] at ho
          cases ho
  · exact P.elim
/-- from the reading of the arguments -/
theorem rd_call {α : Type} {rel : Rel V α} {σ : L2.St} {H : Hp} {Q : VK} {vs : List V} {as : List AA} {c : Cfg} {F : Hp} {ρ : Rho} {n : Nat} {kk : Res → Rho → R α}
    (hk : ∀ {r : Res} {ρ' : Rho} {v : V} {F' H' : Hp}, ResR X.K H F' H' v r → Sta X.K π c F' H' σ ρ' → c.H0 = c.H0 → (∀ q, H q = none → c.H0 q = none ∧ ∀ j, ¬ OwnAt σ ρ' j q) → Po X.K π W rel c F' σ Q (kk r ρ') → Q v H')
    (S : Sta X.K π c F H σ ρ) (ra : AAs X.K F σ vs as) (P : Po X.K π W rel c F σ Q (if okA n as = true then match toArgs ρ as with
      | some gs => match G gs with
        | .ok r outs => kk r (putA as outs ρ)
        | .exc C fs outs => .exc C fs (putA as outs ρ)
        | .stuck => .stuck
      | none => .stuck
    else .stuck)) : spG X.K n G vs H Q fun cls d H' => W cls d σ H' := by
  obtain ⟨gs, _, z⟩ := rd_callP (kk := kk) hk S ra P
  exact ⟨F, gs, z⟩
theorem frz_new {K : PySem.W.Frag} {c : Cfg} {F H : Hp} {σ : L2.St} {ρ : Rho} (S : Sta K π c F H σ ρ) {p : Addr} {vs : List V} (ho : H p = some (.lst vs)) (f1 : F p = none) (f2 : c.H0 p = none) (f3 : ∀ j, ¬ OwnAt σ ρ j p) : Same F (upd F p (.lst vs)) ∧ Sta K π c (upd F p (.lst vs)) H σ ρ := by
  have sm : Same F (upd F p (.lst vs)) := sm_new f1
  refine ⟨sm, S.h0, S.hio, S.f0.trans sm, fun a u q => ?_, fun q o e n => ?_, S.len, fun i s hs => ?_, S.dis, ⟨S.t.tb, S.t.tk, S.t.nt.upd ⟨(by intro ps z; cases z), fun _ z => (nomatch z), fun _ _ z => (nomatch z)⟩⟩⟩
  · by_cases z : a = p
    · subst z
      rw [upd_same] at q
      cases q
      exact ho
    · rw [upd_ne z] at q
      exact S.f _ _ q
  · rw [upd_ne (fun z => by subst z; rw [f2] at e; cases e)]
    exact S.nf q o e n
  · have z := S.rep i s hs
    cases s with
    | lk C f jj => obtain ⟨a, dx, e1, h1⟩ := z; exact ⟨a, dx, e1, sm _ _ h1⟩
    | ln L => obtain ⟨a, e1, h1⟩ := z; exact ⟨a, e1, LnkF.mono sm h1⟩
    | no => trivial
    | val d => obtain ⟨w, e1, q⟩ := z; exact ⟨w, e1, q.mono sm⟩
    | own m' =>
      obtain ⟨q, e1, e2, e3, q1⟩ := z
      have nq : q ≠ p := fun w => by subst w; exact f3 i ⟨e1, m', .inl hs⟩
      exact ⟨q, e1, by rw [upd_ne nq]; exact e2, e3, q1.mono sm fun _ hu => hu⟩
    | io m' =>
      obtain ⟨e1, e2, e3, q1⟩ := z
      have nq : π i ≠ p := fun w => by rw [w] at e1; exact f3 i ⟨e1, m', .inr hs⟩
      exact ⟨e1, by rw [upd_ne nq]; exact e2, e3, q1.mono sm fun _ hu => hu⟩
theorem k_asE {σ : L2.St} {H : Hp} {Q : VK} {c : Cfg} {r : Res} {ρ' : Rho} {v : V} {F' H' : Hp} (rv : ResR X.K H F' H' v r) (S : Sta X.K π c F' H' σ ρ') (nw : ∀ q, H q = none → c.H0 q = none ∧ ∀ j, ¬ OwnAt σ ρ' j q) (P : Po X.K π W (relE X.K) c F' σ Q (asE r ρ')) : Q v H' := by
  cases r with
  | v d => exact P v F' H' (Same.refl _) S rv
  | m m =>
    cases m with
    | ins _ _ => exact P.elim
    | dtu _ => exact P.elim
    | lst ds =>
      obtain ⟨p, rfl, n, nF, vs, ho, r⟩ := rv
      obtain ⟨sm, S'⟩ := frz_new S ho nF (nw p n).1 (nw p n).2
      exact P _ _ H' sm S' (.lst upd_same (r.mono sm))
    | dct ds =>
      obtain ⟨p, rfl, n, nF, kvs, ho, hk, r⟩ := rv
      obtain ⟨sm, S'⟩ := frz_newG S (by intro ps z; cases z) ho nF (nw p n).1 (nw p n).2
      exact P _ _ H' sm S' (.dct upd_same hk (r.mono sm))
theorem k_asM {σ : L2.St} {H : Hp} {Q : VK} {c : Cfg} {r : Res} {ρ' : Rho} {v : V} {F' H' : Hp} (rv : ResR X.K H F' H' v r) (S : Sta X.K π c F' H' σ ρ') (nw : ∀ q, H q = none → c.H0 q = none ∧ ∀ j, ¬ OwnAt σ ρ' j q) (P : Po X.K π W (relM X.K) c F' σ Q (asM r ρ')) : Q v H' := by
  cases r with
  | v d => exact P.elim
  | m m =>
    obtain ⟨p, rfl, n, nF, hm⟩ := rv
    exact P _ F' H' (Same.refl _) S ⟨p, rfl, nF, (nw p n).1, (nw p n).2, hm⟩
/-- how a def's arguments bind: n positional ones, keywords ks; the parameters in the order ord -/
def KB (K : PySem.W.Frag) (fd : FuncData) (ps ks : List Str) (n : Nat) (ord : List Nat) : Prop :=
  ∀ (s : Shared) (us ws : List Value), K.In s.heap → us.length = n → ws.length = ks.length → BindsTo s fd ⟨us, ks.zip ws⟩ (ps.zip (pick ord (us ++ ws)))
/-- f(e, ..) -/
theorem rd_bind1 {α : Type} {rel : Rel V α} {f : BF} {σ : L2.St} {H : Hp} {Q : VK} {n : Nat} {kk : Res → Rho → R α}
    (hk : ∀ {c : Cfg} {σ : L2.St} {H : Hp} {r : Res} {ρ' : Rho} {v : V} {F' H' : Hp}, ResR X.K H F' H' v r → Sta X.K π c F' H' σ ρ' → c.H0 = c.H0 → (∀ q, H q = none → c.H0 q = none ∧ ∀ j, ¬ OwnAt σ ρ' j q) → Po X.K π W rel c F' σ Q (kk r ρ') → Q v H')
    (t : tG X.K π W rel (callG n G f kk) σ H Q) : tB X.K π W f σ H fun vs H1 => spG X.K n G vs H1 Q fun cls d H' => W cls d σ H' := by
  obtain ⟨c, F, ρ, S, P⟩ := t
  refine po_bind S P fun vs F1 H1 ρ1 as s1 S1 r1 P1 => ?_
  exact rd_call hk S1 r1 P1
theorem fc_call {α : Type} {rel : Rel V α} {g : BF} {kk : Res → Rho → R α}
    (hk : ∀ {Q : VK} {c : Cfg} {σ : L2.St} {H : Hp} {r : Res} {ρ' : Rho} {v : V} {F' H' : Hp}, ResR X.K H F' H' v r → Sta X.K π c F' H' σ ρ' → c.H0 = c.H0 → (∀ q, H q = none → c.H0 q = none ∧ ∀ j, ¬ OwnAt σ ρ' j q) → Po X.K π W rel c F' σ Q (kk r ρ') → Q v H')
    (Fn : FnG X.prog X.w X.K X.mg X.base k f fd ps (spG X.K ps.length G)) (hr : RoomG k X.A) (tk : L2N.Takes X W) (hg : Gl X x) (hm : X.mg x = some (.ref f)) (hkp : PySem.W.keepIn X.K (.ref f) = true) (hb : Binds X.K fd ps [])
    (ha : PA X (e :: es) (tB X.K π W g)) (hdb : (x == ("__debug__" : Str)) = false := by decide) (he : starEach (e :: es) X.env = (false, eval e X.env) :: starEach es X.env := by rfl) (hpl : (backTo pos (starEach es X.env)).any (·.1) = false := by rfl) :
    PE X (.Call (.Name x p) (e :: es) [] pos) (tG X.K π W rel (callG ps.length G g kk)) := by
  refine ⟨fun pins s σ H Q I h => ?_⟩
  refine wpAny_Call_Name_kw (ld_glob I hg hm ?_ hdb)
  refine PySem.W.callWith_K (h₀ := X.base) I.ok.mod.kin hkp (thn (ha.run pos pins s σ H _ I (rd_bind1 hk h)) fun us s1 ⟨vs, H1, I1, r, q⟩ => ⟨I1.kIn, ?_⟩) he hpl
  have b := hb s1 us I1.kIn (by rw [List.append_nil, ← r.length]; exact Fn.len _ _ _ _ q)
  rw [List.append_nil] at b
  refine wpAny_call (codeAny_mono (run_fnG Fn hr tk b I1 r q) fun r s' hq => ?_)
  cases r with
  | error e => exact hq
  | ok fl =>
    cases fl with
    | ret u => exact hq
    | next => exact False.elim hq
    | brk => exact False.elim hq
    | cont => exact False.elim hq
/-- both lists of a call with keywords, in the parameters' order -/
def kwB (n m : Nat) (ord : List Nat) (f g : BF) : BF := fun ρ => (f ρ).bind fun as ρ => (g ρ).bind fun bs ρ => if as.length = n ∧ bs.length = m then .ok (pick ord (as ++ bs)) ρ else .stuck
theorem rd_bindK {α : Type} {rel : Rel V α} {f g : BF} {σ : L2.St} {H : Hp} {Q : VK} {n a m : Nat} {ord : List Nat} {kk : Res → Rho → R α}
    (hk : ∀ {c : Cfg} {σ : L2.St} {H : Hp} {r : Res} {ρ' : Rho} {v : V} {F' H' : Hp}, ResR X.K H F' H' v r → Sta X.K π c F' H' σ ρ' → c.H0 = c.H0 → (∀ q, H q = none → c.H0 q = none ∧ ∀ j, ¬ OwnAt σ ρ' j q) → Po X.K π W rel c F' σ Q (kk r ρ') → Q v H')
    (t : tG X.K π W rel (callG n G (kwB a m ord f g) kk) σ H Q) : tB X.K π W f σ H fun vs H1 => tB X.K π W g σ H1 fun ws H2 => vs.length = a ∧ ws.length = m ∧ spG X.K n G (pick ord (vs ++ ws)) H2 Q fun cls d H' => W cls d σ H' := by
  obtain ⟨c, F, ρ, S, P⟩ := t
  have P : Po X.K π W rel c F σ Q ((f ρ).bind fun as ρ => ((g ρ).bind fun bs ρ => if as.length = a ∧ bs.length = m then .ok (pick ord (as ++ bs)) ρ else .stuck).bind fun as ρ => if okA n as = true then match toArgs ρ as with
      | some gs => match G gs with
        | .ok r outs => kk r (putA as outs ρ)
        | .exc C fs outs => .exc C fs (putA as outs ρ)
        | .stuck => .stuck
      | none => .stuck
    else .stuck) := by
    unfold callG kwB at P
    cases ef : f ρ with
    | stuck => rw [ef] at P; exact P
    | exc C fs ρ' => rw [ef] at P; exact P
    | ok as ρ' => rw [ef] at P; exact P
  refine po_bind S P fun vs F1 H1 ρ1 as s1 S1 r1 P1 => ?_
  have P1 : Po X.K π W rel c F1 σ Q ((g ρ1).bind fun bs ρ => (if as.length = a ∧ bs.length = m then R.ok (pick ord (as ++ bs)) ρ else .stuck).bind fun as ρ => if okA n as = true then match toArgs ρ as with
      | some gs => match G gs with
        | .ok r outs => kk r (putA as outs ρ)
        | .exc C fs outs => .exc C fs (putA as outs ρ)
        | .stuck => .stuck
      | none => .stuck
    else .stuck) := by
    cases eg : g ρ1 with
    | stuck => rw [eg] at P1; exact P1
    | exc C fs ρ' => rw [eg] at P1; exact P1
    | ok as ρ' => rw [eg] at P1; exact P1
  refine po_bind S1 P1 fun ws F2 H2 ρ2 bs s2 S2 r2 P2 => ?_
  split at P2
  · rename_i hl
    exact ⟨r1.length.trans hl.1, r2.length.trans hl.2, rd_call hk S2 (((r1.mono s2).append r2).pick ord) P2⟩
  · exact P2.elim
theorem fc_callK0 {α : Type} {rel : Rel V α} {h : BF} {ord : List Nat} {kk : Res → Rho → R α}
    (hk : ∀ {Q : VK} {c : Cfg} {σ : L2.St} {H : Hp} {r : Res} {ρ' : Rho} {v : V} {F' H' : Hp}, ResR X.K H F' H' v r → Sta X.K π c F' H' σ ρ' → c.H0 = c.H0 → (∀ q, H q = none → c.H0 q = none ∧ ∀ j, ¬ OwnAt σ ρ' j q) → Po X.K π W rel c F' σ Q (kk r ρ') → Q v H')
    (Fn : FnG X.prog X.w X.K X.mg X.base k f fd ps (spG X.K ps.length G)) (hr : RoomG k X.A) (tk : L2N.Takes X W) (hg : Gl X x) (hm : X.mg x = some (.ref f)) (hkp : PySem.W.keepIn X.K (.ref f) = true) (hb : KB X.K fd ps ks 0 ord)
    (hw : PK X kws (tB X.K π W h)) (hall : (backToKw pos (keywordEach kws X.env)).all (·.1.isSome) = true := by rfl) (hks : (backToKw pos (keywordEach kws X.env)).filterMap (·.1) = ks := by rfl)
    (hdb : (x == ("__debug__" : Str)) = false := by decide)
    (hpl : ((backTo pos (starEach [] X.env)).any (·.1) || (backToKw pos (keywordEach kws X.env)).any (·.1.isNone)) = false := by rfl) :
    PE X (.Call (.Name x p) [] kws pos) (tG X.K π W rel (callG ps.length G (kwB 0 ks.length ord nilB h) kk)) := by
  refine ⟨fun pins s σ H Q I hq => ?_⟩
  refine wpAny_Call_Name_kw (ld_glob I hg hm ?_ hdb)
  refine PySem.W.callWith_KW0 (h₀ := X.base) I.ok.mod.kin hkp hall ?_ hpl
  refine thn (hw.run pos pins s σ H _ I (rd_nilB (rd_bindK hk hq))) fun ws s2 ⟨zs, H2, I2, rz, l1, l2, q2⟩ => ⟨I2.kIn, ?_⟩
  rw [hks]
  refine wpAny_call (codeAny_mono (run_fnG (us := pick ord ([] ++ ws)) Fn hr tk (hb s2 [] ws I2.kIn rfl (rz.length.symm.trans l2)) I2 (vals_pick (Vals.append (show Vals [] [] from .nil) rz) ord) q2) fun r s' hq => ?_)
  cases r with
  | error e => exact hq
  | ok fl =>
    cases fl with
    | ret u => exact hq
    | next => exact False.elim hq
    | brk => exact False.elim hq
    | cont => exact False.elim hq
end
end FL
/-! FL9: isinstance, repr, truth, displays with a star, x[j] as a target, texts compared. -/
namespace FL
open PySem PySem.Spec PyProof.Rows L2

/-! ### isinstance -/
inductive Ty where
  | non | bl | int | str | tup | lst | dct
def tyN : Ty → String
  | .non => "NoneType"
  | .bl => "bool"
  | .int => "int"
  | .str => "str"
  | .tup => "tuple"
  | .lst => "list"
  | .dct => "dict"
def isTy : Ty → Ty → Bool
  | .non, .non => true
  | .bl, .bl => true
  | .bl, .int => true
  | .int, .int => true
  | .str, .str => true
  | .tup, .tup => true
  | .lst, .lst => true
  | .dct, .dct => true
  | _, _ => false
def typD : D → Option Ty
  | .non => some .non
  | .bl _ => some .bl
  | .int _ => some .int
  | .str _ => some .str
  | .tup _ => some .tup
  | .lst _ => some .lst
  | .scr _ => some .lst
  | .dct _ => some .dct
  | .dl1 _ _ _ => some .dct
  | _ => none
def isiD (T : Ty) (d : D) : Option D := (typD d).map fun t => .bl (isTy t T)
theorem kitB_ty (T : Ty) (hT : T ≠ .non) : ∀ t : Ty, kitB (tyN t) (tyN T) = some (isTy t T) := by
  intro t
  cases T <;> first | exact absurd rfl hT | (cases t <;> decide +kernel)
section
variable {K : PySem.W.Frag} {F H : Hp}
theorem tyx_of0 (s : Same F H) {v : V} {d : D} {t : Ty} (r : Rep K F v d) (h : typD d = some t) (n1 : ∀ pw k e, d ≠ .dl1 pw k e) : TyX K H v (.type (tyN t)) := by
  cases r with
  | non => cases h; exact .base .non
  | bl b => cases h; exact .base (.bl b)
  | int i => cases h; exact .base (.int i)
  | str x => cases h; exact .base (.str x)
  | fn a => cases h
  | exc _ _ _ => cases h
  | clo _ _ => cases h
  | dcf _ _ _ => cases h
  | dcu _ _ _ _ => cases h
  | ins _ _ _ => cases h
  | err _ _ _ _ => cases h
  | tup h1 _ =>
    cases h
    rcases sm_tup s h1 with z | ⟨o, us, n, h2, h3, _⟩
    · rcases z with z | ⟨o, z⟩
      · exact .base (.tup z)
      · exact .fTuple z
    · exact .kTuple h2 h3
  | lst h1 _ => cases h; exact .base (.lst (s _ _ h1))
  | scr h1 =>
    cases h
    rcases Same.seq s h1 with z | ⟨o, us, n, h2, h3, _⟩
    · rcases z with z | ⟨o, z⟩
      · exact .base (.lst z)
      · exact .base (.frz z)
    · exact .kList h2 h3
  | dct h1 _ _ => cases h; exact .base (.dK (s _ _ h1))
  | dl1 _ _ _ => exact (n1 _ _ _ rfl).elim
/-- a value's kind, a dict of one entry included -/
def TyW (K : PySem.W.Frag) (H : Hp) (v : V) (t : Value) : Prop := TyX K H v t ∨ (t = .type "dict" ∧ ∃ (a : Addr) (n : Int) (k : Option Key) (u : Value), v = .ref a ∧ H a = some (LfO n a k u))
theorem tyw_of (s : Same F H) {v : V} {d : D} {t : Ty} (r : Rep K F v d) (h : typD d = some t) : TyW K H v (.type (tyN t)) := by
  by_cases z : ∃ pw k e, d = .dl1 pw k e
  · obtain ⟨pw, k, e, rfl⟩ := z
    cases h
    cases r with
    | dl1 h1 _ _ => exact .inr ⟨rfl, _, _, _, _, rfl, s _ _ h1⟩
  · exact .inl (tyx_of0 s r h fun pw k e q => z ⟨pw, k, e, q⟩)
end
section
variable {X : Cx}
def rIsW (K : PySem.W.Frag) : List V → Hp → VK → Prop := fun xs H Q => ∃ (x c : V) (t u : Value) (b : Bool), xs = [x, c] ∧ ClsV c u ∧ TyW K H x t ∧ PySem.W.kitOne K t u = some b ∧ Q (.bl b) H
theorem call_isW : CallR X (.builtin "isinstance") (rIsW X.K) := fun pins s σ H xs us Q I r h => by
  obtain ⟨x, c, t, u, b, e0, k, ty, e, q⟩ := h
  rcases ty with ty | ⟨et, a, n, key, val, ex, ha⟩
  · exact call_isi pins s σ H xs us Q I r ⟨x, c, t, u, b, e0, k, ty, e, q⟩
  · subst e0 et ex
    obtain ⟨y1, y2, eu, r1, r2⟩ := vals2 r
    subst eu
    obtain rfl := k.eq r2
    obtain rfl : y1 = Value.ref a := r1
    obtain ⟨⟨_, o, es, ep, _, ho, hc, _⟩, _⟩ := I.hok a _ ha
    exact PySem.W.kia_one PySem.W.kitx_dict I.kIn ⟨o, ho, hc.1⟩ e (fun z => nomatch z) fun tk => ⟨.bl b, H, I.tok tk, rfl, q⟩
end
section
variable [FE]
variable {X : Cx} {π : Nat → Addr} {W : WX} {a : Expr} {pos p p2 : Pos} {x y : Str}
theorem pe_ty {T : String} {p : Pos} (hg : Gl X y) (hm : X.mg y = none) (hv : bootBuiltins y = some (.type T)) (hn : y ≠ "__name__" := by decide) (hdb : (y == ("__debug__" : Str)) = false := by decide) : PE X (.Name y p) (tC (.ty T)) :=
  ⟨fun pins s σ H Q I h => ld_blt I hg hm hv ⟨.ty T, H, I, rfl, h⟩ hn hdb⟩
theorem fe_isi {f : EF} {T : Ty} (hT : T ≠ .non) (hg : Gl X x) (hm : X.mg x = none) (hx : x = "isinstance") (hgy : Gl X y) (hmy : X.mg y = none) (hy : bootBuiltins y = some (.type (tyN T))) (ha : PE X a (tE X.K π W f)) (hn : y ≠ "__name__" := by decide) (hdb : (y == ("__debug__" : Str)) = false := by decide)
    (h1 : starEach [a, .Name y p2] X.env = (false, eval a X.env) :: starEach [.Name y p2] X.env := by rfl) (h2 : starEach [.Name y p2] X.env = (false, eval (.Name y p2) X.env) :: starEach [] X.env := by rfl) (hpl : (backTo pos (starEach [.Name y p2] X.env)).any (·.1) = false := by rfl) :
    PE X (.Call (.Name x p) [a, .Name y p2] [] pos) (tE X.K π W (op1 (isiD T) f)) := by
  subst hx
  refine PE.imp (pe_callB call_isW hg hm boot_isinstance (pa_cons ha (pa_cons (pe_ty hgy hmy hy hn hdb) pa_nil h2) h1) (by decide) (by decide) h1 hpl) fun σ H Q ⟨c, F, ρ, S, P⟩ => ?_
  refine po_bind S P fun v F1 H1 ρ1 d s1 S1 r1 P1 => ?_
  obtain ⟨d', e, P2⟩ := po_of P1
  unfold isiD at e
  cases et : typD d with
  | none => rw [et] at e; cases e
  | some t =>
    rw [et] at e
    cases e
    exact ⟨v, .ty (tyN T), .type (tyN t), .type (tyN T), _, rfl, .ty _, tyw_of S1.f r1 et, kit_ty (kitB_ty T hT t), P2 _ F1 H1 (Same.refl _) S1 (.bl _)⟩

/-! ### truth -/
theorem tru_of {K : PySem.W.Frag} {F H : Hp} (s : Same F H) {v : V} {d : D} {b : Bool} (r : Rep K F v d) (h : truD d = some b) : TruV K v H b := by
  cases r with
  | non => cases h; rfl
  | bl b => cases h; rfl
  | int i => cases h; rfl
  | str x =>
    simp only [truD] at h
    split at h
    · rename_i hz
      cases h
      refine ⟨le_line hz, ?_⟩
      rw [Bool.eq_iff_iff]
      simp
    · cases h
  | tup h1 r1 =>
    cases h
    refine .inr (.inl ⟨_, sm_tup s h1, ?_⟩)
    cases r1 <;> rfl
  | lst h1 r1 =>
    cases h
    refine .inl ⟨_, SqL.of (s _ _ h1), ?_⟩
    cases r1 <;> rfl
  | _ => cases h
theorem rd_tru {K : PySem.W.Frag} {f : EF} {σ : L2.St} {H : Hp} {Q : Bool → Hp → Prop} (t : tT K π W (tru f) σ H Q) : (tE K π W f) σ H fun x H1 => ∃ k, TruV K x H1 k ∧ Q k H1 := by
  obtain ⟨c, F, ρ, S, P⟩ := t
  refine po_bind S P fun x F1 H1 ρ1 dx s1 S1 r1 P1 => ?_
  obtain ⟨d, e, P3⟩ := po_of P1
  exact ⟨d, tru_of S1.f r1 e, P3 _ F1 H1 (Same.refl _) S1 rfl⟩
theorem ft_truth {f : EF} (ha : PE X a (tE X.K π W f)) (he : ∀ whole, isTrue a X.env whole = (do let v ← whole; standAt a.pos; holding [v] (truthy v)) := by intro _; rfl) : PT X a (tT X.K π W (tru f)) :=
  PT.imp (pt_truth ha he) fun _ _ _ => rd_tru

/-! ### texts compared -/
def twoS : D → D → Option Bool
  | .str a, .str b => some (decide (a = b))
  | _, _ => none
/-- lists of unlike lengths -/
def difL : D → D → Bool
  | .lst xs, .lst ys => xs.length != ys.length
  | _, _ => false
def eqA (x y : D) : Option D := match twoS x y with
  | some b => some (.bl b)
  | none => if difL x y = true then some (.bl false) else eqD x y
def neA (x y : D) : Option D := match twoS x y with
  | some b => some (.bl (!b))
  | none => if difL x y = true then some (.bl true) else neD x y
/-- the comparison of two lists of unlike lengths -/
def rDif (K : PySem.W.Frag) (b : Bool) : R2 := fun x y H Q => ∃ (p q : Addr) (xs ys : List V), x = .ref p ∧ y = .ref q ∧ SqL K H p xs ∧ SqL K H q ys ∧ xs.length ≠ ys.length ∧ Q (.bl b) H
theorem difL_rep {K : PySem.W.Frag} {F H : Hp} (s : Same F H) {x y : V} {dx dy : D} (rx : Rep K F x dx) (ry : Rep K F y dy) (h : difL dx dy = true) : ∃ (p q : Addr) (xs ys : List V), x = .ref p ∧ y = .ref q ∧ SqL K H p xs ∧ SqL K H q ys ∧ xs.length ≠ ys.length := by
  unfold difL at h
  split at h
  · cases rx with
    | lst h1 r1 =>
      cases ry with
      | lst h2 r2 =>
        refine ⟨_, _, _, _, rfl, rfl, SqL.of (s _ _ h1), SqL.of (s _ _ h2), ?_⟩
        rw [Reps.length r1, Reps.length r2]
        simpa using h
  · cases h
theorem op_eq_dif (hu : X.A.units + 64 < cLine) : OpR X (compareOp .Eq) (rDif X.K false) := by
  intro pins s σ H x y v u Q I rx ry h
  obtain ⟨p, q, xs, ys, rfl, rfl, h1, h2, hn, hq⟩ := h
  cases rx
  cases ry
  obtain ⟨its, r1, p1, _⟩ := I.list h1
  obtain ⟨jts, r2, p2, _⟩ := I.list h2
  refine PySem.SeqAt.eq_list_lengthsAt p1.isList p2.isList ?_ (by omega) ⟨.bl false, H, I, rfl, hq⟩
  have e1 := r1.length
  have e2 := r2.length
  simp
  omega
theorem op_ne_dif (hu : X.A.units + 64 < cLine) : OpR X (compareOp .NotEq) (rDif X.K true) := by
  intro pins s σ H x y v u Q I rx ry h
  obtain ⟨p, q, xs, ys, rfl, rfl, h1, h2, hn, hq⟩ := h
  cases rx
  cases ry
  obtain ⟨its, r1, p1, _⟩ := I.list h1
  obtain ⟨jts, r2, p2, _⟩ := I.list h2
  refine PySem.SeqAt.RcNeAt.lists_lengths p1.isList p2.isList ?_ (by omega) _ _ _ _ ⟨.bl true, H, I, rfl, hq⟩
  have e1 := r1.length
  have e2 := r2.length
  simp
  omega
theorem twoS_rep {K : PySem.W.Frag} {F : Hp} {x y : V} {dx dy : D} {b : Bool} (rx : Rep K F x dx) (ry : Rep K F y dy) (h : twoS dx dy = some b) : scal x y = true ∧ decide (x = y) = b := by
  unfold twoS at h
  split at h
  · cases rx
    cases ry
    cases h
    refine ⟨rfl, ?_⟩
    rw [decide_eq_decide]
    exact ⟨fun e => by cases e; rfl, fun e => by rw [e]⟩
  · cases h
theorem q_eqA {K : PySem.W.Frag} : Op2 K eqA (fun x y H Q => rEq x y H Q ∨ rDif K false x y H Q ∨ rEqD K x y H Q) := by
  intro F H x y dx dy d Q s rx ry e k
  unfold eqA at e
  cases es : twoS dx dy with
  | none =>
    rw [es] at e
    have e : (if difL dx dy = true then some (D.bl false) else eqD dx dy) = some d := e
    split at e
    · rename_i hz
      cases e
      obtain ⟨p, q, xs, ys, h1, h2, h3, h4, h5⟩ := difL_rep s rx ry hz
      exact .inr (.inl ⟨p, q, xs, ys, h1, h2, h3, h4, h5, k _ F H (Grw.refl s) (.bl _)⟩)
    · exact .inr (.inr (q_eq s rx ry e k))
  | some b =>
    rw [es] at e
    cases e
    obtain ⟨h1, h2⟩ := twoS_rep rx ry es
    refine .inl ⟨h1, ?_⟩
    rw [h2]
    exact k _ F H (Grw.refl s) (.bl _)
theorem q_neA {K : PySem.W.Frag} : Op2 K neA (fun x y H Q => rNe x y H Q ∨ rDif K true x y H Q ∨ rNeD K x y H Q) := by
  intro F H x y dx dy d Q s rx ry e k
  unfold neA at e
  cases es : twoS dx dy with
  | none =>
    rw [es] at e
    have e : (if difL dx dy = true then some (D.bl true) else neD dx dy) = some d := e
    split at e
    · rename_i hz
      cases e
      obtain ⟨p, q, xs, ys, h1, h2, h3, h4, h5⟩ := difL_rep s rx ry hz
      exact .inr (.inl ⟨p, q, xs, ys, h1, h2, h3, h4, h5, k _ F H (Grw.refl s) (.bl _)⟩)
    · exact .inr (.inr (q_ne s rx ry e k))
  | some b =>
    rw [es] at e
    cases e
    obtain ⟨h1, h2⟩ := twoS_rep rx ry es
    refine .inl ⟨h1, ?_⟩
    rw [h2]
    exact k _ F H (Grw.refl s) (.bl _)
theorem o_eqA (hu : X.A.units + 64 < cLine) : OpR X (compareOp .Eq) (fun x y H Q => rEq x y H Q ∨ rDif X.K false x y H Q ∨ rEqD X.K x y H Q) := op_eq.or ((op_eq_dif hu).or (op_eqD hu))
theorem o_neA (hu : X.A.units + 64 < cLine) : OpR X (compareOp .NotEq) (fun x y H Q => rNe x y H Q ∨ rDif X.K true x y H Q ∨ rNeD X.K x y H Q) := op_ne.or ((op_ne_dif hu).or (op_neD hu))

/-! ### repr -/
end

/-! ### displays with a star -/
section
variable [FE]
variable {X : Cx} {π : Nat → Addr} {W : WX} {e : Expr} {es : List Expr} {pos p : Pos}
/-! ### x[j] as a target -/
def subGO (i : Nat) (g : EF) : GF := fun d ρ => match subG i g d ρ with
  | .ok _ ρ => some ρ
  | _ => none
/-! ### {} -/
end
end FL
/-! FL10: a dict in a row of numbers. -/
namespace FL
open PySem PySem.Spec PyProof.Rows PySem.SeqAt PySem.MeetsSeq L2
section
variable {A : Around} {s : Shared}
theorem int_eq_dict (b : Int) (u : Tok) (l : Addr) (c : Value) (es : Array DictEntry) (n : Nat) (dd : Option Addr) (sl : Array (Option Value)) :
    Meets (Builtin.«int.__eq__» ⟨[.int b u, .ref l], []⟩) (fun _ R s => s.heap.get? l = some { cls := c, dict := dd, data := .dict es n, slots := sl } ∧ R (.ok (.ret .notImplemented)) s) :=
  .of_wp fun prog w A R s h => by obtain ⟨hp, g, d, tk, os⟩ := s; obtain ⟨hl, h⟩ := h; wp_walk using wpAny_loadPart' hl, wpAny_load hl; exact ⟨_, rfl, h⟩
theorem dict_eq_int (l : Addr) (es : Array DictEntry) (n : Nat) (dd : Option Addr) (sl : Array (Option Value)) (b : Int) (u : Tok) :
    Meets (Builtin.«dict.__eq__» ⟨[.ref l, .int b u], []⟩) (fun _ R s => s.heap.get? l = some { cls := .type "dict", dict := dd, data := .dict es n, slots := sl } ∧ R (.ok (.ret .notImplemented)) s) :=
  .of_wp fun prog w A R s h => by obtain ⟨hp, g, d, tk, os⟩ := s; obtain ⟨hl, h⟩ := h; have f1 := F.sub_int_dict; wp_walk using wpAny_loadPart' hl; exact ⟨_, rfl, h⟩
theorem rc_int_dict {l : Addr} {es : Array DictEntry} {n : Nat} {dd : Option Addr} {sl : Array (Option Value)} (b : Int) (u : Tok) (ho : s.heap.get? l = some { cls := .type "dict", dict := dd, data := .dict es n, slots := sl }) (hu : A.units < cLine) : RcAt A s (.int b u) (.ref l) false := fun prog w E Q h =>
  rc_eq_decline_or (k := false) (typeIs_int s b u) ⟨_, ho, rfl⟩ (by decide) F.sub_dict_int F.slot_int_eq F.slot_dict_eq_refl
    (fun _ hq => call_meets F.slot_int_eq (typeIs_int s b u) F.entry_int_eq (F.args_int_eq_2 _ _) (int_eq_dict b u l (.type "dict") es n dd sl) ⟨ho, hq⟩)
    (fun _ hq => call_meets F.slot_dict_eq_refl ⟨_, ho, rfl⟩ F.entry_dict_eq (F.args_dict_eq_2 _ _) (dict_eq_int l es n dd sl b u) ⟨ho, hq⟩)
    (fun _ hq => wpAny_of_eq (rfl : isSame (.int b u) (.ref l) = pure false) hq) (.inr hu) h
theorem eq_int_dict {l : Addr} {es : Array DictEntry} {n : Nat} {dd : Option Addr} {sl : Array (Option Value)} (b : Int) (u : Tok) (ho : s.heap.get? l = some { cls := .type "dict", dict := dd, data := .dict es n, slots := sl }) (hu : A.units < cLine) : EqAt A s (.int b u) (.ref l) false := fun prog w E Q h => by
  unfold eqBool
  refine wpAny_holding ?_
  refine wpAny_ite_split (fun hab => absurd (eq_of_beq hab) nofun) (fun _ => ?_)
  exact wpAny_bind (rc_int_dict b u ho hu prog w E _ (wpAny_truthy_bool h))
end

open L2
/-- a dict, in a list or tuple of numbers -/
def rInK (K : PySem.W.Frag) (neg : Bool) : R2 := fun x y H Q => ∃ (a : Addr) (kvs : List (Key × V)) (p : Addr) (ns : List Int), x = .ref a ∧ H a = some (.dK kvs) ∧ y = .ref p ∧ (SqL K H p (ns.map V.int) ∨ SqT K H p (ns.map V.int)) ∧ Q (.bl neg) H
section
variable [FE]
variable {X : Cx}
theorem ints_at {ns : List Int} {its : List Value} (r : Vals (ns.map V.int) its) : ∀ y ∈ its, ∃ i t, y = .int i t := by
  induction ns generalizing its with
  | nil => cases r; intro y hy; cases hy
  | cons n ns ih =>
    cases r with
    | cons a b =>
      intro y hy
      rcases List.mem_cons.mp hy with e | e
      · obtain ⟨t, ht⟩ := a
        exact ⟨n, t, by rw [e, ht]⟩
      · exact ih b y e
theorem op_in_k (hu : X.A.units + 64 < cLine) : OpR X (compareOp .In) (rInK X.K false) := by
  intro pins s σ H x y v u Q I rx ry h
  obtain ⟨a, kvs, p, ns, rfl, ha, rfl, hq, q⟩ := h
  cases rx
  cases ry
  obtain ⟨_, _, vs, _, o, es, ep, h1, h2, h4, _⟩ := (show ObjOk X.prog X.w H s.heap a (.dK kvs) from I.hok a _ ha)
  obtain ⟨oc, od, dt, sl⟩ := o
  have h3 : oc = .type "dict" ∧ dt = .dict es ep := ⟨h2.1, h4⟩
  obtain ⟨rfl, rfl⟩ := h3
  have key : ∀ its : List Value, Vals (ns.map V.int) its → ∀ w, w ∈ its.toArray → EqAt X.A.in1 s w (.ref a) false := fun its r w hw => by
    obtain ⟨i, t, rfl⟩ := ints_at r w (by simpa using hw)
    exact eq_int_dict i t h1 (by show X.A.units + 1 < cLine; omega)
  rcases hq with hq | hq
  · obtain ⟨its, r, pl, hz⟩ := I.list hq
    refine SeqAt.in_listAt (fun _ => false) pl.isList (key its r) ⟨.bl _, H, I, rfl, ?_⟩
    rw [show its.toArray.any (fun _ => false) = false by simp]
    exact q
  · obtain ⟨its, r, pl, hz⟩ := I.tuple hq
    refine SeqAt.in_tupleAt (fun _ => false) pl (key its r) ⟨.bl _, H, I, rfl, ?_⟩
    rw [show its.toArray.any (fun _ => false) = false by simp]
    exact q
end
def intsD : List D → Option (List Int)
  | [] => some []
  | .int i :: ds => (intsD ds).map (i :: ·)
  | _ :: _ => none
theorem intsD_of : ∀ {ds : List D} {ns : List Int}, intsD ds = some ns → ds = ns.map D.int
  | [], _, e => by cases e; rfl
  | .int i :: ds, ns, e => by
    unfold intsD at e
    cases e1 : intsD ds with
    | none => rw [e1] at e; cases e
    | some l =>
      rw [e1] at e
      cases e
      rw [intsD_of e1]
      rfl
/-- is it a dict in a row of numbers -/
def dctIn : D → D → Bool
  | .dct _, .lst ds => (intsD ds).isSome
  | .dct _, .tup ds => (intsD ds).isSome
  | _, _ => false
def inA (x y : D) : Option D := if dctIn x y = true then some (.bl false) else inD x y
theorem dctIn_rep {K : PySem.W.Frag} {F H : Hp} (s : Same F H) {x y : V} {dx dy : D} (rx : Rep K F x dx) (ry : Rep K F y dy) (h : dctIn dx dy = true) : ∃ (a : Addr) (kvs : List (Key × V)) (p : Addr) (ns : List Int), x = .ref a ∧ H a = some (.dK kvs) ∧ y = .ref p ∧ (SqL K H p (ns.map V.int) ∨ SqT K H p (ns.map V.int)) := by
  unfold dctIn at h
  split at h
  · cases rx with
    | dct h1 _ _ =>
      cases ry with
      | lst h2 r2 =>
        cases e : intsD _ with
        | none => rw [e] at h; cases h
        | some ns =>
          rw [intsD_of e] at r2
          have := Reps.of_ints r2
          subst this
          exact ⟨_, _, _, ns, rfl, s _ _ h1, rfl, .inl (SqL.of (s _ _ h2))⟩
  · cases rx with
    | dct h1 _ _ =>
      cases ry with
      | tup h2 r2 =>
        cases e : intsD _ with
        | none => rw [e] at h; cases h
        | some ns =>
          rw [intsD_of e] at r2
          have := Reps.of_ints r2
          subst this
          exact ⟨_, _, _, ns, rfl, s _ _ h1, rfl, .inr (sm_tup s h2)⟩
  · cases h
variable [FE] in
theorem q_inA {K : PySem.W.Frag} : Op2 K inA (fun x y H Q => rInK K false x y H Q ∨ rInA K x y H Q) := by
  intro F H x y dx dy d Q s rx ry e k
  unfold inA at e
  split at e
  · rename_i hz
    cases e
    obtain ⟨a, kvs, p, ns, h1, h2, h3, h4⟩ := dctIn_rep s rx ry hz
    exact .inl ⟨a, kvs, p, ns, h1, h2, h3, h4, k _ F H (Grw.refl s) (.bl _)⟩
  · exact .inr (q_in s rx ry e k)
variable [FE] in
theorem o_inA {X : Cx} (hu : X.A.units + 65 < cLine) : OpR X (compareOp .In) (fun x y H Q => rInK X.K false x y H Q ∨ rInA X.K x y H Q) := (op_in_k (by omega)).or (o_in hu)
end FL
/-! FL11: from the law's def to the row. -/
namespace FL
open PySem PySem.Spec PyProof.Rows L2

abbrev scrO (vs : List Value) : Obj := { cls := .type "list", data := .seq vs.toArray }
abbrev tab0 : Obj := { cls := .none, data := .fields #[] }
/-- nothing is tracked but the script and the empty tables ts -/
structure Start (K : PySem.W.Frag) (h : Heap) (a : Addr) (vs : List Value) (ts : List Addr) (H : Hp) : Prop where
  only : ∀ b, H b = none ∨ (b = a ∧ ∃ xs, H b = some (.frz (scrO vs) (.lst xs))) ∨ (b ∈ ts ∧ H b = some (.tbl #[]))
  kn : H a ≠ none → K.lookup a = none
  tabs : ∀ b ∈ ts, H b = some (.tbl #[])
/-- the code objects cs with their empty tables -/
structure Codes (K : PySem.W.Frag) (h : Heap) (cs : List (Addr × Addr)) : Prop where
  t : ∀ p ∈ cs, h.get? p.2 = some tab0
  n : ∀ p ∈ cs, K.lookup p.2 = none
  c : ∀ p ∈ cs, PySem.W.CodeHd h p.1 p.2
abbrev Bm (mg : Str → Option Value) (h : Heap) : Prop := ∃ (bm : Addr) (ob : Obj), mg "__builtins__" = some (.ref bm) ∧ bm ≠ builtinsNs ∧ h.get? bm = some ob ∧ ob.cls = .type "module" ∧ ob.dict = some builtinsNs ∧ ob.data = .plain
section
variable {P : Program} {w : World} {K : PySem.W.Frag} {mg mb : Str → Option Value} {k : Nat} {fa a : Addr} {fd : FuncData} {x : Str} {G : List Arg → RG} {s1 : Shared} {vs : List Value} {ns : List Int} {cs : List (Addr × Addr)}
theorem Codes.at (C : Codes K s1.heap cs) {b : Addr} (h : b ∈ cs.map (·.2)) : s1.heap.get? b = some tab0 ∧ K.lookup b = none := by
  obtain ⟨p, hp, rfl⟩ := List.mem_map.mp h
  exact ⟨C.t p hp, C.n p hp⟩
theorem Start.other {H : Hp} (T : Start K s1.heap a vs (cs.map (·.2)) H) (C : Codes K s1.heap cs) (ha : s1.heap.get? a = some (scrO vs)) {b : Addr} {o : Obj} (e : s1.heap.get? b = some o) (hd : ∀ (us : Array Value) (n : Nat), o.data ≠ .seq us n) (hf : o.data ≠ .fields #[]) : H b = none := by
  rcases T.only b with z | ⟨rfl, _⟩ | ⟨z, _⟩
  · exact z
  · rw [ha] at e
    cases e
    exact absurd rfl (hd _ _)
  · rw [(C.at z).1] at e
    cases e
    exact absurd rfl hf
variable [FE] in
/-- one run of the law's def, at an abstract heap -/
theorem top_run (hr : RoomG k callerA) (KX : K.In s1.heap) (hns : s1.heap.Ns mainGlobals mg) (hb : s1.heap.Ns builtinsNs mb) (hbb : ∀ y : Str, y ≠ "__name__" → mb y = bootBuiltins y) (hlim : s1.heap.NoLimit) (hgen : s1.gens = #[])
    (C : Codes K s1.heap cs) (hbm : Bm mg s1.heap) (hFE : ∀ p ∈ FE.tabs, p.1 ∈ cs.map (·.2))
    (ha : s1.heap.get? a = some (scrO vs)) (Fn : ∀ base : Heap, K.In base → base.Ns mainGlobals mg → (∀ p ∈ cs, LamX.TabB base mg p.1 p.2) → FnG P w K mg base k fa fd [x] (spG K 1 G)) (hbind : ∀ (s : Shared) (u : Value), BindsTo s fd ⟨[u], []⟩ [(x, u)])
    (hG : G [.val (.scr ns)] = .ok (.v (.bl true)) []) {H : Hp} (T : Start K s1.heap a vs (cs.map (·.2)) H) (hS : SqL K (fun b => if b ∈ cs.map (·.2) then none else H b) a (ns.map V.int)) (hok : HOk P w H s1.heap) :
    codeAny (model P w) callerA (.call (.ref fa) ⟨[.ref a], []⟩) (fun r s' => (r = .ok (.ret (.bool true)) ∧ OldK s1.heap s'.heap) ∧ s'.os = s1.os ∧ AllBare s'.gens) s1 := by
  have lift : ∀ {b : Addr} {o : Obj}, s1.heap.get? b = some o → H b = none → (hidT s1.heap H).get? b = some o := hidT_get
  have nsUp : ∀ {b : Addr} {m : Str → Option Value}, s1.heap.Ns b m → (hidT s1.heap H).Ns b m := by
    rintro b m ⟨o, es, ep, e, d, r⟩
    refine ⟨o, es, ep, lift e (T.other C ha e (fun us n z => ?_) fun z => ?_), d, r⟩
    · rw [d] at z
      cases z
    · rw [d] at z
      cases z
  have kUp : K.In (hidT s1.heap H) := fun b o e => lift (KX b o e) (by
    rcases T.only b with z | ⟨rfl, xs, z⟩ | ⟨z, _⟩
    · exact z
    · have := T.kn (by rw [z]; simp)
      rw [this] at e
      cases e
    · rw [(C.at z).2] at e
      cases e)
  have limUp : (hidT s1.heap H).NoLimit := by
    obtain ⟨mc, l1, l2⟩ := hlim
    exact ⟨mc, nsUp l1, l2⟩
  have tbUp : ∀ p ∈ cs, LamX.TabB (hidT s1.heap H) mg p.1 p.2 := fun p hp => by
    obtain ⟨oc, us, file, tf, fl, tg, inF, txt, tt, g1, g2, g3, g4, g5, g6, g7, g8, g9, g10⟩ := C.c p hp
    obtain ⟨bm, ob, m1, m2, m3, m4, m5, m6⟩ := hbm
    obtain ⟨om, es, ep, q1, q2, q3⟩ := id hns
    have hp2 := C.t p hp
    refine ⟨⟨oc, us, file, tf, fl, tg, inF, txt, tt, lift g1 (T.other C ha g1 (fun ws n z => ?_) fun z => ?_), g2, g3, g4, g5, g6, g7, g8, g9, g10⟩, ⟨bm, ob, m1, m2, fun z => ?_, fun z => ?_, lift m3 (T.other C ha m3 (fun ws n z => ?_) fun z => ?_), m4, m5, m6⟩, fun z => ?_⟩
    · rw [g3] at z
      cases z
    · rw [g3] at z
      cases z
      simp at g4
    · subst z
      rw [q1] at m3
      cases m3
      rw [q2] at m6
      cases m6
    · subst z
      rw [hp2] at m3
      cases m3
      cases m6
    · rw [m6] at z
      cases z
    · rw [m6] at z
      cases z
    · rw [z, hp2] at q1
      cases q1
      cases q2
  have E0 : Env0 P w K mg (hidT s1.heap H) callerA [] s1 H :=
    ⟨rfl, ⟨kUp, nsUp hns, ⟨mb, nsUp hb, hbb⟩, limUp⟩, fun b o e => of_hidT e, Nat.le_of_eq (hidT_size _ _), trivial, (fun b hb => by cases hb), hok, .of_eq hgen⟩
  have want : spG K 1 G [.ref a] H (fun v _ => v = .bl true) (fun _ _ _ => False) := by
    refine ⟨fun b => if b ∈ cs.map (·.2) then none else H b, [.val (.scr ns)], ⟨fun b o e => ?_, fun p hp => LamX.TabS.nil (T.tabs _ (hFE p hp)), fun b o e => ?_⟩, .val (.scr hS) .nil, rfl, List.nodup_nil, ?_⟩
    · have e : (if b ∈ cs.map (·.2) then none else H b) = some o := e
      by_cases z : b ∈ cs.map (·.2)
      · rw [if_pos z] at e
        cases e
      · rw [if_neg z] at e
        exact e
    · have e : (if b ∈ cs.map (·.2) then none else H b) = some o := e
      by_cases z : b ∈ cs.map (·.2)
      · rw [if_pos z] at e
        cases e
      · rw [if_neg z] at e
        rcases T.only b with y | ⟨_, xs, y⟩ | ⟨y, _⟩
        · rw [y] at e
          cases e
        · rw [y] at e
          cases e
          exact ⟨fun ps q => (nomatch q), fun _ q => (nomatch q), fun _ _ q => (nomatch q)⟩
        · exact absurd y z
    · rw [hG]
      intro v F' H' _ rv
      cases rv
      rfl
  refine codeAny_mono ((Fn _ kUp (nsUp hns) tbUp).run callerA [] s1 H ⟨[.ref a], []⟩ [.ref a] [.ref a] (fun v _ => v = .bl true) (fun _ _ _ => False) hr E0 (hbind s1 (.ref a)) (.cons rfl .nil) want) fun r s' hq => ?_
  match r, hq with
  | .error e, hq =>
    obtain ⟨_, _, _, _, _, _, _, _, _, _, _, _, z⟩ := hq
    exact z.elim
  | .ok .next, hq => exact False.elim hq
  | .ok .brk, hq => exact False.elim hq
  | .ok .cont, hq => exact False.elim hq
  | .ok (.ret u), hq =>
    obtain ⟨v, H', os, bare, un, hok2, rv, e⟩ := hq
    have e : v = .bl true := e
    subst e
    cases (show u = Value.bool true from rv)
    have plain : ∀ b o, b ∉ cs.map (·.2) → s1.heap.get? b = some o → s'.heap.get? b = some o := fun b o nb eo => by
      rcases T.only b with z | ⟨rfl, xs, z⟩ | ⟨z, _⟩
      · exact un.keep b o eo z (fun y => by cases y) (fun y => by cases y)
      · obtain ⟨e1, _⟩ := hok b _ z
        obtain ⟨e2, _⟩ := hok2 b _ (un.frzs b _ _ z)
        rw [eo] at e1
        cases e1
        exact e2
      · exact absurd z nb
    have more : ∀ p ∈ cs, ∃ us : Array Value, s'.heap.get? p.2 = some { cls := .none, data := .fields us } := fun p hp => by
      obtain ⟨us, z⟩ := un.tbls p.2 #[] (T.tabs _ (List.mem_map.mpr ⟨p, hp, rfl⟩))
      exact ⟨_, hok2 p.2 _ z⟩
    refine ⟨⟨rfl, ⟨fun b o eo => ?_, fun b o eo => ?_⟩⟩, os, bare⟩
    · by_cases nb : b ∈ cs.map (·.2)
      · obtain ⟨p, hp, rfl⟩ := List.mem_map.mp nb
        obtain ⟨us, hu⟩ := more p hp
        rw [C.t p hp] at eo
        cases eo
        exact .inr (.inl ⟨((C.c p hp).tab (C.t p hp)).isCodeTable, rfl, #[], us, rfl, by rw [Array.empty_append]; exact hu⟩)
      · exact .inl (plain b o nb eo)
    · by_cases nb : b ∈ cs.map (·.2)
      · obtain ⟨p, hp, rfl⟩ := List.mem_map.mp nb
        obtain ⟨us, hu⟩ := more p hp
        exact ⟨_, hu⟩
      · exact ⟨o, plain b o nb eo⟩
variable [FE] in
theorem top_law (hr : RoomG k callerA) (KX : K.In s1.heap) (hns : s1.heap.Ns mainGlobals mg) (hb : s1.heap.Ns builtinsNs mb) (hbb : ∀ y : Str, y ≠ "__name__" → mb y = bootBuiltins y) (hlim : s1.heap.NoLimit) (hgen : s1.gens = #[])
    (C : Codes K s1.heap cs) (hbm : Bm mg s1.heap) (hFE : ∀ p ∈ FE.tabs, p.1 ∈ cs.map (·.2))
    (ha : s1.heap.get? a = some (scrO vs)) (hi : IntsAre vs ns) (hl : ns.length ≤ sizeLine) (Fn : ∀ base : Heap, K.In base → base.Ns mainGlobals mg → (∀ p ∈ cs, LamX.TabB base mg p.1 p.2) → FnG P w K mg base k fa fd [x] (spG K 1 G)) (hbind : ∀ (s : Shared) (u : Value), BindsTo s fd ⟨[u], []⟩ [(x, u)])
    (hG : G [.val (.scr ns)] = .ok (.v (.bl true)) []) : codeAny (model P w) callerA (.call (.ref fa) ⟨[.ref a], []⟩) (fun r s' => (r = .ok (.ret (.bool true)) ∧ OldK s1.heap s'.heap) ∧ s'.os = s1.os ∧ AllBare s'.gens) s1 := by
  have rv := vals_ints hi
  have hlen := hi.length
  have na : a ∉ cs.map (·.2) := fun z => by
    have y := (C.at z).1
    rw [ha] at y
    have y' : Data.seq vs.toArray _ = Data.fields #[] := congrArg Obj.data (Option.some.inj y)
    cases y'
  cases hk : K.lookup a with
  | some o =>
    have e := KX a o hk
    rw [ha] at e
    cases e
    refine top_run hr KX hns hb hbb hlim hgen C hbm hFE ha Fn hbind hG (H := fun b => if b ∈ cs.map (·.2) then some (.tbl #[]) else none) ⟨fun b => ?_, fun z => absurd (if_neg na) z, fun b hb => if_pos hb⟩ (.inr ⟨_, vs.toArray, 0, hk, rfl, rfl, rfl, ?_, ?_⟩) (fun b u z => ?_)
    · by_cases nb : b ∈ cs.map (·.2)
      · exact .inr (.inr ⟨nb, if_pos nb⟩)
      · exact .inl (if_neg nb)
    · rw [List.size_toArray, hlen]
      exact hl
    · simpa using rv
    · by_cases nb : b ∈ cs.map (·.2)
      · have z := (if_pos nb).symm.trans z
        cases z
        exact (C.at nb).1
      · have z := (if_neg nb).symm.trans z
        cases z
  | none =>
    refine top_run hr KX hns hb hbb hlim hgen C hbm hFE ha Fn hbind hG (H := upd (fun b => if b ∈ cs.map (·.2) then some (.tbl #[]) else none) a (.frz (scrO vs) (.lst (ns.map V.int)))) ⟨fun b => ?_, fun _ => hk, fun b hb => ?_⟩ (.inl (.inr ⟨scrO vs, ?_⟩)) (fun b u z => ?_)
    · by_cases q : b = a
      · subst q
        exact .inr (.inl ⟨rfl, _, upd_same⟩)
      · by_cases nb : b ∈ cs.map (·.2)
        · exact .inr (.inr ⟨nb, (upd_ne q).trans (if_pos nb)⟩)
        · exact .inl ((upd_ne q).trans (if_neg nb))
    · exact (upd_ne (show b ≠ a from fun z => na (by rw [← z]; exact hb))).trans (if_pos hb)
    · exact (if_neg na).trans upd_same
    · by_cases q : b = a
      · subst q
        rw [upd_same] at z
        cases z
        exact ⟨ha, by rw [List.length_map]; exact hl, vs, _, rv, ha⟩
      · rw [upd_ne q] at z
        by_cases nb : b ∈ cs.map (·.2)
        · have z := (if_pos nb).symm.trans z
          cases z
          exact (C.at nb).1
        · have z := (if_neg nb).symm.trans z
          cases z
end
theorem room_top {k : Nat} (h : k ≤ 200) : RoomG k callerA := by
  refine ⟨⟨rfl, ?_, ?_⟩, rfl⟩
  · have y : callerA.depth ≤ 310 := by decide +kernel
    have z : 1000 ≤ recursionLimit := by decide +kernel
    omega
  · have y : callerA.units ≤ 100 := by decide +kernel
    have z : 3700 ≤ cLine := by decide +kernel
    omega
/-- what is known of the law's def at the head's heap: without tables -/
def LawG (l : PySem.W.OpenLaw) (w : World) (K : PySem.W.Frag) (k n : Nat) (x : Str) (mg : Str → Option Value) (fa : Addr) (h : Heap) (G : List Arg → RG) : Prop :=
  ∃ (fe : FE) (fd : FuncData) (cs : List (Addr × Addr)), Codes K h cs ∧ (∀ p ∈ fe.tabs, p.1 ∈ cs.map (·.2)) ∧ (∀ (s : Shared) (u : Value), BindsTo s fd ⟨[u], []⟩ [(x, u)]) ∧
    (∀ base : Heap, K.In base → base.Ns mainGlobals mg → (∀ p ∈ cs, LamX.TabB base mg p.1 p.2) → FnG l.prog w K mg base k fa fd [x] (spG K 1 G)) ∧ ∀ ns : List Int, ns.length ≤ n → (∀ z ∈ ns, Builtin.Int.intBits z ≤ 1048576) → G [.val (.scr ns)] = .ok (.v (.bl true)) []
/-- the goal that the head leaves -/
theorem walkG {l : PySem.W.OpenLaw} {n k : Nat} {q : Program} {loose : List Str} {XP : (Str → Option Value) → Heap → Prop} {YP : World → Heap → Prop} {d : DefRec} {K : Params → PySem.W.Frag} {G : World → (Str → Option Value) → List Arg → RG} {x : Str}
    (hn : l.most = some n) (hn2 : n ≤ sizeLine) (hdf : d.params.defaults = []) (hk : k ≤ 200) (hY : ∀ (w : World) (h : Heap), YP w h → (K w.params).In h)
    (Fn : ∀ (w : World) (mg : Str → Option Value) (fa : Addr) (h : Heap), YP w h → (K w.params).In h → h.Ns mainGlobals mg → XP mg h → mg d.name = some (.ref fa) → LawG l w (K w.params) k n x mg fa h (G w mg)) :
    PySem.W.WalkO q loose XP YP l.row.toRowW d [] (fun f vs => PySem.call f vs) := by
  refine Att.attach_callB hn hdf fun w s₀ s₁ mg mb fa o pm cd doc a vs ns Gr Y ho hd hcd hmg hobj hints hlen hbits hg => ?_
  obtain ⟨fe, fd, cs, hC, hFE, hb, hF, hq⟩ := Fn w mg fa _ Y (hY w _ Y) Gr.T.g Gr.X hmg
  exact codeAny_mono (@top_law _ _ _ _ _ _ _ _ _ _ _ _ _ _ _ fe (room_top hk) (hY w _ Y) Gr.T.g Gr.T.b Gr.T.builtins Gr.T.nolimit hg hC Gr.T.bmain hFE hobj hints (Nat.le_trans hlen hn2) hF hb (hq ns hlen hbits)) fun r s' z => ⟨z.1.1, z.1.2, z.2⟩
end FL
/-! FL12: calls, as the printed terms write them. -/
namespace FL
open PySem PySem.Spec PyProof.Rows L2
section
variable [FE]
variable {X : Cx} {π : Nat → Addr} {W : WX} {e a b : Expr} {es : List Expr} {pos p : Pos} {k : Nat} {f : Addr} {fd : FuncData} {ps ks : List Str} {G : List Arg → RG} {x : Str} {kws : List Keyword} {g h : BF} {n : Nat} {ord : List Nat}
theorem fe_call {nn : Nat} (Fn : FnG X.prog X.w X.K X.mg X.base k f fd ps (spG X.K ps.length G)) (hr : RoomG k X.A) (tk : L2N.Takes X W) (hg : Gl X x) (hm : X.mg x = some (.ref f)) (hkp : PySem.W.keepIn X.K (.ref f) = true) (hb : Binds X.K fd ps [])
    (ha : PA X (e :: es) (tB X.K π W g)) (hdb : (x == ("__debug__" : Str)) = false := by decide) (he : starEach (e :: es) X.env = (false, eval e X.env) :: starEach es X.env := by rfl) (hpl : (backTo pos (starEach es X.env)).any (·.1) = false := by rfl) (hnn : ps.length = nn := by rfl) :
    PE X (.Call (.Name x p) (e :: es) [] pos) (tE X.K π W (callE nn G g)) := by
  subst hnn
  exact fc_call (fun rv S _ nw P => k_asE rv S nw P) Fn hr tk hg hm hkp hb ha hdb he hpl
theorem fm_call {nn : Nat} (Fn : FnG X.prog X.w X.K X.mg X.base k f fd ps (spG X.K ps.length G)) (hr : RoomG k X.A) (tk : L2N.Takes X W) (hg : Gl X x) (hm : X.mg x = some (.ref f)) (hkp : PySem.W.keepIn X.K (.ref f) = true) (hb : Binds X.K fd ps [])
    (ha : PA X (e :: es) (tB X.K π W g)) (hdb : (x == ("__debug__" : Str)) = false := by decide) (he : starEach (e :: es) X.env = (false, eval e X.env) :: starEach es X.env := by rfl) (hpl : (backTo pos (starEach es X.env)).any (·.1) = false := by rfl) (hnn : ps.length = nn := by rfl) :
    PE X (.Call (.Name x p) (e :: es) [] pos) (tM X.K π W (callM nn G g)) := by
  subst hnn
  exact fc_call (fun rv S _ nw P => k_asM rv S nw P) Fn hr tk hg hm hkp hb ha hdb he hpl
theorem fe_callK0 {nn mm : Nat} (Fn : FnG X.prog X.w X.K X.mg X.base k f fd ps (spG X.K ps.length G)) (hr : RoomG k X.A) (tk : L2N.Takes X W) (hg : Gl X x) (hm : X.mg x = some (.ref f)) (hkp : PySem.W.keepIn X.K (.ref f) = true) (hb : KB X.K fd ps ks 0 ord)
    (hw : PK X kws (tB X.K π W h)) (hall : (backToKw pos (keywordEach kws X.env)).all (·.1.isSome) = true := by rfl) (hks : (backToKw pos (keywordEach kws X.env)).filterMap (·.1) = ks := by rfl)
    (hdb : (x == ("__debug__" : Str)) = false := by decide)
    (hpl : ((backTo pos (starEach [] X.env)).any (·.1) || (backToKw pos (keywordEach kws X.env)).any (·.1.isNone)) = false := by rfl) (hnn : ps.length = nn := by rfl) (hmm : ks.length = mm := by rfl) :
    PE X (.Call (.Name x p) [] kws pos) (tE X.K π W (callE nn G (kwB 0 mm ord nilB h))) := by
  subst hnn
  subst hmm
  exact fc_callK0 (fun rv S _ nw P => k_asE rv S nw P) Fn hr tk hg hm hkp hb hw hall hks hdb hpl

/-! ### f(g(..)), the argument a new thing -/
def callF {α : Type} (G : List Arg → RG) (f : Rho → R M) (kk : Res → Rho → R α) : Rho → R α := fun ρ => (f ρ).bind fun m ρ => match G [.io m] with
  | .ok r _ => kk r ρ
  | .exc C fs _ => .exc C fs ρ
  | .stuck => .stuck
abbrev callFE (G : List Arg → RG) (f : Rho → R M) : EF := callF G f asE
theorem Sta.postF {c : Cfg} {F F' H H' : Hp} {K : PySem.W.Frag} {σ : L2.St} {ρ : Rho} {q : Addr} {outs : List M} (S : Sta K π c F H σ ρ) (f0 : c.H0 q = none) (nw : ∀ j, ¬ OwnAt σ ρ j q) (P : PostG K F H [q] outs F' H') : Sta K π c F' H' σ ρ := by
  have ne : ∀ {b : Addr}, b ≠ q → b ∉ [q] := fun h => by simpa using h
  refine ⟨fun b o e n1 n2 nt => ?_, fun b hb => ?_, S.f0.trans P.f, P.fh, fun b o e1 e2 => ?_, S.len, fun i s hs => ?_, S.dis, ⟨P.t.tb, fun q ps e => by
    obtain ⟨ps', e'⟩ := S.t.tk q ps e
    exact P.t.tk q ps' e', P.t.nt⟩⟩
  · exact P.keep b o (S.h0 b o e n1 n2 nt) (ne fun z => by subst z; rw [f0] at e; cases e) nt
  · obtain ⟨o, ho⟩ := S.hio b hb
    by_cases z : b = q
    · subst z
      obtain ⟨m, hm⟩ := paired_mem P.outs (List.mem_singleton.mpr rfl)
      exact hm.here
    · by_cases zt : ∃ ps, o = .tbl ps
      · obtain ⟨ps, rfl⟩ := zt
        obtain ⟨ps', e'⟩ := P.t.tk b ps ho
        exact ⟨_, e'⟩
      · exact ⟨o, P.keep b o ho (ne z) fun ps y => zt ⟨ps, y⟩⟩
  · obtain ⟨o', e'⟩ := S.any e1
    exact P.nf b o' e' (S.nf b o e1 e2)
  · have z := S.rep i s hs
    cases s with
    | lk C f jj => obtain ⟨a, dx, e1, h1⟩ := z; exact ⟨a, dx, e1, P.f _ _ h1⟩
    | ln L => obtain ⟨a, e1, h1⟩ := z; exact ⟨a, e1, LnkF.mono P.f h1⟩
    | no => trivial
    | val d => obtain ⟨v, e1, r1⟩ := z; exact ⟨v, e1, r1.mono P.f⟩
    | own m =>
      obtain ⟨p, e1, e2, e3, e4⟩ := z
      obtain ⟨o, ho, hmu⟩ := e4.mut
      have nq : p ≠ q := fun z => by subst z; exact nw i ⟨e1, m, .inl hs⟩
      exact ⟨p, e1, P.nf p o ho e2, e3, e4.mono P.f fun o' ho' => P.keep p o' ho' (ne nq) (by rw [ho] at ho'; cases ho'; exact hmu.nt)⟩
    | io m =>
      obtain ⟨e1, e2, e3, e4⟩ := z
      obtain ⟨o, ho, hmu⟩ := e4.mut
      have nq : π i ≠ q := fun z => by rw [z] at e1; exact nw i ⟨e1, m, .inr hs⟩
      exact ⟨e1, P.nf _ o ho e2, e3, e4.mono P.f fun o' ho' => P.keep _ o' ho' (ne nq) (by rw [ho] at ho'; cases ho'; exact hmu.nt)⟩
theorem rd_callF {f : Rho → R M} {σ : L2.St} {H : Hp} {Q : VK} (t : tE X.K π W (callFE G f) σ H Q) : tCons (tM X.K π W f) tNil σ H fun vs H1 => spG X.K 1 G vs H1 Q fun cls d H' => W cls d σ H' := by
  obtain ⟨c, F, ρ, S, P⟩ := t
  refine po_bind S P fun v F1 H1 ρ1 m s1 S1 r1 P1 => ?_
  obtain ⟨q, rfl, n1, n2, n3, hm⟩ := r1
  refine ⟨F1, [.io m], ⟨S1.f, S1.t.tb, S1.t.nt⟩, .io n1 hm .nil, rfl, by rw [ioA_io]; simp [ioA], ?_⟩
  have e : ioA [V.ref q] [Arg.io m] = [q] := rfl
  rw [e]
  cases eg : G [.io m] with
  | stuck => rw [eg] at P1; exact P1
  | exc C fs outs =>
    rw [eg] at P1
    exact fun dd fsV F' H' po hd hf hr => P1 dd fsV F' H' po.f (S1.postF n2 n3 po) hd hf hr
  | ok r outs =>
    rw [eg] at P1
    refine fun v F' H' po rv => k_asE rv (S1.postF n2 n3 po) (fun b hb => ?_) (Po.mono po.f P1)
    refine ⟨?_, fun j hj => ?_⟩
    · cases z : c.H0 b with
      | none => rfl
      | some o =>
        obtain ⟨o', e'⟩ := S1.any z
        rw [hb] at e'
        cases e'
    · obtain ⟨o, ho⟩ := (S1.ownAt hj).2.2
      rw [hb] at ho
      cases ho
theorem fe_callF {f' : Rho → R M} (Fn : FnG X.prog X.w X.K X.mg X.base k f fd ps (spG X.K ps.length G)) (hl : ps.length = 1) (hr : RoomG k X.A) (tk : L2N.Takes X W) (hg : Gl X x) (hm : X.mg x = some (.ref f)) (hkp : PySem.W.keepIn X.K (.ref f) = true) (hb : Binds X.K fd ps [])
    (ha : PE X e (tM X.K π W f')) (hdb : (x == ("__debug__" : Str)) = false := by decide) (he : starEach [e] X.env = (false, eval e X.env) :: starEach [] X.env := by rfl) (hpl : (backTo pos (starEach [] X.env)).any (·.1) = false := by rfl) :
    PE X (.Call (.Name x p) [e] [] pos) (tE X.K π W (callFE G f')) := by
  refine ⟨fun pins s σ H Q I h => ?_⟩
  refine wpAny_Call_Name_kw (ld_glob I hg hm ?_ hdb)
  refine PySem.W.callWith_K (h₀ := X.base) I.ok.mod.kin hkp (thn ((pa_cons ha pa_nil he).run pos pins s σ H _ I (rd_callF h)) fun us s1 ⟨vs, H1, I1, r, q⟩ => ⟨I1.kIn, ?_⟩) he hpl
  rw [← hl] at q
  have b := hb s1 us I1.kIn (by rw [List.append_nil, ← r.length]; exact Fn.len _ _ _ _ q)
  rw [List.append_nil] at b
  refine wpAny_call (codeAny_mono (run_fnG Fn hr tk b I1 r q) fun r s' hq => ?_)
  cases r with
  | error e => exact hq
  | ok fl =>
    cases fl with
    | ret u => exact hq
    | next => exact False.elim hq
    | brk => exact False.elim hq
    | cont => exact False.elim hq
end
variable [FE] in
/-- a def of the module that may be called by its name -/
structure Cal (P : Program) (w : World) (K : PySem.W.Frag) (mg : Str → Option Value) (base : Heap) (k : Nat) (x : Str) (ps : List Str) (kbs : List (List Str × Nat × List Nat)) (G : List Arg → RG) : Prop where
  ex : ∃ (f : Addr) (fd : FuncData), FnG P w K mg base k f fd ps (spG K ps.length G) ∧ mg x = some (.ref f) ∧ PySem.W.keepIn K (.ref f) = true ∧ Binds K fd ps [] ∧ ∀ q ∈ kbs, KB K fd ps q.1 q.2.1 q.2.2
variable [FE] in
theorem cal_of {P : Program} {w : World} {K : PySem.W.Frag} {mg : Str → Option Value} {base : Heap} {k : Nat} {x qual : Str} {st : Stmt} {f : Addr} {fd : FuncData} {ps : List Str} {kbs : List (List Str × Nat × List Nat)} {G : List Arg → RG} (Fd : Fun K x qual st f fd) (hm : mg x = some (.ref f))
    (h : FnG P w K mg base k f fd ps (spG K ps.length G))
    (hb : ∀ (kV doc pm : Value) (an : Option Addr) (cdv ct : Value) (us : List Value), us.length = ps.length → bindArgs (PySem.W.fnOf x qual (defArgs st) (defBody st) (defScope st) .none kV doc pm an cdv ct) ⟨us, []⟩ = pure (ps.zip us))
    (hk : ∀ q ∈ kbs, ∀ (kV doc pm : Value) (an : Option Addr) (cdv ct : Value) (us ws : List Value), us.length = q.2.1 → ws.length = q.1.length → bindArgs (PySem.W.fnOf x qual (defArgs st) (defBody st) (defScope st) .none kV doc pm an cdv ct) ⟨us, q.1.zip ws⟩ = pure (ps.zip (pick q.2.2 (us ++ ws)))) :
    Cal P w K mg base k x ps kbs G := by
  refine ⟨f, fd, h, hm, Fd.kp, Fd.binds hb, fun q hq => ?_⟩
  obtain ⟨oc, od, kV, doc, pm, an, cdv, ct, osl, rfl, lk, hcd⟩ := Fd.ex
  exact fun s us ws _ h1 h2 => .of_eq (hk q hq kV doc pm an cdv ct us ws h1 h2)
theorem kb_nil {P : List Str × Nat × List Nat → Prop} : ∀ q ∈ ([] : List (List Str × Nat × List Nat)), P q := fun q h => by cases h
theorem kb_cons {P : List Str × Nat × List Nat → Prop} {a : List Str × Nat × List Nat} {l : List (List Str × Nat × List Nat)} (h : P a) (t : ∀ q ∈ l, P q) : ∀ q ∈ a :: l, P q := fun q hq => by
  rcases List.mem_cons.mp hq with e | e
  · subst e; exact h
  · exact t q e
theorem rm_mono {j k : Nat} {A : Around} (r : RoomG k A) (h : Nat.ble j k = true) : RoomG j A := r.mono (Nat.le_of_ble_eq_true h)
/-! ### the tests of a comprehension that has none; what the top has read -/
def yesT : TF := fun ρ => .ok true ρ
variable [FE] in
theorem pts_non {X : Cx} {π : Nat → Addr} {W : WX} : PTs X [] (tT X.K π W yesT) := ⟨fun pins s σ H Q I ⟨c, F, ρ, S, P⟩ => pts_nil.run pins s σ H Q I (P true F H (Same.refl _) S rfl)⟩
theorem takes_0 {X : Cx} : L2N.Takes X W0 := fun _ _ x => by
  obtain ⟨_, _, _, _, _, _, _, _, _, _, _, _, _, _, _, _, z⟩ := x
  exact z.elim
end FL
/-! FL13: how readings are worked out. -/
namespace FL
open PySem PySem.Spec PyProof.Rows L2

/-- what follows a part, not looked into -/
inductive Hold {α β : Type} (k : α → Rho → R β) : Type where
  | mk : Hold k
def R.bd {α β : Type} (k : α → Rho → R β) (_ : Hold k) (x : R α) : R β := x.bind k
theorem R.bind_bd {α β : Type} (x : R α) (k : α → Rho → R β) : x.bind k = R.bd k .mk x := rfl
theorem R.bd_ok {α β : Type} (k : α → Rho → R β) (h : Hold k) (a : α) (ρ : Rho) : R.bd k h (.ok a ρ) = k a ρ := rfl
def goG {α : Type} (x : RG) (as : List AA) (k : Res → Rho → R α) (ρ : Rho) : R α := match x with
  | .ok r outs => k r (putA as outs ρ)
  | .exc C fs outs => .exc C fs (putA as outs ρ)
  | .stuck => .stuck
theorem goG_ok {α : Type} (r : Res) (outs : List M) (as : List AA) (k : Res → Rho → R α) (ρ : Rho) : goG (.ok r outs) as k ρ = k r (putA as outs ρ) := rfl
def argG {α : Type} (x : Option (List FL.Arg)) (G : List FL.Arg → RG) (as : List AA) (k : Res → Rho → R α) (ρ : Rho) : R α := match x with
  | some gs => goG (G gs) as k ρ
  | none => .stuck
theorem argG_some {α : Type} (gs : List FL.Arg) (G : List FL.Arg → RG) (as : List AA) (k : Res → Rho → R α) (ρ : Rho) : argG (some gs) G as k ρ = goG (G gs) as k ρ := rfl
theorem callG_eq {α : Type} (n : Nat) (G : List FL.Arg → RG) (f : BF) (k : Res → Rho → R α) (ρ : Rho) : callG n G f k ρ = (f ρ).bind fun as ρ => if okA n as = true then argG (toArgs ρ as) G as k ρ else .stuck := by
  unfold callG argG goG
  congr 1
def endR (as : List FL.Arg) (x : R Fl) : RG := match x with
  | .ok .nx ρ => endG as (.ok (.v .non)) ρ
  | .ok (.rt r) ρ => endG as (.ok r) ρ
  | .exc C fs ρ => endG as (.exc C fs) ρ
  | _ => .stuck
theorem bodyG_eq (l : Nat) (g : SF) (as : List FL.Arg) : bodyG l g as = endR as (g (rho0 l as)) := by
  unfold bodyG endR
  rfl
theorem endR_rt (as : List FL.Arg) (r : Res) (ρ : Rho) : endR as (.ok (.rt r) ρ) = endG as (.ok r) ρ := rfl
theorem endR_nx (as : List FL.Arg) (ρ : Rho) : endR as (.ok .nx ρ) = endG as (.ok (.v .non)) ρ := rfl
/-- behind a statement -/
def nxt (g : SF) (fl : Fl) (ρ : Rho) : R Fl := match fl with
  | .nx => g ρ
  | o => .ok o ρ
theorem seqS_eq (f g : SF) (ρ : Rho) : seqS f g ρ = (f ρ).bind (nxt g) := rfl
theorem nxt_nx (g : SF) (ρ : Rho) : nxt g .nx ρ = g ρ := rfl
theorem nxt_rt (g : SF) (r : Res) (ρ : Rho) : nxt g (.rt r) ρ = .ok (.rt r) ρ := rfl
theorem nxt_bk (g : SF) (ρ : Rho) : nxt g .bk ρ = .ok .bk ρ := rfl
theorem nxt_ct (g : SF) (ρ : Rho) : nxt g .ct ρ = .ok .ct ρ := rfl
/-- a branch -/
def brR {α : Type} (f g : Rho → R α) (b : Bool) (ρ : Rho) : R α := if b = true then f ρ else g ρ
theorem ifS_eq (t : TF) (f g : SF) (ρ : Rho) : ifS t f g ρ = (t ρ).bind (brR f g) := rfl
theorem ifE_eq (t : TF) (f g : EF) (ρ : Rho) : ifE t f g ρ = (t ρ).bind (brR f g) := rfl
theorem brR_t {α : Type} (f g : Rho → R α) (ρ : Rho) : brR f g true ρ = f ρ := rfl
theorem brR_f {α : Type} (f g : Rho → R α) (ρ : Rho) : brR f g false ρ = g ρ := rfl
theorem anT_eq (f g : TF) (ρ : Rho) : anT f g ρ = (f ρ).bind (brR g fun ρ => .ok false ρ) := rfl
theorem orT_eq (f g : TF) (ρ : Rho) : orT f g ρ = (f ρ).bind (brR (fun ρ => .ok true ρ) g) := rfl
theorem anE_eq (f g : EF) (ρ : Rho) : anE f g ρ = (tst f ρ).bind (brR g fun ρ => .ok (.bl false) ρ) := rfl
theorem orE_eq (f g : EF) (ρ : Rho) : orE f g ρ = (tst f ρ).bind (brR (fun ρ => .ok (.bl true) ρ) g) := rfl
theorem brR_dec {α : Type} (f g : Rho → R α) (p : Prop) [Decidable p] (ρ : Rho) : brR f g (decide p) ρ = if p then f ρ else g ρ := by
  unfold brR
  by_cases h : p <;> simp [h]
def isB : D → Option Bool
  | .bl b => some b
  | _ => none
theorem tst_eq (f : EF) (ρ : Rho) : tst f ρ = (f ρ).bind fun x ρ => R.of (isB x) ρ := by
  unfold tst isB
  rfl
theorem isB_bl (b : Bool) : isB (.bl b) = some b := rfl
theorem eqA_int (a b : Int) : eqA (.int a) (.int b) = some (.bl (decide (a = b))) := by
  have e : (a == b) = decide (a = b) := by
    by_cases h : a = b <;> simp [h]
  rw [← e]
  rfl
theorem neA_int (a b : Int) : neA (.int a) (.int b) = some (.bl (!decide (a = b))) := by
  have e : (a == b) = decide (a = b) := by
    by_cases h : a = b <;> simp [h]
  rw [← e]
  rfl
theorem eqA_str (a b : Str) : eqA (.str a) (.str b) = some (.bl (decide (a = b))) := rfl
theorem neA_str (a b : Str) : neA (.str a) (.str b) = some (.bl (!decide (a = b))) := rfl
theorem ltD_int (a b : Int) : ltD (.int a) (.int b) = some (.bl (decide (a < b))) := rfl
theorem leD_int (a b : Int) : leD (.int a) (.int b) = some (.bl (decide (a ≤ b))) := rfl
theorem gtD_int (a b : Int) : gtD (.int a) (.int b) = some (.bl (decide (b < a))) := rfl
theorem geD_int (a b : Int) : geD (.int a) (.int b) = some (.bl (decide (b ≤ a))) := rfl
theorem addD_int (a b : Int) : addD (.int a) (.int b) = some (.int (a + b)) := rfl
theorem subD_int (a b : Int) : subD (.int a) (.int b) = some (.int (a - b)) := rfl
theorem negD_int (a : Int) : negD (.int a) = some (.int (-a)) := rfl
theorem absC_int (a : Int) : absC [.int a] = some (.int (a.natAbs : Int)) := by
  show some (D.int (if a < 0 then -a else a)) = _
  congr 2
  split <;> omega
theorem intC_int (a : Int) : intC [.int a] = some (.int a) := rfl
theorem maxC_int (a b : Int) : maxC [.int a, .int b] = some (.int (max a b)) := by
  show some (D.int (if b > a then b else a)) = _
  congr 2
  split <;> omega
theorem minC_int (a b : Int) : minC [.int a, .int b] = some (.int (min a b)) := by
  show some (D.int (if b < a then b else a)) = _
  congr 2
  split <;> omega
theorem mulOk_l {a b : Int} (h : a.natAbs < 18446744073709551616) : mulOk a b = true := by
  unfold mulOk
  rw [decide_eq_true (show a.natAbs < 2 ^ 64 from h)]
  rfl
theorem mulOk_r {a b : Int} (h : b.natAbs < 18446744073709551616) : mulOk a b = true := by
  unfold mulOk
  rw [decide_eq_true (show b.natAbs < 2 ^ 64 from h), Bool.or_true]
  rfl
theorem mulD_l {a b : Int} (h : a.natAbs < 18446744073709551616) : mulD (.int a) (.int b) = some (.int (a * b)) := by
  simp only [mulD, mulOk_l h, if_true]
theorem mulD_r {a b : Int} (h : b.natAbs < 18446744073709551616) : mulD (.int a) (.int b) = some (.int (a * b)) := by
  simp only [mulD, mulOk_r h, if_true]
theorem modD_pos {a b : Int} (h : 0 < b) : modD (.int a) (.int b) = some (.int (a % b)) := by
  have h0 : b ≠ 0 := by omega
  simp only [modD, if_pos h0, Int.fmod_eq_emod_of_nonneg a (Int.le_of_lt h)]
theorem fdivD_pos {a b : Int} (h : 0 < b) (h2 : b < 1073741824) : fdivD (.int a) (.int b) = some (.int (a / b)) := by
  have h0 : (b ≠ 0 ∧ b.natAbs < 1073741824) ∨ (b ≠ 0 ∧ b.natAbs.log2 < 9000) := .inl ⟨by omega, by omega⟩
  simp only [fdivD, if_pos h0, Int.fdiv_eq_ediv_of_nonneg a (Int.le_of_lt h)]
theorem lenC_lst (xs : List D) : lenC [.lst xs] = some (.int xs.length) := rfl
theorem lenC_tup (xs : List D) : lenC [.tup xs] = some (.int xs.length) := rfl
theorem lenC_scr (xs : List Int) : lenC [.scr xs] = some (.int xs.length) := rfl
theorem atI_nat {α : Type} {xs : List α} {i : Int} {a : α} (h0 : 0 ≤ i) (h : xs[i.toNat]? = some a) : atI xs i = some a := by
  unfold atI ixN
  have hl := (List.getElem?_eq_some_iff.mp h).1
  rw [if_pos h0, if_pos (by omega)]
  exact h
/-- one of a list -/
theorem ixD_lst {xs : List D} {i : Int} (h0 : 0 ≤ i) (h1 : i < xs.length) : ∃ d ∈ xs, ixD (.lst xs) (.int i) = some d := by
  have hl : i.toNat < xs.length := by omega
  refine ⟨xs[i.toNat], List.getElem_mem hl, ?_⟩
  show atI xs i = _
  exact atI_nat h0 (List.getElem?_eq_getElem hl)

/-! ### loops -/
theorem forL_cons (ks : List Nat) (g : GF) (b : SF) (d : D) (ds : List D) (ρ : Rho) : forL ks g b (d :: ds) ρ = bindO (g d ρ) fun ρ => (b ρ).bind (aftF ks (forL ks g b ds)) := rfl
theorem forS_eq (ks : List Nat) (it : IF) (g : GF) (b : SF) (ρ : Rho) : forS ks it g b ρ = (it ρ).bind fun ds ρ => forL ks g b ds ρ := rfl
/-- a comprehension whose turns keep the state (but for its own names) -/
theorem cmpL_of {ks : List Nat} {g : GF} {t : TF} {f : EF} (I : Nat → Rho → Prop) (X : D → D → Prop) : ∀ (ds : List D) (n : Nat) (acc : List D) (ρ : Rho), acc.length + ds.length ≤ 100000 → I n ρ →
    (∀ (i : Nat) (d : D) (ρ : Rho), I (n + i) ρ → ds[i]? = some d → ∃ ρ1, g d ρ = some ρ1 ∧ ((∃ ρ2, t ρ1 = .ok false ρ2 ∧ I (n + i + 1) (wipeR ks ρ2)) ∨ ∃ ρ2 x ρ3, t ρ1 = .ok true ρ2 ∧ f ρ2 = .ok x ρ3 ∧ X d x ∧ I (n + i + 1) (wipeR ks ρ3))) →
    ∃ ys ρ', cmpL ks g t f acc ds ρ = .ok (.lst (acc ++ ys)) ρ' ∧ (∀ y ∈ ys, ∃ d ∈ ds, X d y) ∧ I (n + ds.length) ρ'
  | [], n, acc, ρ, hl, h, _ => ⟨[], ρ, by rw [List.append_nil]; rfl, (fun y hy => by simp at hy), h⟩
  | d :: ds, n, acc, ρ, hl, h, st => by
    rw [List.length_cons] at hl
    obtain ⟨ρ1, e1, z⟩ := st 0 d ρ h rfl
    have next : ∀ (acc' : List D) (ρ' : Rho), acc'.length + ds.length ≤ 100000 → I (n + 1) ρ' → ∃ ys ρ2, cmpL ks g t f acc' ds ρ' = .ok (.lst (acc' ++ ys)) ρ2 ∧ (∀ y ∈ ys, ∃ d ∈ ds, X d y) ∧ I (n + 1 + ds.length) ρ2 := fun acc' ρ' h1 h2 =>
      cmpL_of I X ds (n + 1) acc' ρ' h1 h2 fun i d' ρ' h3 h4 => by
        have := st (i + 1) d' ρ' (by rw [show n + (i + 1) = n + 1 + i by omega]; exact h3) (by simpa using h4)
        rw [show n + (i + 1) + 1 = n + 1 + i + 1 by omega] at this
        exact this
    rw [show n + (d :: ds).length = n + 1 + ds.length by rw [List.length_cons]; omega]
    unfold cmpL
    rw [e1]
    rcases z with ⟨ρ2, e2, hi⟩ | ⟨ρ2, x, ρ3, e2, e3, hx, hi⟩
    · obtain ⟨ys, ρ', e, hy, h'⟩ := next acc _ (by omega) hi
      refine ⟨ys, ρ', ?_, fun y hy' => ?_, h'⟩
      · show (noX (t ρ1)).bind _ = _
        rw [e2]
        exact e
      · obtain ⟨d', hd, hx⟩ := hy y hy'
        exact ⟨d', List.mem_cons_of_mem _ hd, hx⟩
    · obtain ⟨ys, ρ', e, hy, h'⟩ := next (acc ++ [x]) _ (by rw [List.length_append, List.length_singleton]; omega) hi
      refine ⟨x :: ys, ρ', ?_, fun y hy' => ?_, h'⟩
      · show (noX (t ρ1)).bind _ = _
        rw [e2]
        show (noX (f ρ2)).bind _ = _
        rw [e3]
        show (if small (acc.length + 1) = true then _ else _) = _
        rw [if_pos (show small (acc.length + 1) = true from decide_eq_true (by omega)), e]
        simp
      · rcases List.mem_cons.mp hy' with e | hy'
        · subst e
          exact ⟨d, List.mem_cons_self, hx⟩
        · obtain ⟨d', hd, hx⟩ := hy y hy'
          exact ⟨d', List.mem_cons_of_mem _ hd, hx⟩
/-- a comprehension whose turns keep the state: filter and map -/
theorem cmpL_pure {ks : List Nat} {g : GF} {t : TF} {f : EF} (I : Rho → Prop) (tb : D → Bool) (fx : D → D) : ∀ (ds acc : List D) (ρ : Rho), acc.length + ds.length ≤ 100000 → I ρ →
    (∀ d ∈ ds, ∀ ρ, I ρ → ∃ ρ1 ρ2, g d ρ = some ρ1 ∧ t ρ1 = .ok (tb d) ρ2 ∧ (tb d = false → I (wipeR ks ρ2)) ∧ (tb d = true → ∃ ρ3, f ρ2 = .ok (fx d) ρ3 ∧ I (wipeR ks ρ3))) →
    ∃ ρ', cmpL ks g t f acc ds ρ = .ok (.lst (acc ++ (ds.filter tb).map fx)) ρ' ∧ I ρ'
  | [], acc, ρ, hl, h, _ => ⟨ρ, by rw [List.filter_nil, List.map_nil, List.append_nil]; rfl, h⟩
  | d :: ds, acc, ρ, hl, h, st => by
    rw [List.length_cons] at hl
    obtain ⟨ρ1, ρ2, e1, e2, h1, h2⟩ := st d List.mem_cons_self ρ h
    unfold cmpL
    rw [e1]
    cases hb : tb d with
    | false =>
      obtain ⟨ρ', e, h'⟩ := cmpL_pure I tb fx ds acc _ (by omega) (h1 hb) fun d' hd => st d' (List.mem_cons_of_mem _ hd)
      refine ⟨ρ', ?_, h'⟩
      show (noX (t ρ1)).bind _ = _
      rw [e2, hb, List.filter_cons, hb, if_neg Bool.false_ne_true]
      exact e
    | true =>
      obtain ⟨ρ3, e3, h3⟩ := h2 hb
      obtain ⟨ρ', e, h'⟩ := cmpL_pure I tb fx ds (acc ++ [fx d]) _ (by rw [List.length_append, List.length_singleton]; omega) h3 fun d' hd => st d' (List.mem_cons_of_mem _ hd)
      refine ⟨ρ', ?_, h'⟩
      show (noX (t ρ1)).bind _ = _
      rw [e2, hb, List.filter_cons, hb, if_pos rfl, List.map_cons]
      show (noX (f ρ2)).bind _ = _
      rw [e3]
      show (if small (acc.length + 1) = true then _ else _) = _
      rw [if_pos (show small (acc.length + 1) = true from decide_eq_true (by omega)), e]
      simp
theorem rgOk_of {i : Int} (h : -4000000000000000000 ≤ i) (h' : i ≤ 4000000000000000000) : rgOk i = true := by
  exact decide_eq_true (by omega)
theorem rangeL_mem : ∀ (n : Nat) (lo : Int) (d : D), d ∈ rangeL lo n ↔ ∃ i : Int, d = .int i ∧ lo ≤ i ∧ i < lo + n
  | 0, lo, d => by
    rw [rangeL]
    constructor
    · intro h
      simp at h
    · rintro ⟨i, _, h1, h2⟩
      omega
  | n + 1, lo, d => by
    rw [rangeL, List.mem_cons, rangeL_mem n]
    constructor
    · rintro (rfl | ⟨i, rfl, h1, h2⟩)
      · exact ⟨lo, rfl, by omega, by omega⟩
      · exact ⟨i, rfl, by omega, by omega⟩
    · rintro ⟨i, rfl, h1, h2⟩
      by_cases h : i = lo
      · exact .inl (by rw [h])
      · exact .inr ⟨i, rfl, by omega, by omega⟩
end FL
/-! FL14: enumerate, of lists and of tuples. -/
namespace FL
open PySem PySem.Spec PyProof.Rows L2 AutoSeq1
section
variable {prog : Program} {w : World} {A : Around} {E : Value → Shared → Prop} {s : Shared}
end
/-! ### the reading -/
def seqT : D → Option (List D)
  | .tup ds => some ds
  | _ => none
section
variable {K : PySem.W.Frag} {F : Hp} {q : Addr} {xs : List V} {ds : List D}
end
section
variable [FE]
variable {X : Cx} {π : Nat → Addr} {W : WX} {e : Expr} {pos p tpos : Pos} {elts : List Expr} {kk : Nat} {x : Str}
end
end FL
/-! FL15: new lists of our own, comprehensions stored on one line. -/
namespace FL
open PySem PySem.Spec PyProof.Rows L2
section
variable [FE]
variable {X : Cx} {π : Nat → Addr} {W : WX}
theorem rd_frz {K : PySem.W.Frag} {f : Rho → R M} {σ : L2.St} {H : Hp} {Q : VK} (t : tE K π W (frz f) σ H Q) : tM K π W f σ H Q := by
  obtain ⟨c, F, ρ, S, P⟩ := t
  refine po_bind S P fun v F1 H1 ρ1 m s1 S1 r1 P1 => ?_
  obtain ⟨p, rfl, f1, f2, f3, hm⟩ := r1
  cases m with
  | ins C fs => exact P1.elim
  | dtu _ => exact P1.elim
  | lst ds =>
    obtain ⟨vs, ho, r⟩ := hm
    obtain ⟨sm, S'⟩ := frz_new S1 ho f1 f2 f3
    exact P1 _ _ H1 sm S' (.lst upd_same (r.mono sm))
  | dct ds =>
    obtain ⟨kvs, ho, hk, r⟩ := hm
    obtain ⟨sm, S'⟩ := frz_newG S1 (by intro ps z; cases z) ho f1 f2 f3
    exact P1 _ _ H1 sm S' (.dct upd_same hk (r.mono sm))
/-- name = [.. for ..] on one line, as data -/
theorem fs_setLc {i : Nat} {y : Str} {py : Pos} {elt tg iter : Expr} {ifs : List Expr} {scope : Scope} {own : List (Str × Nat)} {pos spos : Pos} {it : IF} {g : GF} {t : TF} {f : EF} {ns : List Nat} (hc : X.calm = true) (hN : X.N.Nodup) (hy : X.N[i]? = some y) (hyl : X.env.scope.names.lookup y = some .local)
    (hsw : swapsWith (.ListComp elt [⟨tg, iter, ifs, 0⟩] scope pos) (some (.Name y py)) spos.line X.env = pure true) (hi : PI X tg iter (tI X.K π W it)) (ok : BlkOk X.N X.env.scope scope own)
    (hg : ∀ (s : Shared) (H : Hp) (C : Addr) (cl : List (Str × Addr)) (fp : List Addr), PG (X.blk s H scope (compEnvC scope cl C X.env) fp) tg (tGt X.K π ns g))
    (ht : ∀ (s : Shared) (H : Hp) (C : Addr) (cl : List (Str × Addr)) (fp : List Addr), PTs (X.blk s H scope (compEnvC scope cl C X.env) fp) ifs (tT X.K π W0 t))
    (he : ∀ (s : Shared) (H : Hp) (C : Addr) (cl : List (Str × Addr)) (fp : List Addr), PE (X.blk s H scope (compEnvC scope cl C X.env) fp) elt (tE X.K π W0 f))
    (hns : ∀ j ∈ ns, j ∈ own.map (·.2)) (hs : ∀ x, foldedSetIterable iter X.env x = pure x := by intro _; rfl) : PS X (.Assign [.Name y py] (.ListComp elt [⟨tg, iter, ifs, 0⟩] scope pos) spos) (tS X.K π W (setS i (frz (cmpM (own.map (·.2)) it g t f)))) :=
  PS.imp (ps_setLc hc hN hy hyl hsw hi ok hg ht he (hs := hs)) fun D σ H ⟨c, F, ρ, h0, S, P⟩ => by
    refine rd_lc hns (rd_frz (pos_bind S P fun v F1 H1 ρ1 d s1 S1 r1 P1 => ?_))
    unfold setR at P1
    split at P1
    · rename_i hl
      exact P1 _ F1 H1 (Same.refl _) (S1.set hl r1)
    · exact P1.elim
end
section
variable [FE]
variable {X : Cx} {π : Nat → Addr} {W : WX} {a b e : Expr} {es : List Expr} {pos p p2 : Pos} {x : Str}
def litM (f : Rho → R (List D)) : Rho → R M := fun ρ => (f ρ).bind fun ds ρ => match ds with
  | [d] => (R.of (seqD d) ρ).bind fun xs ρ => .ok (.lst xs) ρ
  | _ => .stuck
/-- x + e, both lists, x our own -/
def catO (i : Nat) (f : EF) : Rho → R M := fun ρ => match getM i ρ with
  | none => .stuck
  | some _ => (f ρ).bind fun d ρ => match getM i ρ, d with
    | some (ds, _), .lst es => if small (ds.length + es.length) = true then .ok (.lst (ds ++ es)) ρ else .stuck
    | _, _ => .stuck
/-- a + b, both lists, a new list of our own -/
def catM (f g : EF) : Rho → R M := fun ρ => (f ρ).bind fun d ρ => (g ρ).bind fun e ρ => match d, e with
  | .lst ds, .lst es => if small (ds.length + es.length) = true then .ok (.lst (ds ++ es)) ρ else .stuck
  | _, _ => .stuck
/-- x[a:b] of our own list, as data -/
def slM (i : Nat) (g h : Rho → R (Option Int)) : EF := fun ρ => match getM i ρ with
  | none => .stuck
  | some _ => (g ρ).bind fun l ρ => (h ρ).bind fun u ρ => match getM i ρ with
    | some (ds, _) => .ok (.lst (cut ds l u)) ρ
    | none => .stuck
end
end FL
/-! FL16: sorted of whole numbers. -/
namespace FL
open PySem PySem.Spec PyProof.Rows L2
def asInts : List D → Option (List Int)
  | [] => some []
  | .int i :: ds => (asInts ds).map (i :: ·)
  | _ :: _ => none
theorem asInts_eq : ∀ {ds : List D} {ns : List Int}, asInts ds = some ns → ds = ns.map D.int
  | [], ns, e => by cases e; rfl
  | .int i :: ds, ns, e => by
    unfold asInts at e
    cases h : asInts ds with
    | none => rw [h] at e; cases e
    | some ms => rw [h] at e; cases e; rw [asInts_eq h]; rfl
end FL
/-! FL17: set of a list of whole numbers, and sorted of such a set. -/
namespace FL
open PySem PySem.Spec PyProof.Rows L2
section
variable {P : Program} {w : World} {A : Around} {E : Value → Shared → Prop} {s : Shared}
end
end FL
/-! FL18: sorted(set(x)), x a list of fewer than 64 whole numbers. -/
namespace FL
open PySem PySem.Spec PyProof.Rows L2
section
variable [FE]
variable {X : Cx} {π : Nat → Addr} {W : WX}
end
end FL
/-! FL19: index and count of a list of flat things. -/
namespace FL
open PySem PySem.Spec PyProof.Rows L2

/-- how often, of flat things -/
def cntV (x : V) (ys : List V) : Nat := ys.countP fun y => eqV y x
def rCntF (K : PySem.W.Frag) : V → List V → Hp → VK → Prop := fun x xs H Q => ∃ (a : Addr) (ys : List V) (y : V), x = .ref a ∧ xs = [y] ∧ SqL K H a ys ∧ flatV y = true ∧ ys.all flatV = true ∧ Q (.int (cntV y ys : Nat)) H
theorem cnt_rel {y : V} : ∀ {ys : List V} {us : List Value}, Vals ys us → ys.all flatV = true → us.countP (eqU y) = cntV y ys
  | _, _, .nil, _ => rfl
  | z :: ys, u :: us, .cons r t, f => by
    rw [List.all_cons, Bool.and_eq_true] at f
    unfold cntV
    rw [List.countP_cons, List.countP_cons, eqU_of r f.1]
    congr 1
    exact cnt_rel t f.2
theorem mt_countF {X : Cx} : MtR X "list.count" (rCntF X.K) := by
  intro pins s σ H x xs v us Q I rx rxs h
  obtain ⟨a, ys, y, rfl, rfl, hs, fy, fys, q⟩ := h
  cases rx
  obtain ⟨uy, rfl, ry⟩ := rxs.one
  obtain ⟨its, rv, ⟨⟨cls, dd, data, sl⟩, n, ho, hc, hdn, hd⟩, hlen⟩ := I.list hs
  simp only at hc hd
  subst hc hd
  refine call_meets PySem.F.slot_list_count ⟨_, ho, rfl⟩ PySem.F.entry_list_count (PySem.F.args_list_count_2 _ _)
    (SeqAt.list_countAt a its.toArray n dd sl uy (eqU y)) ⟨ho, fun u' hu' => mem_eqAt ry fy rv fys u' (by simpa using hu'), ?_⟩
  have ec : its.toArray.toList.countP (eqU y) = cntV y ys := cnt_rel rv fys
  refine ⟨.int (cntV y ys : Nat), H, I.tok _, ⟨s.toks, ?_⟩, q⟩
  show Value.int ((its.toArray.toList.countP (eqU y) : Nat) : Int) s.toks = Value.int ((cntV y ys : Nat) : Int) s.toks
  rw [ec]
def cntL (ys : List D) (x : D) : Option D := if flatD x = true ∧ ys.all flatD = true then some (.int (ys.countP fun y => eqd y x : Nat)) else none
section
variable [FE]
variable {K : PySem.W.Frag} {F : Hp}
theorem cnt_rep {x : V} {dx : D} (r : Rep K F x dx) (h : flatD dx = true) : ∀ {vs : List V} {ds : List D}, Reps K F vs ds → ds.all flatD = true → cntV x vs = ds.countP fun y => eqd y dx
  | _, _, .nil, _ => rfl
  | _, _, .cons q qs, e => by
    rw [List.all_cons, Bool.and_eq_true] at e
    unfold cntV
    rw [List.countP_cons, List.countP_cons, eqv_rep q r e.1 h]
    congr 1
    exact cnt_rep r h qs e.2
end
/-- by a list's method on values: what the method asks of a list with these things -/
def MtL (K : PySem.W.Frag) (o : List D → D → Option D) (r : V → List V → Hp → VK → Prop) : Prop :=
  ∀ {F H : Hp} {a : Addr} {vs : List V} {ds : List D} {x : V} {dx d : D} {Q : VK}, SqL K H a vs → Reps K F vs ds → Rep K F x dx → o ds dx = some d → (∀ v, Rep K F v d → Q v H) → r (.ref a) [x] H Q
variable [FE] in
theorem ml_cnt {K : PySem.W.Frag} : MtL K cntL (rCntF K) := by
  intro F H a vs ds x dx d Q h1 r1 rx e k
  unfold cntL at e
  split at e
  · rename_i hz
    cases e
    exact ⟨a, vs, x, rfl, rfl, h1, flat_rep rx hz.1, flats_rep r1 hz.2, by rw [cnt_rep rx hz.1 r1 hz.2]; exact k _ (.int _)⟩
  · cases e
/-- the method of a list that is data -/
def lmD (o : List D → D → Option D) (f g : EF) : EF := fun ρ => (f ρ).bind fun x ρ => match x with
  | .lst ys => (g ρ).bind fun y ρ => R.of (o ys y) ρ
  | _ => .stuck
section
variable [FE]
variable {X : Cx} {π : Nat → Addr} {W : WX} {a b : Expr} {p apos cpos : Pos} {x : Str} {r : V → List V → Hp → VK → Prop} {o : List D → D → Option D}
theorem rd_lmD {f g : EF} {σ : L2.St} {H : Hp} {Q : VK} (q : MtL X.K o r) (t : tE X.K π W (lmD o f g) σ H Q) : tBM X.K "list" r (tE X.K π W f) (tCons (tE X.K π W g) tNil) σ H Q := by
  obtain ⟨c, F, ρ, S, P⟩ := t
  refine po_bind S P fun x F1 H1 ρ1 dx s1 S1 r1 P1 => ?_
  cases r1 <;> first | (exact P1.elim) | skip
  rename_i l vs ds h1 r1
  refine ⟨.inl ⟨rfl, vs, SqL.of (S1.f _ _ h1)⟩, ?_⟩
  refine po_bind S1 P1 fun y F2 H2 ρ2 dy s2 S2 r2 P2 => ?_
  obtain ⟨d, e, P3⟩ := po_of P2
  exact q (SqL.of (S2.f _ _ (s2 _ _ h1))) (r1.mono s2) r2 e fun v rv => P3 v F2 H2 (Same.refl _) S2 rv
theorem fe_cntD {f g : EF} (ha : PE X a (tE X.K π W f)) (hb : PE X b (tE X.K π W g)) (hbase : attributeBase a "count" X.env (eval a X.env) = eval a X.env := by rfl)
    (hfew : ((backTo cpos (starEach [b] X.env)).all (fun x => !x.1) && (backToKw cpos (keywordEach [] X.env)).all (fun x => x.1.isSome) && decide ([b].length + ([] : List Keyword).length + (if ([] : List Keyword).isEmpty then 0 else 1) < 30)) = true := by rfl)
    (hline : (apos.endLine == cpos.line) = true := by rfl) (hst : starEach [b] X.env = (false, eval b X.env) :: starEach [] X.env := by rfl) (hpl : (backTo cpos (starEach [] X.env)).any (·.1) = false := by rfl) :
    PE X (.Call (.Attribute a "count" apos) [b] [] cpos) (tE X.K π W (lmD cntL f g)) :=
  PE.imp (pe_bm PySem.F.plainAttrs_list PySem.F.slot_list_count PySem.F.type_list_count mt_countF ha (pa_cons hb pa_nil hst) hbase hfew hline hst hpl) fun _ _ _ h => rd_lmD ml_cnt h
end
end FL
/-! FL20: the program's own exception classes: made, raised. -/
namespace FL
open PySem PySem.Spec PyProof.Rows L2 PySem.W PySem.HandSPX

/-- what is said of a built-in base -/
structure TlF (B nw ini : String) (tl : List Value) : Prop where
  base : ExcBaseFacts B nw ini tl
  st : StoreFacts B tl "object.__setattr__" "object"
theorem tlV : TlF "ValueError" "ValueError.__new__" "ValueError.__init__" [.type "ValueError", .type "Exception", .type "BaseException", .type "object"] := ⟨F.excBase_ValueError, F.store_ValueError⟩
/-- what the written part says of an own class with an __init__ that stores its arguments under fs -/
structure ExcK (K : Frag) (C fI : Addr) (nw : String) (tl : List Value) (fs : List Str) : Prop where
  q : excInitIn K C tl nw = true
  ov : excOver K C tl = true
  hd : hasDictIn K C = true
  sa : findIn K (.ref C) "__setattr__" = some (some (.builtin "object.__setattr__"))
  ex : subIn K (.ref C) (.type "BaseException") = some true
  ty : typeIn K (.ref C) = some (.type "type")
  kp : keepIn K (.ref C) = true
  ini : findIn K (.ref C) "__init__" = some (some (.ref fI))
  fn : typeIn K (.ref fI) = some (.type "function")
  tk : ∀ f ∈ fs, takerIn K C f = some none
section
variable {prog : Program} {w : World} {A : Around} {E : Value → Shared → Prop} {R : Result → Shared → Prop} {K : Frag} {C fI x t0 dx : Addr} {B nw ini : String} {tl : List Value} {fs : List Str} {name : Str} {tk : Tok} {v : Value} {hp : Heap} {g : Array GenState} {dr : Drawn} {tn : Nat} {os : OsState}
/-- the first field -/
theorem put_first (Tl : TlF B nw ini tl) (T : ExcK K C fI nw tl fs) (hf : name ∈ fs) (X : K.In hp) (hx : hp.get? x = some (excO C t0))
    (hq : ∀ h' tk' dx, (∀ b o, b ≠ x → hp.get? b = some o → h'.get? b = some o) → hp.objs.size ≤ dx → dx ≠ x → h'.get? x = some { excO C t0 with dict := some dx } → h'.Ns1 dx (fun y => if y = name then some v else none) → R (.ok (.ret .none)) ⟨h', g, dr, tk', os⟩) :
    codeAny (model prog w) A (.call (.builtin "object.__setattr__") ⟨[.ref x, .str name tk, v], []⟩) R ⟨hp, g, dr, tn, os⟩ := by
  obtain ⟨cd, hc, hd'⟩ := any_some T.hd
  have hxs : x < hp.objs.size := Heap.lt_size hx
  refine osa_openX (s := ⟨hp, g, dr, tn, os⟩) (od := none) Tl.st X ⟨hx, rfl, rfl, trivial⟩ T.ov (T.tk name hf) fun b => ?_
  refine wpAny_bind (wpAny_pure (wpAny_bind (instanceDict_exc (t := t0) (c2 := .none) hx (looks_clsIn X hc) hd' ?_)))
  show wpAny _ _ (Builtin.ObjectAttr.storeInDict hp.objs.size (.str name tk) name v) _ _ _
  have e1 : ((hp.push (dictOf [] 0)).update x fun o => { o with dict := some hp.objs.size }).get? hp.objs.size = some (dictOf [] 0) :=
    (Heap.get?_update_ne _ _ _ _ (Nat.ne_of_gt hxs)).trans (Heap.get?_push_size _ rfl)
  refine store_in_new ⟨_, #[], 0, e1, rfl, fun e he => absurd he (by simp), fun _ => rfl⟩ fun h' tk' hn hs => ?_
  refine hq h' tk' hp.objs.size (fun b o hb ho => ?_) (Nat.le_refl _) (Nat.ne_of_gt hxs) ?_ hn
  · exact (hs.2 b (Nat.ne_of_lt (Heap.lt_size ho))).trans ((Heap.get?_update_ne _ _ _ _ hb).trans (Heap.get?_push_of_some _ ho))
  · exact (hs.2 x (Nat.ne_of_lt hxs)).trans (Heap.get?_update_self _ (Heap.get?_push_of_some _ hx) rfl)
end
/-! ### __init__ -/
/-- def __init__(self, f): self.f = f -/
def iA1 (f : Str) (p1 p2 : Pos) : Arguments := { posonlyargs := [], args := [{ arg := "self", annotation := none, pos := p1 }, { arg := f, annotation := none, pos := p2 }], vararg := none, kwonlyargs := [], kw_defaults := [], kwarg := none, defaults := [] }
def iB1 (f : Str) (q1 q2 q3 q4 : Pos) : List Stmt := [.Assign [.Attribute (.Name "self" q1) f q2] (.Name f q3) q4]
def iS1 (f : Str) : Scope := { kind := .function, names := [(PySem.Str.ofString "self", .local), (f, .local)], isGenerator := false, isCoroutine := false, more := [] }
/-- what __init__ leaves of a fresh exception at x -/
structure IniE (h h' : Heap) (x C dx t1 : Addr) (m : Str → Option Value) : Prop where
  keep : ∀ b o, b ≠ x → h.get? b = some o → h'.get? b = some o
  obj : h'.get? x = some { excO C t1 with dict := some dx }
  big : h.objs.size ≤ dx
  ne : dx ≠ x
  ns : h'.Ns1 dx m
/-- __init__ at fI stores its arguments under fs -/
def IniOk (K : Frag) (C fI : Addr) (fs : List Str) : Prop := ∀ {prog : Program} {w : World} {A : Around} {R : Result → Shared → Prop} {s : Shared} {x t0 : Addr} {vs : List Value}, vs.length = fs.length → K.In s.heap → s.heap.NoLimit → s.heap.get? x = some (excO C t0) → K.lookup x = none → A.depth < recursionLimit →
  (∀ h' tk dx m, IniE s.heap h' x C dx t0 m → (∀ y, m y = (fs.zip vs).lookup y) → R (.ok (.ret .none)) { s with heap := h', toks := tk }) → codeAny (model prog w) A (.call (.ref fI) ⟨.ref x :: vs, []⟩) R s
theorem lkC {M : Model} {s : Shared} {name : Str} {scope : Scope} {L a : Addr} {cd : Value} {m : Str → Option Value} {x : Str} {pos : Pos} {v : Value} {Q : Value → Shared → Prop} {A : Around} {E : Value → Shared → Prop} (hn : s.heap.Ns L m) (hv : m x = some v) (h : Q v s)
    (hk : scope.kind = .function := by rfl) (hl : (envOfC name scope L a cd).kindOf x = some .local := by rfl) (hd : (x == ("__debug__" : Str)) = false := by decide) :
    wpAny M A (eval (.Name x pos) (envOfC name scope L a cd)) Q E s := wpAny_Name (wpAny_loadName_local hk hl hn hv h) hd
section
variable {K : Frag} {C fI : Addr} {B nw ini : String} {tl : List Value} {f g q0 : Str} {oc : Value} {od : Option Addr} {doc pm : Value} {an : Option Addr} {cdv ct : Value} {osl : Array (Option Value)} {p1 p2 p3 q1 q2 q3 q4 q5 q6 q7 q8 : Pos}
theorem ini_one (Tl : TlF B nw ini tl) (T : ExcK K C fI nw tl [f]) (ho : K.lookup fI = some ⟨oc, od, .func (fnOf "__init__" q0 (iA1 f p1 p2) (iB1 f q1 q2 q3 q4) (iS1 f) .none .none doc pm an cdv ct), osl⟩) (hcd : codeIn K cdv q0 = true)
    (hb : ∀ (x : Addr) (v : Value), bindArgs (fnOf "__init__" q0 (iA1 f p1 p2) (iB1 f q1 q2 q3 q4) (iS1 f) .none .none doc pm an cdv ct) ⟨[.ref x, v], []⟩ = pure [(("self" : Str), .ref x), (f, v)])
    (nf : f ≠ "self") (nd : (f == ("__debug__" : Str)) = false) : IniOk K C fI [f] := by
  intro prog w A R s x t0 vs hl X hlim hx hnx hroom hq
  match vs, hl with
  | [v], _ =>
  have f0 : (f == ("self" : Str)) = false := by simpa using nf
  have kf : List.lookup f (iS1 f).names = some .local := by simp [iS1, List.lookup, f0]
  have ks : List.lookup ("self" : Str) (iS1 f).names = some .local := rfl
  refine Att.call_fn (binds := [("self", .ref x), (f, v)]) X hlim ho hcd hroom (BindsTo.of_eq (hb x v)) ?_ (fun s₁ IC => ?_) rfl rfl rfl
  · rw [List.all_cons, List.all_cons, kf, ks]
    rfl
  obtain ⟨h₁, tk₁, rfl⟩ := IC.toInCall.same
  have k : ∀ b o, s.heap.get? b = some o → h₁.get? b = some o := IC.toInCall.keep
  have hn := IC.toInCall.ns
  have nd2 : ([("self" : Str), f]).Nodup := by simp [Ne.symm nf]
  have mf : bindL (envOfC q0 (iS1 f) s.heap.objs.size fI cdv).kindOf ([("self" : Str), f].zip [.ref x, v]) (fun _ => none) f = some v := bindL_get (i := 1) nd2 rfl rfl kf
  have ms : bindL (envOfC q0 (iS1 f) s.heap.objs.size fI cdv).kindOf ([("self" : Str), f].zip [.ref x, v]) (fun _ => none) "self" = some (.ref x) := bindL_get (i := 0) nd2 rfl rfl ks
  have X₁ : K.In h₁ := X.keeps k
  have hx₁ := k _ _ hx
  show wpAny _ _ (execs _ _) _ _ _
  refine wpAny_execs_cons (plainObj_wpAny_Assign_Attribute ?_)
  refine lkC (v := v) hn mf (lkC (v := .ref x) hn ms ?_ rfl ks) rfl kf nd
  refine set_plain X₁ (ox := excO C t0) (od := none) ⟨hx₁, rfl, rfl, trivial⟩ T.sa ?_
  refine put_first Tl T (List.mem_singleton.mpr rfl) X₁ hx₁ fun h₃ tk₃ dx k₃ dn dne hx₃ hn₃ => ?_
  show wpAny _ _ (execs _ _) _ _ _
  have z : s.heap.objs.size < h₁.objs.size := hn.lt
  refine wpAny_execs_nil (hq h₃ tk₃ dx _ ⟨fun b o hb e => k₃ b o hb (k b o e), hx₃, Nat.le_of_lt (Nat.lt_of_lt_of_le z dn), dne, hn₃⟩ fun y => ?_)
  show _ = List.lookup y [(f, v)]
  by_cases e : y = f
  · subst e
    rw [if_pos rfl]
    simp [List.lookup]
  · have e2 : (y == f) = false := by simpa using e
    rw [if_neg e]
    simp [List.lookup, e2]
end
/-- an exception of the class at C, made -/
structure MadeE (h h' : Heap) (e C d : Addr) (m : Str → Option Value) : Prop where
  keep : ∀ b o, h.get? b = some o → h'.get? b = some o
  new : h.objs.size ≤ e
  obj : ∃ oe vs, h'.get? e = some oe ∧ oe.cls = .ref C ∧ oe.dict = some d ∧ oe.data = .fields vs ∧ vs[1]? = some .none ∧ vs[2]? = some .none
  big : h.objs.size ≤ d
  ne : d ≠ e
  ns : h'.Ns1 d m
section
variable {prog : Program} {w : World} {A : Around} {E : Value → Shared → Prop} {R : Result → Shared → Prop} {s : Shared} {K : Frag} {C fI : Addr} {B nw ini : String} {tl : List Value} {fs : List Str}
theorem exc_made (Tl : TlF B nw ini tl) (T : ExcK K C fI nw tl fs) (In : IniOk K C fI fs) {us : List Value} (hl : us.length = fs.length) (hz : fs.length ≤ 100) (X : K.In s.heap) (hlim : s.heap.NoLimit) (hroom : A.depth + 1 < recursionLimit)
    (hq : ∀ h' tk e d m, MadeE s.heap h' e C d m → (∀ y, m y = (fs.zip us).lookup y) → R (.ok (.ret (.ref e))) { s with heap := h', toks := tk }) :
    codeAny (model prog w) A (.call (.ref C) ⟨us, []⟩) R s := by
  obtain ⟨nm, N, qn, bs, bm, hdct, sn, sub, ab, col, dd, k0, k1, k2, k3, k5, hC, hT⟩ := excInit_of X T.q
  obtain ⟨hp, g, dr, tk, os⟩ := s
  have k : ∀ b o, hp.get? b = some o → ((hp.push (kdv_tup us)).push (excO C hp.objs.size)).get? b = some o := fun b o e => Heap.get?_push_of_some _ (Heap.get?_push_of_some _ e)
  have hget : ((hp.push (kdv_tup us)).push (excO C hp.objs.size)).get? (hp.objs.size + 1) = some (excO C hp.objs.size) := by heap_get
  have hnx : K.lookup (hp.objs.size + 1) = none := by
    cases e : K.lookup (hp.objs.size + 1) with
    | none => rfl
    | some o =>
      have z : hp.get? (hp.objs.size + 1) = some o := X _ _ e
      exact absurd (Nat.lt_of_succ_lt (Heap.lt_size z)) (Nat.lt_irrefl _)
  refine call_own Tl.base hT hC (looks_findIn X T.ini) (fun self => bind_fn X self T.fn) (by rw [sizeLine_eq]; omega) ?_
  refine In (s := ⟨(hp.push (kdv_tup us)).push (excO C hp.objs.size), g, dr, tk, os⟩) hl (X.keeps k) (hlim.keeps k) hget hnx ?_ fun h' tk' dx m I hm => ?_
  · show A.depth + 1 < recursionLimit
    exact hroom
  · have old : ∀ b o, hp.get? b = some o → h'.get? b = some o := fun b o e => I.keep b o (Nat.ne_of_lt (Nat.lt_succ_of_lt (Heap.lt_size e))) (k b o e)
    have z : hp.objs.size + 1 + 1 ≤ dx := by
      first
        | (simpa only [Heap.size_push] using I.big)
        | exact I.big
        | (have q := I.big; rw [Heap.size_push, Heap.size_push] at q; exact q)
    exact ⟨rfl, hq h' tk' (hp.objs.size + 1) dx m ⟨old, Nat.le_succ _, ⟨_, _, I.obj, rfl, rfl, rfl, rfl, rfl⟩, Nat.le_trans (Nat.le_trans (Nat.le_succ _) (Nat.le_succ _)) z, I.ne, I.ns⟩ hm⟩
end
theorem relO_zip : ∀ {fs : List Str} {vs : List V} {us : List Value}, Vals vs us → ∀ y, RelO ((fs.zip vs).lookup y) ((fs.zip us).lookup y)
  | [], _, _, _, y => by simp [List.lookup, RelO]
  | f :: fs, _, _, .nil, y => by simp [List.lookup, RelO]
  | f :: fs, v :: vs, u :: us, .cons r rs, y => by
    show RelO (List.lookup y ((f, v) :: fs.zip vs)) (List.lookup y ((f, u) :: fs.zip us))
    by_cases h : (y == f) = true
    · rw [List.lookup_cons, List.lookup_cons, h]
      exact r
    · have h : (y == f) = false := by simpa using h
      rw [List.lookup_cons, List.lookup_cons, h]
      exact relO_zip rs y
section
variable {X : Cx} {C fI : Addr} {B nw ini : String} {tl : List Value} {fs : List Str} {a : Expr} {as : List Expr} {ta : TA} {x : Str} {p pos pos2 : Pos} {k : Nat}
theorem pmk_X (Tl : TlF B nw ini tl) (T : ExcK X.K C fI nw tl fs) (In : IniOk X.K C fI fs) (hz : fs.length ≤ 100) (hr : Room k X.A) (hg : Gl X x) (hm : X.mg x = some (.ref C)) (ha : PA X (a :: as) ta) (hd : (x == ("__debug__" : Str)) = false := by decide)
    (he : starEach (a :: as) X.env = (false, eval a X.env) :: starEach as X.env := by rfl) (hpl : (backTo pos (starEach as X.env)).any (·.1) = false := by rfl) :
    L2N.PMk X (.Call (.Name x p) (a :: as) [] pos) (fun σ H Q => ta σ H fun vs H1 => vs.length = fs.length ∧ ∀ d, H1 d = none → Q (.ref C) (some d) (upd H1 d (.xd (fs.zip vs)))) := by
  intro pins s σ H Q I h
  refine wpAny_Call_Name_kw (ld_glob I hg hm ?_ hd)
  refine PySem.W.callWith_K (h₀ := X.base) I.ok.mod.kin T.kp (thn (ha.run pos pins s σ H _ I h) fun us s1 hh => ?_) he hpl
  obtain ⟨vs, H1, I1, r1, hl, q1⟩ := hh
  refine ⟨I1.kIn, ?_⟩
  show wpAny _ _ (call (.ref C) us) _ _ _
  have hlim := I1.nolimit
  obtain ⟨hp, g, dr, tk, os⟩ := s1
  refine wpAny_call (exc_made Tl T In (by rw [← r1.length]; exact hl) hz I1.kIn hlim (by have := hr.dp; omega) fun h' tk' e d m M hm => ?_)
  show L2N.MkP X pins σ Q (.ref e) ⟨h', g, dr, tk', os⟩
  obtain ⟨oe, fv, hoe, hc, hd, hdat, h1, h2⟩ := M.obj
  have hns := M.ns
  obtain ⟨G', g1, g2⟩ := restrict h' fun b => decide (b ≠ e)
  have gk : ∀ b, b ≠ e → G'.get? b = h'.get? b := fun b hb => g1 b (decide_eq_true hb)
  have ge : G'.get? e = none := g2 e (by simp)
  have old : ∀ b o, hp.get? b = some o → G'.get? b = some o := fun b o q => (gk b (Nat.ne_of_lt (Nat.lt_of_lt_of_le (Heap.lt_size q) M.new))).trans (M.keep b o q)
  have ob : ObjOk X.prog X.w (upd H1 d (.xd (fs.zip vs))) G' d (.xd (fs.zip vs)) :=
    ⟨_, hns.at (fun o q => (gk d M.ne).trans q), fun f => by rw [hm f]; exact relO_zip r1 f⟩
  have J : Inv X pins σ (upd H1 d (.xd (fs.zip vs))) ⟨G', g, dr, tk', os⟩ := I1.laid (t' := tk') old M.big ob
  refine ⟨e, oe, fv, ⟨G', g, dr, tk', os⟩, _, .ref C, some d, rfl, J, fun b o q => ?_, ge, hoe, ⟨hc, hd, fun us eu => by rw [hdat] at eu; cases eu; exact h2⟩, hdat, h1, ?_, rfl, I1.bare, raises_own T.ex T.ty, q1 d (I1.hok.fresh M.big)⟩
  · by_cases hb : b = e
    · have q' : G'.get? b = some o := q
      rw [hb, ge] at q'
      cases q'
    · exact (gk b hb).symm.trans q
  · rw [upd_ne (Ne.symm M.ne)]
    exact I1.hok.fresh M.new
end
/-! ### raise -/
/-- raise n(e, ..) -/
def raiS (n : Str) (fs : List Str) (g : Rho → R (List D)) : SF := fun ρ => (g ρ).bind fun ds ρ => if ds.length = fs.length then .exc n (fs.zip ds) ρ else .stuck
theorem zip_fst {α β : Type} : ∀ {fs : List α} {vs : List β}, vs.length = fs.length → (fs.zip vs).map (·.1) = fs
  | [], [], _ => rfl
  | f :: fs, v :: vs, h => by
    rw [List.zip_cons_cons, List.map_cons, zip_fst (by simpa using h)]
theorem zip_snd {α β : Type} : ∀ {fs : List α} {vs : List β}, vs.length = fs.length → (fs.zip vs).map (·.2) = vs
  | [], [], _ => rfl
  | f :: fs, v :: vs, h => by
    rw [List.zip_cons_cons, List.map_cons, zip_snd (by simpa using h)]
section
variable [FE]
variable {X : Cx} {π : Nat → Addr} {W : WX} {C fI : Addr} {B nw ini : String} {tl : List Value} {fs : List Str} {a : Expr} {as : List Expr} {x : Str} {p pos pos2 : Pos} {k : Nat}
theorem fs_raise {g : Rho → R (List D)} (hc : X.calm = true) (tk : L2N.Takes X W) (Tl : TlF B nw ini tl) (T : ExcK X.K C fI nw tl fs) (In : IniOk X.K C fI fs) (hz : fs.length ≤ 100) (hcl : FE.cl x = C) (hr : Room k X.A) (hg : Gl X x) (hm : X.mg x = some (.ref C)) (ha : PA X (a :: as) (tA X.K π W g)) (hd : (x == ("__debug__" : Str)) = false := by decide)
    (he : starEach (a :: as) X.env = (false, eval a X.env) :: starEach as X.env := by rfl) (hpl : (backTo pos (starEach as X.env)).any (·.1) = false := by rfl) :
    PS X (.Raise (some (.Call (.Name x p) (a :: as) [] pos)) none pos2) (tS X.K π W (raiS x fs g)) :=
  PS.imp (L2N.ps_raise hc tk (pmk_X Tl T In hz hr hg hm ha hd he hpl)) fun D σ H ⟨c, F, ρ, h0, S, P⟩ => by
    refine pos_bind S P fun vs F1 H1 ρ1 ds s1 S1 r1 P1 => ?_
    split at P1
    · rename_i hl
      have hl' : vs.length = fs.length := by rw [Reps.length r1]; exact hl
      refine ⟨hl', fun d hd => ?_⟩
      have gr := Grw.newF (o := .xd (fs.zip vs)) S1.f hd
      have z := P1 (some d) (fs.zip vs) σ _ _ gr.f (S1.grow gr) upd_same (by rw [zip_fst hl', zip_fst hl]) (by rw [zip_snd hl', zip_snd hl]; exact Reps.mono gr.f r1)
      rw [hcl] at z
      exact z
    · exact P1.elim
end
end FL
/-! FL21: where an exception is handled: defs, isinstance, fields. -/
namespace FL
open PySem PySem.Spec PyProof.Rows L2

/-! ### classes -/
structure ExcI (K : PySem.W.Frag) (C : Addr) : Prop where
  cl : (PySem.W.clsIn K C).isSome = true
  ga : PySem.W.findIn K (.ref C) "__getattribute__" = some (some (.builtin "BaseException.__getattribute__"))
  gg : PySem.W.findIn K (.ref C) "__getattr__" = some none
  sb : PySem.W.subIn K (.ref C) (.type "BaseException") = some true
  ha : PySem.W.findIn K (.ref C) "__class__" = some (some (.builtin "object.__class__"))
  hn : PySem.W.specialIn K (.builtin "object.__class__") "__get__" = some (some (.builtin "getset_descriptor.__get__"))
  tk : PySem.W.takesIn K (.builtin "object.__class__") = some true
  hm : PySem.W.mroIn K C (.type "object") = some true
  hd : PySem.W.hasDictIn K C = true
/-- the classes: each with its bases (itself among them) and its fields -/
abbrev CT := List (Str × List Str × List Str)
/-- a class that is asked of: built-in or own -/
def cval [FE] (b : List (Str × String)) (m : Str) : Value := match b.lookup m with
  | some t => .type t
  | none => .ref (FE.cl m)
structure ClsT [FE] (K : PySem.W.Frag) (ct : CT) (tests : List Str) (b : List (Str × String)) : Prop where
  i : ∀ n v, ct.lookup n = some v → ExcI K (FE.cl n)
  t : ∀ n v, ct.lookup n = some v → ∀ m ∈ tests, PySem.W.kitOne K (.ref (FE.cl n)) (cval b m) = some (v.1.contains m)
  f : ∀ n v, ct.lookup n = some v → ∀ f ∈ v.2, PySem.W.findIn K (.ref (FE.cl n)) f = some none
/-- the same, to be computed -/
def clsB (K : PySem.W.Frag) (C : Addr) (fs : List Str) (ts : List (Value × Bool)) : Bool :=
  (PySem.W.clsIn K C).isSome && (PySem.W.findIn K (.ref C) "__getattribute__" == some (some (.builtin "BaseException.__getattribute__"))) && (PySem.W.findIn K (.ref C) "__getattr__" == some none) && (PySem.W.subIn K (.ref C) (.type "BaseException") == some true) &&
  (PySem.W.findIn K (.ref C) "__class__" == some (some (.builtin "object.__class__"))) && (PySem.W.specialIn K (.builtin "object.__class__") "__get__" == some (some (.builtin "getset_descriptor.__get__"))) && (PySem.W.takesIn K (.builtin "object.__class__") == some true) &&
  (PySem.W.mroIn K C (.type "object") == some true) && PySem.W.hasDictIn K C && fs.all (fun f => PySem.W.findIn K (.ref C) f == some none) && ts.all fun p => PySem.W.kitOne K (.ref C) p.1 == some p.2
theorem clsB_ok {K : PySem.W.Frag} {C : Addr} {fs : List Str} {ts : List (Value × Bool)} (h : clsB K C fs ts = true) : ExcI K C ∧ (∀ f ∈ fs, PySem.W.findIn K (.ref C) f = some none) ∧ ∀ p ∈ ts, PySem.W.kitOne K (.ref C) p.1 = some p.2 := by
  unfold clsB at h
  simp only [Bool.and_eq_true, beq_iff_eq, List.all_eq_true] at h
  obtain ⟨⟨⟨⟨⟨⟨⟨⟨⟨⟨h1, h2⟩, h3⟩, h4⟩, h5⟩, h6⟩, h7⟩, h8⟩, h9⟩, h10⟩, h11⟩ := h
  exact ⟨⟨h1, h2, h3, h4, h5, h6, h7, h8, h9⟩, h10, h11⟩

/-! ### where x is handled -/
structure HotX [FE] (X : Cx) (x : EId) : Prop where
  ex : ∃ oe : Obj, X.A.handled = some (.ref x.a) ∧ (x.a, oe) ∈ X.pn ∧ L2N.Zn (.ref (FE.cl x.C)) x.d oe ∧ ∃ vs, oe.data = .fields vs
section
variable [FE]
variable {X : Cx} {x0 : EId} {π : Nat → Addr} {W : WX}
theorem HotX.inst {pins : List (Addr × Obj)} {σ : L2.St} {H : Hp} {s : Shared} (h : HotX X x0) (I : Inv X pins σ H s) {F : Hp} {fsV : List (Str × V)} (sm : Same F H) (xd : XD F x0.d fsV) :
    ∃ ox od, PySem.W.InstAt s.heap x0.a ox (FE.cl x0.C) od ∧ ∀ n v, fsV.lookup n = some v → ∃ u, ∃ ob, od = some ob ∧ PySem.W.lookIn n ob = some (some u) ∧ RelV v u := by
  obtain ⟨oe, _, hp, hz, vs, hv⟩ := h.ex
  obtain ⟨hget, _⟩ := I.pin (x0.a, oe) (List.mem_append.mpr (.inl hp))
  have nc : PySem.W.notCls oe = true := by unfold PySem.W.notCls; rw [hv] <;> rfl
  cases ed : x0.d with
  | none =>
    rw [ed] at xd
    refine ⟨oe, none, ⟨hget, hz.1, nc, ?_⟩, fun n v e => ?_⟩
    · rw [hz.2.1, ed]
      trivial
    · rw [show fsV = [] from xd] at e
      cases e
  | some dd =>
    rw [ed] at xd
    have hx : ObjOk X.prog X.w H s.heap dd (.xd fsV) := I.hok dd _ (sm _ _ xd)
    obtain ⟨mA, hns, hr⟩ := hx
    obtain ⟨od, ho, hl⟩ := lookIn_ns hns
    refine ⟨oe, some od, ⟨hget, hz.1, nc, ?_⟩, fun n v e => ?_⟩
    · rw [hz.2.1, ed]
      exact ho
    · obtain ⟨u, hu, ru⟩ := RelO.some_of (v := v) (o := mA n) (by rw [← e]; exact hr n)
      exact ⟨u, od, rfl, by rw [hl, hu], ru⟩
/-! ### isinstance -/
def isx (x0 : EId) (ct : CT) (m : Str) (f : EF) : EF := fun ρ => (f ρ).bind fun v ρ => match v with
  | .exc x _ => if x = x0 then R.of ((ct.lookup x.C).map fun p => .bl (p.1.contains m)) ρ else .stuck
  | _ => .stuck
/-- the second argument: the class -/
theorem pe_own {y : Str} {p : Pos} {C : Addr} (hg : Gl X y) (hm : X.mg y = some (.ref C)) (hd : (y == ("__debug__" : Str)) = false := by decide) : PE X (.Name y p) (tC (.ref C)) := pe_glob (v := .ref C) hg hm rfl hd
theorem call_isX (hx : HotX X x0) (hI : ExcI X.K (FE.cl x0.C)) : CallR X (.builtin "isinstance") (fun xs H Q => ∃ (c : V) (cv : Value) (b : Bool), xs = [.ref x0.a, c] ∧ (∀ u, RelV c u → u = cv) ∧ PySem.W.kitOne X.K (.ref (FE.cl x0.C)) cv = some b ∧ (∃ (F : Hp) (fsV : List (Str × V)), Same F H ∧ XD F x0.d fsV) ∧ Q (.bl b) H) := by
  intro pins s σ H xs us Q I r h
  obtain ⟨c, cv, b, rfl, hcv, e, ⟨F, fsV, sm, xd⟩, q⟩ := h
  cases r with
  | cons rx rr =>
    cases rr with
    | cons rt rr =>
      cases rr
      cases rx
      have ec := hcv _ rt
      subst ec
      obtain ⟨ox, od, J, _⟩ := hx.inst I sm xd
      exact PySem.W.kia_one (PySem.W.kitx_exc hI.cl hI.ga hI.gg hI.sb hI.ha hI.hn hI.tk hI.hm) I.kIn J e (fun z => nomatch z) fun tk => ⟨.bl b, H, I.kept (t' := tk) fun _ _ z => z, rfl, q⟩
theorem rd_isx {ct : CT} {tests : List Str} {b : List (Str × String)} {m : Str} {f : EF} {c : V} {σ : L2.St} {H : Hp} {Q : VK} (T : ClsT X.K ct tests b) (hm : m ∈ tests) (hcv : ∀ u, RelV c u → u = cval b m) (t : tE X.K π W (isx x0 ct m f) σ H Q) :
    tCB (fun xs H Q => ∃ (c : V) (cv : Value) (b : Bool), xs = [.ref x0.a, c] ∧ (∀ u, RelV c u → u = cv) ∧ PySem.W.kitOne X.K (.ref (FE.cl x0.C)) cv = some b ∧ (∃ (F : Hp) (fsV : List (Str × V)), Same F H ∧ XD F x0.d fsV) ∧ Q (.bl b) H) (tCons (tE X.K π W f) (tCons (tC c) tNil)) σ H Q := by
  obtain ⟨c0, F, ρ, S, P⟩ := t
  refine po_bind S P fun v F1 H1 ρ1 d s1 S1 r1 P1 => ?_
  cases r1 <;> first | (exact P1.elim) | skip
  rename_i x fsV fs xd _ rs
  by_cases ex : x = x0
  · subst ex
    have P1 : Po X.K π W (relE X.K) c0 F1 σ Q (if x = x then R.of ((ct.lookup x.C).map fun p => D.bl (p.1.contains m)) ρ1 else .stuck) := P1
    rw [if_pos rfl] at P1
    obtain ⟨d, e, P2⟩ := po_of P1
    cases el : ct.lookup x.C with
    | none => rw [el] at e; cases e
    | some p =>
      rw [el] at e
      cases e
      exact ⟨c, cval b m, p.1.contains m, rfl, hcv, T.t _ _ el m hm, ⟨F1, fsV, S1.f, xd⟩, P2 _ F1 H1 (Same.refl _) S1 (.bl _)⟩
  · have P1 : Po X.K π W (relE X.K) c0 F1 σ Q (if x = x0 then R.of ((ct.lookup x.C).map fun p => D.bl (p.1.contains m)) ρ1 else .stuck) := P1
    rw [if_neg ex] at P1
    exact P1.elim
theorem fe_isx {ct : CT} {tests : List Str} {bb : List (Str × String)} {y : Str} {f : EF} {a : Expr} {p p2 pos : Pos} {C : Addr} (hx : HotX X x0) (T : ClsT X.K ct tests bb) (hk : ∃ v, ct.lookup x0.C = some v) (hm : y ∈ tests) (hb : bb.lookup y = none) (hy : FE.cl y = C)
    (hg : Gl X "isinstance") (hmi : X.mg "isinstance" = none) (hgy : Gl X y) (hmy : X.mg y = some (.ref C)) (ha : PE X a (tE X.K π W f)) (hd : (y == ("__debug__" : Str)) = false := by decide)
    (he : starEach [a, .Name y p2] X.env = (false, eval a X.env) :: starEach [.Name y p2] X.env := by rfl) (he2 : starEach [.Name y p2] X.env = (false, eval (.Name y p2) X.env) :: starEach [] X.env := by rfl) (hpl : (backTo pos (starEach [.Name y p2] X.env)).any (·.1) = false := by rfl) :
    PE X (.Call (.Name "isinstance" p) [a, .Name y p2] [] pos) (tE X.K π W (isx x0 ct y f)) := by
  obtain ⟨v, hv⟩ := hk
  exact PE.imp (pe_callB (call_isX hx (T.i _ _ hv)) hg hmi (by decide +kernel) (pa_cons ha (pa_cons (pe_own hgy hmy hd) pa_nil he2) he) (by decide) (by decide) he hpl) fun σ H Q t =>
    rd_isx T hm (fun u ru => by
      have e : u = .ref C := ru
      rw [e]
      unfold cval
      rw [hb, hy]) t
theorem fe_isxB {ct : CT} {tests : List Str} {bb : List (Str × String)} {y : Str} {t : String} {f : EF} {a : Expr} {p p2 pos : Pos} (hx : HotX X x0) (T : ClsT X.K ct tests bb) (hk : ∃ v, ct.lookup x0.C = some v) (hm : y ∈ tests) (hb : bb.lookup y = some t)
    (hg : Gl X "isinstance") (hmi : X.mg "isinstance" = none) (hgy : Gl X y) (hmy : X.mg y = none) (hv : bootBuiltins y = some (.type t)) (ha : PE X a (tE X.K π W f)) (hn : y ≠ "__name__" := by decide) (hd : (y == ("__debug__" : Str)) = false := by decide)
    (he : starEach [a, .Name y p2] X.env = (false, eval a X.env) :: starEach [.Name y p2] X.env := by rfl) (he2 : starEach [.Name y p2] X.env = (false, eval (.Name y p2) X.env) :: starEach [] X.env := by rfl) (hpl : (backTo pos (starEach [.Name y p2] X.env)).any (·.1) = false := by rfl) :
    PE X (.Call (.Name "isinstance" p) [a, .Name y p2] [] pos) (tE X.K π W (isx x0 ct y f)) := by
  obtain ⟨v, hv'⟩ := hk
  exact PE.imp (pe_callB (call_isX hx (T.i _ _ hv')) hg hmi (by decide +kernel) (pa_cons ha (pa_cons (pe_ty hgy hmy hv hn hd) pa_nil he2) he) (by decide) (by decide) he hpl) fun σ H Q t' =>
    rd_isx T hm (fun u ru => by
      have e : u = .type t := ru
      rw [e]
      unfold cval
      rw [hb]) t'
/-! ### a field -/
def efld (x0 : EId) (ct : CT) (n : Str) (f : EF) : EF := fun ρ => (f ρ).bind fun v ρ => match v with
  | .exc x fs => if x = x0 ∧ (ct.lookup x.C).any (fun p => p.2.contains n) = true then R.of (fs.lookup n) ρ else .stuck
  | _ => .stuck
theorem Reps.look {K : PySem.W.Frag} {F : Hp} {n : Str} {d : D} : ∀ {fsV : List (Str × V)} {fs : List (Str × D)}, fsV.map (·.1) = fs.map (·.1) → Reps K F (fsV.map (·.2)) (fs.map (·.2)) → fs.lookup n = some d → ∃ v, fsV.lookup n = some v ∧ Rep K F v d
  | [], [], _, _, h => by cases h
  | (a, v) :: fsV, (b, e) :: fs, hk, .cons r rs, h => by
    have hk1 : a = b ∧ fsV.map (·.1) = fs.map (·.1) := by simpa using hk
    obtain ⟨rfl, hk2⟩ := hk1
    by_cases c : (n == a) = true
    · rw [List.lookup_cons, c] at h ⊢
      cases h
      exact ⟨v, rfl, r⟩
    · have c : (n == a) = false := by simpa using c
      rw [List.lookup_cons, c] at h ⊢
      exact Reps.look hk2 rs h
theorem fe_efld {ct : CT} {tests : List Str} {bb : List (Str × String)} {n : Str} {f : EF} {e : Expr} {pos : Pos} (hx : HotX X x0) (T : ClsT X.K ct tests bb) (he : PE X e (tE X.K π W f)) (hb : attributeBase e n X.env (eval e X.env) = eval e X.env := by rfl) :
    PE X (.Attribute e n pos) (tE X.K π W (efld x0 ct n f)) := by
  refine ⟨fun pins s σ H Q I t => ?_⟩
  obtain ⟨c0, F, ρ, S, P⟩ := t
  refine attr_of hb (thn (he.run pins s σ H _ I (po_bind S P fun v F1 H1 ρ1 d s1 S1 r1 P1 => (show ∃ c F ρ, Sta X.K π c F H1 σ ρ ∧ ∃ (fs : List (Str × D)) (fsV : List (Str × V)), v = .ref x0.a ∧ XD F x0.d fsV ∧ fsV.map (·.1) = fs.map (·.1) ∧ Reps X.K F (fsV.map (·.2)) (fs.map (·.2)) ∧
    (∃ p, ct.lookup x0.C = some p ∧ n ∈ p.2) ∧ Po X.K π W (relE X.K) c F σ Q (R.of (fs.lookup n) ρ) from ?_))) fun u s1 hh => ?_)
  · cases r1 <;> first | (exact P1.elim) | skip
    rename_i x fsV fs xd hk rs
    have P9 : Po X.K π W (relE X.K) c0 F1 σ Q (if x = x0 ∧ (ct.lookup x.C).any (fun p => p.2.contains n) = true then R.of (fs.lookup n) ρ1 else .stuck) := P1
    clear P1
    split at P9
    · rename_i hc
      obtain ⟨rfl, hc⟩ := hc
      refine ⟨c0, F1, ρ1, S1, fs, fsV, rfl, xd, hk, rs, ?_, P9⟩
      cases el : ct.lookup x.C with
      | none => rw [el] at hc; cases hc
      | some p =>
        rw [el] at hc
        exact ⟨p, rfl, by simpa using hc⟩
    · exact P9.elim
  · obtain ⟨x, H1, I1, rx, c, F1, ρ1, S1, fs, fsV, ex, xd, hk, rs, ⟨p, hp, hn⟩, P2⟩ := hh
    subst ex
    obtain rfl : u = Value.ref x0.a := rx
    obtain ⟨d, ed, P3⟩ := po_of P2
    obtain ⟨v, hv, rv⟩ := Reps.look hk rs ed
    obtain ⟨ox, od, J, hl⟩ := hx.inst I1 S1.f xd
    obtain ⟨w, ob, rfl, h2, r2⟩ := hl n v hv
    have hI := T.i _ _ hp
    exact HandSPX.exc_get I1.kIn J hI.ga hI.gg hI.sb (PySem.W.findObj_own hI.hd (T.f _ _ hp n hn) rfl h2) (handed_of r2) ⟨v, H1, I1.tok _, r2, P3 v F1 H1 (Same.refl _) S1 rv⟩
end
end FL
/-! FL22: defs called where an exception is handled. -/
namespace FL
open PySem PySem.Spec PyProof.Rows L2

/-- nothing is raised -/
def nxc (g : SF) : SF := fun ρ => match g ρ with
  | .exc _ _ _ => .stuck
  | r => r
/-- the def by its body, x handled -/
def bodyH (l : Nat) (g : EId → SF) (x : EId) (as : List Arg) : RG := bodyG l (nxc (g x)) as
section
variable [FE]
theorem tS_nxc {K : PySem.W.Frag} {π : Nat → Addr} {W : WX} {g : SF} {D : Ends} {σ : L2.St} {H : Hp} (h : tS K π W (nxc g) D σ H) : tS K π W0 g D σ H := by
  obtain ⟨c, F, ρ, h0, S, P⟩ := h
  refine ⟨c, F, ρ, h0, S, ?_⟩
  unfold nxc at P
  cases e : g ρ with
  | ok fl ρ' =>
    rw [e] at P
    cases fl <;> exact P
  | exc C fs ρ' =>
    rw [e] at P
    exact P.elim
  | stuck =>
    rw [e] at P
    exact P
/-- what a def promises where x is handled -/
structure FnH (P : Program) (w : World) (K : PySem.W.Frag) (mg : Str → Option Value) (base : Heap) (ct : CT) (k : Nat) (f : Addr) (fd : FuncData) (ps : List Str) (sp : EId → Sp) : Prop where
  len : ∀ x vs H Q E, sp x vs H Q E → vs.length = ps.length
  run : ∀ (x : EId) (A : Around) (outer : List Env) (s : Shared) (H : Hp) (args : Args) (us : List Value) (vs : List V) (Q : VK) (E : XK) (oe : Obj), (∃ v, ct.lookup x.C = some v) → L2H.RoomH k A → A.handled = some (.ref x.a) → L2H.PinOk outer H s (x.a, oe) → L2N.Zn (.ref (FE.cl x.C)) x.d oe → (∃ vs, oe.data = .fields vs) →
    Env0 P w K mg base A outer s H → BindsTo s fd args (ps.zip us) → Vals vs us → sp x vs H Q E → codeAny (model P w) A (.call (.ref f) args) (CR (L2N.CX P w) outer P w H s Q E) s
theorem FnH.mono {P : Program} {w : World} {K : PySem.W.Frag} {mg : Str → Option Value} {base : Heap} {ct : CT} {j k : Nat} {f : Addr} {fd : FuncData} {ps : List Str} {sp : EId → Sp} (F : FnH P w K mg base ct j f fd ps sp) (h : j ≤ k) : FnH P w K mg base ct k f fd ps sp :=
  ⟨F.len, fun x A outer s H args us vs Q E oe hk hr => F.run x A outer s H args us vs Q E oe hk (hr.mono h)⟩
/-- where the body of such a def runs -/
abbrev cxW (P : Program) (w : World) (K : PySem.W.Frag) (mg : Str → Option Value) (base : Heap) (N : List Str) (qual : Str) (scope : Scope) (f : Addr) (cd : Value) (A : Around) (outer : List Env) (s : Shared) (H : Hp) (E : XK) (p : Addr × Obj) : Cx := L2H.cxH (L2N.CX P w) P w K mg base N qual scope f cd A outer s H E p
section
variable {P : Program} {w : World} {K : PySem.W.Frag} {mg : Str → Option Value} {base : Heap} {ct : CT}
theorem fnH {x qual : Str} {st : Stmt} {f : Addr} {fd : FuncData} {N ps : List Str} {k : Nat} {g : EId → SF} (Fd : Fun K x qual st f fd) (Sc : FnScope N ps (defScope st))
    (hbody : ∀ (x : EId) (cdv : Value) (A : Around) (outer : List Env) (s : Shared) (H : Hp) (E : XK) (π : Nat → Addr) (oe : Obj), (∃ v, ct.lookup x.C = some v) → L2H.RoomH k (cxW P w K mg base N qual (defScope st) f cdv A outer s H E (x.a, oe)).A → HotX (cxW P w K mg base N qual (defScope st) f cdv A outer s H E (x.a, oe)) x →
      PSs (cxW P w K mg base N qual (defScope st) f cdv A outer s H E (x.a, oe)) (defBody st) (tS K π W0 (g x))) : FnH P w K mg base ct (k + 1) f fd ps (fun x => spG K ps.length (bodyH N.length g x)) := by
  obtain ⟨oc, od, kV, doc, pm, an, cdv, ctv, osl, rfl, lk, hcd⟩ := Fd.ex
  refine ⟨fun x vs H Q E ⟨_, _, _, _, h, _⟩ => h, fun x A outer s H args us vs Q E oe hk hr hh hpin hz hf e0 hb r hsp => ?_⟩
  obtain ⟨F, as, sm, ra, hl, nd, hP⟩ := hsp
  have KX : K.In s.heap := e0.mod.kin.keeps fun b o e => (e0.bs b o e).1
  have lim : s.heap.NoLimit := e0.mod.nolimit.keeps fun b o e => (e0.bs b o e).1
  have hps : ps.length ≤ N.length := by
    have := congrArg List.length Sc.pre
    rw [List.length_take] at this
    omega
  refine codeAny_call_function hr.depth (KX _ _ lk) rfl Sc.co Sc.gen rfl (PySem.W.codeRec_of KX hcd) (hb _ _ _ _ ?_)
  refine wpAny_newFunctionEnv_cells Sc.kind (fun ⟨n, v⟩ hy => ?_) fun env he s1 x1 => ?_
  · rcases Sc.par n (List.of_mem_zip hy).1 with q | q
    · exact .inl q
    · exact .inr ⟨q, PySem.W.cellsFrom_some _ _ _ (.inl q)⟩
  · subst he
    refine ⟨lim.keeps x1.toInCall.keep, codeAny_func ?_⟩
    have hx := hbody x cdv A outer s H E (fun i => adrV vs[i]?) oe hk (hr.deeper _) ⟨oe, hh, List.mem_singleton.mpr rfl, hz, hf⟩
    have I : Inv (cxW P w K mg base N qual (defScope st) f cdv A outer s H E (x.a, oe)) [] (L2.start N vs) H s1 := L2H.inv_startH Sc hpin e0 hl r x1
    have run := hx.run [] s1 (L2.start N vs) H { nx := fun _ H' => Q .non H', rt := Q } I (tS_nxc (body_end sm ra nd (by omega) hP))
    refine wpAny_mono run (fun fl s' hs => ?_) fun e s' hs => hs
    cases fl with
    | ret u =>
      obtain ⟨v, σ', H', J, rv, q⟩ := hs
      exact ⟨v, H', J.os, J.bare, J.base, J.hok, rv, q⟩
    | next =>
      obtain ⟨σ', H', J, q⟩ := hs
      exact ⟨V.non, H', J.os, J.bare, J.base, J.hok, rfl, q⟩
    | brk =>
      obtain ⟨_, _, _, q⟩ := hs
      exact q.elim
    | cont =>
      obtain ⟨_, _, _, q⟩ := hs
      exact q.elim
/-- a def of the module that may be called there by its name -/
structure CalH (P : Program) (w : World) (K : PySem.W.Frag) (mg : Str → Option Value) (base : Heap) (ct : CT) (k : Nat) (x : Str) (ps : List Str) (G : EId → List Arg → RG) : Prop where
  ex : ∃ (f : Addr) (fd : FuncData), FnH P w K mg base ct k f fd ps (fun x => spG K ps.length (G x)) ∧ mg x = some (.ref f) ∧ PySem.W.keepIn K (.ref f) = true ∧ Binds K fd ps []
theorem calH_of {k : Nat} {x qual : Str} {st : Stmt} {f : Addr} {fd : FuncData} {ps : List Str} {G : EId → List Arg → RG} (Fd : Fun K x qual st f fd) (hm : mg x = some (.ref f)) (h : FnH P w K mg base ct k f fd ps (fun x => spG K ps.length (G x)))
    (hb : ∀ (kV doc pm : Value) (an : Option Addr) (cdv ct : Value) (us : List Value), us.length = ps.length → bindArgs (PySem.W.fnOf x qual (defArgs st) (defBody st) (defScope st) .none kV doc pm an cdv ct) ⟨us, []⟩ = pure (ps.zip us)) : CalH P w K mg base ct k x ps G :=
  ⟨f, fd, h, hm, Fd.kp, Fd.binds hb⟩
end
section
variable {X : Cx} {x0 : EId} {ct : CT} {π : Nat → Addr} {k : Nat} {f : Addr} {fd : FuncData} {ps : List Str} {G : EId → List Arg → RG} {x : Str} {e : Expr} {es : List Expr} {p pos : Pos} {g : BF}
theorem fe_callH {nn : Nat} (Fn : FnH X.prog X.w X.K X.mg X.base ct k f fd ps (fun x => spG X.K ps.length (G x))) (hk : ∃ v, ct.lookup x0.C = some v) (hr : L2H.RoomH k X.A) (hx : HotX X x0) (hg : Gl X x) (hm : X.mg x = some (.ref f)) (hkp : PySem.W.keepIn X.K (.ref f) = true) (hb : Binds X.K fd ps [])
    (ha : PA X (e :: es) (tB X.K π W0 g)) (hdb : (x == ("__debug__" : Str)) = false := by decide) (he : starEach (e :: es) X.env = (false, eval e X.env) :: starEach es X.env := by rfl) (hpl : (backTo pos (starEach es X.env)).any (·.1) = false := by rfl) (hnn : ps.length = nn := by rfl) :
    PE X (.Call (.Name x p) (e :: es) [] pos) (tE X.K π W0 (callE nn (G x0) g)) := by
  subst hnn
  refine ⟨fun pins s σ H Q I h => ?_⟩
  refine wpAny_Call_Name_kw (ld_glob I hg hm ?_ hdb)
  refine PySem.W.callWith_K (h₀ := X.base) I.ok.mod.kin hkp (thn (ha.run pos pins s σ H _ I (rd_bind1 (fun rv S _ nw P => k_asE rv S nw P) h)) fun us s1 ⟨vs, H1, I1, r, q⟩ => ⟨I1.kIn, ?_⟩) he hpl
  have b := hb s1 us I1.kIn (by rw [List.append_nil, ← r.length]; exact Fn.len _ _ _ _ _ q)
  rw [List.append_nil] at b
  obtain ⟨oe, hh, hp, hz, hf⟩ := hx.ex
  have P1 := I1.pin (x0.a, oe) (List.mem_append_left _ hp)
  have hpin : L2H.PinOk X.stack H1 s1 (x0.a, oe) := ⟨P1.1, P1.2.1, fun hm => (List.mem_cons.mp (I1.stkSub x0.a hm)).elim P1.2.2.1 P1.2.2.2.1, P1.2.2.2.2⟩
  refine wpAny_call (codeAny_mono (Fn.run x0 X.A X.stack s1 H1 ⟨us, []⟩ us vs Q _ oe hk hr hh hpin hz hf I1.env0 b r q) fun r s' hq => ?_)
  cases r with
  | error e =>
    obtain ⟨_, _, _, _, _, _, _, _, _, _, _, _, z⟩ := hq
    exact z.elim
  | ok fl =>
    cases fl with
    | ret u => exact I1.after hq
    | next => exact False.elim hq
    | brk => exact False.elim hq
    | cont => exact False.elim hq
end
end
end FL
/-! FL23: a lambda without parameters, made; its call in the def that got it. -/
namespace FL
open PySem PySem.Spec PyProof.Rows L2

section
variable {X : Cx} {pins : List (Addr × Obj)} {σ : L2.St} {H : Hp} {s : Shared}
abbrev lamQ (X : Cx) : Str := X.env.qual ++ "<lambda>"
/-- the lambda's object -/
abbrev lamO (X : Cx) (ar : Arguments) (body : Expr) (sc : Scope) (pm : Value) (co : Addr) (ctv : Value) : Obj := PySem.W.kla_obj "<lambda>" (lamQ X) ar body sc (cloFrom X.env.cells sc.names []) pm co ctv
/-- a lambda is made: all but the maker's table stays -/
theorem lam_mk {T : List (Addr × Str)} {cd Pt : Addr} {ar : Arguments} {body : Expr} {sc : Scope} {pos : Pos} {E : Value → Shared → Prop} {Q : Value → Shared → Prop} (I : Inv X pins σ H s) (TB : LamX.TabB X.base X.mg cd Pt) (hcd : X.env.code = .ref cd)
    (hm : (Pt, lamQ X) ∈ T) (hu : ∀ p ∈ T, p.1 = Pt → p.2 = lamQ X) (hT : LamX.Tabs T H) (hdf : defaultsOf ar X.env = ([], [])) (hfr : ∀ y ∈ sc.names, y.2 = .free → ∃ a, X.env.cells.lookup y.1 = some a)
    (h : ∀ (f co : Addr) (pm ctv : Value) (H1 : Hp) (s1 : Shared), Inv X pins σ H1 s1 → (∀ b o, b ≠ Pt → H b = some o → H1 b = some o) → (∃ us, H1 Pt = some (.tbl us) ∧ codeAmong pos us.toList = some (.ref co)) → LamX.Tabs T H1 → s1.heap.get? f = some (lamO X ar body sc pm co ctv) → H1 f = none → f ∉ frs X.stack ∧ s.heap.objs.size ≤ f → H1 co = some (LamX.CodeO co (lamQ X)) → Q (.ref f) s1) :
    wpAny (model X.prog X.w) X.A (eval (.Lambda ar body sc pos) X.env) Q E s := by
  obtain ⟨us, hP, tri, all⟩ := hT _ hm
  refine PySem.W.kla_eval hdf ?_
  have kb : s.heap.BuiltinsAt X.mg Pt := TB.bm.keeps I.bk
  have oP : s.heap.get? Pt = some { cls := .none, data := .fields us } := I.hok Pt _ hP
  have out : ∀ a, s.heap.objs.size ≤ a → a ∉ frs X.stack := fun a ha z => by
    rcases List.mem_cons.mp (I.stkSub _ z) with q | q
    · have lt := I.lt
      rw [← q] at lt
      exact absurd (Nat.lt_of_lt_of_le lt ha) (Nat.lt_irrefl _)
    · exact I.nofs ha q
  cases hit : codeAmong pos us.toList with
  | some cv =>
    obtain ⟨co, rfl, hco⟩ := all pos cv hit
    refine PySem.W.kla_makeFunctionHit (mg := X.mg) (c := cd) (P := Pt) (ps := us) (closure_ok hfr) I.ok.glob (I.mod.glob.keeps I.bk) hcd (TB.code.keeps I.bk) oP tri hit kb fun ctv h1 tk up le => ?_
    exact h h1.objs.size co ((X.mg "__name__").getD .none) ctv H _ (I.kept (t' := tk) fun b o e => Heap.get?_push_of_some _ (up b o e)) (fun b o _ e => e) ⟨us, hP, hit⟩ hT (Heap.get?_push_size _ rfl) (I.hok.fresh le) ⟨out _ le, le⟩ hco
  | none =>
    refine PySem.W.kla_makeFunction (mg := X.mg) (c := cd) (P := Pt) (ps := us) (closure_ok hfr) I.ok.glob (I.mod.glob.keeps I.bk) hcd (TB.code.keeps I.bk) oP tri hit TB.gP kb fun co ctv h1 tk up ge lt rc tb => ?_
    obtain ⟨co', ob, ws, t, e2, hob, hdt, hws⟩ := rc
    cases e2
    have le : s.heap.objs.size ≤ h1.objs.size := Nat.le_trans ge (Nat.le_of_lt lt)
    have nC : H co = none := I.hok.fresh ge
    have J := LamX.inv_table (t' := tk) (q := lamQ X) (more := #[rawInt pos.line, rawInt pos.col, .ref co]) (h' := h1.push (lamO X ar body sc ((X.mg "__name__").getD .none) co ctv)) I hP
      (fun b o nb e => Heap.get?_push_of_some _ (up b o nb e)) (Heap.get?_push_of_some _ tb) ge ⟨ob, ws, t, Heap.get?_push_of_some _ hob, hdt, hws⟩
    have same : ∀ b o, b ≠ Pt → H b = some o → upd (upd H Pt (.tbl (us ++ #[rawInt pos.line, rawInt pos.col, .ref co]))) co (LamX.CodeO co (lamQ X)) b = some o := fun b o nb e => by
      rw [upd_ne (ne_of_none e nC), upd_ne nb]
      exact e
    have atP : upd (upd H Pt (.tbl (us ++ #[rawInt pos.line, rawInt pos.col, .ref co]))) co (LamX.CodeO co (lamQ X)) Pt = some (.tbl (us ++ #[rawInt pos.line, rawInt pos.col, .ref co])) := by
      rw [upd_ne (ne_of_none hP nC), upd_same]
    have el : (us ++ #[rawInt pos.line, rawInt pos.col, .ref co]).toList = us.toList ++ [rawInt pos.line, rawInt pos.col, .ref co] := by simp
    have code : ∀ {b : Addr} {q : Str}, H b = some (LamX.CodeO b q) → b ≠ Pt := fun {b q} e z => by
      rw [z, hP] at e
      exact LamX.codeO_ne us (Option.some.inj e).symm
    refine h h1.objs.size co ((X.mg "__name__").getD .none) ctv _ _ J same ⟨_, atP, by rw [el]; exact codeAmong_snoc _ tri hit⟩ (fun p hp => ?_) (Heap.get?_push_size _ rfl) ?_ ⟨out _ le, le⟩ upd_same
    · by_cases hb : p.1 = Pt
      · rw [hu p hp hb, hb]
        refine ⟨_, atP, by rw [el]; exact PySem.TriplesOk_snoc _ _ _ _ tri, fun pos' cv hcv => ?_⟩
        rw [el] at hcv
        rcases LamX.among_app _ tri hcv with z | z
        · obtain ⟨c0, e1, e2⟩ := all pos' cv z
          exact ⟨c0, e1, same _ _ (code e2) e2⟩
        · exact ⟨co, z, upd_same⟩
      · obtain ⟨us', a1, a2, a3⟩ := hT p hp
        refine ⟨us', same _ _ hb a1, a2, fun pos' cv hcv => ?_⟩
        obtain ⟨c0, e1, e2⟩ := a3 pos' cv hcv
        exact ⟨c0, e1, same _ _ (code e2) e2⟩
    · rw [upd_ne (Nat.ne_of_gt lt), upd_ne (Nat.ne_of_gt (Nat.lt_of_lt_of_le (Heap.lt_size oP) le))]
      exact I.hok.fresh le
end
/-! ### the lambda's body -/
/-- where it runs: entered at s from the frames outer -/
abbrev lamX (X : Cx) (A : Around) (outer : List Env) (s : Shared) (H : Hp) (E : XK) (sc : Scope) (f co : Addr) : Cx :=
  (LamX.lamCx X A outer s H E sc f co).wish fun e s' => wpAny (model X.prog X.w) (A.deeper (LamX.lamEnv X sc s.heap.objs.size f co)) (leaving (LamX.lamEnv X sc s.heap.objs.size f co) e) (fun _ s'' => L2N.CX X.prog X.w outer H s E e s'') (fun e' s'' => L2N.CX X.prog X.w outer H s E e' s'') s'
theorem lamX_takes {X : Cx} {A : Around} {outer : List Env} {s : Shared} {H : Hp} {E : XK} {sc : Scope} {f co : Addr} : L2N.Takes (lamX X A outer s H E sc f co) (fun cls d _ H => E cls d H) := L2N.takes_of rfl rfl rfl rfl
/-- where the def that got the lambda runs: nothing leaves it -/
abbrev gotX (X : Cx) (Ng : List Str) (qg : Str) (sg : Scope) (g : Addr) (cdg : Value) (s : Shared) (H : Hp) : Cx := cxOf (L2N.CX X.prog X.w) X.prog X.w X.K X.mg X.base Ng qg sg g cdg X.A X.stack s H (fun _ _ _ => False)
section
variable {X : Cx} {pins : List (Addr × Obj)} {σ : L2.St} {H : Hp} {s : Shared}
theorem pe_act {Ng : List Str} {qg : Str} {sg : Scope} {g f co : Addr} {cdg pm ctv : Value} {ar : Arguments} {body : Expr} {sc : Scope} {k : Nat} {a : Str} {pn : List (Addr × Obj)} {xe : Value → Shared → Prop} {W : WX} {E : XK} {tb : TE} {p1 p2 : Pos}
    (I : Inv X pins σ H s) (L : LamX.LamS X.env.scope sc) (hf : s.heap.get? f = some (lamO X ar body sc pm co ctv)) (hfn : H f = none) (hfr : f ∉ frs X.stack)
    (hbind : bindArgs (PySem.W.kla_fn "<lambda>" (lamQ X) ar body sc (cloFrom X.env.cells sc.names []) pm (.ref co) ctv) ⟨[], []⟩ = pure [])
    (tk : L2N.Takes ((gotX X Ng qg sg g cdg s H).tr pn xe) W) (hW : ∀ cls d σ' H', σ'.length = Ng.length → E cls d H' → W cls d σ' H') (hr : RoomG (k + 1) (X.A.deeper (envOfC qg sg s.heap.objs.size g cdg)))
    (hbody : ∀ (A : Around) (outer : List Env) (s : Shared) (H : Hp), RoomG k (A.deeper (LamX.lamEnv X sc s.heap.objs.size f co)) → PE (lamX X A outer s H E sc f co) body tb)
    (hN : Ng[0]? = some a) (hv : Vis sg a) (hd : (a == ("__debug__" : Str)) = false := by decide) (hcd : (a == ("__classdict__" : Str)) = false := by decide) :
    PE ((gotX X Ng qg sg g cdg s H).tr pn xe) (.Call (.Name a p1) [] [] p2) (fun σZ HZ Q => σZ[0]? = some (some (.ref f)) ∧ HZ co = some (LamX.CodeO co (lamQ X)) ∧ tb σ HZ Q) := by
  refine ⟨fun pinsZ sZ σZ HZ Q IZ ⟨z1, z2, z3⟩ => ?_⟩
  refine wpAny_Call_Name_kw (thn ((pe_var (pos := p1) (i := 0) hN hv hd hcd).run pinsZ sZ σZ HZ (fun v H1 => v = .ref f ∧ H1 = HZ) IZ ⟨.ref f, z1, rfl, rfl⟩) fun u s1 ⟨v, H1, I1, r1, q1⟩ => ?_)
  obtain ⟨ev, eH⟩ := q1
  subst ev
  rw [eH] at I1
  obtain rfl : u = Value.ref f := r1
  have hf1 : s1.heap.get? f = some (lamO X ar body sc pm co ctv) := I1.base.keep f _ hf hfn hfr (fun z => nomatch (show f ∈ ([] : List Addr) from z))
  refine PySem.W.callWith_F0 ⟨_, _, _, _, hf1⟩ ?_
  have un : Un (frs X.stack) [] H HZ s.heap s1.heap := I1.base
  obtain ⟨⟨ob, ws, t, hob, hdt, hws⟩, _, _⟩ := I1.hok co _ z2
  have run : codeAny (model X.prog X.w) (X.A.deeper (envOfC qg sg s.heap.objs.size g cdg)) (.call (.ref f) ⟨[], []⟩) (CR (L2N.CX X.prog X.w) (envOfC qg sg s.heap.objs.size g cdg :: X.stack) X.prog X.w HZ s1 Q E) s1 := by
    refine PySem.W.kla_callFunE hr.r.depth hf1 rfl L.co L.gen rfl ⟨co, ob, ws, t, rfl, hob, hdt, hws⟩ ?_
    rw [hbind]
    refine wpAny_pure (wpAny_newFunctionEnv (fun y hy => (L.own y hy).2) (fun y hy => absurd hy (by simp)) (fun h1 hns hsb => ⟨I1.nolimit.fresh _ hsb, ?_⟩) L.kind)
    show codeAny _ _ (.expr body (LamX.lamEnv X sc s1.heap.objs.size f co)) _ _
    have kp : ∀ b o, s1.heap.get? b = some o → h1.get? b = some o := fun b o e => hsb.extBut b o (Nat.ne_of_lt (Heap.lt_size e)) (Heap.get?_push_of_some _ e)
    have J0 := LamX.lam_start2 (A := X.A.deeper (envOfC qg sg s.heap.objs.size g cdg)) (outer := envOfC qg sg s.heap.objs.size g cdg :: X.stack) (E := E) (f := f) (c' := co) (tk := s1.toks + ([] : List (Str × Value)).length) I L I1.env0 hr.r.hd un hns kp
    have J : Inv (lamX X (X.A.deeper (envOfC qg sg s.heap.objs.size g cdg)) (envOfC qg sg s.heap.objs.size g cdg :: X.stack) s1 HZ E sc f co) [] σ HZ { s1 with heap := h1, toks := s1.toks + ([] : List (Str × Value)).length } := J0.wish _
    refine PySem.W.kla_codeExpr (wpAny_mono ((hbody _ _ s1 HZ (hr.deeper _)).run [] _ _ HZ Q J z3) (fun v s' hq => ?_) fun e s' hq => hq)
    obtain ⟨w', H', J', rv, q⟩ := hq
    exact ⟨w', H', J'.os, J'.bare, J'.base, J'.hok, rv, q⟩
  refine wpAny_call (codeAny_mono run fun r s' hq => ?_)
  cases r with
  | error e => exact tk e s' (L2N.XE.of_call I1 (fun cls d H' h => hW cls d σZ H' I1.len h) hq)
  | ok fl =>
    cases fl with
    | ret u => exact I1.after hq
    | next => exact False.elim hq
    | brk => exact False.elim hq
    | cont => exact False.elim hq
end
end FL
/-! FL24: try: back = act() / except (A, B, C) as e: suite / rest; a lambda handed to such a def. -/
namespace FL
open PySem PySem.Spec PyProof.Rows L2

section
variable {K : PySem.W.Frag}
theorem flying_push {base h : Heap} {l : List Env} {e : Addr} {Z : Obj → Prop} {o : Obj} (x : HandSPX.FlyingZ base l e Z h) : HandSPX.FlyingZ base l e Z (h.push o) := by
  obtain ⟨k1, k2, k3, oe, vs, T, oT, ts, he, hz, hd, h1, hn, hne, hT, hdT, h3⟩ := x
  have k : ∀ b u, h.get? b = some u → (h.push o).get? b = some u := fun b u q => Heap.get?_push_of_some _ q
  exact ⟨fun b u q => k b u (k1 b u q), k2, k3.of_keeps fun b u q _ => ⟨u, k b u q, rfl⟩, oe, vs, T, oT, ts, k _ _ he, hz, hd, h1, hn, hne, k _ _ hT, hdT, h3⟩
end
/-- what the clause 'except (..) as n' wishes of an exception of the body: slot i is n's -/
def wAsL (K : PySem.W.Frag) (cs : List Value) (i : Nat) (ts : Addr → Value → Option Addr → TS) (Wout : WX) (D : Ends) : WX := fun cls d σ H =>
  ∃ b, PySem.W.exmAny K cls cs = some b ∧ (b = true → ∀ a, H a = none → ts a cls d { nx := fun σ' H' => D.nx (σ'.set i none) H', rt := D.rt, bk := fun σ' H' => D.bk (σ'.set i none) H', ct := fun σ' H' => D.ct (σ'.set i none) H' } (σ.set i (some (.ref a))) H) ∧
    (b = false → Wout cls d σ H)
section
variable {X : Cx} {x1 x2 x3 n : Str} {C1 C2 C3 : Addr} {i : Nat} {body suite : List Stmt} {b₀ : Stmt} {q1 q2 q3 tp pos pos' : Pos} {kk : Nat} {tb : WX → TS} {ts : Addr → Value → Option Addr → TS} {Wout : WX}
theorem ps_try3 (hs : X.stack = X.env :: X.outer) (hf : X.env.frame = some X.env.locals) (hN : X.N.Nodup) (hi : X.N[i]? = some n) (hln : X.env.kindOf n = some .local)
    (g1 : Gl X x1) (g2 : Gl X x2) (g3 : Gl X x3) (m1 : X.mg x1 = some (.ref C1)) (m2 : X.mg x2 = some (.ref C2)) (m3 : X.mg x3 = some (.ref C3)) (d1 : (x1 == ("__debug__" : Str)) = false) (d2 : (x2 == ("__debug__" : Str)) = false) (d3 : (x3 == ("__debug__" : Str)) = false) (tk : L2N.Takes X Wout)
    (hb : ∀ (W : WX) (pn : List (Addr × Obj)) (xe : Value → Shared → Prop), L2N.Takes (X.tr pn xe) W → PassesOwn (model X.prog X.w) X.A X.env xe → PSs (X.tr pn xe) body (tb W))
    (hsu : ∀ (a : Addr) (oe : Obj) (cls : Value) (d : Option Addr) (pn : List (Addr × Obj)), L2N.Zn cls d oe → (∃ vs, oe.data = .fields vs) → PSs (X.suite a ((a, oe) :: pn)) (b₀ :: suite) (ts a cls d))
    (he1 : starEach [.Name x1 q1, .Name x2 q2, .Name x3 q3] X.env = (false, eval (.Name x1 q1) X.env) :: starEach [.Name x2 q2, .Name x3 q3] X.env := by rfl) (he2 : starEach [.Name x2 q2, .Name x3 q3] X.env = (false, eval (.Name x2 q2) X.env) :: starEach [.Name x3 q3] X.env := by rfl) (he3 : starEach [.Name x3 q3] X.env = (false, eval (.Name x3 q3) X.env) :: starEach [] X.env := by rfl) :
    PS X (.Try body [.ExceptHandler (some (.Tuple [.Name x1 q1, .Name x2 q2, .Name x3 q3] kk tp)) (some n) (b₀ :: suite) pos'] [] [] pos) (fun D σ H => tb (wAsL X.K [.ref C1, .ref C2, .ref C3] i ts Wout D) D σ H) := by
  refine ⟨fun pins s σ H D I h => ?_⟩
  have ok := I.ok
  have hfr : X.A.frames = some (X.env :: X.outer) := by rw [ok.frames, hs]
  have hloc : Loc X.env.scope n := .inl hln
  refine wpAny_Try_except ?_
  refine wpAny_mono ((hb (wAsL X.K [.ref C1, .ref C2, .ref C3] i ts Wout D) (X.pn ++ pins) (fun e s1 => wpAny (model X.prog X.w) X.A (noteFrame e X.env) (fun _ s2 => wpAny (model X.prog X.w) X.A (setFlight e none) (fun _ s3 =>
    wpAny (model X.prog X.w) X.A (handleBy e X.env [.ExceptHandler (some (.Tuple [.Name x1 q1, .Name x2 q2, .Name x3 q3] kk tp)) (some n) (b₀ :: suite) pos']) (SP X pins D) X.xe s3) X.xe s2) X.xe s1) (fun u s' xx => ?_) PassesOwn.looking).run [] s σ H D (I.toTry _) h) (fun f s1 hsp => ?_) (fun e s1 he => he)
  · -- an exception
    obtain ⟨a, B, sI, pins', σ', H', cls, d, rfl, J', nb, up, sky, na, os, ag, b, hbb, yes, no⟩ := xx
    have J : Inv X pins σ' H' sI := J'.ofTry ok
    have sky1 : Sky B (X.env :: X.outer) a (L2N.Zn cls d) X.env.locals s'.heap := by rw [← hs]; exact sky
    show wpAny (model X.prog X.w) X.A (noteFrame (.ref a) X.env) _ _ _
    refine L2N.Sky.land L2N.Zn.steady hfr hf sky1 fun g3h fl3 up3 => ?_
    have J3 : Inv X pins σ' H' { s' with heap := g3h } := J.landed nb fl3.1 (up.trans up3) os ag
    obtain ⟨o3, v3, ho3, hz3, hv3⟩ := fl3.there
    have far : a ∉ frs (X.env :: X.outer) := fun hm => by
      obtain ⟨_, o', e', hnf⟩ := fl3.2.2.1.mem hm
      rw [ho3] at e'
      cases e'
      exact hnf _ hv3
    have nL : a ≠ X.env.locals := fun z => far (List.mem_filterMap.mpr ⟨X.env, List.mem_cons_self, by rw [hf, z]⟩)
    have nF : a ∉ X.fs := fun hm => by
      obtain ⟨e, he, q⟩ := List.mem_filterMap.mp hm
      exact far (List.mem_filterMap.mpr ⟨e, List.mem_cons_of_mem _ he, q⟩)
    have S3 := J3.suite ho3 hv3 na nL nF
    refine wpAny_handleBy_cons (codeAny_handlers_test ?_) (by intro q; cases q)
    refine Tuple_ (spliced_more (ld_glob (X := X.suite a ((a, o3) :: (X.pn ++ pins))) S3 g1 m1 (spliced_more (ld_glob (X := X.suite a ((a, o3) :: (X.pn ++ pins))) S3 g2 m2 (spliced_more (ld_glob (X := X.suite a ((a, o3) :: (X.pn ++ pins))) S3 g3 m3 (spliced_none ?_) d3) he3) d2) he2) d1) he1)
    refine wpAny_newObj_type ?_
    have kp : ∀ b u, g3h.get? b = some u → (g3h.push { cls := .type "tuple", dict := none, data := .seq [Value.ref C1, .ref C2, .ref C3].toArray }).get? b = some u := fun b u q => Heap.get?_push_of_some _ q
    have fl4 := flying_push (o := { cls := .type "tuple", dict := none, data := .seq [Value.ref C1, .ref C2, .ref C3].toArray }) fl3
    have up4 := up3.trans (Heap.UpToSlots.of_keeps kp)
    have KI := J3.kIn.keeps kp
    have LT : PySem.W.Looks (model X.prog X.w) (g3h.push { cls := .type "tuple", dict := none, data := .seq [Value.ref C1, .ref C2, .ref C3].toArray }) (typeOf (.ref a)) cls := fun A Q E s k q => wpAny_typeOf_ref (k _ _ (kp _ _ ho3)) (by rw [hz3.1]; exact q)
    refine (PySem.W.exm_tup3 (M := model X.prog X.w) KI LT (Heap.get?_push_size _ rfl) hbb).here ?_
    cases b with
    | true =>
      refine codeAny_handlers_suite_as ?_
      refine HandSPX.lands_againZ fl4 fun h5 fl5 up5 => ?_
      have J5 : Inv X pins σ' H' { s' with heap := h5 } := J.landed nb fl5.1 ((up.trans up4).trans up5) os ag
      obtain ⟨o5, v5, ho5, hz5, hv5⟩ := fl5.there
      have S5 := J5.suite ho5 hv5 na nL nF
      refine store_ok (X := X.suite a ((a, o5) :: (X.pn ++ pins))) (v := .ref a) S5 hN hi hloc rfl (fun s6 S6 => ?_) (.inr hln)
      refine wpAny_mono ((hsu a o5 cls d (X.pn ++ pins) hz5 ⟨_, hv5⟩).run [] s6 _ H' _ S6 (yes rfl a na)) (fun f s7 hsp => ?_) (fun _ _ z => False.elim z)
      have fin : ∀ {σ7 : L2.St} {H7 : Hp} {Q : Shared → Prop}, Inv (X.suite a ((a, o5) :: (X.pn ++ pins))) [] σ7 H7 s7 → (∀ s8, Inv X pins (σ7.set i none) H7 s8 → Q s8) →
          wpAny (model X.prog X.w) X.A (do bindName X.env n .none; unbindBehindTheSuite X.env n pos') (fun _ s8 => Q s8) X.xe s7 := fun {σ7 H7 Q} S7 hq => gone_ok (S7.unsuite ok) hN hi hln hq
      cases f with
      | next =>
        obtain ⟨σ7, H7, S7, w7⟩ := hsp
        exact fin S7 fun s8 J8 => ⟨_, _, J8, w7⟩
      | brk =>
        obtain ⟨σ7, H7, S7, w7⟩ := hsp
        exact fin S7 fun s8 J8 => ⟨_, _, J8, w7⟩
      | cont =>
        obtain ⟨σ7, H7, S7, w7⟩ := hsp
        exact fin S7 fun s8 J8 => ⟨_, _, J8, w7⟩
      | ret u =>
        obtain ⟨v7, σ7, H7, S7, r7, w7⟩ := hsp
        exact fin S7 fun s8 J8 => ⟨_, _, _, J8, r7, w7⟩
    | false =>
      show wpAny _ X.A (handleBy (.ref a) X.env []) _ _ _
      refine wpAny_handleBy_nil ?_
      obtain ⟨_, _, _, o6, v6, T, oT, ts6, ho6, hz6, hv6, hv1, _⟩ := id fl4
      unfold PySem.passOn
      refine wpAny_bind (wpAny_field ho6 hv6 hv1 ?_)
      rw [if_neg (show ¬ ((Value.ref T == Value.none) = true) from by simp)]
      have go : wpAny (model X.prog X.w) X.A (setFlight (.ref a) X.env.frame) (fun _ s4 => wpAny (model X.prog X.w) X.A (throw (.ref a) : Sem Flow) (SP X pins D) X.xe s4) X.xe { s' with heap := g3h.push { cls := .type "tuple", dict := none, data := .seq [Value.ref C1, .ref C2, .ref C3].toArray } } := by
        rw [hf]
        refine HandSPX.setFlight_upZ fl4 fun h4 hh4 up5 => wpAny_throw (tk _ _ ?_)
        exact ⟨a, B, sI, pins, σ', H', cls, d, rfl, J, nb, (up.trans up4).trans up5, .inr (.inr (by rw [hs]; exact hh4)), na, os, ag, no rfl⟩
      first
        | exact wpAny_bind (wpAny_pure (wpAny_bind go))
        | exact wpAny_bind go
  · cases f with
    | next =>
      obtain ⟨σ1, H1, J1, w1⟩ := hsp
      exact wpAny_execs_nil ⟨σ1, H1, J1.ofTry ok, w1⟩
    | brk =>
      obtain ⟨σ1, H1, J1, w1⟩ := hsp
      exact ⟨σ1, H1, J1.ofTry ok, w1⟩
    | cont =>
      obtain ⟨σ1, H1, J1, w1⟩ := hsp
      exact ⟨σ1, H1, J1.ofTry ok, w1⟩
    | ret u =>
      obtain ⟨v1, σ1, H1, J1, r1, w1⟩ := hsp
      exact ⟨v1, σ1, H1, J1.ofTry ok, r1, w1⟩
end
end FL
/-! FL25: caught(lambda: e). -/
namespace FL
open PySem PySem.Spec PyProof.Rows L2

/-! ### the reading -/
open Classical in
/-- what the suite gives, whatever the object -/
noncomputable def sutR (l ie : Nat) (gs : EId → SF) (C : Str) (fs : List (Str × D)) : Option Res :=
  if h : ∃ r : Res, ∀ x : EId, x.C = C → ∃ ρ : Rho, gs x ((List.replicate l Slot.no).set ie (.val (.exc x fs))) = .ok (.rt r) ρ then some h.choose else none
theorem sutR_ok {l ie : Nat} {gs : EId → SF} {C : Str} {fs : List (Str × D)} {r : Res} (h : sutR l ie gs C fs = some r) : ∀ x : EId, x.C = C → ∃ ρ : Rho, gs x ((List.replicate l Slot.no).set ie (.val (.exc x fs))) = .ok (.rt r) ρ := by
  unfold sutR at h
  split at h
  · rename_i w
    cases h
    exact w.choose_spec
  · cases h
theorem sutR_eq {l ie : Nat} {gs : EId → SF} {C : Str} {fs : List (Str × D)} {r : Res} (h : ∀ x : EId, x.C = C → ∃ ρ : Rho, gs x ((List.replicate l Slot.no).set ie (.val (.exc x fs))) = .ok (.rt r) ρ) : sutR l ie gs C fs = some r := by
  have w : ∃ r : Res, ∀ x : EId, x.C = C → ∃ ρ : Rho, gs x ((List.replicate l Slot.no).set ie (.val (.exc x fs))) = .ok (.rt r) ρ := ⟨r, h⟩
  unfold sutR
  rw [dif_pos w]
  obtain ⟨ρ1, e1⟩ := h ⟨0, none, C⟩ rfl
  obtain ⟨ρ2, e2⟩ := w.choose_spec ⟨0, none, C⟩ rfl
  rw [e1] at e2
  cases e2
  rfl
def caught (ct : CT) (cs : List Str) (C : Str) : Bool := match ct.lookup C with
  | some v => cs.any fun m => v.1.contains m
  | none => false
/-- how a def that catches is made: its slots, that of what came back and of the exception; the classes; the suite; the rest -/
structure CG where
  l : Nat
  ib : Nat
  ie : Nat
  ct : CT
  cs : List Str
  gs : EId → SF
  ge : SF
noncomputable def CG.cau (c : CG) : R D → R D
  | .ok d ρ => match c.ge ((List.replicate c.l Slot.no).set c.ib (.val d)) with
    | .ok (.rt r) _ => asE r ρ
    | _ => .stuck
  | .exc C fs ρ => if caught c.ct c.cs C = true then match sutR c.l c.ie c.gs C fs with
      | some r => asE r ρ
      | none => .stuck
    else .stuck
  | .stuck => .stuck
noncomputable def cauE (c : CG) (f : EF) : EF := fun ρ => c.cau (f ρ)
/-! ### a def's slots, all unknown -/
section
variable [FE]
variable {K : PySem.W.Frag} {π : Nat → Addr} {F H : Hp}
theorem Sta.blank (s : Same F H) (t : LamX.Tabs FE.tabs H) (n : NoT F) {σ : L2.St} {l : Nat} (hl : σ.length = l) : Sta K π ⟨H, F, [], []⟩ F H σ (List.replicate l .no) := by
  refine ⟨fun q o e _ _ _ => e, fun q hq => ?_, Same.refl _, s, fun q o _ e => e, by rw [List.length_replicate]; exact hl, fun i sl hs => ?_, fun i j p h1 h2 => ?_, ⟨t, fun q ps e => ⟨ps, e⟩, n⟩⟩
  · rcases hq with z | z <;> cases z
  · rw [List.getElem?_replicate] at hs
    split at hs
    · cases hs
      trivial
    · cases hs
  · obtain ⟨_, m, h | h⟩ := h1
    · rw [List.getElem?_replicate] at h
      split at h <;> cases h
    · rw [List.getElem?_replicate] at h
      split at h <;> cases h
/-- behind it the caller's state -/
theorem Sta.behind {c : Cfg} {σ σ' : L2.St} {ρ ρ' : Rho} {F' H' : Hp} (S : Sta K π c F H σ ρ) {π' : Nat → Addr} (T : Sta K π' ⟨H, F, [], []⟩ F' H' σ' ρ') : Sta K π c F' H' σ ρ :=
  S.grow ⟨T.f0, fun b o e n => T.h0 b o e (fun z => by cases z) (fun z => by cases z) n, T.f, fun q o e n => T.nf q o e n, ⟨fun _ => T.t.tb, T.t.tk, fun _ => T.t.nt⟩⟩
end
section
variable [FE]
structure CauT (K : PySem.W.Frag) (ct : CT) (cs : List Str) : Prop where
  e : ∀ n v, ct.lookup n = some v → ∀ m ∈ cs, PySem.W.exmOne K (.ref (FE.cl n)) (.ref (FE.cl m)) = some (v.1.contains m)
theorem CauT.any {K : PySem.W.Frag} {ct : CT} {cs : List Str} (T : CauT K ct cs) {C : Str} {v : List Str × List Str} (h : ct.lookup C = some v) : ∀ {ms : List Str}, (∀ m ∈ ms, m ∈ cs) → PySem.W.exmAny K (.ref (FE.cl C)) (ms.map fun m => .ref (FE.cl m)) = some (ms.any fun m => v.1.contains m)
  | [], _ => rfl
  | m :: ms, hm => by
    have ih := CauT.any T h (ms := ms) fun m' h' => hm m' (List.mem_cons_of_mem _ h')
    have e := T.e C v h m (hm m List.mem_cons_self)
    rw [List.map_cons, List.any_cons]
    unfold PySem.W.exmAny
    rw [e, ih]
/-- the def x catches: c tells how -/
structure Got (P : Program) (w : World) (K : PySem.W.Frag) (mg : Str → Option Value) (base : Heap) (k : Nat) (x : Str) (c : CG) : Prop where
  ex : ∃ (g : Addr) (fd : FuncData) (a : Str) (Ng : List Str) (sg : Scope) (cdg : Value), mg x = some (.ref g) ∧ PySem.W.keepIn K (.ref g) = true ∧ Binds K fd [a] [] ∧ Vis sg a ∧ Ng[0]? = some a ∧ (a == ("__debug__" : Str)) = false ∧ (a == ("__classdict__" : Str)) = false ∧
    ∀ (A : Around) (outer : List Env) (s : Shared) (H : Hp) (args : Args) (f co : Addr) (q : Str) (Q : VK) (π : Nat → Addr) (W : WX) (cf : Cfg) (F : Hp) (ρ : Rho) (σ : L2.St) (ef : EF),
      RoomG (k + 1) A → Env0 P w K mg base A outer s H → BindsTo s fd args ([a].zip [.ref f]) → H co = some (LamX.CodeO co q) → Sta K π cf F H σ ρ → Po K π W (relE K) cf F σ Q (c.cau (ef ρ)) →
      (∀ (W' : WX) (pn : List (Addr × Obj)) (xe : Value → Shared → Prop) (E : XK) (p1 p2 : Pos), L2N.Takes ((cxOf (L2N.CX P w) P w K mg base Ng x sg g cdg A outer s H (fun _ _ _ => False)).tr pn xe) W' → (∀ cls d σ' H', σ'.length = Ng.length → E cls d H' → W' cls d σ' H') →
        RoomG k (A.deeper (envOfC x sg s.heap.objs.size g cdg)) →
        PE ((cxOf (L2N.CX P w) P w K mg base Ng x sg g cdg A outer s H (fun _ _ _ => False)).tr pn xe) (.Call (.Name a p1) [] [] p2) (fun σZ HZ Q => σZ[0]? = some (some (.ref f)) ∧ HZ co = some (LamX.CodeO co q) ∧ tE K π (fun cls d _ H => E cls d H) ef σ HZ Q)) →
      codeAny (model P w) A (.call (.ref g) args) (CR (L2N.CX P w) outer P w H s Q (fun _ _ _ => False)) s
section
variable {P : Program} {w : World} {K : PySem.W.Frag} {mg : Str → Option Value} {base : Heap}
theorem got_of {x : Str} {st : Stmt} {g : Addr} {fd : FuncData} {Ng : List Str} {a back e n1 n2 n3 : Str} {k : Nat} {c : CG} {b₀ : Stmt} {suite rest : List Stmt} {pb p1 p2 p3 p4 p5 q1 q2 q3 tp : Pos} {kk : Nat} (Fd : Fun K x x st g fd) (Sc : FnScope Ng [a] (defScope st)) (hm : mg x = some (.ref g))
    (hbd : defBody st = .Try [.Assign [.Name back pb] (.Call (.Name a p1) [] [] p2) p3] [.ExceptHandler (some (.Tuple [.Name n1 q1, .Name n2 q2, .Name n3 q3] kk tp)) (some e) (b₀ :: suite) p4] [] [] p5 :: rest)
    (hl : Ng.length = c.l) (h0 : Ng[0]? = some a) (hib : Ng[c.ib]? = some back) (hie : Ng[c.ie]? = some e) (va : Vis (defScope st) a) (lb : (defScope st).names.lookup back = some .local) (le : (defScope st).names.lookup e = some .local)
    (hcs : c.cs = [n1, n2, n3]) (l1 : (defScope st).names.lookup n1 = some .globalImplicit) (l2 : (defScope st).names.lookup n2 = some .globalImplicit) (l3 : (defScope st).names.lookup n3 = some .globalImplicit)
    (m1 : mg n1 = some (.ref (FE.cl n1))) (m2 : mg n2 = some (.ref (FE.cl n2))) (m3 : mg n3 = some (.ref (FE.cl n3))) (d1 : (n1 == ("__debug__" : Str)) = false) (d2 : (n2 == ("__debug__" : Str)) = false) (d3 : (n3 == ("__debug__" : Str)) = false)
    (da : (a == ("__debug__" : Str)) = false) (da2 : (a == ("__classdict__" : Str)) = false) (T : CauT K c.ct c.cs)
    (hbn : ∀ (kV doc pm : Value) (an : Option Addr) (cdv ct : Value) (us : List Value), us.length = [a].length → bindArgs (PySem.W.fnOf x x (defArgs st) (defBody st) (defScope st) .none kV doc pm an cdv ct) ⟨us, []⟩ = pure ([a].zip us))
    (hsw : ∀ (L : Addr) (cdv : Value), swapsWith (.Call (.Name a p1) [] [] p2) (some (.Name back pb)) p3.line (envOfC x (defScope st) L g cdv) = pure false)
    (hsu : ∀ (z : EId) (cdv : Value) (A : Around) (outer : List Env) (s : Shared) (H : Hp) (π : Nat → Addr) (oe : Obj) (pn : List (Addr × Obj)), L2H.RoomH k ((cxOf (L2N.CX P w) P w K mg base Ng x (defScope st) g cdv A outer s H (fun _ _ _ => False)).nox.suite z.a ((z.a, oe) :: pn)).A →
      HotX ((cxOf (L2N.CX P w) P w K mg base Ng x (defScope st) g cdv A outer s H (fun _ _ _ => False)).nox.suite z.a ((z.a, oe) :: pn)) z → (∃ v, c.ct.lookup z.C = some v) →
      PSs ((cxOf (L2N.CX P w) P w K mg base Ng x (defScope st) g cdv A outer s H (fun _ _ _ => False)).nox.suite z.a ((z.a, oe) :: pn)) (b₀ :: suite) (tS K π W0 (c.gs z)))
    (hre : ∀ (cdv : Value) (A : Around) (outer : List Env) (s : Shared) (H : Hp) (π : Nat → Addr), RoomG k (cxOf (L2N.CX P w) P w K mg base Ng x (defScope st) g cdv A outer s H (fun _ _ _ => False)).nox.A →
      PSs (cxOf (L2N.CX P w) P w K mg base Ng x (defScope st) g cdv A outer s H (fun _ _ _ => False)).nox rest (tS K π W0 c.ge)) :
    Got P w K mg base k x c := by
  have hFd := Fd
  obtain ⟨oc, od, kV, doc, pm, an, cdv, ct, osl, rfl, lk, hcd⟩ := Fd.ex
  refine ⟨g, _, a, Ng, defScope st, cdv, hm, hFd.kp, hFd.binds hbn, va, h0, da, da2, fun A outer s H args f co q Q π W cf F ρ σ ef hr e0 hb hco S PP act => ?_⟩
  refine LamX.run_ofS (N := Ng) (ps := [a]) (us := [.ref f]) (vs := [.ref f]) (k := k) lk hcd Sc hr.r e0 hb (.cons rfl .nil) rfl fun hr' => ?_
  have hrG : RoomG k (A.deeper (envOfC x (defScope st) s.heap.objs.size g cdv)) := ⟨hr', hr.g⟩
  have nd : Ng.Nodup := Sc.nd
  have ll : ∀ {i : Nat} {y : Str}, Ng[i]? = some y → i < c.l := fun {i y} e => by
    have := (List.getElem?_eq_some_iff.mp e).1
    omega
  have il : c.ib < (List.replicate c.l Slot.no).length := by rw [List.length_replicate]; exact ll hib
  have jl : c.ie < (List.replicate c.l Slot.no).length := by rw [List.length_replicate]; exact ll hie
  have sl : (L2.start Ng [V.ref f]).length = c.l := by
    unfold L2.start
    have := ll h0
    simp
    omega
  -- what follows a value of the suite, or of the rest
  have done : ∀ {F1 H1 : Hp} {ρ1 : Rho} {r : Res} {F2 H2 : Hp} {σ2 : L2.St} {ρ2 : Rho} {π2 : Nat → Addr} {v : V}, Sta K π cf F1 H1 σ ρ1 → Po K π W (relE K) cf F1 σ Q (asE r ρ1) → Same F1 F2 → Sta K π2 ⟨H1, F1, [], []⟩ F2 H2 σ2 ρ2 → relR K ⟨H1, F1, [], []⟩ F2 H2 σ2 ρ2 v r → Q v H2 := fun {F1 H1 ρ1 r F2 H2 σ2 ρ2 π2 v} S1 P1 s2 T2 rv => by
    have S2 := S1.behind T2
    refine k_asE (X := cxOf (L2N.CX P w) P w K mg base Ng x (defScope st) g cdv A outer s H (fun _ _ _ => False)) (H := H1) (r := r) ?_ S2 (fun q hq => ?_) (P1.mono s2)
    · cases r with
      | v d => exact rv
      | m m =>
        obtain ⟨p, e, n, n0, _, hm⟩ := rv
        exact ⟨p, e, n0, n, hm⟩
    · have z := S1.fresh hq
      exact ⟨z.2.1, z.2.2⟩
  have hb1 : ∀ (W' : WX) (pn : List (Addr × Obj)) (xe : Value → Shared → Prop), L2N.Takes ((cxOf (L2N.CX P w) P w K mg base Ng x (defScope st) g cdv A outer s H (fun _ _ _ => False)).nox.tr pn xe) W' → PassesOwn (model P w) (cxOf (L2N.CX P w) P w K mg base Ng x (defScope st) g cdv A outer s H (fun _ _ _ => False)).nox.A (cxOf (L2N.CX P w) P w K mg base Ng x (defScope st) g cdv A outer s H (fun _ _ _ => False)).nox.env xe → PSs ((cxOf (L2N.CX P w) P w K mg base Ng x (defScope st) g cdv A outer s H (fun _ _ _ => False)).nox.tr pn xe) [.Assign [.Name back pb] (.Call (.Name a p1) [] [] p2) p3] ((fun (W' : WX) (D : Ends) (σZ : L2.St) (HZ : Hp) => ∃ Ec : XK, (∀ (cls : Value) (d : Option Addr) (σ' : L2.St) (H' : Hp), List.length σ' = Ng.length → Ec cls d H' → W' cls d σ' H') ∧ σZ[0]? = some (some (V.ref f)) ∧ HZ co = some (LamX.CodeO co q) ∧ tE K π (fun cls d _ H => Ec cls d H) ef σ HZ (fun v H1 => D.nx (σZ.set c.ib (some v)) H1)) W') := fun W' pn xe tk' _ => ⟨fun pins s' σZ HZ D I ⟨Ec, hW, z1, z2, z3⟩ => by
    have hp := act W' pn xe Ec p1 p2 tk' hW hrG
    exact (pss_one (ps_set (i := c.ib) (pos' := pb) (pos := p3) nd hib (.inl lb) hp (hsw _ _))).run pins s' σZ HZ D I ⟨z1, z2, z3⟩⟩
  have hs1 : ∀ (ax : Addr) (oe : Obj) (cls : Value) (d : Option Addr) (pn : List (Addr × Obj)), L2N.Zn cls d oe → (∃ vs, oe.data = .fields vs) → PSs ((cxOf (L2N.CX P w) P w K mg base Ng x (defScope st) g cdv A outer s H (fun _ _ _ => False)).nox.suite ax ((ax, oe) :: pn)) (b₀ :: suite) ((fun (ax : Addr) (cls : Value) (d : Option Addr) (D : Ends) (σZ : L2.St) (HZ : Hp) => ∃ C : Str, cls = .ref (FE.cl C) ∧ (∃ v, c.ct.lookup C = some v) ∧ ∃ π2, tS K π2 W0 (c.gs ⟨ax, d, C⟩) D σZ HZ) ax cls d) := fun ax oe cls d pn hz hf => ⟨fun pins s' σZ HZ D I ⟨C, ec, hk, π2, h⟩ => by
    subst ec
    exact (hsu ⟨ax, d, C⟩ cdv A outer s H π2 oe pn ⟨hr'.dp, hr'.un⟩ ⟨oe, rfl, List.mem_cons_self, hz, hf⟩ hk).run pins s' σZ HZ D I h⟩
  have ht := pss_cons (ps_try3 (X := (cxOf (L2N.CX P w) P w K mg base Ng x (defScope st) g cdv A outer s H (fun _ _ _ => False)).nox) (i := c.ie) (q1 := q1) (q2 := q2) (q3 := q3) (tp := tp) (kk := kk) (pos' := p4) (pos := p5) (Wout := W0) (tb := (fun (W' : WX) (D : Ends) (σZ : L2.St) (HZ : Hp) => ∃ Ec : XK, (∀ (cls : Value) (d : Option Addr) (σ' : L2.St) (H' : Hp), List.length σ' = Ng.length → Ec cls d H' → W' cls d σ' H') ∧ σZ[0]? = some (some (V.ref f)) ∧ HZ co = some (LamX.CodeO co q) ∧ tE K π (fun cls d _ H => Ec cls d H) ef σ HZ (fun v H1 => D.nx (σZ.set c.ib (some v)) H1))) (ts := (fun (ax : Addr) (cls : Value) (d : Option Addr) (D : Ends) (σZ : L2.St) (HZ : Hp) => ∃ C : Str, cls = .ref (FE.cl C) ∧ (∃ v, c.ct.lookup C = some v) ∧ ∃ π2, tS K π2 W0 (c.gs ⟨ax, d, C⟩) D σZ HZ)) rfl rfl nd hie le l1 l2 l3 m1 m2 m3 d1 d2 d3 takes_0 hb1 hs1) (hre cdv A outer s H (fun _ => 0) hrG)
  rw [← hbd] at ht
  refine ⟨_, ht.nox, ?_⟩
  refine ⟨fun cls d H' => ∀ σ', σ'.length = Ng.length → wAsL K [.ref (FE.cl n1), .ref (FE.cl n2), .ref (FE.cl n3)] c.ie _ W0 _ cls d σ' H', fun cls d σ' H' hl h => h σ' hl, start_get (i := 0) rfl, hco, cf, F, ρ, S, ?_⟩
  cases er : ef ρ with
  | stuck =>
    rw [er] at PP
    exact PP
  | ok d ρ1 =>
    rw [er] at PP
    intro v F1 H1 s1 S1 rv
    have PP : Po K π W (relE K) cf F σ Q (match c.ge ((List.replicate c.l Slot.no).set c.ib (.val d)) with
      | .ok (.rt r) _ => asE r ρ1
      | _ => .stuck) := PP
    refine ⟨⟨H1, F1, [], []⟩, F1, (List.replicate c.l Slot.no).set c.ib (.val d), rfl, (Sta.blank S1.f S1.t.tb S1.t.nt sl).set il rv, ?_⟩
    cases eg : c.ge ((List.replicate c.l Slot.no).set c.ib (.val d)) with
    | stuck => rw [eg] at PP; exact PP.elim
    | exc C fs ρ2 => rw [eg] at PP; exact PP.elim
    | ok fl ρ2 =>
      rw [eg] at PP
      cases fl with
      | rt r => exact fun v2 σ2 F2 H2 s2 T2 r2 => done S1 (PP.mono s1) s2 T2 r2
      | nx => exact PP.elim
      | bk => exact PP.elim
      | ct => exact PP.elim
  | exc C fs ρ1 =>
    rw [er] at PP
    intro dd fsV F1 H1 s1 S1 xd hk rs σ' hl'
    have PP : Po K π W (relE K) cf F σ Q (if caught c.ct c.cs C = true then match sutR c.l c.ie c.gs C fs with
        | some r => asE r ρ1
        | none => .stuck
      else .stuck) := PP
    split at PP
    · rename_i hc
      cases el : c.ct.lookup C with
      | none =>
        unfold caught at hc
        rw [el] at hc
        cases hc
      | some v =>
        have hany : (c.cs.any fun m => v.1.contains m) = true := by
          unfold caught at hc
          rw [el] at hc
          exact hc
        have ea := T.any el (ms := c.cs) fun m h => h
        rw [hany, hcs] at ea
        cases es : sutR c.l c.ie c.gs C fs with
        | none => rw [es] at PP; exact PP.elim
        | some r =>
          rw [es] at PP
          refine ⟨true, ea, fun _ ax hax => ⟨C, rfl, ⟨v, el⟩, fun _ => 0, ⟨H1, F1, [], []⟩, F1, (List.replicate c.l Slot.no).set c.ie (.val (.exc ⟨ax, dd, C⟩ fs)), rfl, (Sta.blank S1.f S1.t.tb S1.t.nt (hl'.trans hl)).set jl (.exc (x := ⟨ax, dd, C⟩) xd hk rs), ?_⟩, fun z => nomatch z⟩
          obtain ⟨ρ2, e2⟩ := sutR_ok es ⟨ax, dd, C⟩ rfl
          rw [e2]
          exact fun v2 σ2 F2 H2 s2 T2 r2 => done S1 (PP.mono s1) s2 T2 r2
    · exact PP.elim
end
end
end FL
/-! FL26: caught(lambda: e), the rule. -/
namespace FL
open PySem PySem.Spec PyProof.Rows L2
section
variable [FE]
variable {X : Cx} {π : Nat → Addr} {W : WX}
/-- the maker's code object and its table -/
structure TabK (X : Cx) (cd Pt : Addr) : Prop where
  tb : LamX.TabB X.base X.mg cd Pt
  code : X.env.code = .ref cd
  m : (Pt, lamQ X) ∈ FE.tabs
  u : ∀ p ∈ FE.tabs, p.1 = Pt → p.2 = lamQ X
theorem Sta.lam {c : Cfg} {F H H1 : Hp} {σ : L2.St} {ρ : Rho} {K : PySem.W.Frag} {Pt : Addr} (S : Sta K π c F H σ ρ) (k : ∀ b o, b ≠ Pt → H b = some o → H1 b = some o) (e0 : ∃ ps, H Pt = some (.tbl ps)) (e : ∃ ps, H1 Pt = some (.tbl ps)) (t : LamX.Tabs FE.tabs H1) : Sta K π c F H1 σ ρ := by
  obtain ⟨ps0, e0⟩ := e0
  have nt : ∀ b o, H b = some o → NT o → b ≠ Pt := fun b o h n z => by
    subst z
    rw [e0] at h
    cases h
    exact n _ rfl
  refine S.grow ⟨Same.refl _, fun b o h n => k b o (nt b o h n) h, fun b o h => k b o (nt b o (S.f _ _ h) (S.t.nt _ _ h).1) (S.f _ _ h), fun q o _ h => h, ⟨fun _ => t, fun q ps h => ?_, fun h => h⟩⟩
  by_cases z : q = Pt
  · subst z
    exact e
  · exact ⟨ps, k q _ z h⟩
theorem fe_caught {x : Str} {c : CG} {j : Nat} {cd Pt : Addr} {ar : Arguments} {body : Expr} {sc : Scope} {ef : EF} {p lp pos : Pos} (Gt : Got X.prog X.w X.K X.mg X.base (j + 1) x c) (hr : RoomG (j + 2) X.A) (hg : Gl X x) (TK : TabK X cd Pt) (L : LamX.LamS X.env.scope sc) (hdf : defaultsOf ar X.env = ([], []))
    (hbind : ∀ (q : Str) (cl : List (Str × Addr)) (pm cv ctv : Value), bindArgs (PySem.W.kla_fn "<lambda>" q ar body sc cl pm cv ctv) ⟨[], []⟩ = pure [])
    (hbody : ∀ (A : Around) (outer : List Env) (s : Shared) (H : Hp) (E : XK) (f co : Addr), RoomG j (A.deeper (LamX.lamEnv X sc s.heap.objs.size f co)) → PE (lamX X A outer s H E sc f co) body (tE X.K π (fun cls d _ H => E cls d H) ef))
    (hdb : (x == ("__debug__" : Str)) = false := by decide) : PE X (.Call (.Name x p) [.Lambda ar body sc lp] [] pos) (tE X.K π W (cauE c ef)) := by
  obtain ⟨g, fd, a, Ng, sg, cdg, hm, hkp, hb, va, h0, da, da2, run⟩ := Gt.ex
  refine ⟨fun pins s σ H Q I ⟨cf, F, ρ, S, P⟩ => ?_⟩
  refine wpAny_Call_Name_kw (ld_glob I hg hm ?_ hdb)
  refine PySem.W.callWith_K (h₀ := X.base) I.ok.mod.kin hkp ?_ (by rfl) (by rfl)
  show wpAny _ _ (spliced ((false, eval (.Lambda ar body sc lp) X.env) :: backTo pos (starEach [] X.env))) _ _ s
  refine Calls.spliced_cons (lam_mk I TK.tb TK.code TK.m TK.u S.t.tb hdf (L.has I.ok) fun f co pm ctv H1 s1 I1 k1 e1 T1 hf hfn hfr hco => ?_)
  refine Calls.spliced_nil ⟨I1.kIn, ?_⟩
  obtain ⟨ps0, hP, _⟩ := S.t.tb _ TK.m
  have S1 : Sta X.K π cf F H1 σ ρ := S.lam k1 ⟨ps0, hP⟩ (e1.imp fun _ h => h.1) T1
  have b := hb s1 [.ref f] I1.kIn rfl
  have rc := run X.A X.stack s1 H1 ⟨[.ref f], []⟩ f co (lamQ X) Q π W cf F ρ σ ef hr I1.env0 b hco S1 P fun W' pn xe E p1 p2 tk hW hr' => pe_act I1 L hf hfn hfr.1 (hbind _ _ _ _ _) tk hW hr' (fun A outer s H hr2 => hbody A outer s H E f co hr2) h0 va da da2
  refine wpAny_call (codeAny_mono rc fun r s2 hq => ?_)
  cases r with
  | error e =>
    obtain ⟨_, _, _, _, _, _, _, _, _, _, _, _, z⟩ := hq
    exact z.elim
  | ok fl =>
    cases fl with
    | ret u => exact I1.after hq
    | next => exact False.elim hq
    | brk => exact False.elim hq
    | cont => exact False.elim hq
end
end FL
/-! FL27: from what the head finds: classes, tables. -/
namespace FL
open PySem PySem.Spec PyProof.Rows L2

theorem _root_.L2H.RoomH.u64 {k : Nat} {A : Around} (r : L2H.RoomH k A) : A.units + 64 < cLine := by have := r.un; omega
theorem _root_.L2H.RoomH.u65 {k : Nat} {A : Around} (r : L2H.RoomH k A) : A.units + 65 < cLine := by have := r.un; omega
theorem rh_mono {j k : Nat} {A : Around} (r : L2H.RoomH k A) (h : Nat.ble j k = true) : L2H.RoomH j A := r.mono (Nat.le_of_ble_eq_true h)
def feOf (tabs : List (Addr × Str)) (cl : List (Str × Addr)) : FE := { tabs := tabs, cl := fun n => (cl.lookup n).getD 0 }
/-! ### tables -/
/-- the table of the code object at c -/
def tabOf (K : PySem.W.Frag) (c : Addr) : Addr := match K.lookup c with
  | some ⟨_, _, .fields vs, _⟩ => match (vs[11]? : Option Value) with
    | some (.ref P) => P
    | _ => 0
  | _ => 0
/-- no table stands in two names -/
def uniqT : List (Addr × Str) → Bool
  | [] => true
  | p :: l => (l.all fun q => !(p.1 == q.1) || p.2 == q.2) && uniqT l
theorem uniqT_ok : ∀ {l : List (Addr × Str)}, uniqT l = true → ∀ p ∈ l, ∀ q ∈ l, p.1 = q.1 → p.2 = q.2
  | [], _ => fun p hp => by cases hp
  | a :: l, h => fun p hp q hq e => by
    unfold uniqT at h
    rw [Bool.and_eq_true] at h
    have key : ∀ q ∈ l, a.1 = q.1 → a.2 = q.2 := fun q hq e => by
      have z := List.all_eq_true.mp h.1 q hq
      rw [e] at z
      simpa using z
    rcases List.mem_cons.mp hp with e1 | hp'
    · rcases List.mem_cons.mp hq with e2 | hq'
      · rw [e1, e2]
      · rw [e1]
        exact key q hq' (e1 ▸ e)
    · rcases List.mem_cons.mp hq with e2 | hq'
      · rw [e2]
        exact (key p hp' (e2 ▸ e.symm)).symm
      · exact uniqT_ok h.2 p hp' q hq' e
/-- all of a maker's code object, to be computed -/
def codB (K : PySem.W.Frag) (ts : List Addr) (c : Addr) : Bool := PySem.W.codeHdIn K c (tabOf K c) && ts.contains (tabOf K c) && (K.lookup (tabOf K c)).isNone
theorem codesT {K : PySem.W.Frag} {h : Heap} {ts cs : List Addr} (X : K.In h) (ht : ∀ P ∈ ts, h.get? P = some (PySem.W.tabObj #[])) (hb : (cs.all fun c => codB K ts c) = true) : Codes K h (cs.map fun c => (c, tabOf K c)) := by
  have key : ∀ p ∈ cs.map (fun c => (c, tabOf K c)), ∃ c ∈ cs, p = (c, tabOf K c) ∧ codB K ts c = true := fun p hp => by
    obtain ⟨c, hc, rfl⟩ := List.mem_map.mp hp
    exact ⟨c, hc, rfl, List.all_eq_true.mp hb c hc⟩
  have open_ : ∀ {c}, codB K ts c = true → PySem.W.codeHdIn K c (tabOf K c) = true ∧ tabOf K c ∈ ts ∧ K.lookup (tabOf K c) = none := fun {c} h => by
    unfold codB at h
    rw [Bool.and_eq_true, Bool.and_eq_true] at h
    exact ⟨h.1.1, by simpa using h.1.2, by simpa using h.2⟩
  refine ⟨fun p hp => ?_, fun p hp => ?_, fun p hp => ?_⟩
  · obtain ⟨c, _, rfl, h⟩ := key p hp
    exact ht _ (open_ h).2.1
  · obtain ⟨c, _, rfl, h⟩ := key p hp
    exact (open_ h).2.2
  · obtain ⟨c, _, rfl, h⟩ := key p hp
    exact PySem.W.codeHd_of_K X (open_ h).1
/-! ### classes -/
theorem lookup_mem {α : Type} {n : Str} {v : α} : ∀ {l : List (Str × α)}, l.lookup n = some v → (n, v) ∈ l
  | [], h => by cases h
  | (m, u) :: l, h => by
    by_cases e : (n == m) = true
    · rw [List.lookup_cons, e] at h
      cases h
      rw [beq_iff_eq.mp e]
      exact List.mem_cons_self
    · have e : (n == m) = false := by simpa using e
      rw [List.lookup_cons, e] at h
      exact List.mem_cons_of_mem _ (lookup_mem h)
theorem clsT_of [FE] {K : PySem.W.Frag} {ct : CT} {tests : List Str} {b : List (Str × String)} (h : (ct.all fun p => clsB K (FE.cl p.1) p.2.2 (tests.map fun m => (cval b m, p.2.1.contains m))) = true) : ClsT K ct tests b := by
  have key : ∀ n v, ct.lookup n = some v → clsB K (FE.cl n) v.2 (tests.map fun m => (cval b m, v.1.contains m)) = true := fun n v e => List.all_eq_true.mp h (n, v) (lookup_mem e)
  exact ⟨fun n v e => (clsB_ok (key n v e)).1, fun n v e m hm => (clsB_ok (key n v e)).2.2 (cval b m, v.1.contains m) (List.mem_map.mpr ⟨m, hm, rfl⟩), fun n v e => (clsB_ok (key n v e)).2.1⟩
theorem cauT_of [FE] {K : PySem.W.Frag} {ct : CT} {cs : List Str} (h : (ct.all fun p => cs.all fun m => PySem.W.exmOne K (.ref (FE.cl p.1)) (.ref (FE.cl m)) == some (p.2.1.contains m)) = true) : CauT K ct cs :=
  ⟨fun n v e m hm => beq_iff_eq.mp (List.all_eq_true.mp (List.all_eq_true.mp h (n, v) (lookup_mem e)) m hm)⟩
/-- a class that is raised, to be computed -/
def excB (K : PySem.W.Frag) (C fI : Addr) (nw : String) (tl : List Value) (fs : List Str) : Bool :=
  PySem.W.excInitIn K C tl nw && PySem.W.excOver K C tl && PySem.W.hasDictIn K C && (PySem.W.findIn K (.ref C) "__setattr__" == some (some (.builtin "object.__setattr__"))) && (PySem.W.subIn K (.ref C) (.type "BaseException") == some true) && (PySem.W.typeIn K (.ref C) == some (.type "type")) &&
  PySem.W.keepIn K (.ref C) && (PySem.W.findIn K (.ref C) "__init__" == some (some (.ref fI))) && (PySem.W.typeIn K (.ref fI) == some (.type "function")) && fs.all fun f => PySem.W.takerIn K C f == some none
theorem excB_ok {K : PySem.W.Frag} {C fI : Addr} {nw : String} {tl : List Value} {fs : List Str} (h : excB K C fI nw tl fs = true) : ExcK K C fI nw tl fs := by
  unfold excB at h
  simp only [Bool.and_eq_true, beq_iff_eq, List.all_eq_true] at h
  obtain ⟨⟨⟨⟨⟨⟨⟨⟨⟨h1, h2⟩, h3⟩, h4⟩, h5⟩, h6⟩, h7⟩, h8⟩, h9⟩, h10⟩ := h
  exact ⟨h1, h2, h3, h4, h5, h6, h7, h8, h9, h10⟩
/-! ### a def whose code object is known -/
section
variable [FE]
variable {P : Program} {w : World} {K : PySem.W.Frag} {mg : Str → Option Value} {base : Heap}
theorem fnGc {x qual : Str} {st : Stmt} {f : Addr} {N ps : List Str} {k : Nat} {g : SF} {oc : Value} {od : Option Addr} {kV doc pm : Value} {an : Option Addr} {cdv ct : Value} {osl : Array (Option Value)}
    (lk : K.lookup f = some ⟨oc, od, .func (PySem.W.fnOf x qual (defArgs st) (defBody st) (defScope st) .none kV doc pm an cdv ct), osl⟩) (hcd : PySem.W.codeIn K cdv qual = true) (Sc : FnScope N ps (defScope st))
    (hbody : ∀ (A : Around) (outer : List Env) (s : Shared) (H : Hp) (E : XK) (π : Nat → Addr) (W : WX), RoomG k (cxF P w K mg base N qual (defScope st) f cdv A outer s H E).A → L2N.Takes (cxF P w K mg base N qual (defScope st) f cdv A outer s H E) W →
      PassesOwn (model P w) (cxF P w K mg base N qual (defScope st) f cdv A outer s H E).A (cxF P w K mg base N qual (defScope st) f cdv A outer s H E).env (cxF P w K mg base N qual (defScope st) f cdv A outer s H E).xe →
      PSs (cxF P w K mg base N qual (defScope st) f cdv A outer s H E) (defBody st) (tS K π W g)) : FnG P w K mg base (k + 1) f (PySem.W.fnOf x qual (defArgs st) (defBody st) (defScope st) .none kV doc pm an cdv ct) ps (spG K ps.length (bodyG N.length g)) := by
  refine ⟨fun vs H Q E ⟨_, _, _, _, h, _⟩ => h, fun A outer s H args us vs Q E hr e0 hb r hsp => ?_⟩
  obtain ⟨F, as, sm, ra, hl, nd, hP⟩ := hsp
  have KX : K.In s.heap := e0.mod.kin.keeps fun b o e => (e0.bs b o e).1
  have lim : s.heap.NoLimit := e0.mod.nolimit.keeps fun b o e => (e0.bs b o e).1
  have hps : ps.length ≤ N.length := by
    have := congrArg List.length Sc.pre
    rw [List.length_take] at this
    omega
  refine codeAny_call_function hr.r.depth (KX _ _ lk) rfl Sc.co Sc.gen rfl (PySem.W.codeRec_of KX hcd) (hb _ _ _ _ ?_)
  refine wpAny_newFunctionEnv_cells Sc.kind (fun ⟨n, v⟩ hy => ?_) fun env he s1 x => ?_
  · rcases Sc.par n (List.of_mem_zip hy).1 with q | q
    · exact .inl q
    · exact .inr ⟨q, PySem.W.cellsFrom_some _ _ _ (.inl q)⟩
  · subst he
    refine ⟨lim.keeps x.toInCall.keep, codeAny_func ?_⟩
    have hx := hbody A outer s H E (fun i => adrV vs[i]?) (fun cls d _ H => E cls d H) (hr.deeper _) (L2N.takes_of rfl rfl rfl rfl) (passes_of rfl)
    have I : Inv (cxOf (L2N.CX P w) P w K mg base N qual (defScope st) f cdv A outer s H E) [] (L2.start N vs) H s1 := inv_start Sc hr.r.hd e0 hl r x
    have run := hx.run [] s1 (L2.start N vs) H { nx := fun _ H' => Q .non H', rt := Q } I (body_end sm ra nd (by omega) hP)
    refine wpAny_mono run (fun fl s' hs => ?_) fun e s' hs => hs
    cases fl with
    | ret u =>
      obtain ⟨v, σ', H', J, rv, q⟩ := hs
      exact ⟨v, H', J.os, J.bare, J.base, J.hok, rv, q⟩
    | next =>
      obtain ⟨σ', H', J, q⟩ := hs
      exact ⟨V.non, H', J.os, J.bare, J.base, J.hok, rfl, q⟩
    | brk =>
      obtain ⟨_, _, _, q⟩ := hs
      exact q.elim
    | cont =>
      obtain ⟨_, _, _, q⟩ := hs
      exact q.elim
end
end FL
/-! FL28: dict comprehensions; sorted(d) of a dict with keys that are ints. -/
namespace FL
open PySem PySem.Spec PyProof.Rows L2

/-- as a key -/
def keyD : D → Option Key
  | .int i => some (.inl i)
  | .str x => some (.inr x)
  | _ => none
def putD (kvs : List (Key × D)) (k : Key) (v : D) : List (Key × D) :=
  if (kvs.any fun kv => decide (kv.1 = k)) = true then kvs.map (fun kv => if kv.1 = k then (kv.1, v) else kv) else kvs ++ [(k, v)]
def getD' (kvs : List (Key × D)) (k : Key) : Option D := (kvs.find? fun kv => decide (kv.1 = k)).map (·.2)
theorem keyD_rep {K : PySem.W.Frag} {F : Hp} {v : V} {d : D} {k : Key} (r : Rep K F v d) (h : keyD d = some k) : v = kV k := by
  cases r <;> first | (cases h; done) | (cases h; rfl)
/-- a dict's entries as data -/
def KvR (K : PySem.W.Frag) (F : Hp) (vs : List (Key × V)) (ds : List (Key × D)) : Prop := vs.map (·.1) = ds.map (·.1) ∧ Reps K F (vs.map (·.2)) (ds.map (·.2))
section
variable {K : PySem.W.Frag} {F F' : Hp}
theorem KvR.nil : KvR K F [] [] := ⟨rfl, .nil⟩
theorem KvR.mono {vs : List (Key × V)} {ds : List (Key × D)} (h : KvR K F vs ds) (s : Same F F') : KvR K F' vs ds := ⟨h.1, h.2.mono s⟩
theorem KvR.ind {vs : List (Key × V)} {ds : List (Key × D)} (h : KvR K F vs ds) : Paired (fun a b => a.1 = b.1 ∧ Rep K F a.2 b.2) vs ds := by
  induction vs generalizing ds with
  | nil =>
    cases ds with
    | nil => exact .nil
    | cons d ds => obtain ⟨h1, _⟩ := h; simp at h1
  | cons v vs ih =>
    cases ds with
    | nil => obtain ⟨h1, _⟩ := h; simp at h1
    | cons d ds =>
      obtain ⟨h1, h2⟩ := h
      rw [List.map_cons, List.map_cons] at h1
      injection h1 with h1 h3
      cases h2 with
      | cons r rs => exact .cons ⟨h1, r⟩ (ih ⟨h3, rs⟩)
theorem KvR.of {vs : List (Key × V)} {ds : List (Key × D)} (h : Paired (fun a b => a.1 = b.1 ∧ Rep K F a.2 b.2) vs ds) : KvR K F vs ds := by
  induction h with
  | nil => exact ⟨rfl, .nil⟩
  | cons h _ ih => exact ⟨by rw [List.map_cons, List.map_cons, h.1, ih.1], .cons h.2 ih.2⟩
theorem KvR.any {vs : List (Key × V)} {ds : List (Key × D)} (h : KvR K F vs ds) (k : Key) : (vs.any fun kv => decide (kv.1 = k)) = ds.any fun kv => decide (kv.1 = k) := by
  have p := h.ind
  clear h
  induction p with
  | nil => rfl
  | cons h _ ih => rw [List.any_cons, List.any_cons, ih, h.1]
theorem paired_upd {vs : List (Key × V)} {ds : List (Key × D)} (p : Paired (fun a b => a.1 = b.1 ∧ Rep K F a.2 b.2) vs ds) (k : Key) {v : V} {d : D} (r : Rep K F v d) :
    Paired (fun a b => a.1 = b.1 ∧ Rep K F a.2 b.2) (vs.map fun kv => if kv.1 = k then (kv.1, v) else kv) (ds.map fun kv => if kv.1 = k then (kv.1, d) else kv) := by
  induction p with
  | nil => exact .nil
  | @cons a b as bs h _ ih =>
    rw [List.map_cons, List.map_cons]
    refine .cons ?_ ih
    by_cases c : a.1 = k
    · rw [if_pos c, if_pos (h.1.symm.trans c)]
      exact ⟨h.1, r⟩
    · rw [if_neg c, if_neg (fun z => c (h.1.trans z))]
      exact h
theorem KvR.put {vs : List (Key × V)} {ds : List (Key × D)} (h : KvR K F vs ds) (k : Key) {v : V} {d : D} (r : Rep K F v d) : KvR K F (putK vs k v) (putD ds k d) := by
  unfold putK putD
  rw [h.any k]
  split
  · exact .of (paired_upd h.ind k r)
  · refine ⟨?_, ?_⟩
    · rw [List.map_append, List.map_append, h.1]
      rfl
    · rw [List.map_append, List.map_append]
      exact h.2.append (.cons r .nil)
end
section
variable [FE]
variable {X : Cx} {π : Nat → Addr} {W : WX}
end
end FL
/-! FL29: name = {k: v for ..} on one line; sorted(d) of a dict whose keys are whole numbers. -/
namespace L2
open PySem PySem.Spec PyProof.Rows
section
variable {X : Cx}
end
end L2
namespace FL
open PySem PySem.Spec PyProof.Rows L2
section
variable [FE]
variable {X : Cx} {π : Nat → Addr} {W : WX}
end
end FL
/-! FL30: min, max, sum of a list of whole numbers. -/
namespace FL
open PySem PySem.Spec PyProof.Rows L2
def leastI : List Int → Int
  | [] => 0
  | [x] => x
  | x :: y :: xs => let m := leastI (y :: xs); if x < m then x else m
theorem leastI_spec : ∀ {xs : List Int}, xs ≠ [] → leastI xs ∈ xs ∧ ∀ y ∈ xs, leastI xs ≤ y
  | [], h => absurd rfl h
  | [x], _ => ⟨List.mem_singleton.mpr rfl, fun y hy => by rw [List.mem_singleton.mp hy]; exact Int.le_refl _⟩
  | x :: y :: xs, _ => by
    obtain ⟨h1, h2⟩ := leastI_spec (xs := y :: xs) (by simp)
    show (if x < leastI (y :: xs) then x else leastI (y :: xs)) ∈ x :: y :: xs ∧ ∀ z ∈ x :: y :: xs, (if x < leastI (y :: xs) then x else leastI (y :: xs)) ≤ z
    split
    · rename_i c
      refine ⟨List.mem_cons_self, fun z hz => ?_⟩
      rcases List.mem_cons.mp hz with rfl | hz
      · exact Int.le_refl _
      · have := h2 z hz; omega
    · rename_i c
      refine ⟨List.mem_cons_of_mem _ h1, fun z hz => ?_⟩
      rcases List.mem_cons.mp hz with rfl | hz
      · omega
      · exact h2 z hz
theorem leastI_eq {xs : List Int} {m : Int} (h1 : m ∈ xs) (h2 : ∀ y ∈ xs, m ≤ y) : leastI xs = m := by
  have hne : xs ≠ [] := fun z => by rw [z] at h1; cases h1
  obtain ⟨a, b⟩ := leastI_spec hne
  have := b m h1
  have := h2 _ a
  omega
def seqIs : D → Option (List Int)
  | .lst xs => asInts xs
  | .scr ns => some ns
  | _ => none
def minLC : List D → Option D
  | [d] => (seqIs d).bind fun ns => if ns.isEmpty = true then none else some (.int (leastI ns))
  | _ => none
section
variable [FE]
variable {K : PySem.W.Frag}
theorem seqIs_rep {F H : Hp} {d : D} {ns : List Int} (s : Same F H) (h : seqIs d = some ns) {v : V} (r : Rep K F v d) : ∃ a, v = .ref a ∧ SqL K H a (ns.map V.int) := by
  unfold seqIs at h
  split at h
  · next xs =>
    cases asInts_eq h
    cases r with
    | lst h1 r1 =>
      cases Reps.of_ints r1
      exact ⟨_, rfl, SqL.of (s _ _ h1)⟩
  · cases h
    cases r with
    | scr h1 => exact ⟨_, rfl, Same.seq s h1⟩
  · cases h
theorem q_minL : OpC K minLC (rMin K) := by
  intro F H vs ds d Q s r e k
  unfold minLC at e
  split at e
  · next d0 =>
    cases h : seqIs d0 with
    | none => rw [h] at e; cases e
    | some ns =>
      rw [h, Option.bind_some] at e
      split at e
      · cases e
      · rename_i c
        cases e
        obtain ⟨v, rfl, r1⟩ := Reps.one r
        obtain ⟨a, rfl, hs⟩ := seqIs_rep s h r1
        refine ⟨a, ns, rfl, hs, by cases ns with
          | nil => exact absurd rfl c
          | cons _ _ => simp, fun m h1 h2 => ?_⟩
        cases leastI_eq h1 h2
        exact k _ F H (Grw.refl s) (.int _)
  · cases e
end
end FL
/-! FL31: how readings with exceptions are worked out. -/
namespace FL
open PySem PySem.Spec PyProof.Rows L2
theorem R.bd_exc {α β : Type} (k : α → Rho → R β) (h : Hold k) (C : Str) (fs : List (Str × D)) (ρ : Rho) : R.bd k h (.exc C fs ρ) = .exc C fs ρ := rfl
theorem goG_exc {α : Type} (C : Str) (fs : List (Str × D)) (outs : List M) (as : List AA) (k : Res → Rho → R α) (ρ : Rho) : goG (.exc C fs outs) as k ρ = .exc C fs (putA as outs ρ) := rfl
theorem endR_exc (as : List FL.Arg) (C : Str) (fs : List (Str × D)) (ρ : Rho) : endR as (.exc C fs ρ) = endG as (.exc C fs) ρ := rfl
theorem cau_exc {c : CG} {C : Str} {fs : List (Str × D)} {ρ : Rho} {r : Res} (h1 : caught c.ct c.cs C = true) (h2 : ∀ (a : Addr) (d : Option Addr), ∃ ρ', c.gs ⟨a, d, C⟩ ((List.replicate c.l Slot.no).set c.ie (.val (.exc ⟨a, d, C⟩ fs))) = .ok (.rt r) ρ') : c.cau (.exc C fs ρ) = asE r ρ := by
  unfold CG.cau
  dsimp only
  rw [if_pos h1, sutR_eq fun x hx => by
    obtain ⟨a, d, C'⟩ := x
    cases hx
    exact h2 a d]
theorem bodyH_ok {l : Nat} {g : EId → SF} {x : EId} {as : List Arg} {fl : Fl} {ρ : Rho} (h : g x (rho0 l as) = .ok fl ρ) : bodyH l g x as = endR as (.ok fl ρ) := by
  unfold bodyH
  rw [bodyG_eq]
  unfold nxc
  rw [h]
/-- of the kind? -/
def isb (ct : CT) (C m : Str) : Bool := match ct.lookup C with
  | some p => p.1.contains m
  | none => false
def isxK (x0 : EId) (ct : CT) (m : Str) (v : D) (ρ : Rho) : R D := match v with
  | .exc x _ => if x = x0 then R.of ((ct.lookup x.C).map fun p => .bl (p.1.contains m)) ρ else .stuck
  | _ => .stuck
theorem isx_eq (x0 : EId) (ct : CT) (m : Str) (f : EF) (ρ : Rho) : isx x0 ct m f ρ = (f ρ).bind (isxK x0 ct m) := rfl
theorem isxK_own {a : Addr} {d : Option Addr} {C : Str} {ct : CT} {m : Str} {fs : List (Str × D)} {ρ : Rho} (h : (ct.lookup C).isSome = true) : isxK ⟨a, d, C⟩ ct m (.exc ⟨a, d, C⟩ fs) ρ = .ok (.bl (isb ct C m)) ρ := by
  unfold isxK isb
  dsimp only
  rw [if_pos rfl]
  cases e : ct.lookup C with
  | none => rw [e] at h; cases h
  | some p => rfl
def efldK (x0 : EId) (ct : CT) (n : Str) (v : D) (ρ : Rho) : R D := match v with
  | .exc x fs => if x = x0 ∧ (ct.lookup x.C).any (fun p => p.2.contains n) = true then R.of (fs.lookup n) ρ else .stuck
  | _ => .stuck
theorem efld_eq (x0 : EId) (ct : CT) (n : Str) (f : EF) (ρ : Rho) : efld x0 ct n f ρ = (f ρ).bind (efldK x0 ct n) := rfl
theorem efldK_own {a : Addr} {d : Option Addr} {C : Str} {ct : CT} {n : Str} {e : D} {ρ : Rho} (h : (ct.lookup C).any (fun p => p.2.contains n) = true) : efldK ⟨a, d, C⟩ ct n (.exc ⟨a, d, C⟩ [(n, e)]) ρ = .ok e ρ := by
  unfold efldK
  dsimp only
  rw [if_pos ⟨rfl, h⟩]
  show R.of (match n == n with | true => some e | false => List.lookup n []) ρ = _
  rw [show (n == n) = true from by simp]
  rfl
/-- a comprehension whose turns change no more than its own names -/
theorem cmpM_p {ks : List Nat} {it : IF} {g : GF} {t : TF} {f : EF} {ρ : Rho} {ds : List D} (tb : D → Bool) (fx : D → D) (h1 : it ρ = .ok ds ρ) (hw : wipeR ks ρ = ρ) (hr : resR ks ρ ρ = some ρ) (hl : ds.length ≤ 100000)
    (st : ∀ d ∈ ds, ∃ ρ1, g d ρ = some ρ1 ∧ t ρ1 = .ok (tb d) ρ1 ∧ wipeR ks ρ1 = ρ ∧ (tb d = true → f ρ1 = .ok (fx d) ρ1)) : cmpM ks it g t f ρ = .ok (.lst ((ds.filter tb).map fx)) ρ := by
  obtain ⟨ρ', e, rfl⟩ := cmpL_pure (ks := ks) (g := g) (t := t) (f := f) (fun r => r = ρ) tb fx ds [] ρ (by simpa using hl) rfl (by
    rintro d hd ρ0 rfl
    obtain ⟨ρ1, e1, e2, e3, e4⟩ := st d hd
    exact ⟨ρ1, ρ1, e1, e2, fun _ => e3, fun h => ⟨ρ1, e4 h, e3⟩⟩)
  show (it ρ').bind _ = _
  rw [h1]
  show (cmpL ks g t f [] ds (wipeR ks ρ')).bind _ = _
  rw [hw, e]
  show bindO (resR ks ρ' ρ') _ = _
  rw [hr]
  rfl
theorem ix0_cons (x : D) (xs : List D) : ixD (.lst (x :: xs)) (.int 0) = some x := by
  show atI (x :: xs) 0 = _
  rw [atI_nat (by decide) (show (x :: xs)[(0 : Int).toNat]? = some x from rfl)]
end FL
/-! FL32: slices, dict comprehensions worked out. -/
namespace FL
open PySem PySem.Spec PyProof.Rows L2
end FL
/-! FL33: a comprehension without a test, turn by turn. -/
namespace FL
open PySem PySem.Spec PyProof.Rows L2
theorem cauE_eq (c : CG) (f : EF) (ρ : Rho) : cauE c f ρ = c.cau (f ρ) := rfl
end FL
/-! FL34: repr of a list that may hold empty dicts. -/
namespace FL
open PySem PySem.Spec PyProof.Rows L2
mutual
def toQ : D → PyData
  | .non => .none
  | .bl b => .bool b
  | .int i => .int i
  | .str x => .str x
  | .tup xs => .tuple (toQs xs)
  | .lst xs => .list (toQs xs)
  | .scr _ => .none
  | .fn _ => .none
  | .dct _ => .dict []
  | .exc _ _ => .none
  | .clo _ _ => .none
  | .dcf _ => .none
  | .dcu _ => .none
  | .ins _ _ => .none
  | .err _ _ _ => .none
  | .dl1 _ _ _ => .none
def toQs : List D → List PyData
  | [] => []
  | x :: xs => toQ x :: toQs xs
end
/-- plain data, at most n deep, with empty dicts -/
def shq : Nat → D → Bool
  | _, .non => true
  | _, .bl _ => true
  | _, .int _ => true
  | _, .str _ => true
  | n + 1, .tup xs => xs.all (shq n)
  | n + 1, .lst xs => xs.all (shq n)
  | n + 1, .dct [] => true
  | _, _ => false
def RQ (P : Program) (w : World) (h : Heap) (u : Value) (d : PyData) : Prop := ∃ as bs, Reads h u d as ∧ ReadAtMost h d.depth bs ∧ ReprK P w bs h d.depth u d.shown
def RQs (P : Program) (w : World) (h : Heap) (us : List Value) (ds : List PyData) : Prop := ∃ as bs, ReadsAll h us ds as ∧ ReadAtMost h (PyData.depthAll ds) bs ∧ ReprAllK P w bs h (PyData.depthAll ds) us (PyData.shownAll ds)
section
variable {X : Cx} {pins : List (Addr × Obj)} {σ : L2.St} {H F : Hp} {s : Shared}
theorem rqs_of {n : Nat} (ih : ∀ (v : V) (u : Value) (d : D), shq n d = true → Rep X.K F v d → RelV v u → (toQ d).showable = true → (toQ d).shown.length ≤ sizeLine → RQ X.prog X.w s.heap u (toQ d)) :
    ∀ {ds : List D} {vs : List V} {us : List Value}, ds.all (shq n) = true → Reps X.K F vs ds → Vals vs us → PyData.showableAll (toQs ds) = true → (∀ t ∈ PyData.shownAll (toQs ds), t.length ≤ sizeLine) → RQs X.prog X.w s.heap us (toQs ds)
  | [], _, _, _, .nil, .nil, _, _ => ⟨[], [], by rw [toQs]; exact .nil, (fun _ h => nomatch h), by rw [toQs]; simp only [PyData.shownAll]; exact .nil⟩
  | d :: ds, _, _, hs, .cons r rs, .cons v vs, hw, hz => by
    rw [List.all_cons, Bool.and_eq_true] at hs
    rw [toQs] at hw hz ⊢
    have hw' : (toQ d).showable = true ∧ PyData.showableAll (toQs ds) = true := by simpa [PyData.showableAll] using hw
    obtain ⟨a1, b1, r1, m1, k1⟩ := ih _ _ d hs.1 r v hw'.1 (hz _ (by simp only [PyData.shownAll]; exact List.mem_cons_self ..))
    obtain ⟨a2, b2, r2, m2, k2⟩ := rqs_of ih hs.2 rs vs hw'.2 fun t ht => hz t (by simp only [PyData.shownAll]; exact List.mem_cons_of_mem _ ht)
    refine ⟨a1 ++ a2, b1 ++ b2, .cons r1 r2, ?_, ?_⟩
    · simp only [PyData.depthAll]
      exact (m1.mono (Nat.le_max_left _ _)).append (m2.mono (Nat.le_max_right _ _))
    · simp only [PyData.depthAll, PyData.shownAll]
      exact .cons ((k1.more fun b hb => List.mem_append_left _ hb).level_le (Nat.le_max_left _ _)) (k2.more_le (fun b hb => List.mem_append_right _ hb) (Nat.le_max_right _ _))
/-- a list's items -/
theorem items_of (I : Inv X pins σ H s) (sm : Same F H) {a : Addr} {xs : List V} (h : F a = some (.lst xs)) : ∃ o n its, s.heap.get? a = some o ∧ o.cls = .type "list" ∧ o.data = .seq its n ∧ Vals xs its.toList := by
  obtain ⟨its, rv, ⟨o, n, ho, hc, _, hd⟩, _⟩ := I.list (SqL.of (K := X.K) (sm _ _ h))
  exact ⟨o, n, its.toArray, ho, hc, hd, by simpa using rv⟩
theorem rq_of (I : Inv X pins σ H s) (sm : Same F H) : ∀ (n : Nat) (v : V) (u : Value) (d : D), shq n d = true → Rep X.K F v d → RelV v u → (toQ d).showable = true → (toQ d).shown.length ≤ sizeLine → RQ X.prog X.w s.heap u (toQ d)
  | n, _, _, .non, _, .non, r, _, _ => by
    cases r
    rw [toQ]
    exact ⟨_, [], Reads.none, (fun _ h => nomatch h), by simp only [PyData.shown]; exact .of_is ReprIs.none _ _ _⟩
  | n, _, _, .bl b, _, .bl _, r, _, _ => by
    cases r
    rw [toQ]
    exact ⟨_, [], Reads.bool b, (fun _ h => nomatch h), by simp only [PyData.shown]; exact .of_is (ReprIs.bool b) _ _ _⟩
  | n, _, _, .int i, _, .int _, r, hs, _ => by
    obtain ⟨t, rfl⟩ := r
    rw [toQ] at hs ⊢
    exact ⟨_, [], Reads.int i t, (fun _ h => nomatch h), by simp only [PyData.shown]; exact .of_is (ReprIs.int t (by simpa [PyData.showable] using hs)) _ _ _⟩
  | n, _, _, .str x, _, .str _, r, _, hz => by
    obtain ⟨t, rfl⟩ := r
    rw [toQ] at hz ⊢
    exact ⟨_, [], Reads.str x t, (fun _ h => nomatch h), by simp only [PyData.shown]; exact .of_is (ReprIs.str x t (by simpa only [PyData.shown] using hz)) _ _ _⟩
  | n + 1, _, _, .lst xs, hq, .lst ha r, rv, hs, hz => by
    cases rv
    rw [toQ] at hs hz ⊢
    obtain ⟨o, k, its, ho, hc, hd, vs⟩ := items_of I sm ha
    have hz' : (listText (PyData.shownAll (toQs xs))).length ≤ sizeLine := by simpa only [PyData.shown] using hz
    obtain ⟨as, bs, h4, hb, hk⟩ := rqs_of (rq_of I sm n) (by simpa [shq] using hq) r vs (by simpa [PyData.showable] using hs) (fun t ht => Nat.le_trans (listText_mem_le ht) hz')
    have rr : Reads s.heap (.ref _) (.list (toQs xs)) _ := .list ho hc hd h4
    have hna := not_mem_of_deeper rr (by simp only [PyData.depth]; omega) hb
    refine ⟨_, _ :: bs, rr, ReadAtMost.cons rr (by simp only [PyData.depth]; omega) hb, ?_⟩
    simp only [PyData.depth, PyData.shown]
    obtain ⟨l⟩ := its
    cases l with
    | nil =>
      cases vs
      cases r
      simp only [toQs, PyData.shownAll, listText_nil]
      exact ReprK.listEmpty ho hc hd
    | cons x l => exact ReprK.list ho hc hd hna (by simpa using hk.length_eq) (fun i y e => hk.item i y (by simpa using e))
  | n + 1, _, _, .tup xs, hq, .tup ha r, rv, hs, hz => by
    cases rv
    rw [toQ] at hs hz ⊢
    obtain ⟨its, vs, ⟨o, ho, hc, k, hd⟩, _⟩ := I.tuple (sm_tup sm ha)
    have hz' : (tupleText (PyData.shownAll (toQs xs))).length ≤ sizeLine := by simpa only [PyData.shown] using hz
    obtain ⟨as, bs, h4, hb, hk⟩ := rqs_of (rq_of I sm n) (by simpa [shq] using hq) r vs (by simpa [PyData.showable] using hs) (fun t ht => Nat.le_trans (tupleText_mem_le ht) hz')
    have rr : Reads s.heap (.ref _) (.tuple (toQs xs)) _ := .tuple ho hc hd h4
    have hna := not_mem_of_deeper rr (by simp only [PyData.depth]; omega) hb
    refine ⟨_, _ :: bs, rr, ReadAtMost.cons rr (by simp only [PyData.depth]; omega) hb, ?_⟩
    simp only [PyData.depth, PyData.shown]
    exact ReprK.tuple ho hc hd hna hk
  | n + 1, _, _, .dct [], _, .dct (kvs := kvs) ha r1 r2, rv, hs, hz => by
    cases rv
    have ek : kvs = [] := List.map_eq_nil_iff.mp r1
    subst ek
    rw [toQ] at hs hz ⊢
    obtain ⟨_, hsys, vs, rel, o, es, ep, ho, hex, hd, _, hp, _⟩ := dk_rd I.hok (.inl (sm _ _ ha))
    have hvs : vs = [] := by cases rel; rfl
    subst hvs
    have hes : es.toList = [] := by cases hl : es.toList with
      | nil => rfl
      | cons _ _ => rw [hl] at hp; cases hp
    have h4 : ReadsAll s.heap (es.toList.map (·.key)) (([] : List (PyData × PyData)).map (·.1)) [] := by rw [hes]; exact .nil
    have h5 : ReadsAll s.heap (es.toList.map (·.val)) (([] : List (PyData × PyData)).map (·.2)) [] := by rw [hes]; exact .nil
    have rr : Reads s.heap (.ref _) (.dict []) _ := .dict ho hex.1 hd h4 h5
    refine ⟨_, [_], rr, ReadAtMost.cons rr (n := 0) (by simp only [PyData.depth]; omega) (fun _ h => nomatch h), ?_⟩
    simp only [PyData.depth, PyData.shown, PyData.shownKv_eq]
    exact ReprK.dict ho hex.1 hd hsys (fun z => nomatch z) (ReprEntriesK.of_two es.toList _ _ (by rw [hes]; simp only [List.map_nil, PyData.shownAll]; exact .nil) (by rw [hes]; simp only [List.map_nil, PyData.shownAll]; exact .nil))
  | n, _, _, .scr _, h, _, _, _, _ => by cases n <;> simp [shq] at h
  | n, _, _, .fn _, h, _, _, _, _ => by cases n <;> simp [shq] at h
  | n, _, _, .exc _ _, h, _, _, _, _ => by cases n <;> simp [shq] at h
  | n, _, _, .clo _ _, h, _, _, _, _ => by cases n <;> simp [shq] at h
  | n, _, _, .dcf _, h, _, _, _, _ => by cases n <;> simp [shq] at h
  | n, _, _, .dcu _, h, _, _, _, _ => by cases n <;> simp [shq] at h
  | n, _, _, .ins _ _, h, _, _, _, _ => by cases n <;> simp [shq] at h
  | n, _, _, .err _ _ _, h, _, _, _, _ => by cases n <;> simp [shq] at h
  | n, _, _, .dl1 _ _ _, h, _, _, _, _ => by cases n <;> simp [shq] at h
  | n, _, _, .dct (_ :: _), h, _, _, _, _ => by cases n <;> simp [shq] at h
  | 0, _, _, .dct [], h, _, _, _, _ => by simp [shq] at h
  | 0, _, _, .lst _, h, _, _, _, _ => by simp [shq] at h
  | 0, _, _, .tup _, h, _, _, _, _ => by simp [shq] at h
/-- what may be shown -/
def showQ (d : D) : Bool := match d with
  | .lst (_ :: _) => shq 8 d && (toQ d).showable && small (toQ d).shown.length && decide ((toQ d).depth ≤ 8)
  | _ => false
/-- repr of a list that is not empty -/
def reprQC : List D → Option D
  | [d] => if showQ d = true then some (.str (toQ d).shown) else none
  | _ => none
def rReprQ (K : PySem.W.Frag) : List V → Hp → VK → Prop := fun xs H Q => ∃ x d F, xs = [x] ∧ Same F H ∧ Rep K F x d ∧ showQ d = true ∧ Q (.str (toQ d).shown) H
theorem q_reprQ {K : PySem.W.Frag} [FE] : OpC K reprQC (rReprQ K) := by
  intro F H vs ds d Q s r e k
  unfold reprQC at e
  split at e
  · rename_i d0
    split at e
    · rename_i hz
      cases e
      obtain ⟨v, rfl, r1⟩ := Reps.one r
      exact ⟨v, d0, F, rfl, s, r1, hz, k _ F H (Grw.refl s) (.str _)⟩
    · cases e
  · cases e
theorem o_reprQ {X : Cx} [FE] (hg : X.A.guards = some []) (hu : X.A.units + 64 < cLine) : CallR X (.builtin "repr") (rReprQ X.K) := by
  intro pins s σ H xs us Q I r h
  obtain ⟨x, d, F, rfl, sm, rp, hz, q⟩ := h
  cases r with
  | cons r1 rt =>
    cases rt
    cases d with
    | lst xs =>
      cases xs with
      | nil => cases hz
      | cons y ys =>
        have hz : (shq 8 (.lst (y :: ys)) && (toQ (.lst (y :: ys))).showable && small (toQ (.lst (y :: ys))).shown.length && decide ((toQ (.lst (y :: ys))).depth ≤ 8)) = true := hz
        simp only [Bool.and_eq_true, decide_eq_true_eq] at hz
        obtain ⟨⟨⟨z1, z2⟩, z3⟩, z4⟩ := hz
        have z3 : (toQ (.lst (y :: ys))).shown.length ≤ sizeLine := le_line (of_decide_eq_true z3)
        cases rp with
        | lst ha rs =>
          cases r1
          rw [toQ] at z2 z3 z4 q
          obtain ⟨o, k, its, ho, hc, hd, vs⟩ := items_of I sm ha
          have hz' : (listText (PyData.shownAll (toQs (y :: ys)))).length ≤ sizeLine := by simpa only [PyData.shown] using z3
          obtain ⟨as, bs, h4, hb, hk⟩ := rqs_of (rq_of I sm 7) (by simpa [shq] using z1) rs vs (by simpa [PyData.showable] using z2) (fun t ht => Nat.le_trans (listText_mem_le ht) hz')
          have rr : Reads s.heap (.ref _) (.list (toQs (y :: ys))) _ := .list ho hc hd h4
          have hna := not_mem_of_deeper rr (by simp only [PyData.depth]; omega) hb
          simp only [PyData.depth] at z4
          simp only [PyData.shown] at q
          obtain ⟨l⟩ := its
          cases l with
          | nil => cases vs; cases rs
          | cons u us =>
            exact call_repr_slot (by omega) ⟨o, ho, hc⟩ PySem.F.slot_list_repr.toG (call_list_reprK ho hc hd hna (by simpa using hk.length_eq) (fun i y e => hk.item i y (by simpa using e)) hg (fun b _ => Clear.nil b) (by show X.A.units + 1 + _ < cLine; omega) (fun _ _ e => e) (fun h' t tk hk' => ⟨_, _, rfl, ⟨.str _, H, I.kept (t' := tk) hk', ⟨t, rfl⟩, q⟩⟩) hz')
    | _ => cases hz
end
end FL
/-! FL35: what is shown is not too long; equal data. -/
namespace FL
open PySem PySem.Spec PyProof.Rows L2
theorem neA_self {d : D} (h : shp 8 d = true) : neA d d = some (.bl false) := by
  unfold neA
  cases e : twoS d d with
  | some b =>
    unfold twoS at e
    split at e
    · cases e
      simp_all
    · cases e
  | none =>
    have hd : difL d d = false := by
      cases d <;> first | rfl | exact bne_self_eq_false _
    dsimp only
    rw [hd, if_neg Bool.false_ne_true]
    unfold neD
    rw [if_pos ⟨h, h⟩]
    unfold eqd
    rw [PySem.SeqAt.eqv_refl _ (shp_ok 8 d h).1]
    rfl
theorem eqA_self {d : D} (h : shp 8 d = true) : eqA d d = some (.bl true) := by
  unfold eqA
  cases e : twoS d d with
  | some b =>
    unfold twoS at e
    split at e
    · cases e
      simp_all
    · cases e
  | none =>
    have hd : difL d d = false := by
      cases d <;> first | rfl | exact bne_self_eq_false _
    dsimp only
    rw [hd, if_neg Bool.false_ne_true]
    unfold eqD
    rw [if_pos ⟨h, h⟩]
    unfold eqd
    rw [PySem.SeqAt.eqv_refl _ (shp_ok 8 d h).1]
/-- how long it is at most, whole numbers below 10 ** 60 -/
def costQ : Nat → D → Nat
  | _, .non => 4
  | _, .bl _ => 5
  | _, .int _ => 62
  | _, .str x => (reprText x).length
  | n + 1, .tup xs => 3 + (xs.map fun x => costQ n x + 2).sum
  | n + 1, .lst xs => 3 + (xs.map fun x => costQ n x + 2).sum
  | _, _ => 4
def litQ : Nat → D → Bool
  | _, .int i => decide (i.natAbs < 10 ^ 60)
  | n + 1, .tup xs => xs.all (litQ n)
  | n + 1, .lst xs => xs.all (litQ n)
  | _, _ => true
theorem cost_all {n : Nat} (ih : ∀ d : D, shq n d = true → litQ n d = true → (toQ d).showable = true ∧ (toQ d).shown.length ≤ costQ n d ∧ (toQ d).depth ≤ n) : ∀ xs : List D, xs.all (shq n) = true → xs.all (litQ n) = true →
    PyData.showableAll (toQs xs) = true ∧ ((PyData.shownAll (toQs xs)).map (·.length)).sum + 2 * (PyData.shownAll (toQs xs)).length ≤ (xs.map fun x => costQ n x + 2).sum ∧ PyData.depthAll (toQs xs) ≤ n
  | [], _, _ => ⟨rfl, by rw [toQs]; simp [PyData.shownAll], by rw [toQs]; simp [PyData.depthAll]⟩
  | x :: xs, h1, h2 => by
    rw [List.all_cons, Bool.and_eq_true] at h1 h2
    obtain ⟨a1, a2, a3⟩ := ih x h1.1 h2.1
    obtain ⟨b1, b2, b3⟩ := cost_all ih xs h1.2 h2.2
    rw [toQs]
    refine ⟨by simp only [PyData.showableAll, a1, b1, Bool.and_self], ?_, by simp only [PyData.depthAll]; omega⟩
    simp only [PyData.shownAll, List.map_cons, List.sum_cons, List.length_cons]
    omega
theorem cost_ok : ∀ (n : Nat) (d : D), shq n d = true → litQ n d = true → (toQ d).showable = true ∧ (toQ d).shown.length ≤ costQ n d ∧ (toQ d).depth ≤ n
  | n, .non, _, _ => ⟨by rw [toQ]; rfl, by rw [toQ]; rw [show costQ n .non = 4 by cases n <;> rfl]; exact (by decide +kernel : PyData.none.shown.length ≤ 4), by rw [toQ]; simp [PyData.depth]⟩
  | n, .bl b, _, _ => ⟨by rw [toQ]; rfl, by rw [toQ]; rw [show costQ n (.bl b) = 5 by cases n <;> rfl]; cases b <;> first | exact (by decide +kernel : (PyData.bool false).shown.length ≤ 5) | exact (by decide +kernel : (PyData.bool true).shown.length ≤ 5), by rw [toQ]; simp [PyData.depth]⟩
  | n, .int i, _, h => by
    have hi : i.natAbs < 10 ^ 60 := by cases n <;> exact of_decide_eq_true h
    rw [toQ]
    refine ⟨?_, ?_, by simp [PyData.depth]⟩
    · show decide _ = true
      refine decide_eq_true ?_
      by_cases z : i.natAbs = 0
      · rw [z]; decide
      · exact (Nat.log2_lt z).mpr (Nat.lt_trans hi (by decide +kernel))
    · have e := int_text_length_le10 (k := 60) (by decide) hi
      have : costQ n (.int i) = 62 := by cases n <;> rfl
      rw [this]
      show (Str.ofString (toString i)).length ≤ 62
      rw [PySem.ofString_length]
      omega
  | n, .str x, _, _ => ⟨by rw [toQ]; rfl, by rw [toQ]; cases n <;> exact Nat.le_refl _, by rw [toQ]; simp [PyData.depth]⟩
  | n + 1, .tup xs, h1, h2 => by
    obtain ⟨a1, a2, a3⟩ := cost_all (cost_ok n) xs (by simpa [shq] using h1) (by simpa [litQ] using h2)
    rw [toQ]
    refine ⟨by simpa [PyData.showable] using a1, ?_, by simp only [PyData.depth]; omega⟩
    have z := tupleText_len_le (PyData.shownAll (toQs xs))
    show (tupleText (PyData.shownAll (toQs xs))).length ≤ 3 + _
    omega
  | n + 1, .lst xs, h1, h2 => by
    obtain ⟨a1, a2, a3⟩ := cost_all (cost_ok n) xs (by simpa [shq] using h1) (by simpa [litQ] using h2)
    rw [toQ]
    refine ⟨by simpa [PyData.showable] using a1, ?_, by simp only [PyData.depth]; omega⟩
    have z := listText_len_le (PyData.shownAll (toQs xs))
    show (listText (PyData.shownAll (toQs xs))).length ≤ 3 + _
    omega
  | n + 1, .dct [], _, _ => ⟨by rw [toQ]; rfl, by rw [toQ]; rw [show costQ (n + 1) (.dct []) = 4 from rfl]; exact (by decide +kernel : (PyData.dict []).shown.length ≤ 4), by rw [toQ]; simp [PyData.depth, PyData.depthKv]⟩
  | n, .scr _, h, _ => by cases n <;> simp [shq] at h
  | n, .fn _, h, _ => by cases n <;> simp [shq] at h
  | n, .exc _ _, h, _ => by cases n <;> simp [shq] at h
  | n, .clo _ _, h, _ => by cases n <;> simp [shq] at h
  | n, .dcf _, h, _ => by cases n <;> simp [shq] at h
  | n, .dcu _, h, _ => by cases n <;> simp [shq] at h
  | n, .ins _ _, h, _ => by cases n <;> simp [shq] at h
  | n, .err _ _ _, h, _ => by cases n <;> simp [shq] at h
  | n, .dl1 _ _ _, h, _ => by cases n <;> simp [shq] at h
  | n, .dct (_ :: _), h, _ => by cases n <;> simp [shq] at h
  | 0, .dct [], h, _ => by simp [shq] at h
  | 0, .lst _, h, _ => by simp [shq] at h
  | 0, .tup _, h, _ => by simp [shq] at h
theorem showQ_of {x : D} {xs : List D} (h1 : shq 8 (.lst (x :: xs)) = true) (h2 : litQ 8 (.lst (x :: xs)) = true) (h3 : costQ 8 (.lst (x :: xs)) ≤ 100000) : showQ (.lst (x :: xs)) = true := by
  obtain ⟨a, b, c⟩ := cost_ok 8 _ h1 h2
  show (shq 8 (.lst (x :: xs)) && (toQ (.lst (x :: xs))).showable && small (toQ (.lst (x :: xs))).shown.length && decide ((toQ (.lst (x :: xs))).depth ≤ 8)) = true
  rw [h1, a, decide_eq_true c, show small (toQ (.lst (x :: xs))).shown.length = true from decide_eq_true (by omega)]
  rfl
end FL
/-! FL36: sorted(x) of a tuple of whole numbers, fewer than 64. -/
namespace FL
open PySem PySem.Spec PyProof.Rows L2
end FL
/-! FL37: a tuple many times over. -/
namespace FL
open PySem PySem.Spec PyProof.Rows L2
end FL
/-! FL38: isinstance(e, (A, B)) of a caught error. -/
namespace FL
open PySem PySem.Spec PyProof.Rows L2
/-- is the error of one of two own classes -/
def isxTC [FE] (x0 : EId) (ct : CT) (m1 m2 : Str) : List D → Option D
  | [.exc x _, .tup [.fn a, .fn b]] => if x = x0 ∧ a = FE.cl m1 ∧ b = FE.cl m2 then (ct.lookup x.C).map fun p => .bl (p.1.contains m1 || p.1.contains m2) else none
  | _ => none
def rIsxT [FE] (K : PySem.W.Frag) (x0 : EId) : List V → Hp → VK → Prop := fun xs H Q => ∃ (tp a b : Addr) (r : Bool), xs = [.ref x0.a, .ref tp] ∧ SqT K H tp [.ref a, .ref b] ∧ PySem.W.kitAny K (.ref (FE.cl x0.C)) [.ref a, .ref b] = some r ∧
  (∃ (F : Hp) (fsV : List (Str × V)), Same F H ∧ XD F x0.d fsV) ∧ Q (.bl r) H
section
variable [FE]
variable {X : Cx} {x0 : EId}
theorem call_isxT (hx : HotX X x0) (hI : ExcI X.K (FE.cl x0.C)) : CallR X (.builtin "isinstance") (rIsxT X.K x0) := by
  rintro pins s σ H xs us Q I r ⟨tp, a, b, res, rfl, ht, e, ⟨F, fsV, sm, xd⟩, q⟩
  obtain ⟨u1, u2, rfl, r1, r2⟩ := vals2 r
  cases (show u2 = Value.ref tp from r2)
  cases (show u1 = Value.ref x0.a from r1)
  obtain ⟨ox, od, J, _⟩ := hx.inst I sm xd
  obtain ⟨its, rv, ⟨⟨oc, dd, dt, sl⟩, ho, hc, n, hd⟩, _⟩ := I.tuple ht
  dsimp only at hc hd
  subst hc
  subst hd
  obtain ⟨w1, w2, rfl, q1, q2⟩ := vals2 rv
  cases (show w1 = Value.ref a from q1)
  cases (show w2 = Value.ref b from q2)
  exact PySem.W.kia_tup (PySem.W.kitx_exc hI.cl hI.ga hI.gg hI.sb hI.ha hI.hn hI.tk hI.hm) I.kIn J ho e (fun z => nomatch z) fun tk => ⟨.bl res, H, I.kept (t' := tk) fun _ _ z => z, rfl, q⟩
theorem q_isxT {ct : CT} {tests : List Str} {bb : List (Str × String)} {m1 m2 : Str} (T : ClsT X.K ct tests bb) (h1 : m1 ∈ tests) (h2 : m2 ∈ tests) (b1 : bb.lookup m1 = none) (b2 : bb.lookup m2 = none) : OpC X.K (isxTC x0 ct m1 m2) (rIsxT X.K x0) := by
  intro F H vs ds d Q s r e k
  unfold isxTC at e
  split at e
  · rename_i x fs a b
    split at e
    · rename_i hc
      obtain ⟨rfl, rfl, rfl⟩ := hc
      obtain ⟨v1, v2, rfl, r1, r2⟩ := Reps.two r
      cases r1 with
      | exc xd hk rs =>
        cases r2 with
        | tup ht r3 =>
          obtain ⟨w1, w2, rfl, q1, q2⟩ := Reps.two r3
          cases q1
          cases q2
          cases el : ct.lookup x.C with
          | none => rw [el] at e; cases e
          | some p =>
            rw [el] at e
            cases e
            have t1 := T.t _ _ el m1 h1
            have t2 := T.t _ _ el m2 h2
            have c1 : cval bb m1 = .ref (FE.cl m1) := by unfold cval; rw [b1]
            have c2 : cval bb m2 = .ref (FE.cl m2) := by unfold cval; rw [b2]
            rw [c1] at t1
            rw [c2] at t2
            refine ⟨_, _, _, p.1.contains m1 || p.1.contains m2, rfl, sm_tup s ht, ?_, ⟨F, _, s, xd⟩, k _ F H (Grw.refl s) (.bl _)⟩
            refine kitAny_cons t1 (fun z => ?_) (fun z => by rw [z]; rfl)
            refine kitAny_cons t2 (fun z' => ?_) (fun z' => by rw [z']; simp)
            rw [z, z']
            exact kitAny_nil
    · cases e
  · cases e
end
end FL
/-! FL39: repr of great numbers, up to 4,300 figures. -/
namespace FL
open PySem PySem.Spec PyProof.Rows L2
section
variable {P : Program} {w : World}
end
section
variable {X : Cx} {pins : List (Addr × Obj)} {σ : L2.St} {H F : Hp} {s : Shared}
end
end FL
/-! FL40: a tuple or a list taken apart into names. -/
namespace FL
open PySem PySem.Spec PyProof.Rows L2
def tulG (n : Nat) (h : GFs) : GF := fun d ρ => match d with
  | .tup ds => if ds.length = n then h ds ρ else none
  | .lst ds => if ds.length = n then h ds ρ else none
  | _ => none
theorem fg_tul [FE] {X : Cx} {π : Nat → Addr} {es : List Expr} {pos : Pos} {k : Nat} {h : GFs} {n : Nat} (hc : X.calm = true) {ns : List Nat} (hh : PGs X es (tGts X.K π ns h)) (hn : (assignEach es X.env).length = n := by rfl) (hst : (assignEach es X.env).findIdx? (·.1) = none := by rfl) : PG X (.Tuple es k pos) (tGt X.K π ns (tulG n h)) := by
  refine ⟨fun pins s σ H v u Q I r ⟨c, F, ρ, d, S, rd, P⟩ => ?_⟩
  cases rd with
  | @tup a xs ds h1 r1 =>
    have P : PoG X.K π ns c F σ Q (if ds.length = n then h ds ρ else none) := P
    split at P
    · rename_i hl
      exact (pg_tup hc hh hn hst).run pins s σ H _ u Q I r ⟨a, xs, rfl, sm_tup S.f h1, by rw [Reps.length r1]; exact hl, c, F, ρ, ds, S, r1, P⟩
    · exact P.elim
  | @lst a xs ds h1 r1 =>
    have P : PoG X.K π ns c F σ Q (if ds.length = n then h ds ρ else none) := P
    split at P
    · rename_i hl
      exact (pg_unl hc hh hn hst).run pins s σ H _ u Q I r ⟨a, xs, rfl, SqL.of (S.f _ _ h1), by rw [Reps.length r1]; exact hl, c, F, ρ, ds, S, r1, P⟩
    · exact P.elim
  | _ => exact P.elim
end FL
/-! FL41: a local name that holds one of two defs, called. -/
namespace FL
open PySem PySem.Spec PyProof.Rows L2
section
variable [FE]
variable {X : Cx} {π : Nat → Addr} {W : WX}
end
end FL
/-! FL43: instances of own classes in slots: fields, methods, properties, constructors. -/
namespace FL
open PySem PySem.Spec PyProof.Rows L2

/-- slot i's thing anew -/
def setMs (i : Nat) (m : M) (ρ : Rho) : Rho := match ρ[i]? with
  | some (.own _) => ρ.set i (.own m)
  | some (.io _) => ρ.set i (.io m)
  | _ => ρ
section
variable [FE]
theorem Sta.setMs {K : PySem.W.Frag} {π : Nat → Addr} {c : Cfg} {F H : Hp} {σ : L2.St} {ρ : Rho} {i : Nat} {p : Addr} {m : M} {o : HO} (S : Sta K π c F H σ ρ) (ow : OwnAt σ ρ i p) (r : MRep K F (upd H p o) p m) :
    Sta K π c F (upd H p o) σ (FL.setMs i m ρ) := by
  unfold FL.setMs
  obtain ⟨e, m0, h | h⟩ := ow
  · rw [h]
    exact S.change ⟨e, m0, .inl h⟩ r _ (.inl ⟨rfl, _, h⟩)
  · rw [h]
    exact S.change ⟨e, m0, .inr h⟩ r _ (.inr ⟨rfl, _, h⟩)

/-! ### fields -/
section
variable {X : Cx} {π : Nat → Addr} {W : WX} {i : Nat} {x n f : Str} {fl : List Str} {p pos pos' : Pos} {value : Expr}
end

/-! ### methods -/
section
variable {X : Cx} {π : Nat → Addr} {W : WX} {i k : Nat} {x n m : Str} {fl : List Str} {f : Addr} {fd : FuncData} {ps ks : List Str} {G : List Arg → RG} {p pos apos : Pos} {e : Expr} {es : List Expr} {kws : List Keyword} {α : Type} {rel : Rel V α} {kk : Res → Rho → R α}
/-! ### properties -/
theorem RoomG.in1 {A : Around} (r : RoomG (k + 1) A) : RoomG k A.in1 := ⟨r.r.in1, r.g⟩
end
end
end FL
/-! FL44: a new instance of an own class. -/
namespace FL
open PySem PySem.Spec PyProof.Rows L2
section
variable [FE]
section
variable {X : Cx} {π : Nat → Addr} {W : WX} {k a : Nat} {x n : Str} {C f : Addr} {fd : FuncData} {ps ks : List Str} {G : List Arg → RG} {p pos : Pos} {e : Expr} {es : List Expr} {kws : List Keyword}
end
end
end FL
/-! FL45: a, b, .. = x, y, .., values and new things of our own. -/
namespace FL
open PySem PySem.Spec PyProof.Rows L2
inductive NA where
  | val (d : D)
  | new (m : M)
def newA : List V → List NA → List Addr
  | v :: vs, .new _ :: as => (match v with | .ref p => [p] | _ => []) ++ newA vs as
  | _ :: vs, .val _ :: as => newA vs as
  | _, _ => []
inductive NAs (K : PySem.W.Frag) (c : Cfg) (F H : Hp) (σ : L2.St) (ρ : Rho) : List V → List NA → Prop
  | nil : NAs K c F H σ ρ [] []
  | val {v : V} {d : D} {vs : List V} {as : List NA} : Rep K F v d → NAs K c F H σ ρ vs as → NAs K c F H σ ρ (v :: vs) (.val d :: as)
  | new {p : Addr} {m : M} {vs : List V} {as : List NA} : F p = none → c.H0 p = none → (∀ j, ¬ OwnAt σ ρ j p) → MRep K F H p m → p ∉ newA vs as → NAs K c F H σ ρ vs as → NAs K c F H σ ρ (.ref p :: vs) (.new m :: as)
def relN (K : PySem.W.Frag) : Rel (List V) (List NA) := fun c F H σ ρ vs as => NAs K c F H σ ρ vs as
abbrev NF := Rho → R (List NA)
def nilN : NF := fun ρ => .ok [] ρ
def newN (f : Rho → R M) (g : NF) : NF := fun ρ => (f ρ).bind fun m ρ => (g ρ).bind fun as ρ => .ok (.new m :: as) ρ
def storeN : List Nat → List NA → Rho → Option Rho
  | [], [], ρ => some ρ
  | i :: is, .val d :: as, ρ => (setR i (.val d) ρ).bind fun ρ => storeN is as ρ
  | i :: is, .new m :: as, ρ => (setR i (.own m) ρ).bind fun ρ => storeN is as ρ
  | _, _, _ => none
def setVs : List Nat → List V → L2.St → L2.St
  | i :: is, v :: vs, σ => setVs is vs (σ.set i (some v))
  | _, _, σ => σ
def parN (is : List Nat) (g : NF) : SF := fun ρ => (g ρ).bind fun as ρ => nxO (storeN is as ρ)
section
variable [FE]
variable {K : PySem.W.Frag} {π : Nat → Addr} {W : WX} {c : Cfg} {F F' H H' : Hp} {σ σ' : L2.St} {ρ ρ' : Rho} {vs : List V} {as : List NA}
theorem NAs.length {c : Cfg} {F H : Hp} {σ : L2.St} {ρ : Rho} : ∀ {vs : List V} {as : List NA}, NAs K c F H σ ρ vs as → vs.length = as.length
  | _, _, .nil => rfl
  | _, _, .val _ r => congrArg (· + 1) (NAs.length r)
  | _, _, .new _ _ _ _ _ r => congrArg (· + 1) (NAs.length r)
/-- the things of the rest, seen from before it -/
theorem NAs.back (S : Sta K π c F H σ ρ) : ∀ {vs : List V} {as : List NA}, NAs K (cfg F H σ ρ) F' H' σ' ρ' vs as → NAs K c F' H' σ' ρ' vs as ∧ ∀ p ∈ newA vs as, H p = none
  | _, _, .nil => ⟨.nil, fun p h => by cases h⟩
  | _, _, .val h r => ⟨.val h (NAs.back S r).1, (NAs.back S r).2⟩
  | _, _, .new (p := p) h1 h2 h3 h4 h5 r => by
    have z := NAs.back S r
    have h2 : H p = none := h2
    refine ⟨.new h1 ?_ h3 h4 h5 z.1, fun q hq => ?_⟩
    · cases e : c.H0 p with
      | none => rfl
      | some o =>
        obtain ⟨o', e'⟩ := S.any e
        rw [h2] at e'
        cases e'
    · rcases List.mem_cons.mp (show q ∈ p :: newA _ _ from hq) with e | e
      · rw [e]; exact h2
      · exact z.2 q e
theorem rd_nilN {σ : L2.St} {H : Hp} {Q : List V → Hp → Prop} : tG K π W (relN K) nilN σ H Q → tNil σ H Q := fun ⟨c, F, ρ, S, P⟩ => P [] F H (Same.refl _) S .nil
theorem rd_newN {σ : L2.St} {H : Hp} {Q : List V → Hp → Prop} {f : Rho → R M} {g : NF} : tG K π W (relN K) (newN f g) σ H Q → tCons (tM K π W f) (tG K π W (relN K) g) σ H Q := fun ⟨c, F, ρ, S, P⟩ => by
  refine po_bind S P fun x F1 H1 ρ1 m s1 S1 r1 P1 => ?_
  obtain ⟨p, rfl, n1, n2, n3, hm⟩ := r1
  obtain ⟨o, ho, hmu⟩ := hm.mut
  have far : p ∉ (cfg F1 H1 σ ρ1).io ∧ p ∉ (cfg F1 H1 σ ρ1).ow := by
    refine ⟨fun z => ?_, fun z => ?_⟩
    · obtain ⟨i, s, e, hs, t⟩ := mem_adrs.mp (show p ∈ adrs isI σ ρ1 from z)
      cases s with
      | io m' => exact n3 i ⟨e, m', .inr hs⟩
      | _ => cases t
    · obtain ⟨i, s, e, hs, t⟩ := mem_adrs.mp (show p ∈ adrs isO σ ρ1 from z)
      cases s with
      | own m' => exact n3 i ⟨e, m', .inl hs⟩
      | _ => cases t
  refine ⟨cfg F1 H1 σ ρ1, F1, ρ1, S1.self, ?_⟩
  cases eg : g ρ1 with
  | stuck => rw [eg] at P1; exact P1
  | exc C fs ρ2 =>
    rw [eg] at P1
    exact fun dd fsV F2 H2 s2 T => P1 dd fsV F2 H2 s2 (S1.back T)
  | ok as ρ2 =>
    rw [eg] at P1
    intro xs F2 H2 s2 T r2
    have hp : H2 p = some o := T.h0 p o ho far.1 far.2 hmu.nt
    have hz := NAs.back S1 r2
    refine P1 (.ref p :: xs) F2 H2 s2 (S1.back T) (.new (T.nf p o ho n1) n2 (fun j hj => ?_) (hm.mono s2 fun o' ho' => by rw [ho] at ho'; cases ho'; exact hp) (fun z => ?_) hz.1)
    · rcases (T.ownAt hj).2.1 with z | z | z
      · have z : H1 p = none := z
        rw [ho] at z
        cases z
      · exact far.2 z
      · exact far.1 z
    · have := hz.2 p z
      rw [ho] at this
      cases this
theorem NAs.grow (g : Grw F H F' H') (r : NAs K c F H σ ρ vs as) : NAs K c F' H' σ ρ vs as := by
  induction r with
  | nil => exact .nil
  | val h _ ih => exact .val (h.mono g.f) ih
  | new h1 h2 h3 h4 h5 _ ih =>
    obtain ⟨o, ho, hmu⟩ := h4.mut
    exact .new (g.nf _ o ho h1) h2 h3 (h4.mono g.f fun o' ho' => g.h _ _ ho' (by rw [ho] at ho'; cases ho'; exact hmu.nt)) h5 ih
theorem NAs.set {i : Nat} {x : V} {s : Slot} (hi : i < ρ.length) (hl : σ.length = ρ.length) (r : NAs K c F H σ ρ vs as) (hs : ∀ m, s = .own m ∨ s = .io m → ∀ p ∈ newA vs as, x ≠ .ref p) : NAs K c F H (σ.set i (some x)) (ρ.set i s) vs as := by
  induction r with
  | nil => exact .nil
  | val h _ ih => exact .val h (ih hs)
  | @new p m' vs as h1 h2 h3 h4 h5 _ ih =>
    refine .new h1 h2 (fun j hj => ?_) h4 h5 (ih fun m hm q hq => hs m hm q (List.mem_cons_of_mem _ hq))
    obtain ⟨e, m, h⟩ := hj
    by_cases z : j = i
    · subst z
      rw [List.getElem?_set_self (by omega)] at e
      rw [List.getElem?_set_self hi] at h
      cases e
      refine hs m ?_ p (List.mem_cons_self) rfl
      rcases h with h | h
      · cases h; exact .inl rfl
      · cases h; exact .inr rfl
    · rw [List.getElem?_set_ne (Ne.symm z)] at e h
      exact h3 j ⟨e, m, h⟩
theorem Sta.storeN : ∀ {is : List Nat} {vs : List V} {as : List NA} {σ : L2.St} {ρ ρ' : Rho}, Sta K π c F H σ ρ → NAs K c F H σ ρ vs as → FL.storeN is as ρ = some ρ' → is.length = vs.length ∧ Sta K π c F H (setVs is vs σ) ρ'
  | [], _, _, _, _, _, S, .nil, e => by cases e; exact ⟨rfl, S⟩
  | _ :: _, _, _, _, _, _, _, .nil, e => by cases e
  | [], _, _, _, _, _, _, .val _ _, e => by cases e
  | [], _, _, _, _, _, _, .new _ _ _ _ _ _, e => by cases e
  | i :: is, _, _, σ, ρ, ρ', S, .val (v := v) (d := d) h r, e => by
    have e : (setR i (.val d) ρ).bind (fun ρ => FL.storeN is _ ρ) = some ρ' := e
    cases e1 : setR i (.val d) ρ with
    | none => rw [e1] at e; cases e
    | some ρ1 =>
      rw [e1] at e
      obtain ⟨hi, rfl⟩ := setR_some e1
      have z := Sta.storeN (S.set hi h) (r.set hi S.len (fun m hm => by rcases hm with hm | hm <;> cases hm)) e
      exact ⟨congrArg (· + 1) z.1, z.2⟩
  | i :: is, _, _, σ, ρ, ρ', S, .new (p := p) (m := m) h1 h2 h3 h4 h5 r, e => by
    have e : (setR i (.own m) ρ).bind (fun ρ => FL.storeN is _ ρ) = some ρ' := e
    cases e1 : setR i (.own m) ρ with
    | none => rw [e1] at e; cases e
    | some ρ1 =>
      rw [e1] at e
      obtain ⟨hi, rfl⟩ := setR_some e1
      have z := Sta.storeN (S.setOwn hi h1 (.inl h2) h4 h3) (r.set hi S.len (fun m' hm q hq hx => by cases hx; exact h5 hq)) e
      exact ⟨congrArg (· + 1) z.1, z.2⟩
end
section
variable [FE]
variable {X : Cx} {π : Nat → Addr} {W : WX} {e a b d : Expr} {es : List Expr} {pos : Pos}
theorem fn_nil : PA X [] (tG X.K π W (relN X.K) nilN) := PA.imp pa_nil fun σ H Q => rd_nilN
theorem fn_new {f : Rho → R M} {g : NF} (ha : PE X e (tM X.K π W f)) (hr : PA X es (tG X.K π W (relN X.K) g)) (hs : starEach (e :: es) X.env = (false, eval e X.env) :: starEach es X.env := by rfl) : PA X (e :: es) (tG X.K π W (relN X.K) (newN f g)) :=
  PA.imp (pa_cons ha hr hs) fun σ H Q => rd_newN
/-- names, in a tuple -/
def gNms : List Nat → TGs
  | [] => gNil
  | i :: is => gCons (gName i) (gNms is)
theorem gNms_rd {Q : L2.St → Hp → Prop} {H : Hp} : ∀ {is : List Nat} {vs : List V} {σ : L2.St}, is.length = vs.length → Q (setVs is vs σ) H → gNms is vs σ H Q
  | [], [], _, _, q => ⟨rfl, q⟩
  | i :: is, v :: vs, σ, h, q => ⟨v, vs, rfl, gNms_rd (is := is) (Nat.succ.inj h) q⟩
  | [], _ :: _, _, h, _ => by cases h
  | _ :: _, [], _, h, _ => by cases h
theorem gn_nil : PGs X [] (gNms []) := pgs_nil
theorem gn_cons {i : Nat} {is : List Nat} {x : Str} {p : Pos} (hN : X.N.Nodup) (hi : X.N[i]? = some x) (hx : Loc X.env.scope x) (hr : PGs X es (gNms is)) (hf : X.fn x = true ∨ X.env.scope.names.lookup x = some .local := by first | exact .inl rfl | exact .inr rfl | assumption)
    (hs : (assignEach (.Name x p :: es) X.env).map (·.2) = assign (.Name x p) X.env :: (assignEach es X.env).map (·.2) := by rfl) : PGs X (.Name x p :: es) (gNms (i :: is)) := pgs_cons (pg_name hN hi hx hf) hr hs
theorem fs_parN {ts : List Expr} {is : List Nat} {g : NF} {k k2 : Nat} {pt p2 : Pos} (hc : X.calm = true) (hg : PGs X ts (gNms is)) (hv : PA X es (tG X.K π W (relN X.K) g)) (hl : is.length ≤ 100000)
    (hn : (assignEach ts X.env).length = is.length := by rfl) (hst : (assignEach ts X.env).findIdx? (·.1) = none := by rfl) (hs : swapsWithSole [.Tuple ts k pt] (.Tuple es k2 p2) pos.line X.env = pure false := by rfl) (hw : swappedStores [.Tuple ts k pt] (.Tuple es k2 p2) X.env = pure none := by rfl)
    (h1 : (assignEach [.Tuple ts k pt] X.env).map (·.2) = [assign (.Tuple ts k pt) X.env] := by rfl) : PS X (.Assign [.Tuple ts k pt] (.Tuple es k2 p2) pos) (tS X.K π W (parN is g)) :=
  PS.imp (ps_asg (pe_tupN hv) (pg_tup hc hg hn hst) hs hw h1) fun D σ H ⟨c, F, ρ, h0, S, P⟩ => by
    refine pos_bind S P fun vs F1 H1 ρ1 as s1 S1 r1 P1 => ?_
    cases e : storeN is as ρ1 with
    | none => rw [e] at P1; exact P1.elim
    | some ρ' =>
      rw [e] at P1
      have hlen : is.length = vs.length := (S1.storeN r1 e).1
      refine ⟨le_line (by omega), fun p o hp hd => ?_⟩
      have gr := Grw.newT (xs := vs) S1.f hp hd
      have z := (S1.grow gr).storeN (r1.grow gr) e
      exact ⟨p, vs, rfl, sqT_new upd_same, hlen.symm, gNms_rd hlen (P1 _ _ _ gr.f z.2)⟩
end
end FL
/-! FL46: methods, properties, constructors, as the printed terms write them. -/
namespace FL
open PySem PySem.Spec PyProof.Rows L2
section
variable [FE]
section
variable {X : Cx} {π : Nat → Addr} {W : WX} {i k nn a : Nat} {x n m : Str} {fl : List Str} {f : Addr} {fd : FuncData} {ps ks : List Str} {G : List Arg → RG} {p pos apos : Pos} {e : Expr} {es : List Expr} {kws : List Keyword}
end
end
end FL
/-! FL47: a method of a thing that was just made. -/
namespace FL
open PySem PySem.Spec PyProof.Rows L2
section
variable [FE]
section
variable {X : Cx} {π : Nat → Addr} {W : WX} {i k nn a : Nat} {n m : Str} {fl : List Str} {f : Addr} {fd : FuncData} {ps ks : List Str} {G : List Arg → RG} {p pos apos : Pos} {e o : Expr} {es : List Expr}
end

/-! ### a law's def that needs to know where the classes stand -/
def trueG (n : Nat) : List Arg → RG
  | [.val (.scr ns)] => if ns.length ≤ n then .ok (.v (.bl true)) [] else .stuck
  | _ => .stuck
theorem trueG_eq {n : Nat} {ns : List Int} (h : ns.length ≤ n) : trueG n [.val (.scr ns)] = .ok (.v (.bl true)) [] := if_pos h
theorem fn_trueG {P : Program} {w : World} {K : PySem.W.Frag} {mg : Str → Option Value} {base : Heap} {k n m : Nat} {f : Addr} {fd : FuncData} {ps : List Str} {G : List Arg → RG} (hq : ∀ ns : List Int, ns.length ≤ n → G [.val (.scr ns)] = .ok (.v (.bl true)) []) (Fn : FnG P w K mg base k f fd ps (spG K m G)) :
    FnG P w K mg base k f fd ps (spG K m (trueG n)) := by
  have key : ∀ vs H Q E, spG K m (trueG n) vs H Q E → spG K m G vs H Q E := fun vs H Q E ⟨F, as, h1, h2, h3, h4, P⟩ => by
    refine ⟨F, as, h1, h2, h3, h4, ?_⟩
    unfold trueG at P
    split at P
    · split at P
      · rename_i hl
        rw [hq _ hl]
        exact P
      · exact P.elim
    · exact P.elim
  exact ⟨fun vs H Q E h => Fn.len vs H Q E (key _ _ _ _ h), fun A outer s H args us vs Q E hr e0 hb r h => Fn.run A outer s H args us vs Q E hr e0 hb r (key _ _ _ _ h)⟩
end
end FL
/-! FL48: a lambda that is handed on to another def, which hands it to the one that catches. -/
namespace FL
open PySem PySem.Spec PyProof.Rows L2
section
variable {K : PySem.W.Frag}
variable [FE]
end
section
variable [FE]
variable {P : Program} {w : World} {K : PySem.W.Frag} {mg : Str → Option Value} {base : Heap}
end
end FL
/-! FL49: f(x, e, lambda: .., e): the lambda works on x. -/
namespace FL
open PySem PySem.Spec PyProof.Rows L2
section
variable {X : Cx} {pins : List (Addr × Obj)} {σ : L2.St} {H : Hp} {s : Shared}
end
section
variable [FE]
variable {X : Cx} {π : Nat → Addr} {W : WX}
end
end FL
namespace FL
open PySem PySem.Spec PyProof.Rows L2
section
variable [FE]
end
end FL
/-! FL50: own instances compared, asked for their truth. -/
namespace FL
open PySem PySem.Spec PyProof.Rows L2
section
variable {prog : Program} {w : World} {A : Around} {E : Value → Shared → Prop} {s : Shared} {K : PySem.W.Frag} {x y C : Addr} {ox oy : Obj} {od od' : Option Obj}
end
end FL
/-! FL51: x == y, truth of own instances; v in x, x with a __contains__ of its own. -/
namespace FL
open PySem PySem.Spec PyProof.Rows L2
section
variable {prog : Program} {w : World} {A : Around} {E : Value → Shared → Prop} {s : Shared} {K : PySem.W.Frag} {x y C : Addr} {ox oy : Obj} {od od' : Option Obj}
end
section
variable [FE]
variable {X : Cx} {π : Nat → Addr} {W : WX} {i j k : Nat} {x y n : Str} {p q pos : Pos} {a : Expr}
section
variable {f : Addr} {fd : FuncData} {ps : List Str} {G : List Arg → RG} {g : EF}
end
end
end FL
/-! FL52: a tuple once, or many times over. -/
namespace FL
open PySem PySem.Spec PyProof.Rows L2
section
variable [FE]
variable {X : Cx} {π : Nat → Addr} {W : WX} {k a mm : Nat} {x n : Str} {f : Addr} {fd : FuncData} {ps ks : List Str} {G : List Arg → RG} {p pos : Pos} {kws : List Keyword}
end
end FL
/-! FL53: dicts: our own, frozen ones, their keys and entries walked. -/
namespace FL
open PySem PySem.Spec PyProof.Rows L2
section
variable {K : PySem.W.Frag} {F H : Hp}
theorem KvR.get {vs : List (Key × V)} {ds : List (Key × D)} (h : KvR K F vs ds) (k : Key) : (getD' ds k = none ∧ valV vs k = none) ∨ ∃ d v, getD' ds k = some d ∧ valV vs k = some v ∧ Rep K F v d := by
  have p := h.ind
  clear h
  induction p with
  | nil => exact .inl ⟨rfl, rfl⟩
  | @cons a b as bs h _ ih =>
    unfold getD' valV at ih ⊢
    rw [List.find?_cons, List.find?_cons]
    by_cases c : a.1 = k
    · rw [decide_eq_true c, decide_eq_true (h.1.symm.trans c)]
      exact .inr ⟨_, _, rfl, rfl, h.2⟩
    · rw [decide_eq_false c, decide_eq_false (fun z => c (h.1.trans z))]
      exact ih
theorem KvR.at {vs : List (Key × V)} {ds : List (Key × D)} (h : KvR K F vs ds) {i : Nat} {k : Key} {d : D} (e : ds[i]? = some (k, d)) : ∃ v, vs[i]? = some (k, v) ∧ Rep K F v d := by
  have p := h.ind
  clear h
  induction p generalizing i with
  | nil => simp at e
  | @cons a b as bs h _ ih =>
    cases i with
    | zero =>
      simp at e
      subst e
      obtain ⟨x, y⟩ := a
      obtain ⟨h1, h2⟩ := h
      dsimp only at h1
      subst h1
      exact ⟨y, rfl, h2⟩
    | succ i =>
      obtain ⟨v, h1, h2⟩ := ih (i := i) (by simpa using e)
      exact ⟨v, by simpa using h1, h2⟩
theorem KvR.length {vs : List (Key × V)} {ds : List (Key × D)} (h : KvR K F vs ds) : vs.length = ds.length := by
  have := congrArg List.length h.1
  simpa using this
/-- a key, as data -/
def keyV : Key → D
  | .inl i => .int i
  | .inr x => .str x
theorem keyV_rep (k : Key) : Rep K F (kV k) (keyV k) := by
  cases k
  · exact .int _
  · exact .str _
end
section
variable [FE]
variable {K : PySem.W.Frag} {π : Nat → Addr} {c : Cfg} {F H : Hp} {σ : L2.St} {ρ : Rho}
/-- our own new thing is frozen, and locked -/
theorem Sta.lockNew (S : Sta K π c F H σ ρ) {p : Addr} {o o' : HO} (ho : H p = some o) (m : FL.Mut o) (f1 : F p = none) (f2 : c.H0 p = none) (f3 : ∀ j, ¬ OwnAt σ ρ j p) (nt : NT o') (pl : PlO o' := by exact ⟨fun _ z => (nomatch z), fun _ _ z => (nomatch z)⟩) : Same F (upd F p o') ∧ Sta K π c (upd F p o') (upd H p o') σ ρ := by
  have sm : Same F (upd F p o') := sm_new f1
  refine ⟨sm, fun q u e n1 n2 t => ?_, fun q hq => ?_, S.f0.trans sm, sm_upd2 S.f, fun q u e n => ?_, S.len, fun i s hs => ?_, S.dis, ⟨tabs_upd S.t.tb ho m, fun q ps e => ?_, S.t.nt.upd ⟨nt, pl⟩⟩⟩
  · rw [upd_ne (fun z => by subst z; rw [f2] at e; cases e)]
    exact S.h0 q u e n1 n2 t
  · by_cases z : q = p
    · subst z
      exact ⟨_, upd_same⟩
    · rw [upd_ne z]
      exact S.hio q hq
  · rw [upd_ne (fun z => by subst z; rw [f2] at e; cases e)]
    exact S.nf q _ e n
  · have z := S.rep i s hs
    cases s with
    | lk C f jj => obtain ⟨a, dx, e1, h1⟩ := z; exact ⟨a, dx, e1, sm _ _ h1⟩
    | ln L => obtain ⟨a, e1, h1⟩ := z; exact ⟨a, e1, LnkF.mono sm h1⟩
    | no => trivial
    | val d => obtain ⟨w, e1, q⟩ := z; exact ⟨w, e1, q.mono sm⟩
    | own m' =>
      obtain ⟨q, e1, e2, e3, q1⟩ := z
      have nq : q ≠ p := fun w => by subst w; exact f3 i ⟨e1, m', .inl hs⟩
      exact ⟨q, e1, by rw [upd_ne nq]; exact e2, e3, q1.mono sm fun _ hu => by rw [upd_ne nq]; exact hu⟩
    | io m' =>
      obtain ⟨e1, e2, e3, q1⟩ := z
      have nq : π i ≠ p := fun w => by rw [w] at e1; exact f3 i ⟨e1, m', .inr hs⟩
      exact ⟨e1, by rw [upd_ne nq]; exact e2, e3, q1.mono sm fun _ hu => by rw [upd_ne nq]; exact hu⟩
  · obtain ⟨ps', e'⟩ := S.t.tk q ps e
    exact ⟨ps', by rw [upd_ne (fun z => by subst z; rw [ho] at e'; cases e'; exact m.nt _ rfl)]; exact e'⟩
end
section
variable [FE]
variable {X : Cx} {π : Nat → Addr} {W : WX} {e a b : Expr} {es : List Expr} {pos pos' p apos cpos : Pos} {i : Nat} {x : Str} {rest : List Stmt}
/-- a new dict, as data -/
def frzZ (f : Rho → R M) : EF := fun ρ => (f ρ).bind fun m ρ => match m with
  | .dct ds => .ok (.dcf ds) ρ
  | _ => .stuck
theorem fe_frzZ {f : Rho → R M} (h : PE X e (tM X.K π W f)) : PE X e (tE X.K π W (frzZ f)) := by
  refine ⟨fun pins s σ H Q I ⟨c, F, ρ, S, P⟩ => ?_⟩
  have t : tM X.K π W f σ H fun v H1 => ∃ F1 ρ1 ds, Sta X.K π c F1 H1 σ ρ1 ∧ relM X.K c F1 H1 σ ρ1 v (.dct ds) ∧ Po X.K π W (relE X.K) c F1 σ Q (.ok (.dcf ds) ρ1) := by
    refine ⟨c, F, ρ, S, ?_⟩
    unfold frzZ at P
    cases ef : f ρ with
    | stuck => rw [ef] at P; exact P.elim
    | exc C fs ρ' => rw [ef] at P; exact P
    | ok m ρ' =>
      rw [ef] at P
      cases m with
      | lst _ => exact P.elim
      | ins _ _ => exact P.elim
      | dtu _ => exact P.elim
      | dct ds => exact fun v F1 H1 s1 S1 r1 => ⟨F1, ρ', ds, S1, r1, Po.mono s1 P⟩
  refine thn (h.run pins s σ H _ I t) fun u s1 ⟨v, H1, I1, r1, F1, ρ1, ds, S1, ⟨p, ev, f1, f2, f3, kvs, ho, hk, hr⟩, P1⟩ => ?_
  subst ev
  obtain ⟨od, I2⟩ := I1.lock ho trivial
  obtain ⟨sm, S2⟩ := S1.lockNew (o' := .frz od (.dK kvs)) ho (.inr (.inr (.inl ⟨_, rfl⟩))) f1 f2 f3 (by intro ps z; cases z)
  exact ⟨.ref p, _, I2, r1, P1 (.ref p) _ _ sm S2 (.dcf upd_same hk (hr.mono sm))⟩
/-! ### look-ups -/
def dgetD : D → D → Option D
  | .dcf kvs, y => (keyD y).bind fun k => getD' kvs k
  | _, _ => none
theorem fe_dget {f g : EF} {k : Nat} (hr : RoomG k X.A) (ha : PE X a (tE X.K π W f)) (hb : PE X b (tE X.K π W g)) (hs : NoSl b) : PE X (.Subscript a b pos) (tE X.K π W (op2 dgetD f g)) :=
  PE.imp (pe_dget (by have := hr.u64; omega) ha hb hs) fun σ H Q ⟨c, F, ρ, S, P⟩ => by
    refine po_bind S P fun x F1 H1 ρ1 dx s1 S1 r1 P1 => ?_
    refine po_bind S1 P1 fun y F2 H2 ρ2 dy s2 S2 r2 P2 => ?_
    obtain ⟨d, e, P3⟩ := po_of P2
    unfold dgetD at e
    split at e
    · rename_i kvs
      cases ek : keyD dy with
      | none => rw [ek] at e; cases e
      | some k =>
        rw [ek] at e
        have e : getD' kvs k = some d := e
        cases r1 with
        | dcf h1 h2 h3 =>
          obtain rfl := keyD_rep r2 ek
          rcases (show KvR X.K F1 _ kvs from ⟨h2, h3⟩).get k with ⟨z, _⟩ | ⟨d', v, z, zv, rv⟩
          · rw [z] at e; cases e
          · rw [z] at e
            cases e
            exact ⟨_, v, rfl, .inl ⟨_, k, .inr ⟨_, S2.f _ _ (s2 _ _ h1)⟩, rfl, zv.symm⟩, P3 v F2 H2 (Same.refl _) S2 (rv.mono s2)⟩
    · cases e
/-! ### d[k] = v -/
/-! ### walks -/
def keysD : D → Option (List D)
  | .dcf kvs => some (kvs.map fun kv => keyV kv.1)
  | _ => none
def keyI (f : EF) : IF := fun ρ => (f ρ).bind fun d ρ => R.of (keysD d) ρ
theorem fi_keys {tg : Expr} {f : EF} (he : PE X e (tE X.K π W f)) : PI X tg e (tI X.K π W (keyI f)) :=
  PI.imp (pi_keys he) fun σ H R ⟨c, F, ρ, S, P⟩ => by
    refine po_bind S P fun x F1 H1 ρ1 dx s1 S1 r1 P1 => ?_
    obtain ⟨d, ed, P2⟩ := po_of P1
    unfold keysD at ed
    split at ed
    · rename_i kvs
      cases ed
      cases r1 with
      | @dcf q o vs _ h1 h2 h3 =>
        have kv : KvR X.K F1 vs kvs := ⟨h2, h3⟩
        refine ⟨q, o, rfl, .inl ⟨vs, S1.f _ _ h1, P2 _ F1 H1 (Same.refl _) S1 ⟨fun F' H' s1 s2 i d hd => ?_, fun H' s => ⟨s _ _ h1, by rw [List.length_map]; exact Nat.le_of_eq kv.length⟩⟩⟩⟩
        rw [List.getElem?_map] at hd
        cases ek : kvs[i]? with
        | none => rw [ek] at hd; cases hd
        | some kd =>
          rw [ek] at hd
          cases hd
          obtain ⟨v, hv, _⟩ := kv.at (k := kd.1) (d := kd.2) ek
          have hi := (List.getElem?_eq_some_iff.mp hv).1
          refine ⟨⟨s2 _ _ (s1 _ _ h1), hi⟩, fun x H2 ⟨e1, k, v', e2, e3⟩ => ?_⟩
          subst e1 e3
          rw [hv] at e2
          cases e2
          exact ⟨F', Grw.refl s2, keyV_rep _⟩
    · cases ed
end
end FL
/-! FL54: {**d, k: v}. -/
namespace FL
open PySem PySem.Spec PyProof.Rows L2
section
variable {prog : Program} {w : World} {A : Around} {E : Value → Shared → Prop} {s : Shared} {K : Type} [DecidableEq K] {knd : KeyKind prog w K}
end
section
variable {X : Cx} {pins : List (Addr × Obj)} {σ : L2.St} {H : Hp} {s : Shared}
/-- what is so of a new thing of ours, that no one else knows of -/
structure Lone (X : Cx) (pins : List (Addr × Obj)) (d : Addr) : Prop where
  l : d ≠ X.env.locals
  z : X.s_0.heap.objs.size ≤ d
  c : ∀ x c, X.env.cells.lookup x = some c → c ≠ d
  p : ∀ p ∈ X.pn ++ pins, p.1 ≠ d
  f : d ∉ X.fs
theorem Lone.cons {d e : Addr} {o : Obj} (L : Lone X pins d) (h : e ≠ d) : Lone X ((e, o) :: pins) d :=
  ⟨L.l, L.z, L.c, fun p hp => by
    rcases List.mem_append.mp hp with z | z
    · exact L.p p (List.mem_append_left _ z)
    · rcases List.mem_cons.mp z with z | z
      · subst z; exact h
      · exact L.p p (List.mem_append_right _ z), L.f⟩
end
section
variable {K : PySem.W.Frag} {F H : Hp}
end
section
variable [FE]
variable {X : Cx} {π : Nat → Addr} {W : WX} {e a b : Expr} {pos : Pos}
end
end FL
/-! FL55: texts: their order, sorted(d), join, walks, list(x); x.pop(i); d == {}. -/
namespace FL
open PySem PySem.Spec PyProof.Rows L2

/-! ### order of texts -/
/-! ### sorted(d) -/
section
variable {K : PySem.W.Frag} {F : Hp}
end
section
variable [FE]
variable {X : Cx} {π : Nat → Addr} {W : WX} {tg e a b : Expr} {es : List Expr} {pos p apos cpos : Pos} {i : Nat} {x : Str}
/-! ### join -/
def asStrs : List D → Option (List Str)
  | [] => some []
  | .str x :: r => (asStrs r).map (x :: ·)
  | _ :: _ => none
/-! ### a text walked -/
/-! ### x.pop(i) of our own list -/
/-! ### list(x) of a text -/
/-! ### d == {} -/
end
end FL
/-! FL56: a dict comprehension as our own dict; a def that returns its own thing. -/
namespace FL
open PySem PySem.Spec PyProof.Rows L2
section
variable [FE]
variable {X : Cx} {π : Nat → Addr} {W : WX}
end
end FL
/-! FL57: x.upper() of a text. -/
namespace FL
open PySem PySem.Spec PyProof.Rows L2
section
variable [FE]
variable {X : Cx} {π : Nat → Addr} {W : WX} {a : Expr} {pos apos : Pos}
end
end FL
/-! FL58: repr of a tuple with numbers of up to 4,300 figures. -/
namespace FL
open PySem PySem.Spec PyProof.Rows L2
end FL
namespace FL
open PySem PySem.Spec PyProof.Rows L2
/-! ### ({}, ()) == ({}, ()) -/
section
variable {X : Cx}
end
end FL
namespace FL
open PySem PySem.Spec PyProof.Rows L2
/-! ### d[k] as a target among others, d our own dict -/
section
variable [FE]
variable {X : Cx} {π : Nat → Addr} {W : WX}
end
end FL
namespace FL
open PySem PySem.Spec PyProof.Rows L2
/-! ### for a, b in zip(x, y): two lists -/
end FL
namespace FL
open PySem PySem.Spec PyProof.Rows L2
/-! ### str(i) -/
end FL
/-! FL63: a, (b, c), .. = x, y, .., values and new things of our own, names and tuples of names. -/
namespace FL
open PySem PySem.Spec PyProof.Rows L2
section
variable [FE]
variable {K : PySem.W.Frag} {π : Nat → Addr} {W : WX} {c : Cfg} {F F' H H' : Hp} {σ σ' : L2.St} {ρ ρ' : Rho} {vs : List V} {as : List NA}
end
section
variable [FE]
variable {X : Cx} {π : Nat → Addr} {W : WX} {e a b d : Expr} {es : List Expr} {pos : Pos}
end
end FL
/-! FL64: where an error is handled, a list comes to its end. -/
namespace FL
open PySem PySem.Spec PyProof.Rows L2 _root_.HotX
/-- what stands in a heap stands in the other -/
abbrev Stays (h h' : Heap) : Prop := ∀ b o, h.get? b = some o → h'.get? b = some o
/-- .. but for one address -/
abbrev StaysBut (it : Addr) (h h' : Heap) : Prop := ∀ b o, b ≠ it → h.get? b = some o → h'.get? b = some o
theorem hot_moved {A : Around} {x : Addr} {h h' : Heap} (z : HotAt A x h) (k : ∀ o, h.get? x = some o → h'.get? x = some o) : HotAt A x h' :=
  ⟨z.1, z.2.elim fun o q => q.elim fun vs r => ⟨o, vs, k o r.1, r.2⟩⟩
theorem hot_lt {A : Around} {x : Addr} {h : Heap} (z : HotAt A x h) : x < h.objs.size := z.2.elim fun _ q => q.elim fun _ r => Heap.lt_size r.1
section
variable {prog : Program} {w : World} {A : Around} {E : Value → Shared → Prop} {s : Shared}
/-- a StopIteration, made -/
theorem stop_made {P : Value → Shared → Prop} (h : ∀ a g o vs, Stays s.heap g → s.heap.objs.size ≤ a → g.get? a = some o → o.cls = .type "StopIteration" → o.data = .fields vs → 2 < vs.size → P (.ref a) { s with heap := g }) :
    wpAny (model prog w) A (newExc (.type "StopIteration") []) P E s := by
  unfold newExc newTuple
  refine wpAny_bind (wpAny_newObj_type (wpAny_bind (wpAny_of_eq (a := Value.none) ?e (wpAny_newObj_type (h _ _ _ _ (fun b o q => Heap.get?_push_of_some _ (Heap.get?_push_of_some _ q)) ?l (Heap.get?_push_size _ rfl) rfl rfl ?z) (by size_fits)))) (by size_fits))
  case e => first | rfl | (unfold firstArgMember; rfl)
  case l => rw [Heap.size_push]; exact Nat.le_succ _
  case z => simp only [Array.size_append, List.size_toArray, List.length_cons, List.length_nil]; omega
/-- it is thrown where x is handled, which becomes its context -/
theorem stop_thrown {α : Type} {x : Addr} {P : α → Shared → Prop} (hot : HotAt A x s.heap) (h : ∀ a g, Stays s.heap g → (∃ o, g.get? a = some o ∧ o.cls = .type "StopIteration") → E (.ref a) { s with heap := g }) :
    wpAny (model prog w) A (newExc (.type "StopIteration") [] >>= fun e => (raiseNew e : Sem α)) P E s := by
  refine wpAny_bind (stop_made fun a g o vs k la ho hc hd hz => ?_)
  have nx : x ≠ a := fun e => absurd (hot_lt hot) (by rw [e]; exact Nat.not_lt.mpr la)
  refine raiseNew_hot (s := { s with heap := g }) (hot_moved hot (k x)) nx ho hd hz (h a _ (fun b u q => ?_) ⟨_, Heap.get?_update_self _ ho (Obj.isFreed_of_fields (Obj.data_mapFields hd _)), (Obj.cls_mapFields ..).trans hc⟩)
  have nb : a ≠ b := fun e => absurd (Heap.lt_size q) (by rw [← e]; exact Nat.not_lt.mpr la)
  exact (Heap.get?_update_other _ _ nb).trans (k b u q)
/-- a list's end, where x is handled -/
theorem list_out {it l x : Addr} {i : Nat} {items : Array Value} {P : Option Value → Shared → Prop} (hot : HotAt A x s.heap) (nx : x ≠ it) (hi : s.heap.IsListIter it l i) (hl : s.heap.IsList l items) (ho : items.size ≤ i)
    (h : ∀ g, StaysBut it s.heap g → P none { s with heap := g }) : wpAny (model prog w) A (pyNext (.ref it)) P E s := by
  have hT := hi.typeIs
  obtain ⟨oi, gi, ci, di⟩ := hi
  obtain ⟨ol, gl, _, nl, dl⟩ := hl
  have nothing : items[i]? = none := Array.getElem?_eq_none ho
  have step : wpAny (model prog w) A.in1 (Builtin.«list_iterator.__next__» ⟨[.ref it], []⟩) (fun _ _ => False) (fun e s' => ∃ a g, e = .ref a ∧ s' = { s with heap := g } ∧ StaysBut it s.heap g ∧ ∃ o, g.get? a = some o ∧ o.cls = .type "StopIteration") s := by
    change wpAny _ _ (field (.ref it) 0 >>= _) _ _ s
    apply wpAny_bind; apply wpAny_field gi di (x := .ref l) rfl
    change wpAny _ _ (ite ((Value.ref l == Value.none) = true) _ _) _ _ s
    rw [if_neg (by intro z; cases z)]
    change wpAny _ _ (field (.ref it) 1 >>= _) _ _ s
    apply wpAny_bind; apply wpAny_field gi di (x := .int i 0) rfl
    change wpAny _ _ (seqItems? (.ref l) >>= _) _ _ s
    apply wpAny_bind; apply wpAny_seqItems gl dl
    simp only [Int.toNat_natCast, nothing]
    apply wpAny_bind; apply wpAny_rule
    apply wpAny_bind; apply wpAny_setField gi di (by simp)
    have still : StaysBut it s.heap (s.heap.update it (Obj.mapFields (·.setIfInBounds 0 .none))) := fun b u nb q => (Heap.get?_update_other _ _ (Ne.symm nb)).trans q
    exact stop_thrown (s := { s with heap := _ }) (A := A.in1) (hot_moved hot fun u q => still x u nx q) fun a g k hc => ⟨a, g, rfl, rfl, fun b u nb q => k b u (still b u nb q), hc⟩
  unfold pyNext
  refine wpAny_bind (wpAny_attempt (wpAny_callSpecial?_slot (name := Str.ofString "__next__") hT slot_listiter_next (wpAny_call_entry slot_listiter_next hT entry_listiter_next (wpAny_mono step (fun _ _ z => z.elim) fun e s' z => ?_) (args_listiter_next _))))
  obtain ⟨a, g, rfl, rfl, k, hc⟩ := z
  exact wpAny_bind (wpAny_isInstance (b := true) hc isSubtype_stop (wpAny_pure (h g k)))
end
end FL
/-! FL65: comprehensions in general (the block entered, one turn, the block left), whatever is pinned; lists where an error is handled. -/
namespace FL
open PySem PySem.Spec PyProof.Rows L2
/-- an iterator, as it goes within a context -/
structure Goer (B : Cx) (tg : Expr) (J : It) (fp : List Addr) (it : Addr) (tn : Nat → Heap → Prop) : Prop where
  /-- its objects stand, and are no cells -/
  obj : ∀ j g, tn j g → ∀ b ∈ fp, ∃ u, g.get? b = some u ∧ ∀ v, u.data ≠ .cell v
  /-- where they stand on, it stands -/
  keep : ∀ j g k, tn j g → (∀ b ∈ fp, ∀ u, g.get? b = some u → k.get? b = some u) → tn j k
  item : ∀ {i pins s σ H}, Inv B pins σ H s → (∀ b ∈ fp, FpOk B pins H b) → tn i s.heap → J.go i H → wpAny (model B.prog B.w) B.A (pyNext (.ref it)) (fun r s1 => ∃ u, r = some u ∧
    wpAny (model B.prog B.w) B.A (letOwnedTupleGo tg (.ref it) u) (fun _ s2 => ∃ x H2, Inv B pins σ H2 s2 ∧ RelV x u ∧ J.yld i H x H2 ∧ tn (i + 1) s2.heap ∧ ∀ b ∈ fp, H2 b = none) (fun _ _ => False) s1) (fun _ _ => False) s
  done : ∀ {i pins s σ H}, Inv B pins σ H s → (∀ b ∈ fp, FpOk B pins H b) → tn i s.heap → J.stop i H → wpAny (model B.prog B.w) B.A (pyNext (.ref it)) (fun r s1 => r = none ∧ Inv B pins σ H s1) (fun _ _ => False) s
/-- slots that know what others know -/
def Knows (τ σ : L2.St) : Prop := τ.length = σ.length ∧ ∀ (j : Nat) v, τ[j]? = some (some v) → σ[j]? = some (some v)
theorem Knows.wiped {τ σ : L2.St} {vs : List Nat} (e : wipe σ vs = τ) : Knows τ σ := by
  subst e
  exact ⟨wipe_length _ _, fun j v h => (wipe_some h).1⟩
/-- a walk amid its turns: turn i, n what is left of the measure -/
def Amid (B : Cx) (pins : List (Addr × Obj)) (fp : List Addr) (tn : Nat → Heap → Prop) (W : Nat → Nat → Hp → Prop) (τ : L2.St) (n : Nat) (s : Shared) : Prop :=
  ∃ i H, Inv B pins τ H s ∧ tn i s.heap ∧ (∀ b ∈ fp, H b = none) ∧ W i n H
/-- a smaller measure -/
abbrev On (B : Cx) (pins : List (Addr × Obj)) (fp : List Addr) (tn : Nat → Heap → Prop) (W : Nat → Nat → Hp → Prop) (τ : L2.St) (n : Nat) (s : Shared) : Prop := ∃ m, m < n ∧ Amid B pins fp tn W τ m s
/-- the tests of a clause, as the model runs them -/
abbrev asked (ifs : List Expr) (env : Env) : Sem Bool := forIn ifs true fun t so => if so = true then (do let z ← isTrue t env (eval t env); pure (ForInStep.yield z)) else pure (ForInStep.yield so)
theorem turn_once {B : Cx} {pins : List (Addr × Obj)} {tg : Expr} {ifs : List Expr} {J : It} {fp : List Addr} {it : Addr} {tn : Nat → Heap → Prop} {W : Nat → Nat → Hp → Prop} {τ : L2.St} {vs : List Nat} {g : TG} {tt : TT} {Y : L2.St → Hp → (Hp → Prop) → Prop}
    {Done : Shared → Prop} {Body : Shared → Prop} {Z : Hp → Prop} {n : Nat} {s : Shared} {E : Value → Shared → Prop} (xe : ∀ e s, ¬ B.xe e s) (G : Goer B tg J fp it tn) (fpo : ∀ {σ H s}, Inv B pins σ H s → (∀ b ∈ fp, H b = none) → ∀ b ∈ fp, FpOk B pins H b) (pg : PG B tg g) (pt : PTs B ifs tt)
    (rule : ∀ i H, W i n H → (J.stop i H ∧ Z H) ∨ (J.go i H ∧ ∃ Nx : Hp → Prop, (∀ H2, Nx H2 → ∃ m, m < n ∧ W (i + 1) m H2) ∧ ∀ x H2, J.yld i H x H2 → g x τ H2 fun σ3 H3 => wipe σ3 vs = τ ∧ tt σ3 H3 fun b H4 => if b = true then Y σ3 H4 Nx else Nx H4))
    (done : ∀ {H s}, Inv B pins τ H s → Z H → Done s)
    (body : ∀ {pins' σ H s} {Nx : Hp → Prop}, Inv B pins' σ H s → wipe σ vs = τ → Y σ H Nx → (∀ {σ2 H2 s2}, Inv B pins' σ2 H2 s2 → Knows τ σ2 → Nx H2 → On B pins fp tn W τ n s2) → Body s)
    (h : Amid B pins fp tn W τ n s) :
    wpAny (model B.prog B.w) B.A (pyNext (.ref it)) (fun r s1 => match r with
      | none => Done s1
      | some v => wpAny (model B.prog B.w) B.A (letOwnedTupleGo tg (.ref it) v) (fun _ s2 => wpAny (model B.prog B.w) B.A (assign tg B.env v) (fun _ s3 => wpAny (model B.prog B.w) B.A (asked ifs B.env) (fun ok s4 => if ok = true then Body s4 else On B pins fp tn W τ n s4) E s3) E s2) E s1) E s := by
  have no : ∀ {e : Value} {s : Shared} {P : Prop}, B.xe e s → P := fun z => absurd z (xe _ _)
  obtain ⟨i, H, I, t, fr, w⟩ := h
  cases rule i H w with
  | inl z => exact wpAny_mono (G.done I (fpo I fr) t z.1) (fun r s1 q => by obtain ⟨rfl, I1⟩ := q; exact done I1 z.2) fun _ _ q => q.elim
  | inr z =>
    obtain ⟨go, Nx, down, step⟩ := z
    refine wpAny_mono (G.item I (fpo I fr) t go) (fun r s1 q => ?_) fun _ _ q => q.elim
    obtain ⟨v, rfl, q⟩ := q
    refine wpAny_mono q (fun _ s2 q2 => ?_) fun _ _ q => q.elim
    obtain ⟨x, H2, I2, r2, y2, t2, fr2⟩ := q2
    have held := I2.pinned (fpo I2 fr2) (G.obj _ _ t2)
    -- from the turn's end, with the iterator still as it was left
    have on : ∀ {σ3 H3 s3}, Inv B (pins ++ pinsAt fp s2.heap) σ3 H3 s3 → Knows τ σ3 → Nx H3 → On B pins fp tn W τ n s3 := fun {σ3 H3 s3} I3 k nx => by
      obtain ⟨m, hm, w3⟩ := down _ nx
      have same : ∀ b ∈ fp, ∀ o, s2.heap.get? b = some o → s3.heap.get? b = some o ∧ H3 b = none := fun b hb o e => by
        have p := I3.pin (b, o) (by simp only [List.mem_append]; exact .inr (.inr (mem_pinsAt hb e)))
        exact ⟨p.1, p.2.1⟩
      refine ⟨m, hm, i + 1, H3, I3.unpinned.weak k.1 k.2, G.keep _ _ _ t2 fun b hb o e => (same b hb o e).1, fun b hb => ?_, w3⟩
      exact (G.obj _ _ t2 b hb).elim fun o e => (same b hb o e.1).2
    refine wpAny_mono (pg.run _ _ _ _ x v _ held r2 (step x H2 y2)) (fun _ s3 q3 => ?_) fun _ _ => no
    obtain ⟨σ3, H3, I3, e3, q3⟩ := q3
    refine wpAny_mono (pt.run _ _ _ _ _ I3 q3) (fun b s4 q4 => ?_) fun _ _ => no
    obtain ⟨H4, I4, q4⟩ := q4
    cases b
    · exact on I4 (.wiped e3) q4
    · exact body I4 e3 q4 on
/-- a block's context, with things that stay pinned -/
abbrev blkL (X : Cx) (s : Shared) (H : Hp) (scope : Scope) (cenv : Env) (fp : List Addr) (ps : List (Addr × Obj)) : Cx := { X.blk s H scope cenv fp with pn := ps }
section
variable {X : Cx} {pins : List (Addr × Obj)} {σ : L2.St} {H : Hp} {s : Shared}
theorem blk_pins {scope : Scope} {cenv : Env} {fp : List Addr} {ps : List (Addr × Obj)} {s0 : Shared} {H0 : Hp} (I : Inv (X.blk s0 H0 scope cenv fp) [] σ H s) (hp : ∀ p ∈ ps, s.heap.get? p.1 = some p.2 ∧ H p.1 = none ∧ p.1 ≠ cenv.locals ∧ p.1 ∉ frs X.stack ∧ ∀ v, p.2.data ≠ .cell v) :
    Inv (blkL X s0 H0 scope cenv fp ps) [] σ H s :=
  { I with ok := { I.ok with }, pin := fun p z => hp p ((List.mem_append.mp z).elim (fun y => y) fun y => nomatch y) }
/-- the address of a new block's names -/
abbrev inner (X : Cx) (scope : Scope) (s : Shared) : Env := compEnvC scope (cellsFrom (s.heap.objs.size + 1) scope.names (cloFrom X.env.cells scope.names [])) s.heap.objs.size X.env
abbrev opened (scope : Scope) (s : Shared) : Shared := { s with heap := pushCells (s.heap.push { cls := .type "dict", data := .dict #[] }) scope.names }
theorem blk_in {scope : Scope} {own : List (Str × Nat)} {fp : List Addr} {ps : List (Addr × Obj)} (I : Inv X pins σ H s) (ok : BlkOk X.N X.env.scope scope own) (hN : X.N.Nodup) (hfp : ∀ b ∈ fp, FpOk X pins H b ∧ b < s.heap.objs.size) (hp : ∀ p ∈ ps, p ∈ X.pn) :
    Inv (blkL X s H scope (inner X scope s) fp ps) [] (wipe σ (own.map (·.2))) H (opened scope s) := by
  refine blk_pins (block_start I ok hN hfp) fun p z => ?_
  have q := I.pin p (List.mem_append_left _ (hp p z))
  refine ⟨pushCells_keeps _ _ _ _ (Heap.get?_push_of_some _ q.1), q.2.1, Nat.ne_of_lt (Heap.lt_size q.1), fun y => ?_, q.2.2.2.2⟩
  cases List.mem_cons.mp (I.stkSub _ y) with
  | inl e => exact q.2.2.1 e
  | inr e => exact q.2.2.2.1 e
/-- in a block the iterator's objects are free of all else -/
theorem blk_fp {scope : Scope} {cenv : Env} {fp : List Addr} {ps : List (Addr × Obj)} {s0 : Shared} {H0 : Hp} (off : ∀ p ∈ ps, ∀ b ∈ fp, p.1 ≠ b) {σ : L2.St} {H : Hp} {s : Shared} (I : Inv (blkL X s0 H0 scope cenv fp ps) [] σ H s) (hn : ∀ b ∈ fp, H b = none) : ∀ b ∈ fp, FpOk (blkL X s0 H0 scope cenv fp ps) [] H b := fun b hb => by
  have z := I.ok.exf b hb
  refine ⟨hn b hb, z.1, I.ok.exfs b hb, .inl hb, z.2, fun p y => ?_⟩
  exact off p ((List.mem_append.mp y).elim (fun y => y) fun y => nomatch y) b hb
/-- the block is left -/
theorem blk_out {scope : Scope} {cenv : Env} {fp : List Addr} {ps : List (Addr × Obj)} {s0 s' : Shared} {H0 H' : Hp} {τ : L2.St} (I : Inv X pins σ H0 s0) (f : ∀ b ∈ fp, FpOk X pins H0 b) (hc : cenv.locals = s0.heap.objs.size) (J : Inv (blkL X s0 H0 scope cenv fp ps) [] τ H' s') :
    Inv X pins σ H' s' ∧ (∃ m, s'.heap.Ns s0.heap.objs.size m) ∧ FpOk X pins H' s0.heap.objs.size := by
  refine ⟨I.call' (ch := fp) J.os J.base J.hok J.bare fun b hb => ?_, ?_, I.fpOk (Nat.le_refl _) (hc ▸ J.free)⟩
  · obtain ⟨_, z1, _, z3, z4, z5⟩ := f b hb
    exact ⟨z3, z1, z4, z5⟩
  · obtain ⟨m, z, _⟩ := J.loc
    exact ⟨m, hc ▸ z⟩
end
end FL
namespace FL
open PySem PySem.Spec PyProof.Rows L2
section
variable {X : Cx} {pins : List (Addr × Obj)} {σ : L2.St} {H : Hp} {s : Shared}
/-- an iterator gives itself when it is asked for one -/
abbrev Own (P : Program) (w : World) (it : Addr) (tn : Nat → Heap → Prop) : Prop := ∀ (A : Around) (i : Nat) (s : Shared) (Q E : Value → Shared → Prop), tn i s.heap → Q (.ref it) s → wpAny (model P w) A (pyIter (.ref it)) Q E s
/-- an iterator has come, and goes in any block that keeps ps -/
def Came (X : Cx) (pins : List (Addr × Obj)) (σ : L2.St) (tg : Expr) (ps : List (Addr × Obj)) (R : It → Hp → Prop) (itv : Value) (s2 : Shared) : Prop :=
  ∃ (it : Addr) (fp : List Addr) (tn : Nat → Heap → Prop) (J : It) (H2 : Hp), itv = .ref it ∧ Inv X pins σ H2 s2 ∧ (∀ s H scope ce, Goer (blkL X s H scope ce fp ps) tg J fp it tn) ∧ Own X.prog X.w it tn ∧ tn 0 s2.heap ∧ (∀ b ∈ fp, FpOk X pins H2 b) ∧ R J H2
theorem came_calm {tg : Expr} {R : It → Hp → Prop} {itv : Value} (hc : X.calm = true) : PIE X pins σ tg R itv s → Came X pins σ tg [] R itv s := fun ⟨it, fp, tn, J, H2, e, I, T, t, f, r⟩ =>
  ⟨it, fp, tn, J, H2, e, I, fun a b c d => ⟨T.obj, T.keep, fun I f t g => T.item (blkL X a b c d fp []) rfl rfl rfl hc _ _ _ _ _ _ I f t g, fun I f t g => T.done (blkL X a b c d fp []) rfl rfl rfl hc _ _ _ _ _ _ I f t g⟩, T.self, t, f, r⟩
theorem came_hot {tg : Expr} {R : It → Hp → Prop} {itv : Value} {p : Addr × Obj} (hp : L2H.Hot1 X.A p) : L2H.PIEH X pins σ tg R itv s → Came X pins σ tg [p] R itv s := fun ⟨it, fp, tn, J, H2, e, I, T, t, f, r⟩ =>
  have hb : ∀ s H scope ce, L2H.HotC (blkL X s H scope ce fp [p]) := fun _ _ _ _ => ⟨p, hp, List.mem_cons_self⟩
  ⟨it, fp, tn, J, H2, e, I, fun a b c d => ⟨T.obj, T.keep, fun I f t g => T.item (blkL X a b c d fp [p]) rfl rfl rfl (hb a b c d) _ _ _ _ _ _ I f t g, fun I f t g => T.done (blkL X a b c d fp [p]) rfl rfl rfl (hb a b c d) _ _ _ _ _ _ I f t g⟩, T.self, t, f, r⟩
/-- what a block's run leaves -/
def Left (B : Cx) (τ : L2.St) (Z : Hp → Prop) (r : Result) (s : Shared) : Prop := match r with
  | .ok _ => ∃ H, Inv B [] τ H s ∧ Z H
  | .error _ => False
/-- a comprehension from its source to its thing: what is left is the run of its block -/
theorem comp_run {e : Expr} {g0 : Comprehension} {gs : List Comprehension} {scope : Scope} {own : List (Str × Nat)} {ps : List (Addr × Obj)} {pos : Pos} {mk : Sem Value} {ho : Addr → HO} {use : Option (Value → Sem Unit)} {P : Value → Shared → Prop} {Q : VK} {R : It → Hp → Prop}
    (hcl : clausesOf e = g0 :: gs) (hs : ∀ x, foldedSetIterable g0.iter X.env x = pure x) (ok : BlkOk X.N X.env.scope scope own) (hN : X.N.Nodup) (hp : ∀ p ∈ ps, p ∈ X.pn) (I : Inv X pins σ H s)
    (source : wpAny (model X.prog X.w) X.A (eval g0.iter X.env) (fun v s1 => wpAny (model X.prog X.w) X.A (pyIter v) (Came X pins σ g0.target ps R) X.xe s1) X.xe s)
    (made : ∀ {H2 s2} {P : Value → Shared → Prop}, Inv X pins σ H2 s2 → (∀ s3, Stays s2.heap s3.heap → s2.heap.objs.size ≤ s3.heap.objs.size → Inv X pins σ (upd H2 s2.heap.objs.size (ho s2.heap.objs.size)) s3 → P (.ref s2.heap.objs.size) s3) → wpAny (model X.prog X.w) X.A mk P X.xe s2)
    (run : ∀ {J H2 D s3 fp it tn}, R J H2 → H2 D = none → Goer (blkL X s3 (upd H2 D (ho D)) scope (inner X scope s3) fp ps) g0.target J fp it tn → Own X.prog X.w it tn → tn 0 (opened scope s3).heap → (∀ b ∈ fp, upd H2 D (ho D) b = none) → (∀ p ∈ ps, ∀ b ∈ fp, p.1 ≠ b) →
      Inv (blkL X s3 (upd H2 D (ho D)) scope (inner X scope s3) fp ps) [] (wipe σ (own.map (·.2))) (upd H2 D (ho D)) (opened scope s3) →
      codeAny (model X.prog X.w) X.A (.compStart e 0 (.ref it) (.ref D) (inner X scope s3)) (Left (blkL X s3 (upd H2 D (ho D)) scope (inner X scope s3) fp ps) (wipe σ (own.map (·.2))) (Q (.ref D))) (opened scope s3))
    (out : ∀ {D C s' m H'}, Inv X pins σ H' s' → Q (.ref D) H' → s'.heap.Ns C m → FpOk X pins H' C → compPost (model X.prog X.w) X.A X.xe use P (.ref D) C (.ok .next) s') :
    wpAny (model X.prog X.w) X.A (comprehension e scope X.env pos mk false (eval g0.iter X.env) use) P X.xe s := by
  have caps : closureFor scope X.env = pure (cloFrom X.env.cells scope.names []) := closure_ok fun y hy z => I.ok.has y.1 (ok.free y hy z)
  refine wpAny_comprehension_free hcl hs caps ok.kind (fun y hy z => (ok.uniq y hy).trans (congrArg some z)) (thn source fun v s1 q1 => thn q1 fun itv s2 q2 => ?_)
  obtain ⟨it, fp, tn, J, H2, rfl, I2, G, own_it, t2, f2, r⟩ := q2
  refine made I2 fun s3 stay grow I3 => newEnv_comp ?_
  have olds : ∀ b ∈ fp, b < s2.heap.objs.size := fun b hb => (G s2 H2 scope X.env).obj _ _ t2 b hb |>.elim fun o z => Heap.lt_size z.1
  have frees : ∀ b ∈ fp, upd H2 s2.heap.objs.size (ho s2.heap.objs.size) b = none := fun b hb => (upd_ne (Nat.ne_of_lt (olds b hb))).trans (f2 b hb).1
  have f3 : ∀ b ∈ fp, FpOk X pins (upd H2 s2.heap.objs.size (ho s2.heap.objs.size)) b ∧ b < s3.heap.objs.size := fun b hb => ⟨⟨frees b hb, (f2 b hb).2⟩, Nat.lt_of_lt_of_le (olds b hb) grow⟩
  have t4 : tn 0 (opened scope s3).heap := (G s2 H2 scope X.env).keep _ _ _ t2 fun b _ o z => pushCells_keeps _ _ _ _ (Heap.get?_push_of_some _ (stay b o z))
  have inside := run r (I2.hok.fresh (Nat.le_refl _)) (G _ _ _ _) own_it t4 frees (fun p hq b hb => (f2 b hb).2.2.2.2.2 p (List.mem_append_left _ (hp p hq))) (blk_in I3 ok hN f3 hp)
  refine codeAny_mono inside fun res s' z => ?_
  cases res with
  | error x => exact z.elim
  | ok fl =>
    obtain ⟨H', J', q⟩ := z
    obtain ⟨I', ⟨m, hm⟩, fr⟩ := blk_out I3 (fun b hb => (f3 b hb).1) rfl J'
    have fin := out I' q hm fr
    cases use <;> exact fin
/-- a new list -/
theorem list_made {H2 : Hp} {s2 : Shared} {P : Value → Shared → Prop} (I : Inv X pins σ H2 s2) (h : ∀ s3, Stays s2.heap s3.heap → s2.heap.objs.size ≤ s3.heap.objs.size → Inv X pins σ (upd H2 s2.heap.objs.size (.lst [])) s3 → P (.ref s2.heap.objs.size) s3) :
    wpAny (model X.prog X.w) X.A (newList []) P X.xe s2 :=
  wpAny_newList (h { s2 with heap := _ } (fun b o z => Heap.get?_push_of_some _ z) (by rw [Heap.size_push]; omega)
    (I.laid (t' := s2.toks) (fun b o z => Heap.get?_push_of_some _ z) (Nat.le_refl _) ⟨Nat.zero_le _, [], 0, .nil, Heap.get?_push_size _ rfl⟩)) (Nat.zero_le _)
/-- a list comprehension of one clause, whatever is pinned -/
theorem lc_any {Q : VK} {elt tg iter : Expr} {ifs : List Expr} {scope : Scope} {own : List (Str × Nat)} {ps : List (Addr × Obj)} {pos pos' : Pos} {g : TG} {tt : TT} {te : TE} {use : Option (Value → Sem Unit)} {P : Value → Shared → Prop}
    (hp : ∀ p ∈ ps, p ∈ X.pn) (hN : X.N.Nodup) (I : Inv X pins σ H s) (ok : BlkOk X.N X.env.scope scope own) (hs : ∀ x, foldedSetIterable iter X.env x = pure x)
    (source : wpAny (model X.prog X.w) X.A (eval iter X.env) (fun v s1 => wpAny (model X.prog X.w) X.A (pyIter v) (Came X pins σ tg ps fun J H1 => ∀ D, H1 D = none → ∃ W : Nat → Nat → Hp → Prop, (∃ m, W 0 m (upd H1 D (.lst []))) ∧ ∀ i m H, W i m H →
      (J.stop i H ∧ Q (.ref D) H) ∨ (J.go i H ∧ ∃ Nx : Hp → Prop, (∀ H', Nx H' → ∃ m', m' < m ∧ W (i + 1) m' H') ∧ ∀ x H', J.yld i H x H' → g x (wipe σ (own.map (·.2))) H' fun σ2 H2 => wipe σ2 (own.map (·.2)) = wipe σ (own.map (·.2)) ∧ tt σ2 H2 fun b H3 =>
        if b = true then te σ2 H3 fun y H4 => ∃ acc, H4 D = some (.lst acc) ∧ acc.length < sizeLine ∧ Nx (upd H4 D (.lst (acc ++ [y]))) else Nx H3)) X.xe s1) X.xe s)
    (hg : ∀ s H C cl fp, PG (blkL X s H scope (compEnvC scope cl C X.env) fp ps) tg g) (ht : ∀ s H C cl fp, PTs (blkL X s H scope (compEnvC scope cl C X.env) fp ps) ifs tt) (he : ∀ s H C cl fp, PE (blkL X s H scope (compEnvC scope cl C X.env) fp ps) elt te)
    (out : ∀ {D C s' m H'}, Inv X pins σ H' s' → Q (.ref D) H' → s'.heap.Ns C m → FpOk X pins H' C → compPost (model X.prog X.w) X.A X.xe use P (.ref D) C (.ok .next) s') :
    wpAny (model X.prog X.w) X.A (comprehension (.ListComp elt [⟨tg, iter, ifs, 0⟩] scope pos) scope X.env pos' (newList []) false (eval iter X.env) use) P X.xe s := by
  refine comp_run (ho := fun _ => .lst []) (ps := ps) (g0 := ⟨tg, iter, ifs, 0⟩) (gs := []) rfl hs ok hN hp I source list_made (fun {J H2 D s3 fp it tn} r hD G self t fr off I4 => ?_) out
  obtain ⟨W, ⟨m0, w0⟩, rule⟩ := r D hD
  have elem := he s3 (upd H2 D (.lst [])) s3.heap.objs.size (cellsFrom (s3.heap.objs.size + 1) scope.names (cloFrom X.env.cells scope.names [])) fp
  have loop := compLoop_any (prog := X.prog) (w := X.w) (A := X.A) (elt := elt) (target := tg) (iter := iter) (ifs := ifs) (scope := scope) (pos := pos) (it := .ref it) (acc := .ref D) (env := inner X scope s3)
    (R := Left (blkL X s3 (upd H2 D (.lst [])) scope (inner X scope s3) fp ps) (wipe σ (own.map (·.2))) (Q (.ref D))) (Amid (blkL X s3 (upd H2 D (.lst [])) scope (inner X scope s3) fp ps) [] fp tn W (wipe σ (own.map (·.2))))
    (fun n s5 h5 => turn_once (B := blkL X s3 (upd H2 D (.lst [])) scope (inner X scope s3) fp ps) (vs := own.map (·.2)) (Z := Q (.ref D)) (Y := fun σ2 H3 Nx => te σ2 H3 fun y H4 => ∃ acc, H4 D = some (.lst acc) ∧ acc.length < sizeLine ∧ Nx (upd H4 D (.lst (acc ++ [y]))))
      (fun _ _ z => z) G (fun I5 n5 => blk_fp off I5 n5) (hg ..) (ht ..) (fun i H5 w5 => rule i n H5 w5) (fun {H6 _} I6 z => ⟨H6, I6, z⟩)
      (fun {pins' σ6 H6 s6 Nx} I6 e6 y6 on => wpAny_mono (elem.run _ _ _ _ _ I6 y6) (fun v s7 ⟨y, H7, I7, r7, acc, hd, hz, nx⟩ => app_ok (X := blkL X s3 (upd H2 D (.lst [])) scope (inner X scope s3) fp ps) I7 hd hz r7 fun s8 I8 => on I8 (.wiped e6) nx) fun _ _ z => z.elim) h5)
    m0 ⟨0, _, I4, t, fr, w0⟩
  exact codeAny_compStart_list loop (self X.A 0 _ _ _ t loop)
end
end FL
namespace FL
open PySem PySem.Spec PyProof.Rows L2 L2H _root_.HotX
section
variable {prog : Program} {w : World} {A : Around} {E : Value → Shared → Prop} {s : Shared}
/-- all of a list, by a walk that also asks for one more -/
theorem list_given {l x : Addr} {items : Array Value} {P : List Value → Shared → Prop} (hot : HotAt A x s.heap) (hl : s.heap.IsList l items) (h : ∀ g, Stays s.heap g → P items.toList { s with heap := g }) :
    wpAny (model prog w) A (unpackItems (.ref l) items.size none) P E s := by
  have lt : l < s.heap.objs.size := hl.elim fun _ q => Heap.lt_size q.1
  have nl := Nat.ne_of_lt lt
  have nx := Nat.ne_of_lt (hot_lt hot)
  have more : ∀ g, g.IsListIter s.heap.objs.size l items.size → StaysBut s.heap.objs.size (s.heap.push { cls := .type "list_iterator", data := .fields #[.ref l, .int 0 0] }) g →
      wpAny (model prog w) A (pyNext (.ref s.heap.objs.size)) (fun r s' => r = none ∧ ∃ g', Stays s.heap g' ∧ s' = { s with heap := g' }) E { s with heap := g } := fun g it k =>
    have old : ∀ b o, s.heap.get? b = some o → g.get? b = some o := fun b o q => k b o (Nat.ne_of_lt (Heap.lt_size q)) (Heap.get?_push_of_some _ q)
    list_out (s := { s with heap := g }) (hot_moved hot (old x)) nx it (hl.elim fun o q => ⟨o, old _ _ q.1, q.2⟩) (Nat.le_refl _) fun g' k' => ⟨rfl, g', fun b o q => k' b o (Nat.ne_of_lt (Heap.lt_size q)) (old b o q), rfl⟩
  unfold unpackItems notIterableAtAll
  apply wpAny_bind; apply wpAny_bind; apply wpAny_specialOf hl.typeIs slot_list_iter.lookup
  apply wpAny_pure
  rw [if_neg Bool.false_ne_true]
  apply wpAny_bind; apply wpAny_holding; apply wpAny_pyIter_list hl
  apply wpAny_bind; apply wpAny_holding
  refine PySem.W.kun_draw nl items.size 0 _ _ ⟨_, Heap.get?_push_size _ rfl, rfl, rfl⟩ (hl.push _) (Nat.le_of_eq (Nat.zero_add _)) fun g it k => ?_
  have whole : (items.toList.drop 0).take items.size = items.toList := List.take_of_length_le (Nat.le_of_eq Array.length_toList)
  rw [whole, if_neg (by simp)]
  apply wpAny_bind; apply wpAny_holding
  refine wpAny_mono (more g (by simpa using it) k.extBut) (fun r s' q => ?_) fun _ _ q => q
  obtain ⟨rfl, g', k', rfl⟩ := q
  exact wpAny_pure (h g' k')
end
section
variable {X : Cx} {pos : Pos}
theorem pg_unlH {es : List Expr} {k n : Nat} {t : TGs} (hc : HotC X) (h : PGs X es t) (hn : (assignEach es X.env).length = n := by rfl) (hst : (assignEach es X.env).findIdx? (·.1) = none := by rfl) : PG X (.Tuple es k pos) (gUnl X.K n t) where
  run pins s σ H v u Q I r hw := by
    obtain ⟨l, xs, rfl, hq, len, rest⟩ := hw
    obtain ⟨its, rv, ⟨o, m, e, c, d, q⟩, _⟩ := I.list hq
    obtain ⟨x, hot⟩ := hc.at I
    have sz : n = its.toArray.size := by rw [List.size_toArray, ← len]; exact rv.length
    cases r
    have take : wpAny (model X.prog X.w) X.A (unpack (.ref l) (assignEach es X.env)) (fun _ s' => ∃ σ' H', Inv X pins σ' H' s' ∧ Q σ' H') X.xe s := by
      unfold unpack
      rw [hst, hn, sz]
      exact wpAny_bind (wpAny_holding (list_given hot ⟨o, e, c, m, q⟩ fun g k => h.run pins _ σ H xs its Q (I.kept (t' := s.toks) k) rv rest))
    rw [PyProof.Rows.assign_Tuple]
    exact wpAny_bind (wpAny_standAt take)
/-- how a list goes, item by item, where an error is handled -/
theorem list_goesH {P : Program} {w : World} {K : PySem.W.Frag} {tg : Expr} {l it : Addr} : TurnH P w K tg (Itl K l) [it] it (fun i h => h.IsListIter it l i) where
  mem := List.mem_singleton.mpr rfl
  obj i h t b hb := by
    obtain ⟨o, e, _, d⟩ := t
    cases List.mem_singleton.mp hb
    exact ⟨o, e, fun v z => Data.noConfusion (d.symm.trans z)⟩
  keep i h h' t k := t.elim fun o q => ⟨o, k it (List.mem_singleton.mpr rfl) o q.1, q.2⟩
  item X hP hw hK _ i pins s σ H E I f t g := by
    cases hP; cases hw; cases hK
    obtain ⟨xs, y, hq, hy⟩ := g
    obtain ⟨its, rv, pl, _⟩ := I.list hq
    obtain ⟨u, hu, ru⟩ := rv.get hy
    have fi := f it (List.mem_singleton.mpr rfl)
    refine wpAny_pyNext_list_item t pl.isList (x := u) (by rw [List.getElem?_toArray]; exact hu) fun g t' k => ⟨u, rfl, ?_⟩
    have I' : Inv X pins σ H { s with heap := g } := I.turnedL (t' := s.toks) (ch := [it]) (fun b o nb q => k.extBut b o (fun z => nb (List.mem_singleton.mpr z)) q) f
    have here := t'
    obtain ⟨o, e, c, d⟩ := here
    refine go_of e c d (by decide) ⟨y, H, I', ru, ⟨rfl, fun ys hys => ?_⟩, t', fun b hb => (f b hb).1⟩
    rw [I.list_inj hys hq]
    exact hy
  done X hP hw hK hc i pins s σ H E I f t g := by
    cases hP; cases hw; cases hK
    obtain ⟨xs, hq, hi⟩ := g
    obtain ⟨its, rv, pl, _⟩ := I.list hq
    obtain ⟨p, h1, hp⟩ := hc
    have pin := (I.pin p (List.mem_append_left _ hp)).1
    obtain ⟨hh, vs, d, c⟩ := h1
    refine list_out ⟨hh, p.2, vs, pin, d, c⟩ ((f it (List.mem_singleton.mpr rfl)).2.2.2.2.2 p (List.mem_append_left _ hp)) t pl.isList (by rw [List.size_toArray, ← rv.length]; exact hi) fun g k => ⟨rfl, ?_⟩
    exact I.turnedL (t' := s.toks) (ch := [it]) (fun b o nb q => k b o (fun z => nb (List.mem_singleton.mpr z)) q) f
  self _ _ _ _ _ t h := wpAny_pyIter_listiter t h
theorem pi_listH {tg l : Expr} {tl : TE} (hl : PE X l tl) : PIH X tg l (iList X.K tl) where
  run pins s σ H R I h := by
    refine thn (hl.run pins s σ H _ I h) fun v s1 q => ?_
    obtain ⟨_, H1, I1, r1, a, rfl, ⟨xs, hq⟩, q⟩ := q
    cases r1
    obtain ⟨its, _, pl, _⟩ := I1.list hq
    refine wpAny_pyIter_list pl.isList ?_
    refine ⟨_, [s1.heap.objs.size], _, _, H1, rfl, I1.kept (t' := s1.toks) fun b o e => Heap.get?_push_of_some _ e, list_goesH, ⟨_, Heap.get?_push_size _ rfl, rfl, rfl⟩, fun b hb => ?_, q⟩
    cases List.mem_singleton.mp hb
    exact I1.fpOk (Nat.le_refl _) (I1.hok.fresh (Nat.le_refl _))
/-- a block's context that still bears the handled error -/
abbrev blkP (X : Cx) (s : Shared) (H : Hp) (scope : Scope) (cenv : Env) (fp : List Addr) (p : Addr × Obj) : Cx := blkL X s H scope cenv fp [p]
theorem HotC.blkP {s : Shared} {H : Hp} {scope : Scope} {cenv : Env} {fp : List Addr} {p : Addr × Obj} (h : Hot1 X.A p) : HotC (blkP X s H scope cenv fp p) := ⟨p, h, List.mem_cons_self⟩
/-- a def's local gets a list that a comprehension makes, where an error is handled -/
theorem ps_setLcH {i : Nat} {y : Str} {py : Pos} {elt tg iter : Expr} {ifs : List Expr} {scope : Scope} {own : List (Str × Nat)} {pos spos : Pos} {wi : TI} {g : TG} {tt : TT} {te : TE} (hc : HotC X) (hN : X.N.Nodup) (hy : X.N[i]? = some y) (hyl : X.env.scope.names.lookup y = some .local)
    (hsw : swapsWith (.ListComp elt [⟨tg, iter, ifs, 0⟩] scope pos) (some (.Name y py)) spos.line X.env = pure true) (hi : PIH X tg iter wi) (ok : BlkOk X.N X.env.scope scope own)
    (hg : ∀ s H C cl fp p, Hot1 X.A p → PG (blkP X s H scope (compEnvC scope cl C X.env) fp p) tg g) (ht : ∀ s H C cl fp p, Hot1 X.A p → PTs (blkP X s H scope (compEnvC scope cl C X.env) fp p) ifs tt)
    (he : ∀ s H C cl fp p, Hot1 X.A p → PE (blkP X s H scope (compEnvC scope cl C X.env) fp p) elt te) (hs : ∀ x, foldedSetIterable iter X.env x = pure x := by intro _; rfl) :
    PS X (.Assign [.Name y py] (.ListComp elt [⟨tg, iter, ifs, 0⟩] scope pos) spos) (tAsg (tLc wi g tt te (own.map (·.2))) (gName i)) where
  run pins s σ H D I h := by
    obtain ⟨p, h1, hp⟩ := hc
    rw [exec_Assign_Name_used _ _ _ _ hsw]
    have all := lc_any (X := X) (pos := pos) (pos' := firstIterPos [⟨tg, iter, ifs, 0⟩] pos) (use := some (assign (.Name y py) X.env)) (P := fun _ s' => SP X pins D .next s') (Q := fun x H1 => gName i x σ H1 D.nx) (ps := [p]) (own := own)
      (fun q z => (List.mem_singleton.mp z) ▸ hp) hN I ok hs (thn (hi.run pins s σ H _ I h) fun v s1 q => thn q fun itv s2 q2 => came_hot h1 q2)
      (fun s H C cl fp => hg s H C cl fp p h1) (fun s H C cl fp => ht s H C cl fp p h1) (fun s H C cl fp => he s H C cl fp p h1) fun {L C s' m H'} I' q hm f => ?_
    · apply wpAny_bind; apply wpAny_standAt; apply wpAny_bind
      exact wpAny_bind (wpAny_mono all (fun _ s' z => wpAny_pure (wpAny_pure z)) fun _ _ z => z)
    · refine wpAny_assign_Name (store_ok2 (v := V.ref L) I' hN hy (.inl hyl) rfl (fun s2 I2 ⟨a, sb, ha⟩ => ?_) (.inr hyl))
      have apart : C ≠ a := fun e => ha.elim (fun z => f.2.1 (e.trans z)) fun z => f.2.2.2.2.1 y a z e.symm
      refine ⟨m, hm.sameBut sb apart, fun g k => ⟨_, H', ?_, q⟩⟩
      exact I2.turnedL (t' := s2.toks) (ch := [C]) (fun b o nb e => k.extBut b o (fun z => nb (List.mem_singleton.mpr z)) e) fun b hb => (List.mem_singleton.mp hb) ▸ f
end
end FL
/-! FL66: where an error is handled: name = [.. for .. in a list], on one line; a list taken apart. -/
namespace FL
open PySem PySem.Spec PyProof.Rows L2
def lstI (f : EF) : IF := fun ρ => (f ρ).bind fun d ρ => match d with
  | .lst xs => .ok xs ρ
  | _ => .stuck
def unlG (n : Nat) (h : GFs) : GF := fun d ρ => match d with
  | .lst ds => if ds.length = n then h ds ρ else none
  | _ => none
section
variable [FE]
variable {X : Cx} {x0 : EId} {π : Nat → Addr} {W : WX} {tg e : Expr} {pos : Pos}
theorem HotX.hotC (h : HotX X x0) : L2H.HotC X := by
  obtain ⟨oe, hh, hp, hz, vs, hv⟩ := h.ex
  exact ⟨(x0.a, oe), ⟨hh, vs, hv, hz.2.2 vs hv⟩, hp⟩
theorem fi_listH {f : EF} (he : PE X e (tE X.K π W f)) : L2H.PIH X tg e (tI X.K π W (lstI f)) := by
  refine ⟨fun pins s σ H R I h => (pi_listH he).run pins s σ H R I ?_⟩
  obtain ⟨c, F, ρ, S, P⟩ := h
  refine ⟨c, F, ρ, S, ?_⟩
  unfold lstI at P
  cases ef : f ρ with
  | stuck => rw [ef] at P; exact P.elim
  | exc C fs ρ1 => rw [ef] at P; exact P
  | ok d ρ1 =>
    rw [ef] at P
    cases d <;> first | (exact P.elim) | skip
    intro v F1 H1 s1 S1 r1
    cases r1 with
    | @lst q vs _ h1 r1 => exact ⟨q, rfl, ⟨vs, SqL.of (S1.f _ _ h1)⟩, P _ F1 H1 s1 S1 (wk_listL (SqL.of h1) r1)⟩
theorem fg_unlH {es : List Expr} {k : Nat} {h : GFs} {n : Nat} (hc : L2H.HotC X) {ns : List Nat} (hh : PGs X es (tGts X.K π ns h)) (hn : (assignEach es X.env).length = n := by rfl) (hst : (assignEach es X.env).findIdx? (·.1) = none := by rfl) : PG X (.Tuple es k pos) (tGt X.K π ns (unlG n h)) := by
  refine ⟨fun pins s σ H v u Q I r ⟨c, F, ρ, d, S, rd, P⟩ => ?_⟩
  cases rd with
  | @lst a xs ds h1 r1 =>
    have P : PoG X.K π ns c F σ Q (if ds.length = n then h ds ρ else none) := P
    split at P
    · rename_i hl
      exact (pg_unlH hc hh hn hst).run pins s σ H _ u Q I r ⟨a, xs, rfl, SqL.of (S.f _ _ h1), by rw [Reps.length r1]; exact hl, c, F, ρ, ds, S, r1, P⟩
    · exact P.elim
  | _ => exact P.elim
theorem fs_setLcH {i : Nat} {y : Str} {py : Pos} {elt iter : Expr} {ifs : List Expr} {scope : Scope} {own : List (Str × Nat)} {pos spos : Pos} {it : IF} {g : GF} {t : TF} {f : EF} {ns : List Nat} (hx : HotX X x0) (hN : X.N.Nodup) (hy : X.N[i]? = some y) (hyl : X.env.scope.names.lookup y = some .local)
    (hsw : swapsWith (.ListComp elt [⟨tg, iter, ifs, 0⟩] scope pos) (some (.Name y py)) spos.line X.env = pure true) (hi : L2H.PIH X tg iter (tI X.K π W it)) (ok : BlkOk X.N X.env.scope scope own)
    (hg : ∀ (s : Shared) (H : Hp) (C : Addr) (cl : List (Str × Addr)) (fp : List Addr) (p : Addr × Obj), L2H.Hot1 X.A p → PG (blkP X s H scope (compEnvC scope cl C X.env) fp p) tg (tGt X.K π ns g))
    (ht : ∀ (s : Shared) (H : Hp) (C : Addr) (cl : List (Str × Addr)) (fp : List Addr) (p : Addr × Obj), L2H.Hot1 X.A p → PTs (blkP X s H scope (compEnvC scope cl C X.env) fp p) ifs (tT X.K π W0 t))
    (he : ∀ (s : Shared) (H : Hp) (C : Addr) (cl : List (Str × Addr)) (fp : List Addr) (p : Addr × Obj), L2H.Hot1 X.A p → PE (blkP X s H scope (compEnvC scope cl C X.env) fp p) elt (tE X.K π W0 f))
    (hns : ∀ j ∈ ns, j ∈ own.map (·.2)) (hs : ∀ x, foldedSetIterable iter X.env x = pure x := by intro _; rfl) : PS X (.Assign [.Name y py] (.ListComp elt [⟨tg, iter, ifs, 0⟩] scope pos) spos) (tS X.K π W (setS i (frz (cmpM (own.map (·.2)) it g t f)))) :=
  PS.imp (ps_setLcH hx.hotC hN hy hyl hsw hi ok hg ht he (hs := hs)) fun D σ H ⟨c, F, ρ, h0, S, P⟩ => by
    refine rd_lc hns (rd_frz (pos_bind S P fun v F1 H1 ρ1 d s1 S1 r1 P1 => ?_))
    unfold setR at P1
    split at P1
    · rename_i hl
      exact P1 _ F1 H1 (Same.refl _) (S1.set hl r1)
    · exact P1.elim
end
end FL
/-! FL67: isinstance(e, (A, B)) of a caught error, told without classes. -/
namespace FL
open PySem PySem.Spec PyProof.Rows L2
def isxTD (x0 : EId) (ct : CT) (m1 m2 : Str) : D → Option D
  | .exc x _ => if x = x0 then (ct.lookup x.C).map fun p => .bl (p.1.contains m1 || p.1.contains m2) else none
  | _ => none
def isxT (x0 : EId) (ct : CT) (m1 m2 : Str) (f : EF) : EF := op1 (isxTD x0 ct m1 m2) f
section
variable [FE]
variable {X : Cx} {x0 : EId} {π : Nat → Addr} {W : WX}
theorem isxT_eq {ct : CT} {m1 m2 : Str} {f : EF} : opC (isxTC x0 ct m1 m2) (cnsA f (cnsA (dTup (cnsA (cst (.fn (FE.cl m1))) (cnsA (cst (.fn (FE.cl m2))) nilA))) nilA)) = isxT x0 ct m1 m2 f := by
  funext ρ
  show _ = (f ρ).bind fun x ρ => R.of (isxTD x0 ct m1 m2 x) ρ
  unfold opC cnsA
  cases f ρ with
  | stuck => rfl
  | exc C fs ρ1 => rfl
  | ok d ρ1 =>
    show R.of (isxTC x0 ct m1 m2 [d, .tup [.fn (FE.cl m1), .fn (FE.cl m2)]]) ρ1 = R.of (isxTD x0 ct m1 m2 d) ρ1
    cases d <;> first | rfl | skip
    unfold isxTC isxTD
    simp
theorem fe_isxT {ct : CT} {tests : List Str} {bb : List (Str × String)} {m1 m2 : Str} {f : EF} {a : Expr} {kt : Nat} {p p1 p2 p3 pos : Pos} (hx : HotX X x0) (T : ClsT X.K ct tests bb) (hk : ∃ v, ct.lookup x0.C = some v) (h1 : m1 ∈ tests) (h2 : m2 ∈ tests) (b1 : bb.lookup m1 = none) (b2 : bb.lookup m2 = none)
    (hg : Gl X "isinstance") (hmi : X.mg "isinstance" = none) (g1 : Gl X m1) (k1 : X.mg m1 = some (.ref (FE.cl m1))) (g2 : Gl X m2) (k2 : X.mg m2 = some (.ref (FE.cl m2))) (ha : PE X a (tE X.K π W f)) (d1 : (m1 == ("__debug__" : Str)) = false := by decide) (d2 : (m2 == ("__debug__" : Str)) = false := by decide)
    (he : starEach [a, .Tuple [.Name m1 p1, .Name m2 p2] kt p3] X.env = (false, eval a X.env) :: starEach [.Tuple [.Name m1 p1, .Name m2 p2] kt p3] X.env := by rfl)
    (hpl : (backTo pos (starEach [.Tuple [.Name m1 p1, .Name m2 p2] kt p3] X.env)).any (·.1) = false := by rfl) :
    PE X (.Call (.Name "isinstance" p) [a, .Tuple [.Name m1 p1, .Name m2 p2] kt p3] [] pos) (tE X.K π W (isxT x0 ct m1 m2 f)) := by
  rw [← isxT_eq]
  exact fe_callB (q_isxT T h1 h2 b1 b2) (call_isxT hx (hk.elim fun _ hv => T.i _ _ hv)) hg hmi (by decide +kernel) (fa_cons ha (fa_cons (fe_tup (fa_cons (fe_gfn g1 k1 d1) (fa_cons (fe_gfn g2 k2 d2) fa_nil))) fa_nil) he) (by decide) (by decide) he hpl
end
end FL
/-! FL68: isinstance(e, (A, B)) worked out. -/
namespace FL
open PySem PySem.Spec PyProof.Rows L2
def isxTK (x0 : EId) (ct : CT) (m1 m2 : Str) (v : D) (ρ : Rho) : R D := R.of (isxTD x0 ct m1 m2 v) ρ
theorem isxT_eqK (x0 : EId) (ct : CT) (m1 m2 : Str) (f : EF) (ρ : Rho) : isxT x0 ct m1 m2 f ρ = (f ρ).bind (isxTK x0 ct m1 m2) := rfl
theorem isxTK_own {a : Addr} {d : Option Addr} {C : Str} {ct : CT} {m1 m2 : Str} {fs : List (Str × D)} {ρ : Rho} (h : (ct.lookup C).isSome = true) : isxTK ⟨a, d, C⟩ ct m1 m2 (.exc ⟨a, d, C⟩ fs) ρ = .ok (.bl (isb ct C m1 || isb ct C m2)) ρ := by
  unfold isxTK isxTD isb
  dsimp only
  rw [if_pos rfl]
  cases e : ct.lookup C with
  | none => rw [e] at h; cases h
  | some p => rfl
end FL
/-! FL69: for .. in d.values(), d data. -/
namespace FL
open PySem PySem.Spec PyProof.Rows L2
section
variable [FE]
variable {X : Cx} {π : Nat → Addr} {W : WX} {e tg : Expr} {apos cpos : Pos}
end
end FL
/-! FL70: dict([(k, v), ..]), a new dict. -/
namespace FL
open PySem PySem.Spec PyProof.Rows L2
def pairsD : List D → Option (List (Key × D))
  | [] => some []
  | .tup [k, v] :: ds => (keyD k).bind fun key => (pairsD ds).map ((key, v) :: ·)
  | _ :: _ => none
def foldD (acc : List (Key × D)) (kvs : List (Key × D)) : List (Key × D) := kvs.foldl (fun a kv => putD a kv.1 kv.2) acc
def dicM (g : Rho → R (List D)) : Rho → R M := fun ρ => (g ρ).bind fun ds ρ => match ds with
  | [.lst xs] => (match pairsD xs with
    | some kvs => .ok (.dct (foldD [] kvs)) ρ
    | none => .stuck)
  | _ => .stuck
section
variable {K : PySem.W.Frag} {F : Hp}
theorem pairs_rep : ∀ {xs : List D} {vs : List V} {kvs : List (Key × D)}, Reps K F vs xs → pairsD xs = some kvs → ∃ (ps : List Addr) (kv : List (Key × V)), vs = ps.map V.ref ∧ Paired (fun p e => SqT K F p [kV e.1, e.2]) ps kv ∧ Paired (fun a b => a.1 = b.1 ∧ Rep K F a.2 b.2) kv kvs
  | [], _, _, .nil, e => by
    cases e
    exact ⟨[], [], rfl, .nil, .nil⟩
  | x :: xs, _, kvs, .cons r rs, e => by
    unfold pairsD at e
    split at e
    · rename_i h
      cases h
    · rename_i k v ds h
      cases h
      obtain ⟨key, ek, e⟩ := Option.bind_eq_some_iff.mp e
      obtain ⟨rest, er, rfl⟩ := Option.map_eq_some_iff.mp e
      obtain ⟨ps, kv, rfl, a, b⟩ := pairs_rep rs er
      cases r with
      | @tup p us _ hp hr =>
        cases hr with
        | cons r1 hr =>
          cases hr with
          | cons r2 hr =>
            cases hr
            cases keyD_rep r1 ek
            exact ⟨p :: ps, (key, _) :: kv, rfl, .cons hp a, .cons ⟨rfl, r2⟩ b⟩
    · cases e
theorem fold_rep : ∀ {kv : List (Key × V)} {kvs : List (Key × D)} {av : List (Key × V)} {ad : List (Key × D)}, Paired (fun a b => a.1 = b.1 ∧ Rep K F a.2 b.2) kv kvs → KvR K F av ad → KvR K F (mergeK av kv) (foldD ad kvs)
  | _, _, _, _, .nil, h => h
  | _, _, _, _, .cons (a := a) (b := b) hab t, h => by
    have z := h.put a.1 hab.2
    have y := fold_rep t z
    rw [hab.1] at y
    unfold mergeK foldD
    rw [List.foldl_cons, List.foldl_cons, hab.1]
    exact y
end
section
variable [FE]
variable {X : Cx} {π : Nat → Addr} {W : WX} {e : Expr} {es : List Expr} {pos p : Pos} {x : Str}
theorem fm_dic {g : Rho → R (List D)} (hc : X.calm = true) (hg : Gl X x) (hm : X.mg x = none) (hv : bootBuiltins x = some (.type "dict")) (ha : PA X (e :: es) (tA X.K π W g)) (hn : x ≠ "__name__" := by decide) (hd : (x == ("__debug__" : Str)) = false := by decide)
    (h1 : starEach (e :: es) X.env = (false, eval e X.env) :: starEach es X.env := by rfl) (h2 : (backTo pos (starEach es X.env)).any (·.1) = false := by rfl) : PE X (.Call (.Name x p) (e :: es) [] pos) (tM X.K π W (dicM g)) :=
  PE.imp (pe_callTy (call_dictP hc) hg hm hv ha hn hd h1 h2) fun σ H Q ⟨c, F, ρ, S, P⟩ => by
    refine po_bind S P fun vs F1 H1 ρ1 ds s1 S1 r1 P1 => ?_
    split at P1
    · rename_i xs
      cases ep : pairsD xs with
      | none => rw [ep] at P1; exact P1.elim
      | some kvs =>
        rw [ep] at P1
        obtain ⟨v, rfl, rv⟩ := Reps.one r1
        cases rv with
        | @lst a us _ ha hr =>
          obtain ⟨ps, kv, rfl, hp, hk⟩ := pairs_rep hr ep
          refine ⟨a, ps, kv, rfl, SqL.of (S1.f _ _ ha), ?_, fun q hq => ?_⟩
          · exact Paired.mapP hp fun b u z => sm_tup S1.f z
          · have z := fold_rep hk KvR.nil
            have gr := Grw.newO (o := .dK (mergeK [] kv)) S1.f hq
            obtain ⟨f1, f2, f3⟩ := S1.fresh hq
            exact P1 (.ref q) F1 _ (Same.refl _) (S1.grow gr) ⟨q, rfl, f1, f2, f3, _, upd_same, z.1, z.2⟩
    · exact P1.elim
end
end FL
/-! FL71: {x: .. for ..} with tuples as keys, wherever they stand (written ones too): a thing of our own, told by its entries. -/
namespace FL
open PySem PySem.Spec PyProof.Rows L2
theorem dto_is {P : Program} {w : World} {H : Hp} {h : Heap} {a : Addr} {xs : List Ent} (l : xs.length ≤ sizeLine) (m : (a == sysModules) = false) (t : DTt P w a xs h) : ObjOk P w H h a (DTo P w a xs) := by
  refine ⟨⟨l, m, t⟩, t.elim fun o q => q.elim fun _ q => q.elim fun _ q => ⟨o, q.1⟩, fun h1 h2 q k => ⟨q.1, q.2.1, ?_⟩⟩
  obtain ⟨_, _, o, es, ep, e, r⟩ := q
  exact ⟨o, es, ep, k o e, r⟩
/-- each key stands where it is told -/
abbrev Keyed (K : PySem.W.Frag) (H : Hp) (xs : List Ent) : Prop := ∀ e ∈ xs, SqT K H e.2.1 (e.1.map kV)
section
variable {X : Cx} {pins : List (Addr × Obj)} {σ : L2.St} {H : Hp} {s : Shared}
theorem dto_at {D : Addr} {xs : List Ent} (I : Inv X pins σ H s) (hD : H D = some (DTo X.prog X.w D xs)) : xs.length ≤ sizeLine ∧ (D == sysModules) = false ∧ DTt X.prog X.w D xs s.heap := by
  have z : ObjOk X.prog X.w H s.heap D (.ext fun h => xs.length ≤ sizeLine ∧ (D == sysModules) = false ∧ DTt X.prog X.w D xs h) := I.hok D _ hD
  exact z.1
/-- a tuple, as a key -/
theorem key_here {b : Addr} {k : List Key} (I : Inv X pins σ H s) (hb : SqT X.K H b (k.map kV)) : (tupleKind (mixKind X.prog X.w)).is s.heap k b := by
  obtain ⟨its, r, ⟨o, e, c, n, d⟩, _⟩ := I.tuple hb
  exact ⟨o, its.toArray, n, e, c, d, (List.toList_toArray (as := its)).symm ▸ items_are r⟩
/-- one more entry, or another value -/
theorem dto_set {A : Around} {E : Value → Shared → Prop} {D b : Addr} {xs : List Ent} {k : List Key} {r : Value} {Q : Unit → Shared → Prop} (hu : A.units < cLine) (I : Inv X pins σ H s) (hD : H D = some (DTo X.prog X.w D xs)) (hx : Keyed X.K H xs) (hb : SqT X.K H b (k.map kV)) (hz : xs.length < sizeLine)
    (h : ∀ s', Inv X pins σ (upd H D (DTo X.prog X.w D (storedH xs k b r))) s' → Q () s') : wpAny (model X.prog X.w) A (dictSet D (.ref b) r) Q E s := by
  obtain ⟨z, lo, o, es, ep, e, x, d, all, nd⟩ := dto_at I hD
  refine wpAny_dictSet_heap (hsz := z) (knd := tupleKind (mixKind X.prog X.w)) hu (key_here I hb) ⟨o, es, ep, e, x, d, all, fun y hy => key_here I (hx y hy), nd⟩ fun h' dd sb => ?_
  obtain ⟨o', es', ep', e', x', d', all', _, nd'⟩ := dd
  refine h _ (d_write I (by rw [hD]; trivial) sb ⟨o', e'⟩ (dto_is (Nat.le_trans (storedH_length' xs k b r) hz) lo ⟨o', es', ep', e', x', d', all', nd'⟩))
where
  storedH_length' (xs : List Ent) (k : List Key) (a : Addr) (v : Value) : (storedH xs k a v).length ≤ xs.length + 1 := by
    unfold storedH
    split
    · rw [List.length_map]
      exact Nat.le_succ _
    · rw [List.length_append]
      exact Nat.le_refl _
/-- a new one -/
theorem dto_made {H2 : Hp} {s2 : Shared} {P : Value → Shared → Prop} (I : Inv X pins σ H2 s2) (h : ∀ s3, Stays s2.heap s3.heap → s2.heap.objs.size ≤ s3.heap.objs.size → Inv X pins σ (upd H2 s2.heap.objs.size (DTo X.prog X.w s2.heap.objs.size [])) s3 → P (.ref s2.heap.objs.size) s3) :
    wpAny (model X.prog X.w) X.A newDict P X.xe s2 :=
  wpAny_newObj_type (h { s2 with heap := _ } (fun b o z => Heap.get?_push_of_some _ z) (by rw [Heap.size_push]; omega)
    (I.laid (t' := s2.toks) (fun b o z => Heap.get?_push_of_some _ z) (Nat.le_refl _) (dto_is (Nat.zero_le _) (beq_eq_false_iff_ne.mpr (Nat.ne_of_gt I.big)) ⟨_, #[], 0, Heap.get?_push_size _ rfl, ⟨rfl, rfl, rfl⟩, rfl, rfl, List.nodup_nil⟩)))
/-- what a turn asks of key and value -/
def DPx (X : Cx) (D : Addr) (y : V) (H : Hp) (Nx : Hp → Prop) : Prop := ∃ (xs : List Ent) (k : List Key) (b : Addr), y = .ref b ∧ H D = some (DTo X.prog X.w D xs) ∧ Keyed X.K H xs ∧ SqT X.K H b (k.map kV) ∧ xs.length < sizeLine ∧ ∀ r : Value, Nx (upd H D (DTo X.prog X.w D (storedH xs k b r)))
def tDcX (X : Cx) (wi : TI) (g : TG) (tt : TT) (tk tv : TE) (vs : List Nat) : TE := fun σ H Q => wi σ H fun J H1 => ∀ D, H1 D = none → ∃ W : Nat → Nat → Hp → Prop, (∃ m, W 0 m (upd H1 D (DTo X.prog X.w D []))) ∧ ∀ i m H, W i m H →
  (J.stop i H ∧ Q (.ref D) H) ∨ (J.go i H ∧ ∃ Nx : Hp → Prop, (∀ K, Nx K → ∃ k, k < m ∧ W (i + 1) k K) ∧
    ∀ x H1, J.yld i H x H1 → g x (wipe σ vs) H1 fun σ2 H2 => wipe σ2 vs = wipe σ vs ∧ tt σ2 H2 fun b H3 =>
    if b = true then tk σ2 H3 fun y H4 => tv σ2 H4 fun _ H5 => DPx X D y H5 Nx else Nx H3)
theorem pe_dcX {kx vx tg iter : Expr} {ifs : List Expr} {scope : Scope} {own : List (Str × Nat)} {pos : Pos} {wi : TI} {g : TG} {tt : TT} {tk tv : TE} (hc : X.calm = true) (hu : X.A.units < cLine) (hN : X.N.Nodup) (hi : PI X tg iter wi) (ok : BlkOk X.N X.env.scope scope own)
    (hg : ∀ s H C cl fp, PG (blkL X s H scope (compEnvC scope cl C X.env) fp []) tg g) (ht : ∀ s H C cl fp, PTs (blkL X s H scope (compEnvC scope cl C X.env) fp []) ifs tt)
    (hk : ∀ s H C cl fp, PE (blkL X s H scope (compEnvC scope cl C X.env) fp []) kx tk) (he : ∀ s H C cl fp, PE (blkL X s H scope (compEnvC scope cl C X.env) fp []) vx tv) (hs : ∀ x, foldedSetIterable iter X.env x = pure x := by intro _; rfl) :
    PE X (.DictComp kx vx [⟨tg, iter, ifs, 0⟩] scope pos) (tDcX X wi g tt tk tv (own.map (·.2))) where
  run pins s σ H Q I h := by
    rw [arm_eval_DictComp]
    refine comp_run (ho := fun D => DTo X.prog X.w D []) (ps := []) (Q := Q) (g0 := ⟨tg, iter, ifs, 0⟩) (gs := []) rfl hs ok hN (fun _ z => nomatch z) I (thn (hi.run pins s σ H _ I h) fun v s1 q => thn q fun itv s2 q2 => came_calm hc q2) dto_made
      (fun {J H2 D s3 fp it tn} r hD G self t fr off I4 => ?_) fun {D C s' m H'} I' q hm f => ⟨m, hm, fun g k => ⟨.ref D, H', ?_, rfl, q⟩⟩
    · obtain ⟨W, ⟨m0, w0⟩, rule⟩ := r D hD
      have key := hk s3 (upd H2 D (DTo X.prog X.w D [])) s3.heap.objs.size (cellsFrom (s3.heap.objs.size + 1) scope.names (cloFrom X.env.cells scope.names [])) fp
      have val := he s3 (upd H2 D (DTo X.prog X.w D [])) s3.heap.objs.size (cellsFrom (s3.heap.objs.size + 1) scope.names (cloFrom X.env.cells scope.names [])) fp
      have loop := compLoop_anyD (prog := X.prog) (w := X.w) (A := X.A) (kx := kx) (vx := vx) (target := tg) (iter := iter) (ifs := ifs) (scope := scope) (pos := pos) (it := .ref it) (D := D) (env := inner X scope s3)
        (R := Left (blkL X s3 (upd H2 D (DTo X.prog X.w D [])) scope (inner X scope s3) fp []) (wipe σ (own.map (·.2))) (Q (.ref D))) (Amid (blkL X s3 (upd H2 D (DTo X.prog X.w D [])) scope (inner X scope s3) fp []) [] fp tn W (wipe σ (own.map (·.2))))
        (fun n s5 h5 => turn_once (B := blkL X s3 (upd H2 D (DTo X.prog X.w D [])) scope (inner X scope s3) fp []) (vs := own.map (·.2)) (Z := Q (.ref D)) (Y := fun σ2 H3 Nx => tk σ2 H3 fun y H4 => tv σ2 H4 fun _ H5 => DPx X D y H5 Nx)
          (fun _ _ z => z) G (fun I5 n5 => blk_fp off I5 n5) (hg ..) (ht ..) (fun i H5 w5 => rule i n H5 w5) (fun {H6 _} I6 z => ⟨H6, I6, z⟩)
          (fun {pins' σ6 H6 s6 Nx} I6 e6 y6 on => wpAny_mono (key.run _ _ _ _ _ I6 y6) (fun v s7 ⟨y, H7, I7, r7, q7⟩ => wpAny_mono (val.run _ _ _ _ _ I7 q7) (fun v2 s8 ⟨_, H8, I8, _, xs, k, b, ey, hd, hx, hb, hz, nx⟩ => by
            subst ey
            cases r7
            exact dto_set (X := blkL X s3 (upd H2 D (DTo X.prog X.w D [])) scope (inner X scope s3) fp []) hu I8 hd hx hb hz fun s9 I9 => on I9 (.wiped e6) (nx v2)) fun _ _ z => z.elim) fun _ _ z => z.elim) h5)
        m0 ⟨0, _, I4, t, fr, w0⟩
      exact codeAny_compStart_dict loop (self X.A 0 _ _ _ t loop)
    · exact I'.turnedL (t' := s'.toks) (ch := [C]) (fun b o nb e => (k.2 b (fun z => nb (List.mem_singleton.mpr z))).trans e) fun b hb => (List.mem_singleton.mp hb) ▸ f
end
end FL
/-! FL72: sorted of a dict whose keys are pairs of whole numbers. -/
namespace FL
open PySem PySem.Spec PyProof.Rows L2
abbrev PI2 := Int × Int
/-- pairs in order -/
abbrev Lexed (qs : List PI2) : Prop := qs.Pairwise fun p q => SrtO.lexB q p = false
abbrev P2V (K : PySem.W.Frag) (H : Hp) (b : Addr) (p : PI2) : Prop := SqT K H b [.int p.1, .int p.2]
/-- where pairs stand, with the pairs -/
abbrev Spots (xs : List Ent) (ps : List PI2) : List (Addr × PI2) := (xs.map fun x => x.2.1).zip ps
def rSrtX (X : Cx) : List V → Hp → VK → Prop := fun vs H Q => ∃ (d : Addr) (xs : List Ent) (ps : List PI2), vs = [.ref d] ∧ H d = some (DTo X.prog X.w d xs) ∧ Paired (fun x p => P2V X.K H x.2.1 p) xs ps ∧
  ∀ (L : List (Addr × PI2)) (p : Addr), L.Perm (Spots xs ps) → Lexed (L.map fun a => a.2) → H p = none → Q (.ref p) (upd H p (.lst (L.map fun a => V.ref a.1)))
def intAt (its : Array Value) (i : Nat) : Int := match its[i]? with
  | some (.int n _) => n
  | _ => 0
/-- the pair that stands there -/
def pairThere (h : Heap) : Value → PI2
  | .ref b => match h.get? b with
    | some o => match o.data with
      | .seq its _ => (intAt its 0, intAt its 1)
      | _ => (0, 0)
    | none => (0, 0)
  | _ => (0, 0)
def spotOf : Value → Addr
  | .ref b => b
  | _ => 0
theorem paired_ex {α β : Type} {R : α → β → Prop} : ∀ {l : List α} {m : List β}, Paired R l m → ∀ a ∈ l, ∃ b, R a b
  | _, _, .cons r t, a, h => by
    rcases List.mem_cons.mp h with rfl | h
    · exact ⟨_, r⟩
    · exact paired_ex t a h
section
variable {X : Cx} {pins : List (Addr × Obj)} {σ : L2.St} {H : Hp} {s : Shared}
theorem p2v_at {b : Addr} {p : PI2} (I : Inv X pins σ H s) (h : P2V X.K H b p) : Srt.IsPair s.heap (.ref b) p.1 p.2 ∧ pairThere s.heap (.ref b) = p := by
  obtain ⟨its, r, ⟨o, e, c, n, d⟩, _⟩ := I.tuple h
  cases r with
  | cons r1 r =>
    cases r with
    | cons r2 r =>
      cases r
      obtain ⟨t, rfl⟩ := r1
      obtain ⟨u, rfl⟩ := r2
      refine ⟨⟨b, o, t, u, n, rfl, e, c, d⟩, ?_⟩
      show (match s.heap.get? b with
        | some o => match o.data with
          | .seq its _ => (intAt its 0, intAt its 1)
          | _ => (0, 0)
        | none => (0, 0)) = p
      rw [e]
      dsimp only
      rw [d]
      rfl
theorem pairs_there (I : Inv X pins σ H s) : ∀ {xs : List Ent} {ps : List PI2}, Paired (fun x p => P2V X.K H x.2.1 p) xs ps → (xs.map fun x => Value.ref x.2.1).map (fun u => (spotOf u, pairThere s.heap u)) = Spots xs ps
  | _, _, .nil => rfl
  | _, _, .cons (a := x) (b := p) r t => by
    have z := (p2v_at I r).2
    rw [List.map_cons, List.map_cons, pairs_there I t, z]
    rfl
theorem keys_given {es : Array DictEntry} {xs : List Ent} {acc : Array Value} {P : Program} {w : World} (l : acc.size = es.size) (h : es.toList = xs.map (entryOfKey (tupleKind (mixKind P w)))) (g : ∀ (i : Nat) (v : Value), acc[i]? = some v → ∃ en : DictEntry, es[i]? = some en ∧ v = en.key) : acc.toList = xs.map fun x => Value.ref x.2.1 := by
  have lx : es.size = xs.length := by rw [← Array.length_toList, h, List.length_map]
  refine List.ext_getElem? fun i => ?_
  rw [Array.getElem?_toList, List.getElem?_map]
  cases c : acc[i]? with
  | none =>
    have : xs.length ≤ i := by rw [← lx, ← l]; exact Array.getElem?_eq_none_iff.mp c
    rw [List.getElem?_eq_none this]
    rfl
  | some v =>
    obtain ⟨en, q, rfl⟩ := g i v c
    rw [← Array.getElem?_toList, h, List.getElem?_map] at q
    cases c2 : xs[i]? with
    | none => rw [c2] at q; cases q
    | some x =>
      rw [c2] at q
      cases q
      rfl
theorem call_sortedX (hc : X.calm = true) : CallR X (.builtin "sorted") (rSrtX X) := by
  intro pins s σ H vs us Q I r h
  obtain ⟨d, xs, ps, rfl, hd, hp, fin⟩ := h
  obtain ⟨v, rfl, rv⟩ := r.one
  cases rv
  obtain ⟨small, away, o, es, ep, e, ex, data, all, nd⟩ := dto_at I hd
  have many : es.size = xs.length := by rw [← Array.length_toList, all, List.length_map]
  apply Calls.call_function_entry PyProof.Rows.kind_sorted PyProof.Rows.plain_sorted PyProof.Rows.entry_sorted (PyProof.Rows.args_sorted1 _)
  unfold Builtin.«sorted»
  apply wpAny_bind; apply wpAny_pure
  refine wpAny_bind (PySem.W.kdu_collect (A := X.A.in1) (kdl_raw away ex data) (I.ok.hd hc) e (by omega) fun g tk acc keeps got => ?_)
  have got1 := keys_given got.1 all got.2
  have J : Inv X pins σ H { s with heap := g, toks := tk } := I.kept keeps
  have pk := pairs_there J hp
  rw [← got1] at pk
  have each : ∀ u ∈ acc.toList, P2V X.K H (spotOf u) (pairThere g u) ∧ u = .ref (spotOf u) := fun u hu => by
    rw [got1] at hu
    obtain ⟨x, hx, rfl⟩ := List.mem_map.mp hu
    obtain ⟨p, q⟩ := paired_ex hp x hx
    have t := (p2v_at J q).2
    have t : pairThere g (Value.ref x.2.1) = p := t
    rw [t]
    exact ⟨q, rfl⟩
  have len : acc.toList.length ≤ sizeLine := by rw [got1, List.length_map]; exact small
  refine wpAny_bind (wpAny_newList ?_ len)
  have new : (g.push (seqObj "list" acc.toList.toArray 0)).get? g.objs.size = some (seqObj "list" acc.toList.toArray 0) := Heap.get?_push_size _ rfl
  have sortable : 2 ≤ acc.toList.length → SrtO.SortableO X.prog X.w X.A.in1.in1 { s with heap := g.push (seqObj "list" acc.toList.toArray 0), toks := tk } g.objs.size acc.toList fun v u => SrtO.lexB (pairThere g v) (pairThere g u) := fun two =>
    SrtO.pairs_sortableO (s := { s with heap := g.push (seqObj "list" acc.toList.toArray 0), toks := tk }) (by omega) (fun u hu => by
      obtain ⟨q, e⟩ := each u hu
      have z := (p2v_at J q).1
      rw [← e] at z
      exact z.keeps fun b o k _ => Heap.get?_push_of_some _ k) fun u k c => by
      cases new.symm.trans k
      exact absurd (Value.type.inj c) (by decide)
  refine wpAny_bind (wpAny_holding (wpAny_call_entry PyProof.Rows.slot_list_sort ⟨_, new, rfl⟩ PyProof.Rows.entry_list_sort
    (SrtO.list_sort_ord (s := { s with heap := g.push (seqObj "list" acc.toList.toArray 0), toks := tk }) (SrtO.swo_lex (pairThere g)) new len sortable fun out ord same => ⟨_, rfl, ?_⟩) (PyProof.Rows.args_list_sort _)))
  obtain ⟨n', there⟩ := PyProof.Rows.sortedHeap_at (vs := acc.toList) (out := out.toArray) new
  have mem : ∀ u ∈ out, u ∈ acc.toList := fun u hu => same.perm.mem_iff.mp hu
  have outs : ∀ l : List Value, (∀ u ∈ l, u = .ref (spotOf u)) → Vals ((l.map fun u => (spotOf u, pairThere g u)).map fun a => V.ref a.1) l := fun l => by
    induction l with
    | nil => exact fun _ => .nil
    | cons u l ih =>
      intro k
      rw [List.map_cons, List.map_cons]
      exact .cons (k u List.mem_cons_self) (ih fun w hw => k w (List.mem_cons_of_mem _ hw))
  have lo : ((out.map fun u => (spotOf u, pairThere g u)).map fun a => V.ref a.1).length ≤ sizeLine := by
    rw [List.length_map, List.length_map, same.perm.length_eq]
    exact len
  refine wpAny_pure ⟨_, rfl, .ref g.objs.size, _, J.laid (t' := tk) (o := .lst ((out.map fun u => (spotOf u, pairThere g u)).map fun a => V.ref a.1)) (fun b u k => ?_) (Nat.le_refl _) ⟨lo, out, n', outs out fun u hu => (each u (mem u hu)).2, there⟩, rfl, fin _ _ ?_ ?_ (J.hok.fresh (Nat.le_refl _))⟩
  · have nb : b ≠ g.objs.size := Nat.ne_of_lt (Heap.lt_size k)
    rw [PyProof.Rows.sortedHeap_old nb (by rw [Heap.size_push]; exact Nat.lt_succ_of_lt (Heap.lt_size k))]
    exact Heap.get?_push_of_some _ k
  · rw [← pk]
    exact same.perm.map _
  · rw [List.map_map]
    exact List.pairwise_map.mpr ord
end
end FL
/-! FL73: sorted({x: .. for ..}), the keys pairs of whole numbers, as data. -/
namespace FL
open PySem PySem.Spec PyProof.Rows L2
def keyP : D → Option PI2
  | .tup [.int i, .int j] => some (i, j)
  | _ => none
def addP (acc : List PI2) (p : PI2) : List PI2 := if p ∈ acc then acc else acc ++ [p]
def insP (x : PI2) : List PI2 → List PI2
  | [] => [x]
  | y :: ys => if SrtO.lexB y x = true then y :: insP x ys else x :: y :: ys
def srtP : List PI2 → List PI2
  | [] => []
  | x :: xs => insP x (srtP xs)
def dP (p : PI2) : D := .tup [.int p.1, .int p.2]
def kP (p : PI2) : List Key := [.inl p.1, .inl p.2]
theorem insP_perm (x : PI2) : ∀ xs : List PI2, (insP x xs).Perm (x :: xs)
  | [] => .refl _
  | y :: ys => by
    unfold insP
    split
    · exact ((insP_perm x ys).cons y).trans (.swap x y ys)
    · exact .refl _
theorem srtP_perm : ∀ xs : List PI2, (srtP xs).Perm xs
  | [] => .refl _
  | x :: xs => (insP_perm x (srtP xs)).trans ((srtP_perm xs).cons x)
theorem lexB_tr {p q r : PI2} (h1 : SrtO.lexB q p = false) (h2 : SrtO.lexB r q = false) : SrtO.lexB r p = false := by
  rw [SrtO.lexB_no] at h1 h2 ⊢
  omega
theorem lexB_total {p q : PI2} (h1 : SrtO.lexB q p = false) (h2 : SrtO.lexB p q = false) : p = q := by
  rw [SrtO.lexB_no] at h1 h2
  obtain ⟨a, b⟩ := p
  obtain ⟨c, d⟩ := q
  dsimp only at h1 h2
  have : a = c ∧ b = d := by omega
  rw [this.1, this.2]
theorem lexB_asym {p q : PI2} (h : SrtO.lexB p q = true) : SrtO.lexB q p = false := by
  rw [SrtO.lexB_no]
  have := SrtO.lexB_iff.mp h
  omega
theorem insP_lexed (x : PI2) : ∀ {xs : List PI2}, Lexed xs → Lexed (insP x xs)
  | [], _ => List.pairwise_singleton _ _
  | y :: ys, h => by
    obtain ⟨h1, h2⟩ := List.pairwise_cons.mp h
    unfold insP
    split
    · rename_i c
      refine List.pairwise_cons.mpr ⟨fun z hz => ?_, insP_lexed x h2⟩
      cases List.mem_cons.mp ((insP_perm x ys).mem_iff.mp hz) with
      | inl e => rw [e]; exact lexB_asym c
      | inr m => exact h1 z m
    · rename_i c
      have c : SrtO.lexB y x = false := Bool.eq_false_iff.mpr c
      refine List.pairwise_cons.mpr ⟨fun z hz => ?_, h⟩
      cases List.mem_cons.mp hz with
      | inl e => rw [e]; exact c
      | inr m => exact lexB_tr c (h1 z m)
theorem srtP_lexed : ∀ xs : List PI2, Lexed (srtP xs)
  | [] => .nil
  | x :: xs => insP_lexed x (srtP_lexed xs)
theorem lexed_eq : ∀ {xs ys : List PI2}, xs.Perm ys → Lexed xs → Lexed ys → xs = ys
  | [], ys, p, _, _ => (List.nil_perm.mp p).symm
  | x :: xs, [], p, _, _ => (List.cons_ne_nil _ _ (List.perm_nil.mp p)).elim
  | x :: xs, y :: ys, p, h, k => by
    obtain ⟨h1, h2⟩ := List.pairwise_cons.mp h
    obtain ⟨k1, k2⟩ := List.pairwise_cons.mp k
    have e : x = y := by
      cases List.mem_cons.mp (p.mem_iff.mp List.mem_cons_self) with
      | inl a => exact a
      | inr a =>
        cases List.mem_cons.mp (p.mem_iff.mpr List.mem_cons_self) with
        | inl b => exact b.symm
        | inr b => exact lexB_total (h1 y b) (k1 x a)
    subst e
    rw [lexed_eq (List.perm_cons x |>.mp p) h2 k2]
theorem srtP_of {xs ys : List PI2} (p : ys.Perm xs) (h : Lexed ys) : ys = srtP xs := lexed_eq (p.trans (srtP_perm xs).symm) h (srtP_lexed xs)
theorem P2V.grown {K : PySem.W.Frag} {F F' : Hp} {b : Addr} {p : PI2} (h : P2V K F b p) {s2' : Same F F'} : P2V K F' b p := sm_tup s2' h
abbrev EntR (K : PySem.W.Frag) (F : Hp) (xs : List Ent) (ps : List PI2) : Prop := Paired (fun x p => P2V K F x.2.1 p ∧ x.1 = kP p) xs ps
theorem kP_inj {p q : PI2} (h : kP p = kP q) : p = q := by
  obtain ⟨a, b⟩ := p
  obtain ⟨c, d⟩ := q
  injection h with h1 h2
  injection h2 with h2 _
  injection h1 with h1
  injection h2 with h2
  exact Prod.ext h1 h2
theorem ent_keyed {K : PySem.W.Frag} {F : Hp} : ∀ {xs : List Ent} {ps : List PI2}, EntR K F xs ps → Keyed K F xs
  | _, _, .nil, e, h => nomatch h
  | _, _, .cons r t, e, h => by
    cases List.mem_cons.mp h with
    | inl z =>
      rw [z, r.2]
      exact r.1
    | inr z => exact ent_keyed t e z
theorem ent_has {K : PySem.W.Frag} {F : Hp} (p : PI2) : ∀ {xs : List Ent} {ps : List PI2}, EntR K F xs ps → ((atKey xs (kP p)).isSome = true ↔ p ∈ ps)
  | _, _, .nil => Iff.intro (fun h => Bool.noConfusion h) (fun h => absurd h List.not_mem_nil)
  | _, _, .cons (a := x) (b := q) (l₁ := xs) (l₂ := ps) r t => by
    have ih := ent_has p t
    unfold atKey at ih ⊢
    rw [List.find?_cons, List.mem_cons]
    by_cases e : x.1 = kP p
    · have pq : p = q := (kP_inj (r.2.symm.trans e)).symm
      rw [decide_eq_true e]
      exact ⟨fun _ => Or.inl pq, fun _ => rfl⟩
    · have pq : ¬ p = q := fun z => e (r.2.trans (by rw [z]))
      rw [decide_eq_false e]
      exact ih.trans ⟨.inr, fun z => z.elim (fun z => absurd z pq) id⟩
theorem ent_store {K : PySem.W.Frag} {F : Hp} {xs : List Ent} {ps : List PI2} {b : Addr} {p : PI2} {r : Value} (h : EntR K F xs ps) (hb : P2V K F b p) : EntR K F (storedH xs (kP p) b r) (addP ps p) := by
  have z := ent_has p h
  unfold storedH addP
  by_cases c : p ∈ ps
  · rw [if_pos c, if_pos (z.mpr c)]
    clear z c
    induction h with
    | nil => exact .nil
    | cons r t ih =>
      refine .cons ?_ ih
      unfold putAt
      split <;> exact r
  · rw [if_neg c, if_neg (fun y => c (z.mp y))]
    clear z c
    induction h with
    | nil => exact .cons ⟨hb, rfl⟩ .nil
    | cons r t ih => exact .cons r ih
theorem keyP_rep {K : PySem.W.Frag} {F : Hp} {v : V} {d : D} {p : PI2} (r : Rep K F v d) (h : keyP d = some p) : ∃ b, v = .ref b ∧ P2V K F b p := by
  unfold keyP at h
  split at h
  · cases h
    cases r with
    | tup hp hr =>
      cases hr with
      | cons r1 hr =>
        cases hr with
        | cons r2 hr =>
          cases hr
          cases r1
          cases r2
          exact ⟨_, rfl, hp⟩
  · cases h
theorem spots_two {K : PySem.W.Frag} {F : Hp} : ∀ {xs : List Ent} {ps : List PI2}, EntR K F xs ps → (Spots xs ps).map (fun a => a.2) = ps ∧ ∀ a ∈ Spots xs ps, P2V K F a.1 a.2
  | _, _, .nil => ⟨rfl, fun _ h => nomatch h⟩
  | _, _, .cons r t => by
    obtain ⟨h1, h2⟩ := spots_two t
    refine ⟨?_, fun a ha => ?_⟩
    · show _ :: (Spots _ _).map (fun a => a.2) = _
      rw [h1]
    · cases List.mem_cons.mp ha with
      | inl e => rw [e]; exact r.1
      | inr m => exact h2 a m
theorem spots_rep {K : PySem.W.Frag} {F F' : Hp} {xs : List Ent} {ps : List PI2} {L : List (Addr × PI2)} (s : Same F F') (h : EntR K F xs ps) (perm : L.Perm (Spots xs ps)) (lex : Lexed (L.map fun a => a.2)) : Reps K F' (L.map fun a => V.ref a.1) ((srtP ps).map dP) := by
  obtain ⟨h1, h2⟩ := spots_two h
  have e : (L.map fun a => a.2) = srtP ps := srtP_of (by rw [← h1]; exact perm.map _) lex
  rw [← e, List.map_map]
  have all : ∀ a ∈ L, P2V K F a.1 a.2 := fun a ha => h2 a (perm.mem_iff.mp ha)
  clear e perm lex h1 h2 h
  induction L with
  | nil => exact .nil
  | cons a L ih => exact .cons (.tup (sm_tup s (all a List.mem_cons_self)) (.cons (.int _) (.cons (.int _) .nil))) (ih fun b hb => all b (List.mem_cons_of_mem _ hb))
def dtcL (ks : List Nat) (g : GF) (t : TF) (f fv : EF) : List PI2 → List D → Rho → R (List PI2)
  | acc, [], ρ => .ok acc ρ
  | acc, d :: ds, ρ => bindO (g d ρ) fun ρ => (noX (t ρ)).bind fun b ρ => if b = true then (noX (f ρ)).bind fun y ρ => (noX (fv ρ)).bind fun z ρ => (match keyP y with
      | some k => if small (acc.length + 1) = true then dtcL ks g t f fv (addP acc k) ds (wipeR ks ρ) else .stuck
      | none => .stuck)
    else dtcL ks g t f fv acc ds (wipeR ks ρ)
abbrev endP (m : List PI2) (ρ : Rho) : R D := .ok (.lst ((srtP m).map dP)) ρ
def dtcE (ks : List Nat) (it : IF) (g : GF) (t : TF) (f fv : EF) : EF := fun ρ => (it ρ).bind fun ds ρ0 => (dtcL ks g t f fv [] ds (wipeR ks ρ0)).bind fun m ρ => bindO (resR ks ρ0 ρ) fun ρ => endP m ρ
theorem tabs_updX {T : List (Addr × Str)} {H : Hp} {p : Addr} {P : Program} {w : World} {xs : List Ent} {o' : HO} (t : LamX.Tabs T H) (h : H p = some (DTo P w p xs)) : LamX.Tabs T (upd H p o') := fun q hq => by
  obtain ⟨ps, h1, h2, h3⟩ := t q hq
  refine ⟨ps, ?_, h2, fun pos cv hc => ?_⟩
  · rw [upd_ne (ne_of h1 h fun z => HO.noConfusion (show HO.tbl ps = HO.ext _ from z))]
    exact h1
  · obtain ⟨c, e1, e2⟩ := h3 pos cv hc
    refine ⟨c, e1, ?_⟩
    rw [upd_ne fun z => ?_]
    · exact e2
    · subst z
      rw [h] at e2
      exact dto_not_code (Option.some.inj e2)
section
variable [FE]
theorem Sta.otherX {K : PySem.W.Frag} {π : Nat → Addr} {c : Cfg} {F H : Hp} {σ : L2.St} {ρ : Rho} (S : Sta K π c F H σ ρ) {p : Addr} {o : HO} (n : F p = none) (n0 : c.H0 p = none) (nio : p ∉ c.io ∧ p ∉ c.ow) (nw : ∀ j, ¬ OwnAt σ ρ j p) {P : Program} {w : World} {xs : List Ent} (hom : H p = some (DTo P w p xs)) : Sta K π c F (upd H p o) σ ρ := by
  refine ⟨fun q u e h1 h2 nt => ?_, fun q hq => ?_, S.f0, sm_updR S.f n, S.nf, S.len, fun j s hs => ?_, S.dis, ⟨tabs_updX S.t.tb hom, fun q ps e => ?_, S.t.nt⟩⟩
  · rw [upd_ne (fun z => by subst z; rw [n0] at e; cases e)]
    exact S.h0 q u e h1 h2 nt
  · rw [upd_ne (fun z => by subst z; exact hq.elim nio.1 nio.2)]
    exact S.hio q hq
  · have z := S.rep j s hs
    cases s with
    | lk C f jj => exact z
    | ln L => exact z
    | no => trivial
    | val d => exact z
    | own m =>
      obtain ⟨q, e1, e2, e3, r⟩ := z
      have nq : q ≠ p := fun w => by subst w; exact nw j ⟨e1, m, .inl hs⟩
      exact ⟨q, e1, e2, e3, r.mono (Same.refl _) fun u hu => by rw [upd_ne nq]; exact hu⟩
    | io m =>
      obtain ⟨e1, e2, e3, r⟩ := z
      have nq : π j ≠ p := fun w => by rw [w] at e1; exact nw j ⟨e1, m, .inr hs⟩
      exact ⟨e1, e2, e3, r.mono (Same.refl _) fun u hu => by rw [upd_ne nq]; exact hu⟩
  · obtain ⟨ps', e'⟩ := S.t.tk q ps e
    exact ⟨ps', by rw [upd_ne (ne_of e' hom fun z => HO.noConfusion (show HO.tbl ps' = HO.ext _ from z))]; exact e'⟩
variable {X : Cx} {π : Nat → Addr} {W : WX}
theorem rd_dtc {it : IF} {g : GF} {t : TF} {f fv : EF} {ns vs : List Nat} {σ : L2.St} {H : Hp} {Q : VK} (hns : ∀ j ∈ ns, j ∈ vs) (h : tE X.K π W (dtcE vs it g t f fv) σ H Q) : tCB (rSrtX X) (tCons (tDcX X (tI X.K π W it) (tGt X.K π ns g) (tT X.K π W0 t) (tE X.K π W0 f) (tE X.K π W0 fv) vs) tNil) σ H Q := by
  obtain ⟨c, F, ρ, S, P⟩ := h
  show tDcX X _ _ _ _ _ _ σ H fun x H1 => rSrtX X [x] H1 Q
  refine po_bind S P fun J F1 H1 ρ1 ds s1 S1 wk P1 => ?_
  intro Dd hD
  obtain ⟨fD, hD0, nD⟩ := S1.fresh hD
  have hDio : Dd ∉ c.io ∧ Dd ∉ c.ow := by
    refine ⟨fun z => ?_, fun z => ?_⟩
    · obtain ⟨o, e⟩ := S1.hio Dd (.inl z)
      rw [hD] at e
      cases e
    · obtain ⟨o, e⟩ := S1.hio Dd (.inr z)
      rw [hD] at e
      cases e
  refine ⟨fun i m H' => i + m = ds.length ∧ ∃ F2 ρ2 accV accD, Same F1 F2 ∧ Sta X.K π c F2 H' (wipe σ vs) ρ2 ∧ H' Dd = some (DTo X.prog X.w Dd accV) ∧ EntR X.K F2 accV accD ∧ F2 Dd = none ∧ (∀ j, ¬ OwnAt (wipe σ vs) ρ2 j Dd) ∧
      Po X.K π W (relE X.K) c F2 σ Q ((dtcL vs g t f fv accD (ds.drop i) ρ2).bind fun m ρ => bindO (resR vs ρ1 ρ) fun ρ => endP m ρ), ⟨ds.length, by omega, F1, wipeR vs ρ1, [], [], Same.refl _, ?_, upd_same, .nil, fD, ?_, P1⟩, ?_⟩
  · exact (S1.into vs).grow (Grw.newO S1.f hD)
  · intro j hj
    obtain ⟨_, _, o, e⟩ := (S1.into vs).ownAt hj
    rw [hD] at e
    cases e
  · rintro i m H2 ⟨him, F2, ρ2, accV, accD, s2, S2, hacc, racc, f2D, nw2, P2⟩
    cases m with
    | zero =>
      have hi : i = ds.length := by omega
      subst hi
      rw [List.drop_length] at P2
      refine .inl ⟨wk.stop H2 (s2.trans S2.f), ?_⟩
      have P2 : Po X.K π W (relE X.K) c F2 σ Q (bindO (resR vs ρ1 ρ2) fun ρ => endP accD ρ) := P2
      cases er : resR vs ρ1 ρ2 with
      | none => rw [er] at P2; exact P2.elim
      | some ρ3 =>
        rw [er] at P2
        have l12 : ρ2.length = ρ1.length := by
          have h1 := S2.len
          have h2 := S1.len
          rw [wipe_length] at h1
          omega
        have q1 : ∀ j s, ρ2[j]? = some s → SlotOk X.K π c F2 H2 σ j s := fun j s hj => by
          have z := S2.rep j s hj
          cases s with
          | lk C f jj => obtain ⟨a, dx, e, r⟩ := z; exact ⟨a, dx, (wipe_some e).1, r⟩
          | ln L => obtain ⟨a, e, r⟩ := z; exact ⟨a, (wipe_some e).1, r⟩
          | no => trivial
          | val d => obtain ⟨v, e, r⟩ := z; exact ⟨v, (wipe_some e).1, r⟩
          | own m => obtain ⟨p, e, r⟩ := z; exact ⟨p, (wipe_some e).1, r⟩
          | io m => obtain ⟨e, r⟩ := z; exact ⟨(wipe_some e).1, r⟩
        have key : ∀ j p, OwnAt σ ρ2 j p → OwnAt (wipe σ vs) ρ2 j p := fun j p ⟨e, m, h⟩ => by
          refine ⟨?_, m, h⟩
          rcases h with h | h
          · obtain ⟨q, e1, _⟩ := S2.rep j _ h
            have := (wipe_some e1).1
            rw [e] at this
            cases this
            exact e1
          · obtain ⟨e1, _⟩ := S2.rep j _ h
            have := (wipe_some e1).1
            rw [e] at this
            cases this
            exact e1
        obtain ⟨a1, a2, a3, a4⟩ := S1.outof (ks := vs) (F' := F2) (H' := H2) s2 (ls := vs) (ρ1 := ρ2) (ρ2 := ρ3) (fun l hl => hl) q1 (fun i j p h1 h2 => S2.dis i j p (key i p h1) (key j p h2)) l12 er
        have S3 : Sta X.K π c F2 H2 σ ρ3 := ⟨S2.h0, S2.hio, S2.f0, S2.f, S2.nf, by rw [a3]; exact S1.len, a1, a2, S2.t⟩
        refine ⟨Dd, accV, accD, rfl, hacc, L2.Paired.mapP racc fun x p z => z.1.grown (s2' := S2.f), fun L p perm lex hp => ?_⟩
        have gr := Grw.newF (o := .lst (L.map fun a => V.ref a.1)) S3.f hp
        exact P2 (.ref p) _ _ gr.f (S3.grow gr) (.lst upd_same (spots_rep gr.f racc perm lex))
    | succ m =>
      have hlt : i < ds.length := by omega
      obtain ⟨hgo, hy⟩ := wk.go F2 H2 s2 S2.f i ds[i] (by simp [hlt])
      rw [List.drop_eq_getElem_cons hlt] at P2
      refine .inr ⟨hgo, fun H' => ∃ F2 ρ2 accV accD, Same F1 F2 ∧ Sta X.K π c F2 H' (wipe σ vs) ρ2 ∧ H' Dd = some (DTo X.prog X.w Dd accV) ∧ EntR X.K F2 accV accD ∧ F2 Dd = none ∧ (∀ j, ¬ OwnAt (wipe σ vs) ρ2 j Dd) ∧
        Po X.K π W (relE X.K) c F2 σ Q ((dtcL vs g t f fv accD (ds.drop (i + 1)) ρ2).bind fun m ρ => bindO (resR vs ρ1 ρ) fun ρ => endP m ρ), fun H' h => ⟨m, Nat.lt_succ_self m, by omega, h⟩, fun x H3 yl => ?_⟩
      obtain ⟨F3, gr, rx⟩ := hy x H3 yl
      have T2 := S2.self
      have hT : (cfg F2 H2 (wipe σ vs) ρ2).H0 Dd = some (DTo X.prog X.w Dd accV) := hacc
      have hTn : Dd ∉ (cfg F2 H2 (wipe σ vs) ρ2).io ∧ Dd ∉ (cfg F2 H2 (wipe σ vs) ρ2).ow := by
        refine ⟨fun z => ?_, fun z => ?_⟩
        · obtain ⟨j, s, e, h, k⟩ := mem_adrs.mp z
          cases s with
          | lk C f jj => cases k
          | ln L => cases k
          | io m => exact nw2 j ⟨e, m, .inr h⟩
          | no => cases k
          | val _ => cases k
          | own _ => cases k
        · obtain ⟨j, s, e, h, k⟩ := mem_adrs.mp z
          cases s with
          | lk C f jj => cases k
          | ln L => cases k
          | own m => exact nw2 j ⟨e, m, .inl h⟩
          | no => cases k
          | val _ => cases k
          | io _ => cases k
      refine ⟨cfg F2 H2 (wipe σ vs) ρ2, F3, ρ2, ds[i], T2.grow gr, rx, ?_⟩
      have P2 : Po X.K π W (relE X.K) c F2 σ Q ((bindO (g ds[i] ρ2) fun ρ => (noX (t ρ)).bind fun b ρ => if b = true then (noX (f ρ)).bind fun y ρ => (noX (fv ρ)).bind fun z ρ => (match keyP y with
          | some k => if small (accD.length + 1) = true then dtcL vs g t f fv (addP accD k) (ds.drop (i + 1)) (wipeR vs ρ) else .stuck
          | none => .stuck)
        else dtcL vs g t f fv accD (ds.drop (i + 1)) (wipeR vs ρ)).bind fun m ρ => bindO (resR vs ρ1 ρ) fun ρ => endP m ρ) := P2
      cases eg : g ds[i] ρ2 with
      | none => rw [eg] at P2; exact P2
      | some ρ3 =>
        rw [eg] at P2
        intro σ4 F4 H4 s4 of4 T4
        have of5 : Off vs (wipe σ vs) σ4 := ⟨of4.1, fun j hj => of4.2 j fun z => hj (hns j z)⟩
        have w4 : wipe σ4 vs = wipe σ vs := (wipe_off of5).trans wipe_wipe
        refine ⟨w4, cfg F2 H2 (wipe σ vs) ρ2, F4, ρ3, T4, ?_⟩
        have s24 : Same F2 F4 := gr.f.trans s4
        have P4 := Po.mono s24 P2
        cases et : t ρ3 with
        | stuck => simp only [bindO, et, noX, R.stuck_bind] at P4; exact P4.elim
        | exc C fs ρ4 => simp only [bindO, et, noX, R.stuck_bind] at P4; exact P4.elim
        | ok b ρ4 =>
          simp only [bindO, et, noX, R.ok_bind] at P4
          intro b' F5 H5 s5 T5 rb
          cases rb
          -- the turn's end
          have fin : ∀ {F6 H6 ρ6} {acV : List Ent}, Same F5 F6 → Sta X.K π (cfg F2 H2 (wipe σ vs) ρ2) F6 H6 σ4 ρ6 → Sta X.K π c F6 (upd H6 Dd (DTo X.prog X.w Dd acV)) (wipe σ vs) (wipeR vs ρ6) ∧ F6 Dd = none ∧ (∀ j, ¬ OwnAt (wipe σ vs) (wipeR vs ρ6) j Dd) := fun {F6 H6 ρ6 acV} s6 T6 => by
            have n6 : F6 Dd = none := T6.nf Dd _ hT f2D
            have B6 := (S2.back T6).into vs
            have B6T := T6.into vs
            rw [w4] at B6 B6T
            have nw6 : ∀ j, ¬ OwnAt (wipe σ vs) (wipeR vs ρ6) j Dd := B6T.notOwn hT hTn
            exact ⟨B6.otherX n6 hD0 hDio nw6 (T6.h0 Dd _ hT hTn.1 hTn.2 (by intro ps z; exact HO.noConfusion (show HO.ext _ = HO.tbl ps from z))), n6, nw6⟩
          cases b with
          | false =>
            rw [if_neg Bool.false_ne_true] at P4 ⊢
            have hd5 : H5 Dd = some (DTo X.prog X.w Dd accV) := T5.h0 Dd _ hT hTn.1 hTn.2 (by intro ps z; exact HO.noConfusion (show HO.ext _ = HO.tbl ps from z))
            obtain ⟨k1, k2, k3⟩ := fin (acV := accV) (Same.refl _) T5
            have ee : upd H5 Dd (DTo X.prog X.w Dd accV) = H5 := by
              funext q
              by_cases z : q = Dd
              · subst z
                rw [upd_same, hd5]
              · rw [upd_ne z]
            rw [ee] at k1
            exact ⟨F5, _, accV, accD, s2.trans (s24.trans s5), k1, hd5, L2.Paired.mapP racc fun x p z => ⟨z.1.grown (s2' := s24.trans s5), z.2⟩, k2, k3, P4.mono s5⟩
          | true =>
            rw [if_pos rfl] at P4 ⊢
            refine ⟨cfg F2 H2 (wipe σ vs) ρ2, F5, ρ4, T5, ?_⟩
            cases ef : f ρ4 with
            | stuck => simp only [ef, noX, R.stuck_bind] at P4; exact P4.elim
            | exc C fs ρ5 => simp only [ef, noX, R.stuck_bind] at P4; exact P4.elim
            | ok d ρ5 =>
              simp only [ef, noX, R.ok_bind] at P4
              intro y F6 H6 s6 T6 ry
              refine ⟨cfg F2 H2 (wipe σ vs) ρ2, F6, ρ5, T6, ?_⟩
              cases efv : fv ρ5 with
              | stuck => simp only [efv, noX, R.stuck_bind] at P4; exact P4.elim
              | exc C fs ρ6 => simp only [efv, noX, R.stuck_bind] at P4; exact P4.elim
              | ok dz ρ6 =>
                simp only [efv, noX, R.ok_bind] at P4
                intro z F7 H7 s7 T7 rz
                cases ek : keyP d with
                | none => rw [ek] at P4; exact P4.elim
                | some kk =>
                  rw [ek] at P4
                  dsimp only at P4
                  split at P4
                  · rename_i hz
                    have hd7 : H7 Dd = some (DTo X.prog X.w Dd accV) := T7.h0 Dd _ hT hTn.1 hTn.2 (by intro ps z; exact HO.noConfusion (show HO.ext _ = HO.tbl ps from z))
                    have s27 : Same F2 F7 := s24.trans ((s5.trans s6).trans s7)
                    obtain ⟨b, rfl, hb⟩ := keyP_rep ry ek
                    have hb7 : P2V X.K F7 b kk := hb.grown (s2' := s7)
                    have rc := L2.Paired.mapP racc fun x p z => (⟨z.1.grown (s2' := s27), z.2⟩ : P2V X.K F7 x.2.1 p ∧ x.1 = kP p)
                    have hl := small_le hz
                    have hlen : accV.length = accD.length := Paired.length rc
                    refine ⟨accV, kP kk, b, rfl, hd7, ent_keyed (L2.Paired.mapP rc fun x p z => ⟨z.1.grown (s2' := T7.f), z.2⟩), hb7.grown (s2' := T7.f), lt_line (by rw [hlen]; omega), fun r => ?_⟩
                    obtain ⟨k1, k2, k3⟩ := fin (acV := storedH accV (kP kk) b r) ((s6.trans s7)) T7
                    exact ⟨F7, _, _, _, s2.trans s27, k1, upd_same, ent_store rc hb7, k2, k3, P4.mono ((s5.trans s6).trans s7)⟩
                  · exact P4.elim
theorem fe_srtDc {kx vx tg iter : Expr} {ifs : List Expr} {scope : Scope} {own : List (Str × Nat)} {pos p cp : Pos} {it : IF} {g : GF} {t : TF} {f fv : EF} {ns : List Nat} (hc : X.calm = true) (hu : X.A.units < cLine) (hN : X.N.Nodup) (hgl : Gl X "sorted") (hm : X.mg "sorted" = none) (hi : PI X tg iter (tI X.K π W it)) (ok : BlkOk X.N X.env.scope scope own)
    (hg : ∀ (s : Shared) (H : Hp) (C : Addr) (cl : List (Str × Addr)) (fp : List Addr), PG (X.blk s H scope (compEnvC scope cl C X.env) fp) tg (tGt X.K π ns g))
    (ht : ∀ (s : Shared) (H : Hp) (C : Addr) (cl : List (Str × Addr)) (fp : List Addr), PTs (X.blk s H scope (compEnvC scope cl C X.env) fp) ifs (tT X.K π W0 t))
    (hk : ∀ (s : Shared) (H : Hp) (C : Addr) (cl : List (Str × Addr)) (fp : List Addr), PE (X.blk s H scope (compEnvC scope cl C X.env) fp) kx (tE X.K π W0 f))
    (he : ∀ (s : Shared) (H : Hp) (C : Addr) (cl : List (Str × Addr)) (fp : List Addr), PE (X.blk s H scope (compEnvC scope cl C X.env) fp) vx (tE X.K π W0 fv))
    (hns : ∀ j ∈ ns, j ∈ own.map (·.2)) (hs : ∀ x, foldedSetIterable iter X.env x = pure x := by intro _; rfl) : PE X (.Call (.Name "sorted" p) [.DictComp kx vx [⟨tg, iter, ifs, 0⟩] scope pos] [] cp) (tE X.K π W (dtcE (own.map (·.2)) it g t f fv)) :=
  PE.imp (pe_callB (call_sortedX hc) hgl hm rfl (pa_cons (pe_dcX hc hu hN hi ok hg ht hk he (hs := hs)) pa_nil)) fun _ _ _ h => rd_dtc hns h
end
end FL
/-! FL74: x in t, t a tuple of tuples. -/
namespace FL
open PySem PySem.Spec PyProof.Rows L2
section
variable {X : Cx}
end
section
variable [FE]
variable {K : PySem.W.Frag}
end
end FL
/-! FL75: {y: True for x in xs for y in x}, the keys tuples: a block with one walk within another. -/
namespace FL
open PySem PySem.Spec PyProof.Rows L2
section
variable {prog : Program} {w : World} {A : Around} {R : Result → Shared → Prop} {s : Shared} {e tg : Expr} {d : Nat} {it acc : Value} {env : Env} {place : Pos} {ifs : List Expr} {todo : Sem Fin → Sem Fin}
variable {kx vx t0 t1 i0 i1 : Expr} {f0 f1 : List Expr} {scope : Scope} {pos : Pos} {D : Addr}
abbrev dc2 (kx vx t0 i0 : Expr) (f0 : List Expr) (t1 i1 : Expr) (f1 : List Expr) (scope : Scope) (pos : Pos) : Expr := .DictComp kx vx [⟨t0, i0, f0, 0⟩, ⟨t1, i1, f1, 0⟩] scope pos
end
section
variable {X : Cx}
end
end FL
/-! FL76: walks that fill a new thing, one within another: [e for x in xs for y in ys], {k: v for x in xs for y in ys}. -/
namespace FL
open PySem PySem.Spec PyProof.Rows L2
section
variable [FE]
variable {K : PySem.W.Frag} {π : Nat → Addr} {A B : Type}
/-- a state, and a new thing at p that no slot holds, which tells b -/
structure Full (K : PySem.W.Frag) (π : Nat → Addr) (ho : A → HO) (rel : Hp → A → B → Prop) (p : Addr) (c : Cfg) (F H : Hp) (σ : L2.St) (ρ : Rho) (b : B) : Prop where
  st : Sta K π c F H σ ρ
  acc : ∃ a, H p = some (ho a) ∧ rel F a b
  fn : F p = none
  h0 : c.H0 p = none
  nio : p ∉ c.io ∧ p ∉ c.ow
  nw : ∀ j, ¬ OwnAt σ ρ j p
/-- a thing that grows -/
structure Grows (K : PySem.W.Frag) (ho : A → HO) (rel : Hp → A → B → Prop) : Prop where
  nt : ∀ a, NT (ho a)
  mono : ∀ {F F' a b}, Same F F' → rel F a b → rel F' a b
variable {ho : A → HO} {rel : Hp → A → B → Prop} {p : Addr} {c : Cfg} {F F' H H' : Hp} {σ σ' : L2.St} {ρ ρ' : Rho} {b : B}
theorem own_unwiped {vs : List Nat} {j : Nat} {q : Addr} (h : OwnAt (wipe σ vs) (wipeR vs ρ) j q) : OwnAt σ ρ j q := by
  obtain ⟨e, m, h⟩ := h
  have e1 := wipe_some e
  have z : (wipeR vs ρ)[j]? = ρ[j]? := by
    rw [wipeR_get, if_neg fun y => e1.2 y.1]
  rw [z] at h
  exact ⟨e1.1, m, h⟩
theorem Full.into (S : Full K π ho rel p c F H σ ρ b) (vs : List Nat) : Full K π ho rel p c F H (wipe σ vs) (wipeR vs ρ) b :=
  ⟨S.st.into vs, S.acc, S.fn, S.h0, S.nio, fun j z => S.nw j (own_unwiped z)⟩
theorem slot_unwiped {vs : List Nat} {j : Nat} {s : Slot} (h : SlotOk K π c F H (wipe σ vs) j s) : SlotOk K π c F H σ j s := by
  cases s with
  | lk C f jj => exact h.elim fun a z => z.elim fun dx y => ⟨a, dx, (wipe_some y.1).1, y.2⟩
  | ln L => exact h.elim fun a y => ⟨a, (wipe_some y.1).1, y.2⟩
  | no => trivial
  | val d => exact h.elim fun v z => ⟨v, (wipe_some z.1).1, z.2⟩
  | own m => exact h.elim fun q z => ⟨q, (wipe_some z.1).1, z.2⟩
  | io m => exact ⟨(wipe_some h.1).1, h.2⟩
theorem own_wiped {vs : List Nat} {j : Nat} {q : Addr} (S : ∀ j s, ρ[j]? = some s → SlotOk K π c F H (wipe σ vs) j s) (h : OwnAt σ ρ j q) : OwnAt (wipe σ vs) ρ j q := by
  obtain ⟨e, m, h⟩ := h
  refine ⟨?_, m, h⟩
  have key : ∀ r, (wipe σ vs)[j]? = some (some (V.ref r)) → (wipe σ vs)[j]? = some (some (V.ref q)) := fun r z => by
    have y := (wipe_some z).1
    rw [e] at y
    rw [z, y]
  rcases h with h | h
  · exact (S j _ h).elim fun r z => key r z.1
  · exact key _ (S j _ h).1
theorem Full.unwiped {vs : List Nat} (S : Full K π ho rel p c F H (wipe σ vs) ρ b) : Full K π ho rel p c F H σ ρ b :=
  ⟨⟨S.st.h0, S.st.hio, S.st.f0, S.st.f, S.st.nf, (wipe_length σ vs).symm.trans S.st.len, fun j s e => slot_unwiped (S.st.rep j s e), fun i j q h k => S.st.dis i j q (own_wiped S.st.rep h) (own_wiped S.st.rep k), S.st.t⟩,
    S.acc, S.fn, S.h0, S.nio, fun j z => S.nw j (own_wiped S.st.rep z)⟩
/-- in the state as its own beginning, the thing is none of those that may be changed -/
theorem Full.kept (S : Full K π ho rel p c F H σ ρ b) : p ∉ (cfg F H σ ρ).io ∧ p ∉ (cfg F H σ ρ).ow := by
  constructor
  · intro z
    obtain ⟨j, s, e, h, k⟩ := mem_adrs.mp z
    cases s <;> first | (exact S.nw j ⟨e, _, .inr h⟩) | cases k
  · intro z
    obtain ⟨j, s, e, h, k⟩ := mem_adrs.mp z
    cases s <;> first | (exact S.nw j ⟨e, _, .inl h⟩) | cases k
/-- from a part's end -/
theorem Full.back (G : Grows K ho rel) (S : Full K π ho rel p c F H σ ρ b) (T : Sta K π (cfg F H σ ρ) F' H' σ' ρ') (s : Same F F') : Full K π ho rel p c F' H' σ' ρ' b := by
  obtain ⟨a, e, r⟩ := S.acc
  have k := S.kept
  have e0 : (cfg F H σ ρ).H0 p = some (ho a) := e
  exact ⟨S.st.back T, ⟨a, T.h0 p _ e0 k.1 k.2 (G.nt a), G.mono s r⟩, T.nf p _ e0 S.fn, S.h0, S.nio, T.notOwn e0 k⟩
/-- out of the block -/
theorem Full.out {vs : List Nat} {F1 H1 : Hp} {ρ1 ρ3 : Rho} (S : Full K π ho rel p c F H (wipe σ vs) ρ b) (S1 : Sta K π c F1 H1 σ ρ1) (s : Same F1 F) (er : resR vs ρ1 ρ = some ρ3) : Full K π ho rel p c F H σ ρ3 b := by
  have U := S.unwiped
  have len : ρ.length = ρ1.length := U.st.len.symm.trans S1.len
  obtain ⟨a1, a2, a3, a4⟩ := S1.outof (ks := vs) (F' := F) (H' := H) s (ls := vs) (ρ1 := ρ) (ρ2 := ρ3) (fun l hl => hl) U.st.rep U.st.dis len er
  exact ⟨⟨U.st.h0, U.st.hio, U.st.f0, U.st.f, U.st.nf, S1.len.trans a3.symm, a1, a2, U.st.t⟩, U.acc, U.fn, U.h0, U.nio, fun j z => U.nw j (a4 j p z)⟩
/-! ### lists -/
variable {X : Cx} {W : WX}
end
end FL
/-! FL77: sorted({k: v for x in xs for y in ys}), the keys pairs of whole numbers, as data. -/
namespace FL
open PySem PySem.Spec PyProof.Rows L2
section
variable [FE]
variable {X : Cx} {π : Nat → Addr} {W : WX} {p : Addr} {c : Cfg} {F F' H H' : Hp} {σ : L2.St} {ρ ρ' : Rho}
end
end FL
/-! FL78: sorted of a list or a tuple of pairs of whole numbers. -/
namespace FL
open PySem PySem.Spec PyProof.Rows L2
section
variable {X : Cx} {pins : List (Addr × Obj)} {σ : L2.St} {H : Hp} {s : Shared}
end
end FL
/-! FL79: min of a tuple of whole numbers. -/
namespace FL
open PySem PySem.Spec PyProof.Rows L2
end FL
/-! FL80: x.split(y) of texts; int(x) of a text. -/
namespace FL
open PySem PySem.Spec PyProof.Rows L2
section
variable [FE]
variable {X : Cx} {π : Nat → Addr} {W : WX} {a e : Expr} {pos apos : Pos}
end
end FL
/-! FL81: a text many times over. -/
namespace FL
open PySem PySem.Spec PyProof.Rows L2
end FL
/-! FL82: t.index(x), t a tuple of whole numbers, told with its object (which has no dict). -/
namespace FL
open PySem PySem.Spec PyProof.Rows L2
section
variable [FE]
variable {X : Cx} {π : Nat → Addr} {W : WX} {a b : Expr} {apos cpos : Pos}
end
end FL
/-! our own list, compared with a new empty one -/
namespace FL
open PySem PySem.Spec PyProof.Rows L2
section
variable [FE]
variable {X : Cx} {π : Nat → Addr} {W : WX}
end
/-! ### a def that the module knows by another name as well -/
end FL
/-! FL84: tuples of whole numbers in order, whatever their lengths. -/
namespace FL
open PySem PySem.Spec PyProof.Rows L2
/-- a tuple of these whole numbers -/
def TupV (h : Heap) (v : Value) (ns : List Int) : Prop := ∃ (a : Addr) (its : Array Value), v = .ref a ∧ IsTup h a its ∧ IntsAre its.toList ns
theorem TupV.keeps {h h' : Heap} {v : Value} {ns : List Int} (x : TupV h v ns) (k : ∀ b o, h.get? b = some o → o.cls = .type "tuple" → h'.get? b = some o) : TupV h' v ns := by
  obtain ⟨a, its, e, ⟨o, g, c, n, d⟩, i⟩ := x
  exact ⟨a, its, e, ⟨o, k a o g c, c, n, d⟩, i⟩
section
variable {prog : Program} {w : World} {A : Around} {E : Value → Shared → Prop} {s : Shared}
end
end FL
/-! FL85: dicts of our own with tuples of whole numbers as keys: made, put into, their keys sorted. -/
namespace FL
open PySem PySem.Spec PyProof.Rows L2
abbrev KI (ns : List Int) : List Key := ns.map Sum.inl
def putU (kvs : List (List Int × D)) (k : List Int) (d : D) : List (List Int × D) := if k ∈ kvs.map (fun p => p.1) then kvs.map fun p => if p.1 = k then (k, d) else p else kvs ++ [(k, d)]
section
variable {K : PySem.W.Frag} {F F' H : Hp}
/-- the tuple of whole numbers that is a key -/
def keyU : D → Option (List Int)
  | .tup ds => asInts ds
  | _ => none
end
section
variable {X : Cx} {pins : List (Addr × Obj)} {σ : L2.St} {H : Hp} {s : Shared}
end
section
variable {X : Cx} {o i value : Expr} {td ty tv : TE} {pos pos' : Pos}
end
section
variable [FE]
variable {X : Cx} {π : Nat → Addr} {W : WX} {e a b : Expr} {pos pos' p q : Pos} {i : Nat} {x : Str}
/-- a new one -/
def newU : Rho → R M := fun ρ => .ok (.dtu []) ρ
/-- d[k] = v -/
def dputU (i : Nat) (f g : EF) : SF := fun ρ => (g ρ).bind fun v ρ => match ioM ρ i with
  | some (.dtu _) => (f ρ).bind fun y ρ => match ioM ρ i with
    | some (.dtu kvs) => match keyU y with
      | some k => if small (kvs.length + 1) = true then .ok .nx (setMs i (.dtu (putU kvs k v)) ρ) else .stuck
      | none => .stuck
    | _ => .stuck
  | _ => .stuck
end
end FL
/-! FL86: sorted of a dict of our own whose keys are tuples of whole numbers. -/
namespace FL
open PySem PySem.Spec PyProof.Rows L2
def insT (x : List Int) : List (List Int) → List (List Int)
  | [] => [x]
  | y :: ys => if HT.lexLt y x = true then y :: insT x ys else x :: y :: ys
def srtT : List (List Int) → List (List Int)
  | [] => []
  | x :: xs => insT x (srtT xs)
def tupD (ns : List Int) : D := .tup (ns.map D.int)
abbrev TI (K : PySem.W.Frag) (H : Hp) (b : Addr) (ns : List Int) : Prop := SqT K H b (ns.map V.int)
section
variable {X : Cx} {pins : List (Addr × Obj)} {σ : L2.St} {H : Hp} {s : Shared}
end
def sortU (i : Nat) : EF := fun ρ => match ioM ρ i with
  | some (.dtu kvs) => .ok (.lst ((srtT (kvs.map fun p => p.1)).map tupD)) ρ
  | _ => .stuck
section
variable [FE]
variable {X : Cx} {π : Nat → Addr} {W : WX} {pos p q : Pos} {i : Nat} {x y : Str}
end
end FL
/-! FL87: sorted(dict([(t, v), ..])), the keys tuples of whole numbers. -/
namespace FL
open PySem PySem.Spec PyProof.Rows L2
section
variable {K : PySem.W.Frag} {F : Hp}
end
section
variable {X : Cx} {pins : List (Addr × Obj)} {σ : L2.St} {H : Hp} {s : Shared}
end
section
variable [FE]
variable {X : Cx} {π : Nat → Addr} {W : WX} {e : Expr} {es : List Expr} {pos p q : Pos} {x y : Str}
end
end FL
/-! FL88: sorted(set(xs)), xs a list of tuples of whole numbers (of any lengths). -/
namespace FL
open PySem PySem.Spec PyProof.Rows L2
section
variable [FE]
variable {X : Cx} {π : Nat → Addr} {W : WX}
end
end FL
/-! FL89: {t: v} with a tuple of whole numbers as its key, a new dict of our own, and d.get(t, v) of such a dict. -/
namespace FL
open PySem PySem.Spec PyProof.Rows L2
section
variable {X : Cx} {k v o e f : Expr} {tk tv td ty tx : TE} {pos apos cpos : Pos}
end
section
variable {K : PySem.W.Frag} {F : Hp}
end
section
variable [FE]
variable {X : Cx} {π : Nat → Addr} {W : WX} {a b o : Expr} {pos apos cpos : Pos} {i : Nat}
end
end FL
/-! FL90: a def that catches one class: try: return act() except A as e: .. -/
namespace FL
open PySem PySem.Spec PyProof.Rows L2

section
variable [FE]
section
variable {P : Program} {w : World} {K : PySem.W.Frag} {mg : Str → Option Value} {base : Heap}
end
end
end FL
/-! FL91: a copy of a dict of our own, dict(list(d.items())); x = y if t else x with dicts of our own. -/
namespace FL
open PySem PySem.Spec PyProof.Rows L2
section
variable [FE]
variable {X : Cx} {π : Nat → Addr} {W : WX}
end
end FL
/-! FL92: an exception that is made and kept: made by position, asked for its class, for what it keeps. -/
namespace FL
open PySem PySem.Spec PyProof.Rows L2 PySem.W PySem.HandSPX

section
variable {X : Cx} {C fI : Addr} {B nw ini : String} {tl : List Value} {fs : List Str} {a : Expr} {as : List Expr} {ta : TA} {x : Str} {p pos pos2 : Pos} {k : Nat}
end
/-! ### as data -/
section
variable [FE]
variable {X : Cx} {π : Nat → Addr} {W : WX} {C fI : Addr} {B nw ini : String} {tl : List Value} {fs : List Str} {a : Expr} {as : List Expr} {x : Str} {p pos pos2 : Pos} {k : Nat}
/-! ### what is asked of it -/
end
end FL
/-! FL93: an exception made by a call with keywords. -/
namespace FL
open PySem PySem.Spec PyProof.Rows L2 PySem.W PySem.HandSPX
section
variable {M : Model} {A : Around} {E : Value → Shared → Prop} {h : Heap} {g : Array GenState} {d : Drawn} {t : Nat} {os : OsState}
variable {nm q : Str} {C N : Addr} {bs bm tl : List Value} {hdct : Bool} {sn : List Str} {sub : List Value} {ab : Bool} {col : Option Bool} {dd : Option Addr} {k0 k1 k2 k3 k5 : Option Value} {B nw ini : String} {kw : List (Str × Value)}
end
section
variable {prog : Program} {w : World} {A : Around} {E : Value → Shared → Prop} {R : Result → Shared → Prop} {h : Heap} {g : Array GenState} {d : Drawn} {t : Nat} {os : OsState}
variable {nm q : Str} {C N fI : Addr} {bs bm tl : List Value} {hdct : Bool} {sn : List Str} {sub : List Value} {ab : Bool} {col : Option Bool} {dd : Option Addr} {k0 k1 k2 k3 k5 : Option Value} {B nw ini : String} {kw : List (Str × Value)}
end
section
variable {K : Frag} {C fI : Addr} {B nw ini : String} {tl : List Value} {f g q0 : Str} {oc : Value} {od : Option Addr} {doc pm : Value} {an : Option Addr} {cdv ct : Value} {osl : Array (Option Value)} {p1 p2 p3 q1 q2 q3 q4 q5 q6 q7 q8 : Pos}
end
section
variable {prog : Program} {w : World} {A : Around} {E : Value → Shared → Prop} {R : Result → Shared → Prop} {s : Shared} {K : Frag} {C fI : Addr} {B nw ini : String} {tl : List Value} {fs : List Str} {b : Bool}
end
section
variable {X : Cx} {C fI : Addr} {B nw ini : String} {tl : List Value} {fs : List Str} {b : Bool} {kws : List Keyword} {tk : TA} {x : Str} {p pos : Pos} {k : Nat}
end
section
variable [FE]
variable {X : Cx} {π : Nat → Addr} {W : WX} {C fI : Addr} {B nw ini : String} {tl : List Value} {fs : List Str} {b : Bool} {kws : List Keyword} {x : Str} {p pos : Pos} {k : Nat}
end
end FL
/-! FL94: try: .. except A as e: .. among a def's statements. -/
namespace FL
open PySem PySem.Spec PyProof.Rows L2
section
variable [FE]
variable {K : PySem.W.Frag} {π : Nat → Addr} {W : WX} {c : Cfg} {F F' H H' : Hp} {σ σ' : L2.St} {ρ ρ' : Rho} {D : Ends}
/-- a name is gone -/
theorem Sta.drop (S : Sta K π c F H σ ρ) (i : Nat) : Sta K π c F H (σ.set i none) (ρ.set i .no) := by
  refine ⟨S.h0, S.hio, S.f0, S.f, S.nf, by rw [List.length_set, List.length_set]; exact S.len, fun j s hs => ?_, fun j k p h1 h2 => ?_, S.t⟩
  · by_cases e : j = i
    · subst e
      by_cases hi : j < ρ.length
      · rw [List.getElem?_set_self hi] at hs
        cases hs
        trivial
      · rw [List.getElem?_eq_none (by rw [List.length_set]; omega)] at hs
        cases hs
    · rw [List.getElem?_set_ne (Ne.symm e)] at hs
      have z := S.rep j s hs
      have g : (σ.set i none)[j]? = σ[j]? := List.getElem?_set_ne (Ne.symm e)
      cases s with
      | lk C f jj => obtain ⟨a, dx, e1, h1⟩ := z; exact ⟨a, dx, g.trans e1, h1⟩
      | ln L => obtain ⟨a, e1, h1⟩ := z; exact ⟨a, g.trans e1, h1⟩
      | no => trivial
      | val d => obtain ⟨w, e1, r1⟩ := z; exact ⟨w, g.trans e1, r1⟩
      | own m => obtain ⟨p, e1, r1⟩ := z; exact ⟨p, g.trans e1, r1⟩
      | io m => obtain ⟨e1, r1⟩ := z; exact ⟨g.trans e1, r1⟩
  · have key : ∀ j, OwnAt (σ.set i none) (ρ.set i .no) j p → OwnAt σ ρ j p := fun j h => by
      obtain ⟨e, m, h⟩ := h
      by_cases q : j = i
      · subst q
        by_cases hi : j < ρ.length
        · rw [List.getElem?_set_self hi] at h
          rcases h with h | h <;> cases h
        · rw [List.getElem?_eq_none (by rw [List.length_set]; omega)] at h
          rcases h with h | h <;> cases h
      · rw [List.getElem?_set_ne (Ne.symm q)] at e h
        exact ⟨e, m, h⟩
    exact S.dis j k p (key j h1) (key k h2)
end
section
variable [FE]
variable {X : Cx} {π : Nat → Addr} {W : WX} {x n : Str} {i : Nat} {body suite : List Stmt} {b₀ : Stmt} {np pos pos' : Pos} {sb : SF} {gs : EId → SF} {ct : CT}
end
end FL
/-! FL95: an instance that holds one thing of ours, never another: defs that get such a one. -/
namespace FL
open PySem PySem.Spec PyProof.Rows L2

def toSB : Arg → Slot
  | .val d => .val d
  | .io m => .io m
  | .lk C f j => .lk C f j
  | .ln _ => .no
def rhoB (l : Nat) (as : List Arg) : Rho := as.map toSB ++ List.replicate (l - as.length) .no
/-- the def by its body: l names, the last argument is the thing that is held -/
def bodyB (l : Nat) (g : SF) (as : List Arg) : RG := match g (rhoB l as) with
  | .ok .nx ρ => endG as (.ok (.v .non)) ρ
  | .ok (.rt r) ρ => endG as (.ok r) ρ
  | .exc C fs ρ => endG as (.exc C fs) ρ
  | _ => .stuck
section
variable {P : Program} {w : World} {K : PySem.W.Frag} {mg : Str → Option Value} {base : Heap}
variable [FE]
end
end FL
/-! FL96: calls of defs that get a holder; what it holds, by the way through it. -/
namespace FL
open PySem PySem.Spec PyProof.Rows L2

/-- all holders that are handed on hold the thing in slot j -/
def lkAll (n j : Nat) (ρ : Rho) : List AA → Bool
  | [] => true
  | .lk i j' :: as => (j' == n && (match lnkC ρ i with | some p => p.2.2 == j | none => false)) && lkAll n j ρ as
  | _ :: as => lkAll n j ρ as
def isIo (ρ : Rho) (j : Nat) : Bool := match ρ[j]? with
  | some (.io _) => true
  | _ => false
/-- a call of a def that gets a holder; the thing that it holds is in slot j -/
def callB {α : Type} (n : Nat) (G : List Arg → RG) (j : Nat) (f : BF) (k : Res → Rho → R α) : Rho → R α := fun ρ => (f ρ).bind fun as ρ => if (isIo ρ j && lkAll n j ρ as) = true then (if okA (n + 1) (as ++ [.sl j]) = true then match toArgs ρ (as ++ [.sl j]) with
    | some gs => match G gs with
      | .ok r outs => k r (putA (as ++ [.sl j]) outs ρ)
      | .exc C fs outs => .exc C fs (putA (as ++ [.sl j]) outs ρ)
      | .stuck => .stuck
    | none => .stuck
  else .stuck) else .stuck
section
variable [FE]
variable {K : PySem.W.Frag} {π : Nat → Addr} {c : Cfg} {F F' H H' : Hp} {σ : L2.St} {ρ : Rho}
theorem Sta.isIo (S : Sta K π c F H σ ρ) {j : Nat} (h : FL.isIo ρ j = true) : σ[j]? = some (some (.ref (π j))) := by
  unfold FL.isIo at h
  split at h
  · rename_i m e
    exact (S.rep j _ e).1
  · cases h
end
section
variable [FE]
variable {X : Cx} {π : Nat → Addr} {W : WX} {e : Expr} {es : List Expr} {pos p apos : Pos} {k i j : Nat} {f : Addr} {fd : FuncData} {ps ks : List Str} {G : List Arg → RG} {x n m : Str} {kws : List Keyword} {α : Type} {rel : Rel V α} {kk : Res → Rho → R α}
/-! ### methods of a holder -/
/-- slot i's holder of the class n, and the other arguments: for its method m, which has nn parameters -/
def objL (n : Str) (i : Nat) (m : Str) (nn : Nat) (g : BF) : BF := fun ρ => match lnkC ρ i with
  | some q => if q.1 = FE.cl n ∧ q.2.1 ≠ m then (g ρ).bind fun as ρ => .ok (.lk i nn :: as) ρ else .stuck
  | none => .stuck
/-! ### the way through a holder -/
/-- slot i's one field f: what it holds -/
def tPa (i : Nat) (C : Addr) (f : Str) : TE := fun σ H Q => ∃ a dx v, σ[i]? = some (some (V.ref a)) ∧ H a = some (.ins C dx [(f, v)]) ∧ Q v H
/-- slot i holds the thing in slot j -/
def lnkR {α : Type} (n f : Str) (i j : Nat) (g : Rho → R α) : Rho → R α := fun ρ => if lnkC ρ i = some (FE.cl n, f, j) ∧ isIo ρ j = true then g ρ else .stuck
theorem Sta.pa {c : Cfg} {F H : Hp} {σ : L2.St} {ρ : Rho} {Q : VK} {fd : Str} (S : Sta X.K π c F H σ ρ) (h : FL.lnkC ρ i = some (FE.cl n, fd, j) ∧ FL.isIo ρ j = true) (t : tVar j σ H Q) : tPa i (FE.cl n) fd σ H Q := by
  obtain ⟨a, dx, a1, a2⟩ := S.lnkC h.1
  obtain ⟨v, e, q⟩ := t
  rw [S.isIo h.2] at e
  cases e
  exact ⟨a, dx, _, a1, S.f _ _ a2, q⟩
end
end FL
/-! FL97: what is done with the thing that a holder holds; holders handed on; the getter. -/
namespace FL
open PySem PySem.Spec PyProof.Rows L2
section
variable [FE]
variable {X : Cx} {π : Nat → Addr} {W : WX} {e o : Expr} {es : List Expr} {pos p apos : Pos} {k i j nn : Nat} {f : Addr} {fd : FuncData} {ps ks : List Str} {G : List Arg → RG} {x n m nh nf : Str} {fl : List Str} {kws : List Keyword} {α : Type} {rel : Rel V α} {kk : Res → Rho → R α}
/-- the holder in slot i as an argument; the thing that it holds is handed in at nn -/
def lkB (i nn : Nat) (g : BF) : BF := fun ρ => match lnkC ρ i with
  | some _ => (g ρ).bind fun as ρ => .ok (.lk i nn :: as) ρ
  | none => .stuck
end
/-! ### the getter -/
section
variable [FE]
variable {P : Program} {w : World} {K : PySem.W.Frag} {mg : Str → Option Value} {base : Heap}
end
section
variable [FE]
variable {X : Cx} {π : Nat → Addr} {W : WX} {e o : Expr} {es : List Expr} {pos p apos : Pos} {k i j nn : Nat} {f : Addr} {fd : FuncData} {ps ks : List Str} {G : List Arg → RG} {x n m nh nf : Str} {fl : List Str} {kws : List Keyword}
/-! ### as the printed terms write them -/
end
end FL
/-! FL98: a new holder: its constructor, and the names that get it. -/
namespace FL
open PySem PySem.Spec PyProof.Rows L2
section
variable [FE]
section
variable {P : Program} {w : World} {K : PySem.W.Frag} {mg : Str → Option Value} {base : Heap}
end
section
variable {X : Cx} {π : Nat → Addr} {W : WX} {k : Nat} {x nh nf : Str} {f : Addr} {fd : FuncData} {ps : List Str} {m0 : M} {p pos : Pos}
end
/-! ### the holder gets a name -/
def noLk (ρ : Rho) : Bool := ρ.all fun s => match s with
  | .lk _ _ _ => false
  | .ln _ => false
  | _ => true
/-- the thing in slot j is held by the holder that slot i gets -/
def holdR (nh nf : Str) (i j : Nat) (ρ : Rho) : Option Rho := match ρ[j]? with
  | some (.own m) => if i < ρ.length ∧ i ≠ j ∧ noLk ρ = true then some ((ρ.set i (.lk (FE.cl nh) nf j)).set j (.io m)) else none
  | _ => none
def shift (π : Nat → Addr) (j : Nat) (q : Addr) : Nat → Addr := fun k => if k = j then q else π k
section
variable {K : PySem.W.Frag} {π : Nat → Addr} {W : WX} {c : Cfg} {F F' H H' : Hp} {σ σ' : L2.St} {ρ ρ' : Rho} {i j : Nat} {q y dx : Addr} {nh nf : Str}
theorem Sta.hold {ρ2 : Rho} (S : Sta K π c F H σ ρ) (h0 : c.ow = []) (hq : σ[j]? = some (some (.ref q))) (hy : F y = some (.ins (FE.cl nh) dx [(nf, .ref q)])) (e : holdR nh nf i j ρ = some ρ2) :
    Sta K (shift π j q) ⟨c.H0, c.F0, q :: c.io, c.ow⟩ F H (σ.set i (some (.ref y))) ρ2 ∧ c.H0 q = none ∧ ∀ k m, ρ[k]? = some (.io m) → k ≠ j ∧ π k ≠ q := by
  unfold holdR at e
  split at e
  · rename_i m ej
    split at e
    · rename_i hh
      obtain ⟨hi, hij, hnl⟩ := hh
      cases e
      obtain ⟨q', e1, e2, e3, e4⟩ := S.rep j _ ej
      rw [hq] at e1
      cases e1
      have e3 : c.H0 q = none := by
        rcases e3 with z | z
        · exact z
        · rw [h0] at z; cases z
      have hj : j < ρ.length := (List.getElem?_eq_some_iff.mp ej).1
      have own : OwnAt σ ρ j q := ⟨hq, m, .inl ej⟩
      have iok : ∀ k m, ρ[k]? = some (.io m) → k ≠ j ∧ π k ≠ q := fun k m1 ek => by
        have nk : k ≠ j := fun z => by
          subst z
          rw [ej] at ek
          cases ek
        refine ⟨nk, fun z => nk (S.dis k j q ⟨?_, m1, .inr ek⟩ own)⟩
        have := (S.rep k _ ek).1
        rw [z] at this
        exact this
      have at_j : ((ρ.set i (.lk (FE.cl nh) nf j)).set j (.io m))[j]? = some (.io m) := List.getElem?_set_self (by simpa using hj)
      have at_i : ((ρ.set i (.lk (FE.cl nh) nf j)).set j (.io m))[i]? = some (.lk (FE.cl nh) nf j) := by
        rw [List.getElem?_set_ne (Ne.symm hij), List.getElem?_set_self hi]
      have at_k : ∀ {k}, k ≠ i → k ≠ j → ((ρ.set i (.lk (FE.cl nh) nf j)).set j (.io m))[k]? = ρ[k]? := fun {k} a b => by
        rw [List.getElem?_set_ne (Ne.symm b), List.getElem?_set_ne (Ne.symm a)]
      have sg : ∀ {k}, k ≠ i → (σ.set i (some (V.ref y)))[k]? = σ[k]? := fun {k} a => List.getElem?_set_ne (Ne.symm a)
      have si : (σ.set i (some (V.ref y)))[i]? = some (some (.ref y)) := List.getElem?_set_self (by rw [S.len]; exact hi)
      have pk : ∀ {k}, k ≠ j → shift π j q k = π k := fun {k} a => if_neg a
      have pj : shift π j q j = q := if_pos rfl
      refine ⟨⟨fun b o eb n1 n2 nt => S.h0 b o eb (fun z => n1 (List.mem_cons_of_mem _ z)) n2 nt, fun b hb => ?_, S.f0, S.f, S.nf, ?_, fun k s hs => ?_, fun k1 k2 p h1 h2 => ?_, ⟨S.t.tb, S.t.tk, S.t.nt⟩⟩, e3, iok⟩
      · rcases hb with hb | hb
        · rcases List.mem_cons.mp hb with z | z
          · rw [z]; exact e4.here
          · exact S.hio b (.inl z)
        · exact S.hio b (.inr hb)
      · rw [List.length_set, List.length_set, List.length_set]
        exact S.len
      · by_cases zj : k = j
        · subst zj
          rw [at_j] at hs
          cases hs
          refine ⟨?_, ?_, ?_, ?_⟩
          · rw [pj, sg (Ne.symm hij)]; exact hq
          · rw [pj]; exact e2
          · rw [pj]; exact List.mem_cons_self
          · rw [pj]; exact e4
        · by_cases zi : k = i
          · subst zi
            rw [at_i] at hs
            cases hs
            exact ⟨y, dx, si, by rw [pj]; exact hy⟩
          · rw [at_k zi zj] at hs
            have z := S.rep k s hs
            cases s with
            | no => trivial
            | val d =>
              obtain ⟨v, a1, a2⟩ := z
              exact ⟨v, (sg zi).trans a1, a2⟩
            | own m1 =>
              obtain ⟨p, a1, a2⟩ := z
              exact ⟨p, (sg zi).trans a1, a2⟩
            | io m1 =>
              obtain ⟨a1, a2, a3, a4⟩ := z
              refine ⟨?_, ?_, ?_, ?_⟩
              · rw [pk zj]; exact (sg zi).trans a1
              · rw [pk zj]; exact a2
              · rw [pk zj]; exact List.mem_cons_of_mem _ a3
              · rw [pk zj]; exact a4
            | lk C f jj =>
              have := List.all_eq_true.mp hnl _ (List.mem_of_getElem? hs)
              cases this
            | ln L =>
              have := List.all_eq_true.mp hnl _ (List.mem_of_getElem? hs)
              cases this
      · have key : ∀ k, OwnAt (σ.set i (some (.ref y))) ((ρ.set i (.lk (FE.cl nh) nf j)).set j (.io m)) k p → OwnAt σ ρ k p := fun k ⟨a1, m1, a2⟩ => by
          by_cases zj : k = j
          · subst zj
            rw [sg (Ne.symm hij), hq] at a1
            cases a1
            exact own
          · by_cases zi : k = i
            · subst zi
              rw [at_i] at a2
              rcases a2 with a2 | a2 <;> cases a2
            · rw [at_k zi zj] at a2
              rw [sg zi] at a1
              exact ⟨a1, m1, a2⟩
        exact S.dis k1 k2 p (key k1 h1) (key k2 h2)
    · cases e
  · cases e
end
end
end FL
/-! FL99: statements by which a name gets a new holder. -/
namespace FL
open PySem PySem.Spec PyProof.Rows L2
section
variable [FE]
/-! ### argument lists with a new holder in them -/
section
variable {X : Cx} {π : Nat → Addr} {W : WX} {e a b : Expr} {es : List Expr} {pos : Pos} {nh nf : Str} {m0 : M} {t : Nat}
end
/-! ### stored -/
section
variable {X : Cx} {π : Nat → Addr} {W : WX} {e a b : Expr} {es : List Expr} {rest : List Stmt} {pos : Pos} {nh nf : Str} {m0 : M} {i j t : Nat} {g : SF}
end
end
end FL
/-! FL100: holders where lambdas are made; join of a tuple, str of a text, f-strings. -/
namespace FL
open PySem PySem.Spec PyProof.Rows L2
section
variable {P : Program} {w : World} {K : PySem.W.Frag} {mg : Str → Option Value} {base : Heap}
variable [FE]
end
section
variable [FE]
variable {X : Cx} {π : Nat → Addr} {W : WX} {e a b : Expr} {es : List Expr} {pos p apos : Pos}
/-! ### join of a tuple -/
def joinTD : D → D → Option D
  | .str a, .tup ds => (asStrs ds).bind fun ys => if (ys.map (·.length)).sum + ys.length * a.length ≤ 100000 then some (.str (Txt.join a ys)) else none
  | _, _ => none
def joinTE (f g : EF) : EF := fun ρ => (f ρ).bind fun x ρ => match x with
  | .str a => (g ρ).bind fun y ρ => R.of (joinTD (.str a) y) ρ
  | _ => .stuck
/-! ### str of a number or a text -/
/-! ### f-strings -/
/-- the parts' readings -/
inductive PJE (X : Cx) (π : Nat → Addr) (W : WX) : List Expr → List EF → Prop where
  | nil : PJE X π W [] []
  | cons {e : Expr} {f : EF} {es : List Expr} {fs : List EF} (h : PE X e (tE X.K π W f)) (r : PJE X π W es fs) : PJE X π W (e :: es) (f :: fs)
theorem PJE.pj {es : List Expr} {fs : List EF} (h : PJE X π W es fs) : PJ X es (fs.map fun f => tE X.K π W f) := by
  induction h with
  | nil => exact .nil
  | cons h _ ih => exact .cons h ih
end
end FL
namespace FL
open PySem PySem.Spec PyProof.Rows L2
end FL
/-! FL101: x.items() of a dict that is data, its pairs plain tuples. -/
namespace FL
open PySem PySem.Spec PyProof.Rows L2
section
variable {P : Program} {w : World} {K : PySem.W.Frag} {q it : Addr} {od : Obj} {rows : Array DictEntry} {ep : Nat} {kvs : List (Key × V)} {elts : List Expr} {kk : Nat} {tpos : Pos}
end
section
variable {X : Cx} {e : Expr} {td : TE} {apos cpos : Pos} {elts : List Expr} {kk : Nat} {tpos : Pos}
end
section
variable [FE]
variable {X : Cx} {π : Nat → Addr} {W : WX} {e : Expr} {apos cpos : Pos} {elts : List Expr} {kk : Nat} {tpos : Pos}
end
end FL
/-! FL102: how calls of defs that get a holder are computed. -/
namespace FL
open PySem PySem.Spec PyProof.Rows L2
theorem callB_eq {α : Type} (n : Nat) (G : List FL.Arg → RG) (j : Nat) (f : BF) (k : Res → Rho → R α) (ρ : Rho) : callB n G j f k ρ = (f ρ).bind fun as ρ => if (isIo ρ j && lkAll n j ρ as) = true then (if okA (n + 1) (as ++ [.sl j]) = true then argG (toArgs ρ (as ++ [.sl j])) G (as ++ [.sl j]) k ρ else .stuck) else .stuck := by
  unfold callB argG goG
  congr 1
theorem bodyB_eq (l : Nat) (g : SF) (as : List FL.Arg) : bodyB l g as = endR as (g (rhoB l as)) := by
  unfold bodyB endR
  rfl
theorem bn_1 : (("base" : Str) ≠ "run") = True := eq_true (by decide +kernel)
theorem bn_2 : (("base" : Str) ≠ "done") = True := eq_true (by decide +kernel)
theorem bn_3 : (("base" : Str) ≠ "told") = True := eq_true (by decide +kernel)
theorem bn_4 : (("base" : Str) ≠ "claimed") = True := eq_true (by decide +kernel)
theorem bn_5 : (("base" : Str) ≠ "lifted") = True := eq_true (by decide +kernel)
theorem bn_6 : (("base" : Str) ≠ "put_in") = True := eq_true (by decide +kernel)
theorem bn_7 : (("base" : Str) ≠ "asked") = True := eq_true (by decide +kernel)
theorem bn_8 : (("base" : Str) ≠ "told_of") = True := eq_true (by decide +kernel)
end FL
/-! FL103: for a, b in zip(x, y), the pairs plain -/
namespace FL
open PySem PySem.Spec PyProof.Rows L2
section
variable {P : Program} {w : World} {K : PySem.W.Frag} {z ti to r1 r2 p q : Addr} {elts : List Expr} {kk : Nat} {tpos : Pos}
end
section
variable [FE]
variable {X : Cx} {π : Nat → Addr} {W : WX} {e e2 : Expr} {pos ps tpos : Pos} {elts : List Expr} {kk : Nat}
end
end FL
/-! FL104: sorted(xs) of a list of texts -/
namespace FL
open PySem PySem.Spec PyProof.Rows L2
end FL
/-! FL105: an exception that leaves a list comprehension. -/
namespace FL
open PySem PySem.Spec PyProof.Rows L2
section
variable {X : Cx} {pins : List (Addr × Obj)} {σ : L2.St} {H : Hp} {s : Shared}
end
end FL
/-! FL106: name = [..] whose element may raise. -/
namespace FL
open PySem PySem.Spec PyProof.Rows L2
section
variable {X : Cx} {pins : List (Addr × Obj)} {σ : L2.St} {H : Hp} {s : Shared}
end
end FL
/-! FL107: [f for x in xs], where f may raise. -/
namespace FL
open PySem PySem.Spec PyProof.Rows L2
section
variable [FE]
variable {X : Cx} {π : Nat → Addr} {W : WX}
end
end FL
/-! FL108: xs[:0:-1] of a list. -/
namespace FL
open PySem PySem.Spec PyProof.Rows L2
section
variable [FE]
variable {X : Cx} {π : Nat → Addr} {W : WX}
end
end FL
/-! FL109: a try with several except clauses, each of one class or of three, each with a name. -/
namespace FL
open PySem PySem.Spec PyProof.Rows L2
/-- an exception of ours has come down: J is the state without it -/
structure Down (X : Cx) (pins : List (Addr × Obj)) (σ : L2.St) (H : Hp) (a : Addr) (cls : Value) (d : Option Addr) (s : Shared) : Prop where
  ex : ∃ (B : Heap) (sI : Shared), Inv X pins σ H sI ∧ (∀ b o, sI.heap.get? b = some o → b ∉ frs X.stack → B.get? b = some o) ∧ sI.heap.UpToSlots s.heap ∧ HandSPX.FlyingZ B (X.env :: X.outer) a (L2N.Zn cls d) s.heap ∧ H a = none ∧ s.os = sI.os ∧ AllBare s.gens
abbrev TH := Addr → Value → Option Addr → Ends → L2.St → Hp → Prop
/-- these clauses do what t wishes of an exception that has come down -/
def Clauses (X : Cx) (hs : List ExceptHandler) (t : TH) : Prop := ∀ (pins : List (Addr × Obj)) (σ : L2.St) (H : Hp) (a : Addr) (cls : Value) (d : Option Addr) (s : Shared) (D : Ends), Down X pins σ H a cls d s → t a cls d D σ H → wpAny (model X.prog X.w) X.A (handleBy (.ref a) X.env hs) (SP X pins D) X.xe s
section
variable {X : Cx} {n : Str} {i : Nat} {suite : List Stmt} {b₀ : Stmt} {pos pos' : Pos} {rest : List ExceptHandler} {t : TH} {ts : Addr → Value → Option Addr → TS}
theorem Down.far {pins : List (Addr × Obj)} {σ : L2.St} {H : Hp} {a : Addr} {cls : Value} {d : Option Addr} {s : Shared} (h : Down X pins σ H a cls d s) (fr : X.env.frame = some X.env.locals) (st : X.stack = X.env :: X.outer) :
    Inv X pins σ H s ∧ ∃ o v, s.heap.get? a = some o ∧ L2N.Zn cls d o ∧ o.data = .fields v ∧ a ≠ X.env.locals ∧ a ∉ X.fs := by
  obtain ⟨B, sI, J, nb, up, fl, na, os, ag⟩ := h.ex
  obtain ⟨o, v, ho, hz, hv⟩ := fl.there
  have away : a ∉ frs (X.env :: X.outer) := fun hm => by
    obtain ⟨_, o', e', hnf⟩ := fl.2.2.1.mem hm
    rw [ho] at e'
    cases e'
    exact hnf _ hv
  refine ⟨J.landed nb fl.1 up os ag, o, v, ho, hz, hv, fun z => away (List.mem_filterMap.mpr ⟨X.env, List.mem_cons_self, by rw [fr, z]⟩), fun hm => ?_⟩
  obtain ⟨e, he, q⟩ := List.mem_filterMap.mp hm
  exact away (List.mem_filterMap.mpr ⟨e, List.mem_cons_of_mem _ he, q⟩)
/-- more objects, the exception as it was -/
theorem Down.more {pins : List (Addr × Obj)} {σ : L2.St} {H : Hp} {a : Addr} {cls : Value} {d : Option Addr} {s : Shared} (h : Down X pins σ H a cls d s) (o : Obj) : Down X pins σ H a cls d { s with heap := s.heap.push o } := by
  obtain ⟨B, sI, J, nb, up, fl, na, os, ag⟩ := h.ex
  exact ⟨B, sI, J, nb, up.trans (Heap.UpToSlots.of_keeps fun b u q => Heap.get?_push_of_some _ q), flying_push fl, na, os, ag⟩
end
end FL
/-! FL110: def f(act): try: return ["word", act()] / several except clauses. -/
namespace FL
open PySem PySem.Spec PyProof.Rows L2
section
variable [FE]
section
variable {X : Cx} {n : Str} {i : Nat} {ct : CT} {cs : List Str}
theorem Clauses.imp {hs : List ExceptHandler} {t u : TH} (h : Clauses X hs t) (k : ∀ a cls d D σ H, u a cls d D σ H → t a cls d D σ H) : Clauses X hs u := fun pins σ H a cls d s D z w => h pins σ H a cls d s D z (k _ _ _ _ _ _ w)
end
section
variable {P : Program} {w : World} {K : PySem.W.Frag} {mg : Str → Option Value} {base : Heap}
end
end
end FL
/-! FL111: d.get(k, v) of a dict that is data; dict(d), dict([(k, v), ..]) as dicts of our own. -/
namespace FL
open PySem PySem.Spec PyProof.Rows L2
section
variable {K : PySem.W.Frag} {F : Hp}
end
section
variable [FE]
variable {X : Cx} {π : Nat → Addr} {W : WX} {e o a b : Expr} {es : List Expr} {pos p q apos cpos : Pos} {x y : Str}
end
end FL
/-! FL112: x.m(a, .., k = e, ..), x an instance of ours. -/
namespace FL
open PySem PySem.Spec PyProof.Rows L2
section
variable [FE]
variable {X : Cx} {π : Nat → Addr} {W : WX} {i k nn na mm : Nat} {x n m : Str} {fl : List Str} {f : Addr} {fd : FuncData} {ps ks : List Str} {G : List Arg → RG} {p pos apos : Pos} {e : Expr} {es : List Expr} {kws : List Keyword}
end
end FL
/-! FL113: try: .. / except C: .., one clause without a name, whose suite raises nothing. -/
namespace FL
open PySem PySem.Spec PyProof.Rows L2
section
variable {X : Cx} {suite : List Stmt} {b₀ : Stmt} {pos pos' : Pos} {rest : List ExceptHandler} {t : TH} {ts : Addr → Value → Option Addr → TS}
end
section
variable [FE]
variable {X : Cx} {suite body : List Stmt} {b₀ : Stmt} {pos pos' : Pos} {π : Nat → Addr} {W : WX}
end
end FL
/-! FL114: a lambda with one parameter whose argument is what a slot of the maker holds: the slot is read under the parameter's name. -/
namespace FL
open PySem PySem.Spec PyProof.Rows L2
/-- a lambda's scope with the parameter h; its other names are the maker's or the module's -/
structure LamP (sc scope : Scope) (h : Str) : Prop where
  kind : scope.kind = .function
  co : scope.isCoroutine = false
  gen : scope.isGenerator = false
  par : scope.names.lookup h = some .local
  nocell : ∀ y ∈ scope.names, y.2 ≠ .cell
  own : ∀ y ∈ scope.names, y.1 ≠ h → y.2 ≠ .local ∧ y.2 ≠ .cell
  free : ∀ y ∈ scope.names, y.2 = .free → sc.names.lookup y.1 = some .cell ∨ sc.names.lookup y.1 = some .free
section
variable {X : Cx} {pins : List (Addr × Obj)} {σ : L2.St} {H : Hp} {s : Shared} {sc : Scope} {h : Str}
/-- what the closure holds is a cell of the maker -/
theorem LamP.cells (L : LamP X.env.scope sc h) (ok : X.Ok) {y : Str} {c : Addr} (e : (cloFrom X.env.cells sc.names []).lookup y = some c) : X.env.cells.lookup y = some c := by
  have mem := cloFrom_mem (PySem.mem_of_lookup e)
  rcases mem with z | ⟨z1, z2⟩
  · exact nomatch z
  · have there : ∃ c1, X.env.cells.lookup y = some c1 := (L.free _ z1 rfl).elim (fun k => ok.has y (.inl k)) (fun k => ok.has y (.inr k))
    obtain ⟨c1, e1⟩ := there
    rw [e1] at z2
    rw [e1, show c = c1 from z2]
/-- a name that is free in it is in the closure -/
theorem LamP.look {y : Str} (e : sc.names.lookup y = some .free) (cells : List (Str × Addr)) : ∃ c, (cloFrom cells sc.names []).lookup y = some c := mem_lookup (cloFrom_has (cells := cells) (acc := []) (PySem.mem_of_lookup e))
variable {HZ : Hp} {s1 : Shared} {A : Around} {outer : List Env} {E : XK} {f co : Addr} {i : Nat}
end
end FL
/-! FL115: action(thing), in the def that got the lambda: the thing is what slot i of the lambda's maker holds. -/
namespace FL
open PySem PySem.Spec PyProof.Rows L2
section
variable {X : Cx} {pins : List (Addr × Obj)} {σ : L2.St} {H : Hp} {s : Shared}
end
end FL
/-! FL116: a def by a promise of its own over the heap's things (no reading). -/
namespace FL
open PySem PySem.Spec PyProof.Rows L2
section
variable {P : Program} {w : World} {K : PySem.W.Frag} {mg : Str → Option Value} {base : Heap}
end
end FL
/-! FL117: what stands behind `with Trial(self) as thing`: the defs of both classes, by what they do to the heap. -/
namespace FL
open PySem PySem.Spec PyProof.Rows L2
/-- H1 has what H has, but at t -/
def SmB (t : Addr) (H H1 : Hp) : Prop := ∀ q o, q ≠ t → H q = some o → H1 q = some o
theorem SmB.trans {t : Addr} {H H1 H2 : Hp} (a : SmB t H H1) (b : SmB t H1 H2) : SmB t H H2 := fun q o n e => b q o n (a q o n e)
theorem SmB.new {t p : Addr} {o : HO} {H : Hp} (e : H p = none) : SmB t H (upd H p o) := fun q u _ h => by
  rw [upd_ne (ne_of_none h e)]
  exact h
theorem SmB.put {t : Addr} {o : HO} {H : Hp} : SmB t H (upd H t o) := fun q u n h => by
  rw [upd_ne n]
  exact h
section
variable [FE]
variable {X : Cx} {pins : List (Addr × Obj)} {σ : L2.St} {H : Hp} {s : Shared} {k a : Nat} {x : Str} {C f : Addr} {fd : FuncData} {ps : List Str} {sp : Sp} {p pos : Pos} {e : Expr} {es : List Expr} {t : TA}
end
section
variable [FE]
variable {P : Program} {w : World} {K : PySem.W.Frag} {mg : Str → Option Value} {base : Heap} {x qual : Str} {st : Stmt} {f : Addr} {fd : FuncData} {N ps : List Str} {k : Nat} {nk nt nc : Str}
end
/-! ### the statement -/
section
variable [FE]
variable {X : Cx}
end
/-! ### what is known of such a def -/
end FL
/-! FL118: thing.tried(lambda h: e): what it gives, and that slot i's thing stands behind it as before. -/
namespace FL
open PySem PySem.Spec PyProof.Rows L2
section
variable [FE]
variable {K : PySem.W.Frag} {π : Nat → Addr} {c : Cfg} {F H : Hp} {σ : L2.St} {ρ : Rho}
/-- what no slot has is as it was at the part's beginning -/
theorem Sta.away {F' H' : Hp} {σ' : L2.St} {ρ' : Rho} (T : Sta K π (cfg F H σ ρ) F' H' σ' ρ') {t : Addr} {o : HO} (h : H t = some o) (n : NT o) (f : ∀ j, ¬ OwnAt σ ρ j t) : H' t = some o ∧ ∀ j, ¬ OwnAt σ' ρ' j t := by
  have ni : t ∉ adrs isI σ ρ := fun z => by
    obtain ⟨i, s, e, hs, w⟩ := mem_adrs.mp z
    cases s with
    | io m => exact f i ⟨e, m, .inr hs⟩
    | lk C g j => cases w
    | ln L => cases w
    | no => cases w
    | val d => cases w
    | own m => cases w
  have no : t ∉ adrs isO σ ρ := fun z => by
    obtain ⟨i, s, e, hs, w⟩ := mem_adrs.mp z
    cases s with
    | own m => exact f i ⟨e, m, .inl hs⟩
    | lk C g j => cases w
    | ln L => cases w
    | no => cases w
    | val d => cases w
    | io m => cases w
  refine ⟨T.h0 t o h ni no n, fun j hj => ?_⟩
  obtain ⟨_, z, _⟩ := T.ownAt hj
  rcases z with z | z | z
  · rw [show (cfg F H σ ρ).H0 t = H t from rfl, h] at z
    cases z
  · exact no z
  · exact ni z
end
section
variable [FE]
section
variable {P : Program} {w : World} {K : PySem.W.Frag} {mg : Str → Option Value} {base : Heap}
end
/-! ### the call -/
section
variable {X : Cx} {π : Nat → Addr} {W : WX}
end
end
end FL
/-! FL119: a dict is equal to no value of another kind. -/
namespace FL
open PySem PySem.Spec PyProof.Rows PySem.SeqAt PySem.MeetsSeq L2
section
variable {A : Around} {s : Shared} {l b : Addr}
end
end FL
/-! FL120: any two values compared, dicts of no or of one entry among them. -/
namespace FL
open PySem PySem.Spec PyProof.Rows PySem.SeqAt PySem.MeetsSeq L2
open PySem.W (EqTree)
section
variable {P : Program} {w : World} {s : Shared}
end
end FL
/-! FL121: x == y for any two values; {k: v} as data. -/
namespace FL
open PySem PySem.Spec PyProof.Rows L2
section
variable [FE]
section
variable {X : Cx} {pins : List (Addr × Obj)} {σ : L2.St} {F H : Hp} {s : Shared}
end
/-! ### the reading -/
section
variable {X : Cx}
end
/-! ### {k: v} -/
section
variable {X : Cx} {k v : Expr} {tk tv : TE} {pos : Pos}
variable {π : Nat → Addr} {W : WX}
end
end
end FL
/-! FL122: d.setdefault(t, x), d.values() of a dict whose keys are tuples, in the heap. -/
namespace FL
open PySem PySem.Spec PyProof.Rows L2
section
variable {X : Cx} {o e f : Expr} {td ty tx : TE} {apos cpos : Pos}
end
/-! ### its values, while it is locked -/
section
variable {P : Program} {w : World} {K : PySem.W.Frag} {q : Addr} {od : Obj} {rows : Array DictEntry} {ep : Nat} {xs : List Ent} {tg : Expr}
end
section
variable {X : Cx} {tg e : Expr} {td : TE} {apos cpos : Pos}
end
end FL
/-! FL123: a dict of lists that is filled by x.setdefault(t, []).append(v), then given as a list of tuples. -/
namespace FL
open PySem PySem.Spec PyProof.Rows L2
/-- only data -/
def plainS : Slot → Bool
  | .val _ => true
  | .no => true
  | _ => false
def plain (ρ : Rho) : Bool := ρ.all plainS
abbrev Grps := List (List Int × List D)
section
variable [FE]
variable {K : PySem.W.Frag} {π : Nat → Addr} {c : Cfg} {F H F' H' : Hp} {σ σ' : L2.St} {ρ ρ' : Rho}
theorem plain_io (pl : plain ρ = true) {q : Addr} : q ∉ (cfg F H σ ρ).io ∧ q ∉ (cfg F H σ ρ).ow := by
  refine ⟨fun z => ?_, fun z => ?_⟩
  · obtain ⟨j, s, e, h, k⟩ := mem_adrs.mp z
    have := List.all_eq_true.mp pl _ (List.mem_of_getElem? h)
    cases s <;> first | (cases this; done) | (cases k; done)
  · obtain ⟨j, s, e, h, k⟩ := mem_adrs.mp z
    have := List.all_eq_true.mp pl _ (List.mem_of_getElem? h)
    cases s <;> first | (cases this; done) | (cases k; done)
/-- a thing that is no slot's: it stays what it is -/
theorem keepX (T : Sta K π (cfg F H σ ρ) F' H' σ' ρ') (pl : plain ρ = true) {q : Addr} {o : HO} (h : H q = some o) (nt : NT o) (f : F q = none) : H' q = some o ∧ F' q = none := ⟨T.h0 q o h (plain_io pl).1 (plain_io pl).2 nt, T.nf q o h f⟩
structure FreeAt (c : Cfg) (F : Hp) (q : Addr) : Prop where
  f : F q = none
  h0 : c.H0 q = none
  io : q ∉ c.io ∧ q ∉ c.ow
theorem FreeAt.new (S : Sta K π c F H σ ρ) {q : Addr} (h : H q = none) : FreeAt c F q := by
  obtain ⟨f1, f2, _⟩ := S.fresh h
  refine ⟨f1, f2, fun z => ?_, fun z => ?_⟩
  · obtain ⟨o, e⟩ := S.hio q (.inl z)
    rw [h] at e
    cases e
  · obtain ⟨o, e⟩ := S.hio q (.inr z)
    rw [h] at e
    cases e
abbrev EG (K : PySem.W.Frag) (c : Cfg) (F H : Hp) (x : Ent) (a : List Int × List D) : Prop := SqT K F x.2.1 (a.1.map V.int) ∧ x.1 = KI a.1 ∧ ∃ q vs, x.2.2 = Value.ref q ∧ H q = some (.lst vs) ∧ Reps K F vs a.2 ∧ FreeAt c F q
structure GI (P : Program) (w : World) (K : PySem.W.Frag) (c : Cfg) (F H : Hp) (p : Addr) (xs : List Ent) (acc : Grps) : Prop where
  hp : H p = some (DTo P w p xs)
  fp : FreeAt c F p
  ent : Paired (EG K c F H) xs acc
  nd : (xs.map fun e => e.2.2).Nodup
  kn : (acc.map fun a => a.1).Nodup
section
variable {P : Program} {w : World} {p : Addr} {xs : List Ent} {acc : Grps}
theorem dto_mut {P : Program} {w : World} {p : Addr} {xs : List Ent} : Mut (DTo P w p xs) := .inr (.inr (.inr ⟨_, _, _, _, rfl⟩))
theorem GI.move (G : GI P w K c F H p xs acc) (T : Sta K π (cfg F H σ ρ) F' H' σ' ρ') (pl : plain ρ = true) : GI P w K c F' H' p xs acc :=
  ⟨(keepX T pl G.hp dto_mut.nt G.fp.f).1, ⟨(keepX T pl G.hp dto_mut.nt G.fp.f).2, G.fp.h0, G.fp.io⟩, Paired.mapP G.ent fun x a ⟨h1, h2, q, vs, h3, h4, h5, h6⟩ => ⟨sm_tup T.f0 h1, h2, q, vs, h3, (keepX T pl h4 (by intro ps z; cases z) h6.f).1, h5.mono T.f0, (keepX T pl h4 (by intro ps z; cases z) h6.f).2, h6.h0, h6.io⟩, G.nd, G.kn⟩
theorem GI.put (G : GI P w K c F H p xs acc) {q : Addr} {o : HO} (h : H q = none) : GI P w K c F (upd H q o) p xs acc :=
  ⟨by rw [upd_ne (ne_of_none G.hp h)]; exact G.hp, G.fp, Paired.mapP G.ent fun x a ⟨h1, h2, q', vs, h3, h4, h5⟩ => ⟨h1, h2, q', vs, h3, by rw [upd_ne (ne_of_none h4 h)]; exact h4, h5⟩, G.nd, G.kn⟩
end
end
end FL
/-! FL124: the def that fills a dict of lists and gives their tuples. -/
namespace FL
open PySem PySem.Spec PyProof.Rows L2
section
variable [FE]
variable {X : Cx} {π : Nat → Addr} {W : WX}
section
variable {c : Cfg} {F H : Hp} {σ : L2.St} {ρ : Rho} {p : Addr} {xs : List Ent} {acc : Grps} {ke ve : Expr} {kf vf : EF}
end
end
end FL
/-! FL125: the def that fills a dict of lists and gives their tuples: its loop, its return. -/
namespace FL
open PySem PySem.Spec PyProof.Rows L2
section
variable [FE]
variable {X : Cx} {π : Nat → Addr} {W : WX}
end
end FL
/-! FL126: the def that fills a dict of lists and gives their tuples: its return, the whole. -/
namespace FL
open PySem PySem.Spec PyProof.Rows L2
section
variable [FE]
section
variable {K : PySem.W.Frag} {c : Cfg} {F H : Hp} {P : Program} {w : World} {p : Addr} {xs : List Ent} {acc : Grps}
end
variable {X : Cx} {π : Nat → Addr} {W : WX}
theorem PoS.any {c : Cfg} {F : Hp} {σ σ' : L2.St} {D : Ends} : ∀ {r : R Fl}, PoS X.K π W c F σ D r → PoS X.K π W c F σ' D r
  | .ok .nx _, h => h
  | .ok .bk _, h => h
  | .ok .ct _, h => h
  | .ok (.rt _) _, h => h
  | .exc _ _ _, h => h
  | .stuck, h => h
section
variable {x y : Str} {tg iter test ke ve : Expr} {it : IF} {g : GF} {t : TF} {kf vf : EF} {ns : List Nat} {j k n : Nat} {scope : Scope}
  {pa pb pd p1 q1 q2 q3 q4 q5 q6 q7 q8 q9 r1 r2 r3 r4 r5 r6 r7 r9 r10 : Pos}
end
end
end FL
/-! FL127: an own list seen as data, for as long as one expression runs that gives a number, a text, a truth or None. -/
namespace FL
open PySem PySem.Spec PyProof.Rows L2
section
variable [FE]
section
variable {K : PySem.W.Frag} {π : Nat → Addr} {c : Cfg} {F H : Hp} {σ : L2.St} {ρ : Rho}
end
variable {X : Cx} {π : Nat → Addr} {W : WX} {e : Expr}
end
end FL
/-! FL128: a test over an own list seen as data; len of a new dict whose keys are tuples. -/
namespace FL
open PySem PySem.Spec PyProof.Rows L2
section
variable [FE]
variable {X : Cx} {π : Nat → Addr} {W : WX} {e : Expr}
end
/-! ### len of a new dict whose keys are tuples -/
section
variable [FE]
variable {X : Cx} {π : Nat → Addr} {W : WX} {e : Expr} {pos q : Pos} {y : Str}
end
end FL
/-! FL129: sorted of a list of one thing at most. -/
namespace FL
open PySem PySem.Spec PyProof.Rows L2
/-! ### sorted of few -/
section
variable {prog : Program} {w : World} {A : Around} {E : Value → Shared → Prop} {s : Shared}
end
end FL
/-! FL130: one function is stuck, or gives what another one gives: carried through the ways in which functions are made. -/
namespace FL
open PySem PySem.Spec PyProof.Rows L2
def lr {α : Type} (x y : R α) : Prop := x = .stuck ∨ x = y
def lg (x y : RG) : Prop := x = .stuck ∨ x = y
def Le {α : Type} (f g : Rho → R α) : Prop := ∀ ρ, lr (f ρ) (g ρ)
def LeG (F G : List Arg → RG) : Prop := ∀ as, lg (F as) (G as)
theorem lr.rfl {α : Type} {x : R α} : lr x x := .inr _root_.rfl
theorem lr.st {α : Type} {x : R α} : lr .stuck x := .inl _root_.rfl
theorem lr.bind {α β : Type} {x y : R α} {f g : α → Rho → R β} (h : lr x y) (k : ∀ a ρ, lr (f a ρ) (g a ρ)) : lr (x.bind f) (y.bind g) := by
  rcases h with h | h
  · rw [h]
    exact .inl _root_.rfl
  · subst h
    cases x with
    | ok a ρ => exact k a ρ
    | exc C fs ρ => exact .inr _root_.rfl
    | stuck => exact .inl _root_.rfl
theorem lr.ite {α : Type} {c : Prop} [Decidable c] {x y x' y' : R α} (h : lr x x') (k : lr y y') : lr (if c then x else y) (if c then x' else y') := by
  by_cases z : c
  · rw [if_pos z, if_pos z]
    exact h
  · rw [if_neg z, if_neg z]
    exact k
theorem lr.noX {α : Type} {x y : R α} (h : lr x y) : lr (FL.noX x) (FL.noX y) := by
  rcases h with h | h
  · rw [h]
    exact .inl _root_.rfl
  · rw [h]
    exact .rfl
theorem lr.bindO {α : Type} {x : Option Rho} {f g : Rho → R α} (k : ∀ ρ, lr (f ρ) (g ρ)) : lr (FL.bindO x f) (FL.bindO x g) := by
  cases x with
  | none => exact .st
  | some ρ => exact k ρ
theorem Le.rfl {α : Type} {f : Rho → R α} : Le f f := fun _ => .rfl
theorem LeG.rfl {F : List Arg → RG} : LeG F F := fun _ => .inr _root_.rfl
theorem LeG.of {F G : List Arg → RG} (h : LeG F G) {as : List Arg} {r : Res} {ms : List M} (e : F as = .ok r ms) : G as = .ok r ms := by
  rcases h as with z | z
  · rw [e] at z
    cases z
  · rw [← z, e]
section
variable {f f' g g' h h' : EF} {t t' : TF} {a a' b b' : SF} {u u' : Rho → R (List D)} {m m' : Rho → R M} {p p' : BF} {q q' : NF} {it it' : IF} {F G : List Arg → RG}
theorem le_op2 {o : D → D → Option D} (k : Le f f') (l : Le g g') : Le (op2 o f g) (op2 o f' g') := fun ρ => (k ρ).bind fun _ ρ => (l ρ).bind fun _ _ => .rfl
theorem le_opC {o : List D → Option D} (k : Le u u') : Le (opC o u) (opC o u') := fun ρ => (k ρ).bind fun _ _ => .rfl
theorem le_tst (k : Le f f') : Le (tst f) (tst f') := fun ρ => (k ρ).bind fun _ _ => .rfl
theorem le_ifS (j : Le t t') (k : Le a a') (l : Le b b') : Le (ifS t a b) (ifS t' a' b') := fun ρ => (j ρ).bind fun _ ρ => .ite (k ρ) (l ρ)
theorem le_cnsA (k : Le f f') (l : Le u u') : Le (cnsA f u) (cnsA f' u') := fun ρ => (k ρ).bind fun _ ρ => (l ρ).bind fun _ _ => .rfl
theorem le_dTup (k : Le u u') : Le (dTup u) (dTup u') := fun ρ => (k ρ).bind fun _ _ => .rfl
theorem le_frz (k : Le m m') : Le (frz m) (frz m') := fun ρ => (k ρ).bind fun _ _ => .rfl
theorem le_seqI (k : Le f f') : Le (seqI f) (seqI f') := fun ρ => (k ρ).bind fun _ _ => .rfl
theorem le_retS (k : Le f f') : Le (retS f) (retS f') := fun ρ => (k ρ).bind fun _ _ => .rfl
theorem le_retM (k : Le m m') : Le (retM m) (retM m') := fun ρ => (k ρ).bind fun _ _ => .rfl
theorem le_setS {i : Nat} (k : Le f f') : Le (setS i f) (setS i f') := fun ρ => (k ρ).bind fun _ _ => .rfl
theorem le_seqS (k : Le a a') (l : Le b b') : Le (seqS a b) (seqS a' b') := fun ρ => (k ρ).bind fun fl ρ => by
  cases fl with
  | nx => exact l ρ
  | _ => exact .rfl
theorem le_aftF {ks : List Nat} {x y : Rho → R Fl} (k : Le x y) (fl : Fl) (ρ : Rho) : lr (aftF ks x fl ρ) (aftF ks y fl ρ) := by
  cases fl with
  | nx => exact k _
  | ct => exact k _
  | _ => exact .rfl
theorem le_forL {ks : List Nat} {i : GF} (k : Le a a') : ∀ ds : List D, Le (forL ks i a ds) (forL ks i a' ds)
  | [] => .rfl
  | d :: ds => fun ρ => lr.bindO fun ρ => (k ρ).bind fun fl ρ => le_aftF (le_forL k ds) fl ρ
theorem le_forS {ks : List Nat} {i : GF} (j : Le it it') (k : Le a a') : Le (forS ks it i a) (forS ks it' i a') := fun ρ => (j ρ).bind fun ds ρ => le_forL k ds ρ
theorem le_cmpL {ks : List Nat} {i : GF} (j : Le t t') (k : Le f f') : ∀ (ds acc : List D), Le (cmpL ks i t f acc ds) (cmpL ks i t' f' acc ds)
  | [], acc => .rfl
  | d :: ds, acc => fun ρ => lr.bindO fun ρ => ((j ρ).noX).bind fun _ ρ => .ite (((k ρ).noX).bind fun _ _ => .ite (le_cmpL j k ds _ _) .rfl) (le_cmpL j k ds acc _)
theorem le_cmpM {ks : List Nat} {i : GF} (n : Le it it') (j : Le t t') (k : Le f f') : Le (cmpM ks it i t f) (cmpM ks it' i t' f') := fun ρ => (n ρ).bind fun ds _ => (le_cmpL j k ds [] _).bind fun _ _ => .rfl
theorem le_callG {α : Type} {n : Nat} {k : Res → Rho → R α} (l : LeG F G) (j : Le p p') : Le (callG n F p k) (callG n G p' k) := fun ρ => (j ρ).bind fun as ρ => by
  refine .ite ?_ .rfl
  cases toArgs ρ as with
  | none => exact .rfl
  | some gs =>
    show lr (match F gs with | .ok r outs => k r (putA as outs ρ) | .exc C fs outs => .exc C fs (putA as outs ρ) | .stuck => .stuck) (match G gs with | .ok r outs => k r (putA as outs ρ) | .exc C fs outs => .exc C fs (putA as outs ρ) | .stuck => .stuck)
    rcases l gs with h | h
    · rw [h]
      exact .st
    · rw [h]
      exact .rfl
theorem le_body {n : Nat} (k : Le a a') : LeG (bodyG n a) (bodyG n a') := fun as => by
  unfold bodyG
  rcases k (rho0 n as) with h | h
  · rw [h]
    exact .inl rfl
  · rw [h]
    exact .inr rfl
end
end FL
/-! FL131: sorted of a list of tuples of tuples of whole numbers. -/
namespace FL
open PySem PySem.Spec PyProof.Rows L2
/-- a tuple of tuples of whole numbers -/
def NupV (h : Heap) (v : Value) (ns : List (List Int)) : Prop := ∃ (a : Addr) (its : Array Value), v = .ref a ∧ IsTup h a its ∧ Paired (TupV h) its.toList ns
theorem NupV.keeps {h h' : Heap} {v : Value} {ns : List (List Int)} (x : NupV h v ns) (k : ∀ b o, h.get? b = some o → o.cls = .type "tuple" → h'.get? b = some o) : NupV h' v ns := by
  obtain ⟨a, its, e, ⟨o, g, c, n, d⟩, i⟩ := x
  exact ⟨a, its, e, ⟨o, k a o g c, c, n, d⟩, Paired.mapP i fun _ _ z => z.keeps k⟩
section
variable {prog : Program} {w : World} {A : Around} {E : Value → Shared → Prop} {s : Shared}
end
end FL
/-! FL132: sorted of a list of tuples of tuples of whole numbers, as a call. -/
namespace FL
open PySem PySem.Spec PyProof.Rows L2
section
variable {X : Cx} {pins : List (Addr × Obj)} {σ : L2.St} {H : Hp} {s : Shared}
end
section
variable {K : PySem.W.Frag} {F : Hp}
end
end FL
/-! FL133: our own dict whose keys are tuples of whole numbers becomes data: its keys, its values, d[t]. -/
namespace FL
open PySem PySem.Spec PyProof.Rows L2
section
variable {K : PySem.W.Frag} {F F' H : Hp}
end
section
variable [FE]
variable {X : Cx} {π : Nat → Addr} {W : WX} {e a b o tg : Expr} {rest : List Stmt} {pos apos cpos : Pos} {i : Nat}
end
/-! ### its keys -/
section
variable {P : Program} {w : World} {K : PySem.W.Frag} {q : Addr} {od : Obj} {rows : Array DictEntry} {ep : Nat} {xs : List Ent} {tg : Expr}
end
section
variable {X : Cx} {tg e o i : Expr} {td ty : TE} {pos : Pos}
/-! ### d[t] -/
end
section
variable [FE]
variable {X : Cx} {π : Nat → Addr} {W : WX} {e a b o tg : Expr} {pos apos cpos : Pos}
end
end FL
/-! FL134: lists of new things: each thing gets a place that no scope knows, the list is tied to these places. -/
namespace FL
open PySem PySem.Spec PyProof.Rows L2
section
variable [FE]
section
variable {K : PySem.W.Frag} {π : Nat → Addr} {W : WX} {c : Cfg} {F F' H H' : Hp} {σ σ' : L2.St} {ρ ρ' : Rho}
theorem newA_app : ∀ {vs ws : List V} {as bs : List NA}, vs.length = as.length → newA (vs ++ ws) (as ++ bs) = newA vs as ++ newA ws bs
  | [], _, [], _, _ => rfl
  | v :: vs, ws, .val d :: as, bs, h => by
    show newA (vs ++ ws) (as ++ bs) = newA vs as ++ newA ws bs
    exact newA_app (Nat.succ.inj h)
  | v :: vs, ws, .new m :: as, bs, h => by
    show _ ++ newA (vs ++ ws) (as ++ bs) = (_ ++ newA vs as) ++ newA ws bs
    rw [newA_app (Nat.succ.inj h), List.append_assoc]
  | [], _, _ :: _, _, h => by cases h
  | _ :: _, _, [], _, h => by cases h
theorem NAs.append : ∀ {vs ws : List V} {as bs : List NA}, NAs K c F H σ ρ vs as → NAs K c F H σ ρ ws bs → (∀ p ∈ newA vs as, p ∉ newA ws bs) → NAs K c F H σ ρ (vs ++ ws) (as ++ bs)
  | _, _, _, _, .nil, r, _ => r
  | _, _, _, _, .val h q, r, d => .val h (NAs.append q r d)
  | _, _, _, _, .new (p := p) h1 h2 h3 h4 h5 q, r, d => by
    refine .new h1 h2 h3 h4 (fun z => ?_) (NAs.append q r fun p hp => d p (List.mem_cons_of_mem _ hp))
    have z : p ∈ newA (_ ++ _) (_ ++ _) := z
    rw [newA_app q.length] at z
    rcases List.mem_append.mp z with z | z
    · exact h5 z
    · exact d p List.mem_cons_self z
/-- the things of a part, seen behind what came after it -/
theorem NAs.after (S : Sta K π c F H σ ρ) (T : Sta K π (cfg F H σ ρ) F' H' σ ρ') : ∀ {vs : List V} {as : List NA}, NAs K c F H σ ρ vs as → NAs K c F' H' σ ρ' vs as ∧ ∀ p ∈ newA vs as, ∃ o, H p = some o
  | _, _, .nil => ⟨.nil, fun p h => nomatch h⟩
  | _, _, .val h r => ⟨.val (h.mono T.f0) (NAs.after S T r).1, (NAs.after S T r).2⟩
  | _, _, .new (p := p) h1 h2 h3 h4 h5 r => by
    have z := NAs.after S T r
    obtain ⟨o, ho, hmu⟩ := h4.mut
    have far : p ∉ (cfg F H σ ρ).io ∧ p ∉ (cfg F H σ ρ).ow := by
      refine ⟨fun w => ?_, fun w => ?_⟩
      · obtain ⟨i, s, e, hs, t⟩ := mem_adrs.mp (show p ∈ adrs isI σ ρ from w)
        cases s with
        | io m' => exact h3 i ⟨e, m', .inr hs⟩
        | _ => cases t
      · obtain ⟨i, s, e, hs, t⟩ := mem_adrs.mp (show p ∈ adrs isO σ ρ from w)
        cases s with
        | own m' => exact h3 i ⟨e, m', .inl hs⟩
        | _ => cases t
    have hp : H' p = some o := T.h0 p o ho far.1 far.2 hmu.nt
    refine ⟨.new (T.nf p o ho h1) h2 (fun j hj => ?_) (h4.mono T.f0 fun o' ho' => by rw [ho] at ho'; cases ho'; exact hp) h5 z.1, fun q hq => ?_⟩
    · rcases (T.ownAt hj).2.1 with w | w | w
      · have w : H p = none := w
        rw [ho] at w
        cases w
      · exact far.2 w
      · exact far.1 w
    · rcases List.mem_cons.mp (show q ∈ p :: newA _ _ from hq) with e | e
      · rw [e]
        exact ⟨o, ho⟩
      · exact z.2 q e
/-- a name is tied -/
theorem Sta.tie {i : Nat} {L : Addr} {t : Lnk} (S : Sta K π c F H σ ρ) (hi : i < ρ.length) (h : LnkF π F L t) : Sta K π c F H (σ.set i (some (.ref L))) (ρ.set i (.ln t)) := by
  have hl : i < σ.length := by rw [S.len]; exact hi
  refine ⟨S.h0, S.hio, S.f0, S.f, S.nf, by simpa using S.len, fun j s hs => ?_, fun j k p h1 h2 => ?_, S.t⟩
  · by_cases e : j = i
    · subst e
      rw [List.getElem?_set_self hi] at hs
      cases hs
      exact ⟨L, List.getElem?_set_self hl, h⟩
    · rw [List.getElem?_set_ne (Ne.symm e)] at hs
      have z := S.rep j s hs
      have g : (σ.set i (some (V.ref L)))[j]? = σ[j]? := List.getElem?_set_ne (Ne.symm e)
      cases s with
      | lk C f jj => obtain ⟨a, dx, e1, h1⟩ := z; exact ⟨a, dx, g.trans e1, h1⟩
      | ln t => obtain ⟨a, e1, h1⟩ := z; exact ⟨a, g.trans e1, h1⟩
      | no => trivial
      | val d => obtain ⟨w, e1, r1⟩ := z; exact ⟨w, g.trans e1, r1⟩
      | own m => obtain ⟨p, e1, r1⟩ := z; exact ⟨p, g.trans e1, r1⟩
      | io m => obtain ⟨e1, r1⟩ := z; exact ⟨g.trans e1, r1⟩
  · have key : ∀ j, OwnAt (σ.set i (some (.ref L))) (ρ.set i (.ln t)) j p → OwnAt σ ρ j p := fun j ⟨e, m, h⟩ => by
      by_cases q : j = i
      · subst q
        rw [List.getElem?_set_self hi] at h
        rcases h with h | h <;> cases h
      · rw [List.getElem?_set_ne (Ne.symm q)] at e h
        exact ⟨e, m, h⟩
    exact S.dis j k p (key j h1) (key k h2)
end
section
variable {X : Cx} {π : Nat → Addr} {W : WX} {es : List Expr} {rest : List Stmt} {pos : Pos} {g : SF}
end
end
end FL
/-! FL135: an element of a list of things: as an argument, its properties. -/
namespace FL
open PySem PySem.Spec PyProof.Rows L2
section
variable [FE]
section
variable {K : PySem.W.Frag} {π : Nat → Addr} {W : WX} {c : Cfg} {F H : Hp} {σ : L2.St} {ρ : Rho}
end
section
variable {X : Cx} {π : Nat → Addr} {W : WX} {e o : Expr} {es : List Expr} {pos p apos q : Pos} {k i j : Nat} {f : Addr} {fd : FuncData} {ps : List Str} {G : List Arg → RG} {x n m : Str} {fl : List Str}
end
end
end FL
/-! FL136: lists of our own and lists of things seen as data, for as long as one test runs. -/
namespace FL
open PySem PySem.Spec PyProof.Rows L2
section
variable [FE]
section
variable {K : PySem.W.Frag} {π : Nat → Addr} {c : Cfg} {F H : Hp} {σ : L2.St} {ρ : Rho}
end
variable {X : Cx} {π : Nat → Addr} {W : WX} {e : Expr}
end
end FL
/-! FL137: a local name that holds one of several defs, called. -/
namespace FL
open PySem PySem.Spec PyProof.Rows L2
/-- which of them -/
def callVs [FE] (i n : Nat) (ts : List (Str × (List Arg → RG))) (f : BF) : EF := fun ρ => match ρ[i]? with
  | some (.val (.fn a)) => (match ts.find? fun t => decide (a = FE.cl t.1) with
    | some t => callE n t.2 f ρ
    | none => .stuck)
  | _ => .stuck
section
variable [FE]
variable {X : Cx} {π : Nat → Addr} {W : WX}
/-- a def that may be called by value -/
def VOk (X : Cx) (nn : Nat) (n : Str) (G : List Arg → RG) : Prop := ∃ (k : Nat) (f : Addr) (fd : FuncData) (ps : List Str), FnG X.prog X.w X.K X.mg X.base k f fd ps (spG X.K ps.length G) ∧ RoomG k X.A ∧ X.mg n = some (.ref f) ∧ X.mg n = some (.ref (FE.cl n)) ∧ PySem.W.keepIn X.K (.ref f) = true ∧ Binds X.K fd ps [] ∧ ps.length = nn
theorem vs_nil {nn : Nat} : ∀ t ∈ ([] : List (Str × (List Arg → RG))), VOk X nn t.1 t.2 := fun _ h => by cases h
theorem vs_cons {nn : Nat} {n : Str} {G : List Arg → RG} {ts : List (Str × (List Arg → RG))} {k : Nat} {f : Addr} {fd : FuncData} {ps : List Str} (F : FnG X.prog X.w X.K X.mg X.base k f fd ps (spG X.K ps.length G)) (hr : RoomG k X.A) (m : X.mg n = some (.ref f)) (c : X.mg n = some (.ref (FE.cl n))) (kp : PySem.W.keepIn X.K (.ref f) = true) (b : Binds X.K fd ps []) (l : ps.length = nn)
    (h : ∀ t ∈ ts, VOk X nn t.1 t.2) : ∀ t ∈ (n, G) :: ts, VOk X nn t.1 t.2 := fun t ht => by
  rcases List.mem_cons.mp ht with rfl | ht
  · exact ⟨k, f, fd, ps, F, hr, m, c, kp, b, l⟩
  · exact h t ht
theorem fe_callVs {e : Expr} {es : List Expr} {pos p : Pos} {nn i : Nat} {ts : List (Str × (List Arg → RG))} {x : Str} {g : BF} (tk : L2N.Takes X W) (hv' : ∀ t ∈ ts, VOk X nn t.1 t.2)
    (ha : PA X (e :: es) (tB X.K π W g)) (hd : (x == ("__debug__" : Str)) = false := by decide) (hcd : (x == ("__classdict__" : Str)) = false := by decide)
    (he : starEach (e :: es) X.env = (false, eval e X.env) :: starEach es X.env := by rfl) (hpl : (backTo pos (starEach es X.env)).any (·.1) = false := by rfl)
    (hN : X.N[i]? = some x := by rfl) (hv : Vis X.env.scope x := by first | exact .inl rfl | exact .inr (.inl rfl) | exact .inr (.inr rfl)) :
    PE X (.Call (.Name x p) (e :: es) [] pos) (tE X.K π W (callVs i nn ts g)) := by
  -- one of them
  have go : ∀ {k : Nat} {f : Addr} {fd : FuncData} {ps : List Str} {G : List Arg → RG} {pins : List (Addr × Obj)} {s : Shared} {σ : L2.St} {H : Hp} {Q : VK}, FnG X.prog X.w X.K X.mg X.base k f fd ps (spG X.K ps.length G) → RoomG k X.A → PySem.W.keepIn X.K (.ref f) = true → Binds X.K fd ps [] → ps.length = nn →
      Inv X pins σ H s → σ[i]? = some (some (.ref f)) → tE X.K π W (callE nn G g) σ H Q → wpAny (model X.prog X.w) X.A (eval (.Call (.Name x p) (e :: es) [] pos) X.env) (EP X pins σ Q) X.xe s := by
    intro k f fd ps G pins s σ H Q Fn hr hkp hb hl I hs h
    subst hl
    refine wpAny_Call_Name_kw (thn ((pe_var (pos := p) hN hv hd hcd).run pins s σ H (fun v H1 => v = .ref f ∧ H1 = H) I ⟨.ref f, hs, rfl, rfl⟩) fun u s1 ⟨v, H1, I1, r1, q1⟩ => ?_)
    obtain ⟨rfl, rfl⟩ := q1
    cases r1
    refine PySem.W.callWith_K (h₀ := X.base) I1.ok.mod.kin hkp (thn (ha.run pos pins s1 σ _ _ I1 (rd_bind1 (fun rv S _ nw P => k_asE rv S nw P) h)) fun us s2 ⟨vs, H2, I2, r, q⟩ => ⟨I2.kIn, ?_⟩) he hpl
    have b := hb s2 us I2.kIn (by rw [List.append_nil, ← r.length]; exact Fn.len _ _ _ _ q)
    rw [List.append_nil] at b
    refine wpAny_call (codeAny_mono (run_fnG Fn hr tk b I2 r q) fun r s' hq => ?_)
    cases r with
    | error e => exact hq
    | ok fl =>
      cases fl with
      | ret u => exact hq
      | next => exact False.elim hq
      | brk => exact False.elim hq
      | cont => exact False.elim hq
  refine ⟨fun pins s σ H Q I h => ?_⟩
  obtain ⟨c, F, ρ, S, P⟩ := h
  unfold callVs at P
  split at P
  · rename_i a hs
    obtain ⟨v, ev, rv⟩ := S.rep i _ hs
    cases rv
    split at P
    · rename_i t ht
      have ea : a = FE.cl t.1 := by
        have h := List.find?_some (p := fun t : Str × (List Arg → RG) => decide (a = FE.cl t.1)) ht
        exact of_decide_eq_true h
      obtain ⟨k, f, fd, ps, F1, hr1, m1, c1, kp1, b1, l1⟩ := hv' t (List.mem_of_find?_eq_some ht)
      have e1 : f = FE.cl t.1 := by
        rw [m1] at c1
        cases c1
        rfl
      refine go F1 hr1 kp1 b1 l1 I (by rw [ev, ea, e1]) ⟨c, F, ρ, S, P⟩
    · exact P.elim
  · exact P.elim
end
end FL
namespace Wk
open PySem PySem.Spec PyProof.Rows L2 FL
def top (i : Nat) : Stmt := PySem.Challenge.pw_lenspairs_k12_whole_numbers_of_solids.main.body.getD i (.Pass ⟨0, 0, 0, 0⟩)
abbrev s_is_integer : Stmt := top 16
abbrev s_is_between : Stmt := top 17
abbrev s_check_number : Stmt := top 18
abbrev s_shares_of : Stmt := top 27
abbrev s_roots_of : Stmt := top 26
abbrev s_count_for : Stmt := top 28
abbrev s_how_many : Stmt := top 29
abbrev s_how_many_with_sides : Stmt := top 30
abbrev s_how_many_own_mirrors : Stmt := top 31
abbrev s_how_many_for_loops : Stmt := top 32
abbrev s_common : Stmt := top 19
abbrev s_primes_to : Stmt := top 25
abbrev s_inverse : Stmt := top 20
abbrev s_mirrored : Stmt := top 22
abbrev s_all_for : Stmt := top 23
abbrev s_solids : Stmt := top 33
abbrev s_first_with : Stmt := top 34
abbrev s__law_sip : Stmt := top 37
abbrev s__law_pick : Stmt := top 38
abbrev s__law_gcd : Stmt := top 39
abbrev s__law_inverse : Stmt := top 43
abbrev s__law_told : Stmt := top 44
abbrev s__law_sort : Stmt := top 41
abbrev s__law_field : Stmt := top 42
abbrev s__law_error : Stmt := top 40
abbrev s__law_right : Stmt := top 45
abbrev s__law_bin : Stmt := top 36
abbrev s_law : Stmt := top 46
def ctab : CT := [("NotRight", ["NotRight", "ValueError"], []), ("InvalidText", ["InvalidText", "NotRight", "ValueError"], ["given"]), ("InvalidNumber", ["InvalidNumber", "NotRight", "ValueError"], ["given"]), ("InvalidIndex", ["InvalidIndex", "NotRight", "ValueError"], ["given"]), ("InvalidPair", ["InvalidPair", "NotRight", "ValueError"], ["given"]), ("InvalidString", ["InvalidString", "NotRight", "ValueError"], ["index"]), ("NotKnown", ["NotKnown", "LookupError"], []), ("NotPossible", ["NotPossible", "ArithmeticError"], []), ("NotLed", ["NotLed", "NotPossible", "ArithmeticError"], ["pairs"]), ("NoMove", ["NoMove", "NotPossible", "ArithmeticError"], []), ("TooGreat", ["TooGreat", "NotPossible", "ArithmeticError"], ["most"]), ("Broken", ["Broken", "NotPossible", "ArithmeticError"], ["index", "shown"])]
def tests : List Str := ["InvalidNumber", "InvalidText", "InvalidPair", "InvalidIndex", "NotLed", "InvalidString", "Broken", "TooGreat", "NoMove", "NotPossible", "NotKnown", "NotRight", "ArithmeticError", "LookupError", "ValueError"]
def bltc : List (Str × String) := [("ValueError", "ValueError"), ("LookupError", "LookupError"), ("ArithmeticError", "ArithmeticError")]
def csn : List Str := ["NotRight", "NotKnown", "NotPossible"]
/-- what the module holds beside its defs -/
structure Txt [FE] (K : PySem.W.Frag) (mg : Str → Option Value) : Prop where
  k_Broken : mg "Broken" = some (.ref (FE.cl "Broken"))
  k_InvalidIndex : mg "InvalidIndex" = some (.ref (FE.cl "InvalidIndex"))
  k_InvalidNumber : mg "InvalidNumber" = some (.ref (FE.cl "InvalidNumber"))
  k_InvalidPair : mg "InvalidPair" = some (.ref (FE.cl "InvalidPair"))
  k_InvalidString : mg "InvalidString" = some (.ref (FE.cl "InvalidString"))
  k_InvalidText : mg "InvalidText" = some (.ref (FE.cl "InvalidText"))
  k_NoMove : mg "NoMove" = some (.ref (FE.cl "NoMove"))
  k_NotKnown : mg "NotKnown" = some (.ref (FE.cl "NotKnown"))
  k_NotLed : mg "NotLed" = some (.ref (FE.cl "NotLed"))
  k_NotPossible : mg "NotPossible" = some (.ref (FE.cl "NotPossible"))
  k_NotRight : mg "NotRight" = some (.ref (FE.cl "NotRight"))
  k_TooGreat : mg "TooGreat" = some (.ref (FE.cl "TooGreat"))
  k_first_with : mg "first_with" = some (.ref (FE.cl "first_with"))
  k_how_many : mg "how_many" = some (.ref (FE.cl "how_many"))
  k_how_many_for_loops : mg "how_many_for_loops" = some (.ref (FE.cl "how_many_for_loops"))
  k_how_many_own_mirrors : mg "how_many_own_mirrors" = some (.ref (FE.cl "how_many_own_mirrors"))
  k_how_many_with_sides : mg "how_many_with_sides" = some (.ref (FE.cl "how_many_with_sides"))
  k_solids : mg "solids" = some (.ref (FE.cl "solids"))
  x_InvalidNumber : ∃ fI : Addr, ExcK K (FE.cl "InvalidNumber") fI "ValueError.__new__" [.type "ValueError", .type "Exception", .type "BaseException", .type "object"] ["given"] ∧ IniOk K (FE.cl "InvalidNumber") fI ["given"]
  t_ct : ClsT K ctab tests bltc
  t_ca : CauT K ctab csn
  b_ArithmeticError : mg "ArithmeticError" = none
  b_LookupError : mg "LookupError" = none
  b_ValueError : mg "ValueError" = none
  b_abs : mg "abs" = none
  b_all : mg "all" = none
  b_bool : mg "bool" = none
  b_dict : mg "dict" = none
  b_int : mg "int" = none
  b_isinstance : mg "isinstance" = none
  b_len : mg "len" = none
  b_max : mg "max" = none
  b_min : mg "min" = none
  b_range : mg "range" = none
  b_repr : mg "repr" = none
  b_sorted : mg "sorted" = none
  b_tuple : mg "tuple" = none
  c_MOST_LISTED : ∃ t : Tok, mg "MOST_LISTED" = some (.int 500 t)
  c_MOST_LOOPS : ∃ t : Tok, mg "MOST_LOOPS" = some (.int 1000000 t)
noncomputable section
def g_is_integer : SF := (retS (anE (op1 (isiD .int) (vr 0)) (blE (noT (tst (op1 (isiD .bl) (vr 0)))))))
def G_is_integer : List FL.Arg → RG := bodyG 1 g_is_integer
def g_is_between : SF := (retS (anE (callE 1 G_is_integer (cnsB (vr 0) nilB)) (chn leD leD (vr 1) (vr 0) (vr 2))))
def G_is_between : List FL.Arg → RG := bodyG 3 g_is_between
def g_check_number : SF := (ifS (noT (tst (callE 3 G_is_between (cnsB (vr 0) (cnsB (vr 1) (cnsB (vr 2) nilB)))))) (raiS "InvalidNumber" ["given"] (cnsA (vr 0) nilA)) nxS)
def G_check_number : List FL.Arg → RG := bodyG 3 g_check_number
def b_shares_of_2 : SF := (setS 2 (op2 fdivD (vr 2) (vr 3)))
def b_shares_of_1 : SF := (seqS (ifS (tst (op2 eqA (op2 modD (vr 2) (vr 3)) (cst (.int 0)))) (seqS (setS 1 (op2 subD (vr 1) (op2 fdivD (vr 1) (vr 3)))) (whS [] (tst (op2 eqA (op2 modD (vr 2) (vr 3)) (cst (.int 0)))) b_shares_of_2)) nxS) (setS 3 (op2 addD (vr 3) (cst (.int 1)))))
def g_shares_of : SF := (seqS (par3S 1 2 3 (cnsA (vr 0) (cnsA (vr 0) (cnsA (cst (.int 2)) nilA)))) (seqS (whS [] (tst (op2 leD (op2 mulD (vr 3) (vr 3)) (vr 2))) b_shares_of_1) (retS (ifE (tst (op2 gtD (vr 2) (cst (.int 1)))) (op2 subD (vr 1) (op2 fdivD (vr 1) (vr 2))) (vr 1)))))
def G_shares_of : List FL.Arg → RG := bodyG 4 g_shares_of
def g_roots_of : SF := (retS (opC lenC (cnsA (frz (cmpM [2] (rng2 (cnsA (cst (.int 1)) (cnsA (vr 0) nilA))) (nmG 2) (tst (op2 eqA (op2 modD (op2 subD (op2 mulD (vr 2) (vr 2)) (vr 1)) (vr 0)) (cst (.int 0)))) (vr 2))) nilA)))
def G_roots_of : List FL.Arg → RG := bodyG 3 g_roots_of
def g_count_for : SF := (retS (ifE (tst (op2 ltD (vr 0) (cst (.int 3)))) (cst (.int 1)) (op2 fdivD (op2 addD (op2 addD (callE 1 G_shares_of (cnsB (vr 0) nilB)) (callE 2 G_roots_of (cnsB (vr 0) (cnsB (cst (.int 1)) nilB)))) (callE 2 G_roots_of (cnsB (vr 0) (cnsB (op1 negD (cst (.int 1))) nilB)))) (cst (.int 4)))))
def G_count_for : List FL.Arg → RG := bodyG 1 g_count_for
def g_how_many : SF := (seqS (exS (callE 3 G_check_number (cnsB (vr 0) (cnsB (cst (.int 1)) (cnsB (cst (.int 1000000)) nilB))))) (retS (callE 1 G_count_for (cnsB (vr 0) nilB))))
def G_how_many : List FL.Arg → RG := bodyG 1 g_how_many
def g_how_many_with_sides : SF := (seqS (exS (callE 3 G_check_number (cnsB (vr 0) (cnsB (cst (.int 1)) (cnsB (cst (.int 1000000)) nilB))))) (retS (ifE (tst (op2 ltD (vr 0) (cst (.int 3)))) (cst (.int 1)) (op2 fdivD (op2 addD (callE 1 G_shares_of (cnsB (vr 0) nilB)) (callE 2 G_roots_of (cnsB (vr 0) (cnsB (cst (.int 1)) nilB)))) (cst (.int 2))))))
def G_how_many_with_sides : List FL.Arg → RG := bodyG 1 g_how_many_with_sides
def g_how_many_own_mirrors : SF := (seqS (exS (callE 3 G_check_number (cnsB (vr 0) (cnsB (cst (.int 1)) (cnsB (cst (.int 1000000)) nilB))))) (retS (ifE (tst (op2 ltD (vr 0) (cst (.int 3)))) (cst (.int 1)) (op2 fdivD (callE 2 G_roots_of (cnsB (vr 0) (cnsB (op1 negD (cst (.int 1))) nilB))) (cst (.int 2))))))
def G_how_many_own_mirrors : List FL.Arg → RG := bodyG 1 g_how_many_own_mirrors
def g_how_many_for_loops : SF := (seqS (exS (callE 3 G_check_number (cnsB (vr 0) (cnsB (cst (.int 1)) (cnsB (cst (.int 1000000)) nilB))))) (seqS (ifS (tst (op2 ltD (vr 0) (cst (.int 3)))) (retS (cst (.int 1))) nxS) (retS (op2 fdivD (callE 2 G_roots_of (cnsB (vr 0) (cnsB (cst (.int 1)) nilB))) (ifE (tst (op2 gtD (callE 2 G_roots_of (cnsB (vr 0) (cnsB (op1 negD (cst (.int 1))) nilB))) (cst (.int 0)))) (cst (.int 1)) (cst (.int 2)))))))
def G_how_many_for_loops : List FL.Arg → RG := bodyG 1 g_how_many_for_loops
def b_common_1 : SF := (parS 0 1 (cnsA (vr 1) (cnsA (op2 modD (vr 0) (vr 1)) nilA)))
def g_common : SF := (seqS (whS [] (tst (op2 gtD (vr 1) (cst (.int 0)))) b_common_1) (retS (vr 0)))
def G_common : List FL.Arg → RG := bodyG 2 g_common
def g_primes_to : SF := (retM (cmpM [1] (rng2 (cnsA (cst (.int 1)) (cnsA (vr 0) nilA))) (nmG 1) (tst (op2 eqA (callE 2 G_common (cnsB (vr 0) (cnsB (vr 1) nilB))) (cst (.int 1)))) (vr 1)))
def G_primes_to : List FL.Arg → RG := bodyG 2 g_primes_to
def b_inverse_1 : SF := (seqS (setS 6 (op2 fdivD (vr 2) (vr 3))) (seqS (parS 2 3 (cnsA (vr 3) (cnsA (op2 subD (vr 2) (op2 mulD (vr 6) (vr 3))) nilA))) (parS 4 5 (cnsA (vr 5) (cnsA (op2 subD (vr 4) (op2 mulD (vr 6) (vr 5))) nilA)))))
def g_inverse : SF := (seqS (asgS (dTup (cnsA (dTup (cnsA (vr 1) (cnsA (op2 modD (vr 0) (vr 1)) nilA))) (cnsA (dTup (cnsA (cst (.int 0)) (cnsA (cst (.int 1)) nilA))) nilA))) (tupG 2 (cnsG (tupG 2 (cnsG (nmG 2) (cnsG (nmG 3) nilG))) (cnsG (tupG 2 (cnsG (nmG 4) (cnsG (nmG 5) nilG))) nilG)))) (seqS (whS [] (tst (op2 gtD (vr 3) (cst (.int 0)))) b_inverse_1) (retS (op2 modD (vr 4) (vr 1)))))
def G_inverse : List FL.Arg → RG := bodyG 7 g_inverse
def g_mirrored : SF := (retS (ifE (tst (op2 ltD (op2 ixD (vr 0) (cst (.int 0))) (cst (.int 2)))) (vr 0) (dTup (cnsA (op2 ixD (vr 0) (cst (.int 0))) (cnsA (op2 subD (op2 ixD (vr 0) (cst (.int 0))) (op2 ixD (vr 0) (cst (.int 1)))) nilA)))))
def G_mirrored : List FL.Arg → RG := bodyG 1 g_mirrored
def g_all_for : SF := (seqS (ifS (tst (op2 ltD (op2 ixD (vr 0) (cst (.int 0))) (cst (.int 2)))) (retM (dLst (cnsA (vr 0) nilA))) nxS) (seqS (setS 1 (dTup (cnsA (op2 ixD (vr 0) (cst (.int 0))) (cnsA (callE 2 G_inverse (cnsB (op2 ixD (vr 0) (cst (.int 1))) (cnsB (op2 ixD (vr 0) (cst (.int 0))) nilB))) nilA)))) (retS (dtcE [2] (seqI (dTup (cnsA (vr 0) (cnsA (vr 1) (cnsA (callE 1 G_mirrored (cnsB (vr 0) nilB)) (cnsA (callE 1 G_mirrored (cnsB (vr 1) nilB)) nilA)))))) (nmG 2) yesT (vr 2) (cst (.bl true))))))
def G_all_for : List FL.Arg → RG := bodyG 3 g_all_for
def g_solids : SF := (seqS (exS (callE 3 G_check_number (cnsB (vr 0) (cnsB (cst (.int 1)) (cnsB (cst (.int 500)) nilB))))) (seqS (ifS (tst (op2 eqA (vr 0) (cst (.int 1)))) (retS (dTup (cnsA (dTup (cnsA (cst (.int 1)) (cnsA (cst (.int 0)) nilA))) nilA))) nxS) (retS (opC tupC (cnsA (frz (cmpM [1] (seqI (callE 1 G_primes_to (cnsB (vr 0) nilB))) (nmG 1) (tst (op2 eqA (op2 ixD (callE 1 G_all_for (cnsB (dTup (cnsA (vr 0) (cnsA (vr 1) nilA))) nilB)) (cst (.int 0))) (dTup (cnsA (vr 0) (cnsA (vr 1) nilA))))) (dTup (cnsA (vr 0) (cnsA (vr 1) nilA))))) nilA)))))
def G_solids : List FL.Arg → RG := bodyG 2 g_solids
def b_first_with_1 : SF := (setS 1 (op2 addD (vr 1) (cst (.int 1))))
def g_first_with_3 : SF := (retS (vr 1))
def g_first_with_2 : SF := (seqS (whS [] (tst (op2 ltD (callE 1 G_count_for (cnsB (vr 1) nilB)) (vr 0))) b_first_with_1) g_first_with_3)
def g_first_with_1 : SF := (seqS (setS 1 (cst (.int 1))) g_first_with_2)
def g_first_with : SF := (seqS (exS (callE 3 G_check_number (cnsB (vr 0) (cnsB (cst (.int 1)) (cnsB (cst (.int 500)) nilB))))) g_first_with_1)
def G_first_with : List FL.Arg → RG := bodyG 2 g_first_with
def g__law_sip_3 : SF := (retS (op2 modD (opC intC (cnsA (op2 fdivD (ixM 0 (cst (.int 1))) (cst (.int 64))) nilA)) (vr 1)))
def g__law_sip_2 : SF := (seqS (subS 0 (op2 modD (opC intC (cnsA (op2 addD (op2 addD (op2 mulD (ixM 0 (cst (.int 1))) (cst (.int 16807))) (op2 mulD (cst (.int 1823)) (ixM 0 (cst (.int 2))))) (cst (.int 59))) nilA)) (cst (.int 2147483647))) (cst (.int 1))) g__law_sip_3)
def g__law_sip_1 : SF := (seqS (ifS (tst (op2 gtD (ixM 0 (cst (.int 0))) (cst (.int 0)))) (seqS (setS 2 (op2 modD (opC intC (cnsA (ixM 0 (cst (.int 0))) nilA)) (vr 1))) (seqS (subS 0 (op2 fdivD (opC intC (cnsA (ixM 0 (cst (.int 0))) nilA)) (vr 1)) (cst (.int 0))) (retS (vr 2)))) nxS) g__law_sip_2)
def g__law_sip : SF := (seqS (subS 0 (op2 addD (ixM 0 (cst (.int 2))) (cst (.int 1))) (cst (.int 2))) g__law_sip_1)
def G__law_sip : List FL.Arg → RG := bodyG 3 g__law_sip
def g__law_pick : SF := (retS (op2 ixD (vr 1) (callE 2 G__law_sip (slB 0 (cnsB (opC lenC (cnsA (vr 1) nilA)) nilB)))))
def G__law_pick : List FL.Arg → RG := bodyG 2 g__law_pick
def b__law_gcd_1 : SF := (parS 0 1 (cnsA (vr 1) (cnsA (op2 modD (opC intC (cnsA (vr 0) nilA)) (vr 1)) nilA)))
def g__law_gcd : SF := (seqS (parS 0 1 (cnsA (opC absC (cnsA (vr 0) nilA)) (cnsA (opC absC (cnsA (vr 1) nilA)) nilA))) (seqS (whS [] (tst (op2 gtD (vr 1) (cst (.int 0)))) b__law_gcd_1) (retS (vr 0))))
def G__law_gcd : List FL.Arg → RG := bodyG 2 g__law_gcd
def g__law_inverse : SF := (retS (op2 ixD (frz (cmpM [2] (rng2 (cnsA (cst (.int 1)) (cnsA (vr 0) nilA))) (nmG 2) (tst (op2 eqA (op2 modD (opC intC (cnsA (op2 mulD (vr 2) (vr 1)) nilA)) (vr 0)) (cst (.int 1)))) (vr 2))) (cst (.int 0))))
def G__law_inverse : List FL.Arg → RG := bodyG 3 g__law_inverse
def b__law_told_1_4 : SF := (ifS (tst (op2 eqA (vr 1) (opC minLC (cnsA (op2 addD (vr 10) (frz (cmpM [12] (seqI (vr 10)) (nmG 12) yesT (op2 subD (vr 0) (vr 12))))) nilA)))) (mutS 7 (vr 1) appO) nxS)
def b__law_told_1_3 : SF := (seqS (setS 10 (frz (cmpM [11] (keyI (vr 4)) (nmG 11) yesT (op2 modD (opC intC (cnsA (op2 mulD (vr 1) (vr 11)) nilA)) (vr 0))))) b__law_told_1_4)
def b__law_told_1_2 : SF := (seqS (ifS (tst (op2 eqA (vr 1) (opC minLC (cnsA (slF (vr 9) noO (smO (cst (.int 2)))) nilA)))) (seqS (mutS 6 (vr 1) appO) (ifS (tst (op2 inA (op2 subD (vr 0) (vr 1)) (slF (vr 9) noO (smO (cst (.int 2)))))) (mutS 8 (vr 1) appO) nxS)) nxS) b__law_told_1_3)
def b__law_told_1_1 : SF := (seqS (ifS (tst (op2 eqA (vr 1) (opC minLC (cnsA (vr 9) nilA)))) (mutS 5 (vr 1) appO) nxS) b__law_told_1_2)
def b__law_told_1 : SF := (seqS (setS 9 (frz (dLst (cnsA (vr 1) (cnsA (op2 dgetD (vr 3) (vr 1)) (cnsA (op2 subD (vr 0) (vr 1)) (cnsA (op2 subD (vr 0) (op2 dgetD (vr 3) (vr 1))) nilA))))))) b__law_told_1_1)
def g__law_told_5 : SF := (frzS 5 (frzS 7 (frzS 8 (frzS 6 (retM (dLst (cnsA (vr 5) (cnsA (vr 6) (cnsA (vr 7) (cnsA (vr 8) nilA))))))))))
def g__law_told_4 : SF := (seqS (forS [] (seqI (vr 2)) (nmG 1) b__law_told_1) g__law_told_5)
def g__law_told_3 : SF := (seqS (parN [5, 6, 7, 8] (newN (dLst nilA) (newN (dLst nilA) (newN (dLst nilA) (newN (dLst nilA) nilN))))) g__law_told_4)
def g__law_told_2 : SF := (seqS (setS 4 (frzZ (dicM (cnsA (frz (cmpM [1] (seqI (vr 2)) (nmG 1) yesT (dTup (cnsA (op2 modD (opC intC (cnsA (op2 mulD (vr 1) (vr 1)) nilA)) (vr 0)) (cnsA (cst (.bl true)) nilA))))) nilA)))) g__law_told_3)
def g__law_told_1 : SF := (seqS (setS 3 (frzZ (dicM (cnsA (frz (cmpM [1] (seqI (vr 2)) (nmG 1) yesT (dTup (cnsA (vr 1) (cnsA (callE 2 G__law_inverse (cnsB (vr 0) (cnsB (vr 1) nilB))) nilA))))) nilA)))) g__law_told_2)
def g__law_told : SF := (seqS (setS 2 (frz (cmpM [1] (rng2 (cnsA (cst (.int 1)) (cnsA (vr 0) nilA))) (nmG 1) (tst (op2 eqA (callE 2 G__law_gcd (cnsB (vr 0) (cnsB (vr 1) nilB))) (cst (.int 1)))) (vr 1)))) g__law_told_1)
def G__law_told : List FL.Arg → RG := bodyG 13 g__law_told
def g__law_sort (x0 : EId) : SF := (seqS (setS 1 (frz (dLst (cnsA (frz (dLst (cnsA (cst (.str "text")) (cnsA (isx x0 ctab "InvalidText" (vr 0)) nilA)))) (cnsA (frz (dLst (cnsA (cst (.str "number")) (cnsA (isx x0 ctab "InvalidNumber" (vr 0)) nilA)))) nilA))))) (seqS (setS 1 (op2 addD (vr 1) (frz (dLst (cnsA (frz (dLst (cnsA (cst (.str "index")) (cnsA (isx x0 ctab "InvalidIndex" (vr 0)) nilA)))) (cnsA (frz (dLst (cnsA (cst (.str "pair")) (cnsA (isx x0 ctab "InvalidPair" (vr 0)) nilA)))) nilA)))))) (seqS (setS 1 (op2 addD (vr 1) (frz (dLst (cnsA (frz (dLst (cnsA (cst (.str "string")) (cnsA (isx x0 ctab "InvalidString" (vr 0)) nilA)))) (cnsA (frz (dLst (cnsA (cst (.str "led")) (cnsA (isx x0 ctab "NotLed" (vr 0)) nilA)))) nilA)))))) (seqS (setS 1 (op2 addD (vr 1) (frz (dLst (cnsA (frz (dLst (cnsA (cst (.str "move")) (cnsA (isx x0 ctab "NoMove" (vr 0)) nilA)))) (cnsA (frz (dLst (cnsA (cst (.str "great")) (cnsA (isx x0 ctab "TooGreat" (vr 0)) nilA)))) (cnsA (frz (dLst (cnsA (cst (.str "broken")) (cnsA (isx x0 ctab "Broken" (vr 0)) nilA)))) nilA))))))) (seqS (setS 2 (frz (cmpM [3, 4] (lstI (vr 1)) (unlG 2 (cnsG (nmG 3) (cnsG (nmG 4) nilG))) (tru (vr 4)) (vr 3)))) (retS (ifE (tst (op2 eqA (opC lenC (cnsA (vr 2) nilA)) (cst (.int 1)))) (op2 ixD (vr 2) (cst (.int 0))) (cst (.str "odd")))))))))
def G__law_sort : EId → List FL.Arg → RG := bodyH 5 g__law_sort
def g__law_field (x0 : EId) : SF := (seqS (ifS (tst (isxT x0 ctab "InvalidString" "Broken" (vr 0))) (retS (efld x0 ctab "index" (vr 0))) nxS) (seqS (ifS (tst (isx x0 ctab "NotLed" (vr 0))) (retS (efld x0 ctab "pairs" (vr 0))) nxS) (seqS (ifS (tst (isx x0 ctab "NoMove" (vr 0))) (retS (cst .non)) nxS) (retS (ifE (tst (isx x0 ctab "TooGreat" (vr 0))) (efld x0 ctab "most" (vr 0)) (efld x0 ctab "given" (vr 0)))))))
def G__law_field : EId → List FL.Arg → RG := bodyH 1 g__law_field
def gs__law_error (x0 : EId) : SF := (seqS (setS 3 (frz (dLst (cnsA (isx x0 ctab "NotRight" (vr 2)) (cnsA (isx x0 ctab "NotKnown" (vr 2)) (cnsA (isx x0 ctab "NotPossible" (vr 2)) nilA)))))) (seqS (setS 4 (frz (dLst (cnsA (isx x0 ctab "ValueError" (vr 2)) (cnsA (isx x0 ctab "LookupError" (vr 2)) (cnsA (isx x0 ctab "ArithmeticError" (vr 2)) nilA)))))) (retM (dLst (cnsA (ifE (anT (tst (op2 eqA (vr 3) (vr 4))) (tst (op2 eqA (lmD cntL (vr 3) (cst (.bl true))) (cst (.int 1))))) (callE 1 (G__law_sort x0) (cnsB (vr 2) nilB)) (cst (.str "odd"))) (cnsA (callE 1 (G__law_field x0) (cnsB (vr 2) nilB)) nilA))))))
def ge__law_error : SF := (retM (dLst (cnsA (cst (.str "told")) (cnsA (vr 1) nilA))))
def c__law_error : CG := ⟨5, 1, 2, ctab, csn, gs__law_error, ge__law_error⟩
def b__law_right_1 [FE] : SF := (ifS (tst (op2 neA (opC reprQC (cnsA (cauE c__law_error (callVs 10 1 [("first_with", G_first_with), ("how_many", G_how_many), ("how_many_for_loops", G_how_many_for_loops), ("how_many_own_mirrors", G_how_many_own_mirrors), ("how_many_with_sides", G_how_many_with_sides), ("solids", G_solids)] (cnsB (vr 11) nilB))) nilA)) (opC reprQC (cnsA (frz (dLst (cnsA (cst (.str "number")) (cnsA (vr 11) nilA)))) nilA)))) (retS (cst (.bl false))) nxS)
def g__law_right_14 [FE] : SF := (retS (op2 eqA (cauE c__law_error (callE 1 G_first_with (cnsB (cst (.int 501)) nilB))) (frz (dLst (cnsA (cst (.str "number")) (cnsA (cst (.int 501)) nilA))))))
def g__law_right_13 [FE] : SF := (seqS (ifS (tst (op2 neA (cauE c__law_error (callE 1 G_solids (cnsB (cst (.int 501)) nilB))) (frz (dLst (cnsA (cst (.str "number")) (cnsA (cst (.int 501)) nilA)))))) (retS (cst (.bl false))) nxS) g__law_right_14)
def g__law_right_12 [FE] : SF := (seqS (forS [] (seqI (frz (dLst (cnsA (cst (.fn (FE.cl "how_many"))) (cnsA (cst (.fn (FE.cl "how_many_with_sides"))) (cnsA (cst (.fn (FE.cl "how_many_for_loops"))) (cnsA (cst (.fn (FE.cl "how_many_own_mirrors"))) (cnsA (cst (.fn (FE.cl "solids"))) (cnsA (cst (.fn (FE.cl "first_with"))) nilA))))))))) (nmG 10) b__law_right_1) g__law_right_13)
def g__law_right_11 [FE] : SF := (seqS (setS 11 (callE 2 G__law_pick (slB 0 (cnsB (frz (dLst (cnsA (cst (.int 0)) (cnsA (op1 negD (cst (.int 1))) (cnsA (cst .non) (cnsA (cst (.bl true)) (cnsA (cst (.str "1")) (cnsA (op2 addD (op2 powD (cst (.int 10)) (cst (.int 6))) (cst (.int 1))) (cnsA (dTup (cnsA (cst (.int 1)) nilA)) nilA))))))))) nilB)))) g__law_right_12)
def g__law_right_10 [FE] : SF := (seqS (ifS (orT (tst (op2 neA (callE 1 G_first_with (kwB 0 1 [0] nilB (cnsB (vr 8) nilB))) (vr 9))) (orT (tst (op2 ltD (callE 1 G_how_many (cnsB (vr 9) nilB)) (vr 8))) (tst (op2 neA (frz (cmpM [13] (rng2 (cnsA (cst (.int 1)) (cnsA (vr 9) nilA))) (nmG 13) (tst (op2 geD (callE 1 G_how_many (cnsB (vr 13) nilB)) (vr 8))) (vr 13))) (frz (dLst nilA)))))) (retS (cst (.bl false))) nxS) g__law_right_11)
def g__law_right_9 [FE] : SF := (seqS (setS 9 (callE 1 G_first_with (cnsB (vr 8) nilB))) g__law_right_10)
def g__law_right_8 [FE] : SF := (seqS (setS 8 (op2 addD (cst (.int 1)) (callE 2 G__law_sip (slB 0 (cnsB (cst (.int 30)) nilB))))) g__law_right_9)
def g__law_right_7 [FE] : SF := (seqS (ifS (orT (tst (op2 ltD (op2 mulD (cst (.int 2)) (callE 1 G_how_many (cnsB (vr 7) nilB))) (callE 1 G_how_many_with_sides (cnsB (vr 7) nilB)))) (orT (tst (op2 gtD (callE 1 G_how_many_for_loops (cnsB (vr 7) nilB)) (callE 1 G_how_many (cnsB (vr 7) nilB)))) (tst (op2 neA (callE 1 G_how_many_own_mirrors (cnsB (vr 7) nilB)) (op2 subD (op2 mulD (cst (.int 2)) (callE 1 G_how_many (cnsB (vr 7) nilB))) (callE 1 G_how_many_with_sides (cnsB (vr 7) nilB))))))) (retS (cst (.bl false))) nxS) g__law_right_8)
def g__law_right_6 [FE] : SF := (seqS (setS 7 (op2 addD (cst (.int 2)) (callE 2 G__law_sip (slB 0 (cnsB (cst (.int 9998)) nilB))))) g__law_right_7)
def g__law_right_5 [FE] : SF := (seqS (ifS (tst (op2 neA (opC reprQC (cnsA (frz (dLst (cnsA (callE 1 G_solids (cnsB (vr 1) nilB)) (cnsA (callE 1 G_solids (kwB 0 1 [0] nilB (cnsB (vr 1) nilB))) nilA)))) nilA)) (opC reprQC (cnsA (op2 mulD (frz (dLst (cnsA (opC tupC (cnsA (frz (cmpM [12] (seqI (vr 2)) (nmG 12) yesT (dTup (cnsA (vr 1) (cnsA (vr 12) nilA))))) nilA)) nilA))) (cst (.int 2))) nilA)))) (retS (cst (.bl false))) nxS) g__law_right_6)
def g__law_right_4 [FE] : SF := (seqS (ifS (tst (op2 neA (opC reprQC (cnsA (frz (dLst (cnsA (callE 1 G_how_many (kwB 0 1 [0] nilB (cnsB (vr 1) nilB))) (cnsA (callE 1 G_how_many_with_sides (kwB 0 1 [0] nilB (cnsB (vr 1) nilB))) (cnsA (callE 1 G_how_many_for_loops (kwB 0 1 [0] nilB (cnsB (vr 1) nilB))) (cnsA (callE 1 G_how_many_own_mirrors (kwB 0 1 [0] nilB (cnsB (vr 1) nilB))) nilA)))))) nilA)) (opC reprQC (cnsA (vr 6) nilA)))) (retS (cst (.bl false))) nxS) g__law_right_5)
def g__law_right_3 [FE] : SF := (seqS (ifS (tst (op2 neA (opC reprQC (cnsA (frz (dLst (cnsA (callE 1 G_how_many (cnsB (vr 1) nilB)) (cnsA (callE 1 G_how_many_with_sides (cnsB (vr 1) nilB)) (cnsA (callE 1 G_how_many_for_loops (cnsB (vr 1) nilB)) (cnsA (callE 1 G_how_many_own_mirrors (cnsB (vr 1) nilB)) nilA)))))) nilA)) (opC reprQC (cnsA (vr 6) nilA)))) (retS (cst (.bl false))) nxS) g__law_right_4)
def g__law_right_2 [FE] : SF := (seqS (setS 6 (frz (dLst (cnsA (opC lenC (cnsA (vr 2) nilA)) (cnsA (opC lenC (cnsA (vr 3) nilA)) (cnsA (opC lenC (cnsA (vr 4) nilA)) (cnsA (opC lenC (cnsA (vr 5) nilA)) nilA))))))) g__law_right_3)
def g__law_right_1 [FE] : SF := (seqS (asgS (callE 1 G__law_told (cnsB (vr 1) nilB)) (tulG 4 (cnsG (nmG 2) (cnsG (nmG 3) (cnsG (nmG 4) (cnsG (nmG 5) nilG)))))) g__law_right_2)
def g__law_right [FE] : SF := (seqS (setS 1 (op2 addD (cst (.int 2)) (callE 2 G__law_sip (slB 0 (cnsB (callE 2 G__law_pick (slB 0 (cnsB (frz (dLst (cnsA (cst (.int 12)) (cnsA (cst (.int 99)) nilA)))) nilB))) nilB))))) g__law_right_1)
def G__law_right [FE] : List FL.Arg → RG := bodyG 14 g__law_right
def b__law_bin_1 : SF := (setS 3 (op2 modD (opC intC (cnsA (op2 addD (op2 addD (op2 mulD (vr 3) (cst (.int 16807))) (op2 modD (opC intC (cnsA (vr 4) nilA)) (cst (.int 999853)))) (vr 1)) nilA)) (cst (.int 2147483647))))
def g__law_bin_4 : SF := (retM (dLst (cnsA (ifE (tst (op2 geD (opC absC (cnsA (vr 2) nilA)) (op2 powD (cst (.int 10)) (cst (.int 18))))) (opC absC (cnsA (vr 2) nilA)) (cst (.int 0))) (cnsA (vr 3) (cnsA (cst (.int 0)) nilA)))))
def g__law_bin_3 : SF := (seqS (setS 3 (op2 modD (opC intC (cnsA (op2 addD (op2 mulD (vr 3) (cst (.int 16807))) (op2 modD (opC intC (cnsA (vr 2) nilA)) (cst (.int 999853)))) nilA)) (cst (.int 2147483647)))) g__law_bin_4)
def g__law_bin_2 : SF := (seqS (forS [] (seqI (slF (vr 0) noO (smO (cst (.int 8))))) (nmG 4) b__law_bin_1) g__law_bin_3)
def g__law_bin_1 : SF := (seqS (setS 3 (op2 addD (cst (.int 90001)) (op2 mulD (cst (.int 1031)) (vr 1)))) g__law_bin_2)
def g__law_bin : SF := (seqS (setS 2 (ifE (tst (op2 ltD (vr 1) (opC lenC (cnsA (vr 0) nilA)))) (opC intC (cnsA (op2 ixD (vr 0) (vr 1)) nilA)) (op2 addD (op2 mulD (cst (.int 97)) (vr 1)) (cst (.int 43))))) g__law_bin_1)
def G__law_bin : List FL.Arg → RG := bodyG 5 g__law_bin
def g_law_3 [FE] : SF := (retS (opC allC (cnsA (frz (cmpM [2] (rng1 (cnsA (opC maxC (cnsA (cst (.int 2)) (cnsA (opC minC (cnsA (opC lenC (cnsA (vr 0) nilA)) (cnsA (cst (.int 4)) nilA))) nilA))) nilA)) (nmG 2) yesT (callFE G__law_right (callM 2 G__law_bin (cnsB (vr 0) (cnsB (vr 2) nilB)))))) nilA)))
def g_law_2 [FE] : SF := (seqS (ifS (tst (op2 neA (frz (dLst (cnsA (callE 1 G_solids (cnsB (cst (.int 7)) nilB)) (cnsA (callE 1 G_solids (cnsB (cst (.int 5)) nilB)) (cnsA (callE 1 G_solids (cnsB (cst (.int 12)) nilB)) (cnsA (callE 1 G_solids (cnsB (cst (.int 1)) nilB)) (cnsA (callE 1 G_first_with (cnsB (cst (.int 1)) nilB)) (cnsA (callE 1 G_first_with (cnsB (cst (.int 2)) nilB)) (cnsA (callE 1 G_first_with (cnsB (cst (.int 3)) nilB)) (cnsA (callE 1 G_how_many_own_mirrors (cnsB (cst (.int 1)) nilB)) (cnsA (callE 1 G_how_many_own_mirrors (cnsB (cst (.int 2)) nilB)) (cnsA (callE 1 G_how_many_with_sides (cnsB (cst (.int 2)) nilB)) nilA)))))))))))) (frz (dLst (cnsA (dTup (cnsA (dTup (cnsA (cst (.int 7)) (cnsA (cst (.int 1)) nilA))) (cnsA (dTup (cnsA (cst (.int 7)) (cnsA (cst (.int 2)) nilA))) nilA))) (cnsA (dTup (cnsA (dTup (cnsA (cst (.int 5)) (cnsA (cst (.int 1)) nilA))) (cnsA (dTup (cnsA (cst (.int 5)) (cnsA (cst (.int 2)) nilA))) nilA))) (cnsA (dTup (cnsA (dTup (cnsA (cst (.int 12)) (cnsA (cst (.int 1)) nilA))) (cnsA (dTup (cnsA (cst (.int 12)) (cnsA (cst (.int 5)) nilA))) nilA))) (cnsA (dTup (cnsA (dTup (cnsA (cst (.int 1)) (cnsA (cst (.int 0)) nilA))) nilA)) (cnsA (cst (.int 1)) (cnsA (cst (.int 5)) (cnsA (cst (.int 11)) (cnsA (cst (.int 1)) (cnsA (cst (.int 1)) (cnsA (cst (.int 1)) nilA)))))))))))))) (retS (cst (.bl false))) nxS) g_law_3)
def g_law_1 [FE] : SF := (seqS (ifS (tst (op2 neA (vr 1) (frz (dLst (cnsA (cst (.int 2)) (cnsA (cst (.int 4)) (cnsA (cst (.int 0)) (cnsA (cst (.int 1)) (cnsA (cst (.int 1)) (cnsA (cst (.int 2)) (cnsA (cst (.int 1)) (cnsA (cst (.int 1)) (cnsA (cst (.int 2)) (cnsA (cst (.int 4)) (cnsA (cst (.int 2)) nilA))))))))))))))) (retS (cst (.bl false))) nxS) g_law_2)
def g_law [FE] : SF := (seqS (setS 1 (frz (dLst (cnsA (callE 1 G_how_many (cnsB (cst (.int 7)) nilB)) (cnsA (callE 1 G_how_many_with_sides (cnsB (cst (.int 7)) nilB)) (cnsA (callE 1 G_how_many_own_mirrors (cnsB (cst (.int 7)) nilB)) (cnsA (callE 1 G_how_many_own_mirrors (cnsB (cst (.int 5)) nilB)) (cnsA (callE 1 G_how_many_for_loops (cnsB (cst (.int 7)) nilB)) (cnsA (callE 1 G_how_many_for_loops (cnsB (cst (.int 5)) nilB)) (cnsA (callE 1 G_how_many (cnsB (cst (.int 1)) nilB)) (cnsA (callE 1 G_how_many (cnsB (cst (.int 2)) nilB)) (cnsA (callE 1 G_how_many (cnsB (cst (.int 8)) nilB)) (cnsA (callE 1 G_how_many_with_sides (cnsB (cst (.int 8)) nilB)) (cnsA (callE 1 G_how_many_for_loops (cnsB (cst (.int 8)) nilB)) nilA)))))))))))))) g_law_1)
def G_law [FE] : List FL.Arg → RG := bodyG 3 g_law
end
section
variable [FE]
variable {P : Program} {w : World} {K : PySem.W.Frag} {mg : Str → Option Value} {base : Heap}
theorem sc_is_integer : FnScope ["value"] ["value"] (defScope s_is_integer) := ⟨rfl, rfl, rfl, by decide +kernel, rfl, by decide +kernel, by decide +kernel⟩
theorem fn_is_integer {f : Addr} {fd : FuncData} (T : Txt K mg) (Fd : Fun K "is_integer" "is_integer" s_is_integer f fd)  : FnG P w K mg base 1 f fd ["value"] (spG K 1 G_is_integer) := by
  have z := fnG (P := P) (w := w) (mg := mg) (base := base) (k := 0) (N := ["value"]) (ps := ["value"]) (g := g_is_integer) Fd sc_is_integer fun cdv A outer s H E π W hr tk hp => by exact (fss_one (fs_ret (fe_and (fe_isi (T := .int) (by intro z; cases z) rfl T.b_isinstance rfl rfl T.b_int (by decide +kernel) (fe_vr (pv 0))) (pe_one (fe_not (fe_isi (T := .bl) (by intro z; cases z) rfl T.b_isinstance rfl rfl T.b_bool (by decide +kernel) (fe_vr (pv 0))))))))
  exact z
theorem ok_is_integer {f : Addr} {fd : FuncData} (T : Txt K mg) (Fd : Fun K "is_integer" "is_integer" s_is_integer f fd) (hm : mg "is_integer" = some (.ref f))  : Cal P w K mg base 1 "is_integer" ["value"] [] G_is_integer :=
  cal_of Fd hm (fn_is_integer T Fd ) (fun _ _ _ _ _ _ us hl => match us, hl with | [_], _ => rfl) kb_nil
theorem sc_is_between : FnScope ["value", "least", "most"] ["value", "least", "most"] (defScope s_is_between) := ⟨rfl, rfl, rfl, by decide +kernel, rfl, by decide +kernel, by decide +kernel⟩
theorem fn_is_between {f : Addr} {fd : FuncData} (T : Txt K mg) (Fd : Fun K "is_between" "is_between" s_is_between f fd) (C_is_integer : Cal P w K mg base 1 "is_integer" ["value"] [] G_is_integer) : FnG P w K mg base 2 f fd ["value", "least", "most"] (spG K 3 G_is_between) := by
  obtain ⟨f_is_integer, fd_is_integer, F_is_integer, m_is_integer, k_is_integer, b_is_integer, q_is_integer⟩ := C_is_integer.ex
  have z := fnG (P := P) (w := w) (mg := mg) (base := base) (k := 1) (N := ["value", "least", "most"]) (ps := ["value", "least", "most"]) (g := g_is_between) Fd sc_is_between fun cdv A outer s H E π W hr tk hp => by exact (fss_one (fs_ret (fe_and (fe_call F_is_integer (rm_mono hr (by rfl)) tk rfl m_is_integer k_is_integer b_is_integer (fb_cons (fe_vr (pv 0)) fb_nil)) (pe_one (fe_chn op_le op_le q_cmp q_cmp (fe_vr (pv 1)) (fe_vr (pv 0)) (fe_vr (pv 2)) (by rfl))))))
  exact z
theorem ok_is_between {f : Addr} {fd : FuncData} (T : Txt K mg) (Fd : Fun K "is_between" "is_between" s_is_between f fd) (hm : mg "is_between" = some (.ref f)) (C_is_integer : Cal P w K mg base 1 "is_integer" ["value"] [] G_is_integer) : Cal P w K mg base 2 "is_between" ["value", "least", "most"] [] G_is_between :=
  cal_of Fd hm (fn_is_between T Fd C_is_integer) (fun _ _ _ _ _ _ us hl => match us, hl with | [_, _, _], _ => rfl) kb_nil
theorem sc_check_number : FnScope ["value", "least", "most"] ["value", "least", "most"] (defScope s_check_number) := ⟨rfl, rfl, rfl, by decide +kernel, rfl, by decide +kernel, by decide +kernel⟩
theorem fn_check_number {f : Addr} {fd : FuncData} (T : Txt K mg) (Fd : Fun K "check_number" "check_number" s_check_number f fd) (C_is_between : Cal P w K mg base 2 "is_between" ["value", "least", "most"] [] G_is_between) : FnG P w K mg base 3 f fd ["value", "least", "most"] (spG K 3 G_check_number) := by
  obtain ⟨f_is_between, fd_is_between, F_is_between, m_is_between, k_is_between, b_is_between, q_is_between⟩ := C_is_between.ex
  obtain ⟨i_InvalidNumber, X_InvalidNumber, I_InvalidNumber⟩ := T.x_InvalidNumber
  have z := fnG (P := P) (w := w) (mg := mg) (base := base) (k := 2) (N := ["value", "least", "most"]) (ps := ["value", "least", "most"]) (g := g_check_number) Fd sc_check_number fun cdv A outer s H E π W hr tk hp => by exact (fss_one (fs_if (ft_not (ft_val (fe_call F_is_between (rm_mono hr (by rfl)) tk rfl m_is_between k_is_between b_is_between (fb_cons (fe_vr (pv 0)) (fb_cons (fe_vr (pv 1)) (fb_cons (fe_vr (pv 2)) fb_nil)))))) (fss_one (fs_raise rfl tk tlV X_InvalidNumber I_InvalidNumber (by decide) rfl hr.r rfl T.k_InvalidNumber (fa_cons (fe_vr (pv 0)) fa_nil))) fss_nil))
  exact z
theorem ok_check_number {f : Addr} {fd : FuncData} (T : Txt K mg) (Fd : Fun K "check_number" "check_number" s_check_number f fd) (hm : mg "check_number" = some (.ref f)) (C_is_between : Cal P w K mg base 2 "is_between" ["value", "least", "most"] [] G_is_between) : Cal P w K mg base 3 "check_number" ["value", "least", "most"] [] G_check_number :=
  cal_of Fd hm (fn_check_number T Fd C_is_between) (fun _ _ _ _ _ _ us hl => match us, hl with | [_, _, _], _ => rfl) kb_nil
theorem sc_shares_of : FnScope ["turn", "found", "left", "factor"] ["turn"] (defScope s_shares_of) := ⟨rfl, rfl, rfl, by decide +kernel, rfl, by decide +kernel, by decide +kernel⟩
theorem fn_shares_of {f : Addr} {fd : FuncData} (T : Txt K mg) (Fd : Fun K "shares_of" "shares_of" s_shares_of f fd)  : FnG P w K mg base 1 f fd ["turn"] (spG K 1 G_shares_of) := by
  have z := fnG (P := P) (w := w) (mg := mg) (base := base) (k := 0) (N := ["turn", "found", "left", "factor"]) (ps := ["turn"]) (g := g_shares_of) Fd sc_shares_of fun cdv A outer s H E π W hr tk hp => by exact (fss_cons (fs_par3 rfl sc_shares_of.nd (i := 1) (j := 2) (l := 3) rfl rfl rfl (by decide) (by decide) (by decide) rfl rfl rfl (fa_cons (fe_vr (pv 0)) (fa_cons (fe_vr (pv 0)) (fa_cons fe_int fa_nil))) (by rfl)) (fss_cons (fs_while (ks := []) hp (ft_cmp op_le q_cmp (fe_bin o_mul q_mul (fe_vr (pv 3)) (fe_vr (pv 3))) (fe_vr (pv 2)) (by rfl)) (fss_cons (fs_if (ft_cmp (o_eqA hr.u64) q_eqA (fe_bin op_modN q_mod (fe_vr (pv 2)) (fe_vr (pv 3))) fe_int (by rfl)) (fss_cons (fs_set sc_shares_of.nd (i := 1) rfl (Or.inl rfl) (fe_bin op_sub q_sub (fe_vr (pv 1)) (fe_bin o_fdiv q_fdiv (fe_vr (pv 1)) (fe_vr (pv 3))))) (fss_one (fs_while (ks := []) hp (ft_cmp (o_eqA hr.u64) q_eqA (fe_bin op_modN q_mod (fe_vr (pv 2)) (fe_vr (pv 3))) fe_int (by rfl)) (fss_one (fs_set sc_shares_of.nd (i := 2) rfl (Or.inl rfl) (fe_bin o_fdiv q_fdiv (fe_vr (pv 2)) (fe_vr (pv 3)))))))) fss_nil) (fss_one (fs_set sc_shares_of.nd (i := 3) rfl (Or.inl rfl) (fe_bin o_add q_add (fe_vr (pv 3)) fe_int))))) (fss_one (fs_ret (fe_if (ft_cmp op_gt q_cmp (fe_vr (pv 2)) fe_int (by rfl)) (fe_bin op_sub q_sub (fe_vr (pv 1)) (fe_bin o_fdiv q_fdiv (fe_vr (pv 1)) (fe_vr (pv 2)))) (fe_vr (pv 1)))))))
  exact z
theorem ok_shares_of {f : Addr} {fd : FuncData} (T : Txt K mg) (Fd : Fun K "shares_of" "shares_of" s_shares_of f fd) (hm : mg "shares_of" = some (.ref f))  : Cal P w K mg base 1 "shares_of" ["turn"] [] G_shares_of :=
  cal_of Fd hm (fn_shares_of T Fd ) (fun _ _ _ _ _ _ us hl => match us, hl with | [_], _ => rfl) kb_nil
theorem sc_roots_of : FnScope ["turn", "rest", "number"] ["turn", "rest"] (defScope s_roots_of) := ⟨rfl, rfl, rfl, by decide +kernel, rfl, by decide +kernel, by decide +kernel⟩
theorem fn_roots_of {f : Addr} {fd : FuncData} (T : Txt K mg) (Fd : Fun K "roots_of" "roots_of" s_roots_of f fd)  : FnG P w K mg base 1 f fd ["turn", "rest"] (spG K 2 G_roots_of) := by
  have z := fnG (P := P) (w := w) (mg := mg) (base := base) (k := 0) (N := ["turn", "rest", "number"]) (ps := ["turn", "rest"]) (g := g_roots_of) Fd sc_roots_of fun cdv A outer s H E π W hr tk hp => by exact (fss_one (fs_ret (fe_callB q_len o_len rfl T.b_len (by decide +kernel) (fa_cons (fe_frz (fm_lc (own := [("number", 2)]) rfl sc_roots_of.nd (fi_range2 rfl T.b_range (fa_cons fe_int (fa_cons (fe_vr (pv 0)) fa_nil))) (show BlkOk ["turn", "rest", "number"] (defScope s_roots_of) _ _ from blkOk_by (by decide +kernel)) (fun _ _ _ _ _ => (fg_name sc_roots_of.nd (i := 2) rfl (Or.inl rfl))) (fun _ _ _ _ _ => (pts_one (ft_cmp (o_eqA hr.u64) q_eqA (fe_bin op_modN q_mod (fe_bin op_sub q_sub (fe_bin o_mul q_mul (fe_vr (pv 2)) (fe_vr (pv 2))) (fe_vr (pv 1))) (fe_vr (pv 0))) fe_int (by rfl)))) (fun _ _ _ _ _ => (fe_vr (pv 2))) (by decide))) fa_nil))))
  exact z
theorem ok_roots_of {f : Addr} {fd : FuncData} (T : Txt K mg) (Fd : Fun K "roots_of" "roots_of" s_roots_of f fd) (hm : mg "roots_of" = some (.ref f))  : Cal P w K mg base 1 "roots_of" ["turn", "rest"] [] G_roots_of :=
  cal_of Fd hm (fn_roots_of T Fd ) (fun _ _ _ _ _ _ us hl => match us, hl with | [_, _], _ => rfl) kb_nil
theorem sc_count_for : FnScope ["turn"] ["turn"] (defScope s_count_for) := ⟨rfl, rfl, rfl, by decide +kernel, rfl, by decide +kernel, by decide +kernel⟩
theorem fn_count_for {f : Addr} {fd : FuncData} (T : Txt K mg) (Fd : Fun K "count_for" "count_for" s_count_for f fd) (C_shares_of : Cal P w K mg base 1 "shares_of" ["turn"] [] G_shares_of) (C_roots_of : Cal P w K mg base 1 "roots_of" ["turn", "rest"] [] G_roots_of) : FnG P w K mg base 2 f fd ["turn"] (spG K 1 G_count_for) := by
  obtain ⟨f_shares_of, fd_shares_of, F_shares_of, m_shares_of, k_shares_of, b_shares_of, q_shares_of⟩ := C_shares_of.ex
  obtain ⟨f_roots_of, fd_roots_of, F_roots_of, m_roots_of, k_roots_of, b_roots_of, q_roots_of⟩ := C_roots_of.ex
  have z := fnG (P := P) (w := w) (mg := mg) (base := base) (k := 1) (N := ["turn"]) (ps := ["turn"]) (g := g_count_for) Fd sc_count_for fun cdv A outer s H E π W hr tk hp => by exact (fss_one (fs_ret (fe_if (ft_cmp op_lt q_cmp (fe_vr (pv 0)) fe_int (by rfl)) fe_int (fe_bin o_fdiv q_fdiv (fe_bin o_add q_add (fe_bin o_add q_add (fe_call F_shares_of (rm_mono hr (by rfl)) tk rfl m_shares_of k_shares_of b_shares_of (fb_cons (fe_vr (pv 0)) fb_nil)) (fe_call F_roots_of (rm_mono hr (by rfl)) tk rfl m_roots_of k_roots_of b_roots_of (fb_cons (fe_vr (pv 0)) (fb_cons fe_int fb_nil)))) (fe_call F_roots_of (rm_mono hr (by rfl)) tk rfl m_roots_of k_roots_of b_roots_of (fb_cons (fe_vr (pv 0)) (fb_cons (fe_un un_neg q_neg fe_int) fb_nil)))) fe_int))))
  exact z
theorem ok_count_for {f : Addr} {fd : FuncData} (T : Txt K mg) (Fd : Fun K "count_for" "count_for" s_count_for f fd) (hm : mg "count_for" = some (.ref f)) (C_shares_of : Cal P w K mg base 1 "shares_of" ["turn"] [] G_shares_of) (C_roots_of : Cal P w K mg base 1 "roots_of" ["turn", "rest"] [] G_roots_of) : Cal P w K mg base 2 "count_for" ["turn"] [] G_count_for :=
  cal_of Fd hm (fn_count_for T Fd C_shares_of C_roots_of) (fun _ _ _ _ _ _ us hl => match us, hl with | [_], _ => rfl) kb_nil
theorem sc_how_many : FnScope ["turn"] ["turn"] (defScope s_how_many) := ⟨rfl, rfl, rfl, by decide +kernel, rfl, by decide +kernel, by decide +kernel⟩
theorem fn_how_many {f : Addr} {fd : FuncData} (T : Txt K mg) (Fd : Fun K "how_many" "how_many" s_how_many f fd) (C_check_number : Cal P w K mg base 3 "check_number" ["value", "least", "most"] [] G_check_number) (C_count_for : Cal P w K mg base 2 "count_for" ["turn"] [] G_count_for) : FnG P w K mg base 4 f fd ["turn"] (spG K 1 G_how_many) := by
  obtain ⟨f_check_number, fd_check_number, F_check_number, m_check_number, k_check_number, b_check_number, q_check_number⟩ := C_check_number.ex
  obtain ⟨f_count_for, fd_count_for, F_count_for, m_count_for, k_count_for, b_count_for, q_count_for⟩ := C_count_for.ex
  obtain ⟨t_MOST_LOOPS, m_MOST_LOOPS⟩ := T.c_MOST_LOOPS
  have z := fnG (P := P) (w := w) (mg := mg) (base := base) (k := 3) (N := ["turn"]) (ps := ["turn"]) (g := g_how_many) Fd sc_how_many fun cdv A outer s H E π W hr tk hp => by exact (fss_cons (fs_expr (fe_call F_check_number (rm_mono hr (by rfl)) tk rfl m_check_number k_check_number b_check_number (fb_cons (fe_vr (pv 0)) (fb_cons fe_int (fb_cons (fe_gint rfl m_MOST_LOOPS) fb_nil))))) (fss_one (fs_ret (fe_call F_count_for (rm_mono hr (by rfl)) tk rfl m_count_for k_count_for b_count_for (fb_cons (fe_vr (pv 0)) fb_nil)))))
  exact z
theorem ok_how_many {f : Addr} {fd : FuncData} (T : Txt K mg) (Fd : Fun K "how_many" "how_many" s_how_many f fd) (hm : mg "how_many" = some (.ref f)) (C_check_number : Cal P w K mg base 3 "check_number" ["value", "least", "most"] [] G_check_number) (C_count_for : Cal P w K mg base 2 "count_for" ["turn"] [] G_count_for) : Cal P w K mg base 4 "how_many" ["turn"] [(["turn"], 0, [0])] G_how_many :=
  cal_of Fd hm (fn_how_many T Fd C_check_number C_count_for) (fun _ _ _ _ _ _ us hl => match us, hl with | [_], _ => rfl) (kb_cons (fun _ _ _ _ _ _ us ws h1 h2 => match us, ws, h1, h2 with | [], [_], _, _ => rfl) kb_nil)
theorem sc_how_many_with_sides : FnScope ["turn"] ["turn"] (defScope s_how_many_with_sides) := ⟨rfl, rfl, rfl, by decide +kernel, rfl, by decide +kernel, by decide +kernel⟩
theorem fn_how_many_with_sides {f : Addr} {fd : FuncData} (T : Txt K mg) (Fd : Fun K "how_many_with_sides" "how_many_with_sides" s_how_many_with_sides f fd) (C_check_number : Cal P w K mg base 3 "check_number" ["value", "least", "most"] [] G_check_number) (C_shares_of : Cal P w K mg base 1 "shares_of" ["turn"] [] G_shares_of) (C_roots_of : Cal P w K mg base 1 "roots_of" ["turn", "rest"] [] G_roots_of) : FnG P w K mg base 4 f fd ["turn"] (spG K 1 G_how_many_with_sides) := by
  obtain ⟨f_check_number, fd_check_number, F_check_number, m_check_number, k_check_number, b_check_number, q_check_number⟩ := C_check_number.ex
  obtain ⟨f_shares_of, fd_shares_of, F_shares_of, m_shares_of, k_shares_of, b_shares_of, q_shares_of⟩ := C_shares_of.ex
  obtain ⟨f_roots_of, fd_roots_of, F_roots_of, m_roots_of, k_roots_of, b_roots_of, q_roots_of⟩ := C_roots_of.ex
  obtain ⟨t_MOST_LOOPS, m_MOST_LOOPS⟩ := T.c_MOST_LOOPS
  have z := fnG (P := P) (w := w) (mg := mg) (base := base) (k := 3) (N := ["turn"]) (ps := ["turn"]) (g := g_how_many_with_sides) Fd sc_how_many_with_sides fun cdv A outer s H E π W hr tk hp => by exact (fss_cons (fs_expr (fe_call F_check_number (rm_mono hr (by rfl)) tk rfl m_check_number k_check_number b_check_number (fb_cons (fe_vr (pv 0)) (fb_cons fe_int (fb_cons (fe_gint rfl m_MOST_LOOPS) fb_nil))))) (fss_one (fs_ret (fe_if (ft_cmp op_lt q_cmp (fe_vr (pv 0)) fe_int (by rfl)) fe_int (fe_bin o_fdiv q_fdiv (fe_bin o_add q_add (fe_call F_shares_of (rm_mono hr (by rfl)) tk rfl m_shares_of k_shares_of b_shares_of (fb_cons (fe_vr (pv 0)) fb_nil)) (fe_call F_roots_of (rm_mono hr (by rfl)) tk rfl m_roots_of k_roots_of b_roots_of (fb_cons (fe_vr (pv 0)) (fb_cons fe_int fb_nil)))) fe_int)))))
  exact z
theorem ok_how_many_with_sides {f : Addr} {fd : FuncData} (T : Txt K mg) (Fd : Fun K "how_many_with_sides" "how_many_with_sides" s_how_many_with_sides f fd) (hm : mg "how_many_with_sides" = some (.ref f)) (C_check_number : Cal P w K mg base 3 "check_number" ["value", "least", "most"] [] G_check_number) (C_shares_of : Cal P w K mg base 1 "shares_of" ["turn"] [] G_shares_of) (C_roots_of : Cal P w K mg base 1 "roots_of" ["turn", "rest"] [] G_roots_of) : Cal P w K mg base 4 "how_many_with_sides" ["turn"] [(["turn"], 0, [0])] G_how_many_with_sides :=
  cal_of Fd hm (fn_how_many_with_sides T Fd C_check_number C_shares_of C_roots_of) (fun _ _ _ _ _ _ us hl => match us, hl with | [_], _ => rfl) (kb_cons (fun _ _ _ _ _ _ us ws h1 h2 => match us, ws, h1, h2 with | [], [_], _, _ => rfl) kb_nil)
theorem sc_how_many_own_mirrors : FnScope ["turn"] ["turn"] (defScope s_how_many_own_mirrors) := ⟨rfl, rfl, rfl, by decide +kernel, rfl, by decide +kernel, by decide +kernel⟩
theorem fn_how_many_own_mirrors {f : Addr} {fd : FuncData} (T : Txt K mg) (Fd : Fun K "how_many_own_mirrors" "how_many_own_mirrors" s_how_many_own_mirrors f fd) (C_check_number : Cal P w K mg base 3 "check_number" ["value", "least", "most"] [] G_check_number) (C_roots_of : Cal P w K mg base 1 "roots_of" ["turn", "rest"] [] G_roots_of) : FnG P w K mg base 4 f fd ["turn"] (spG K 1 G_how_many_own_mirrors) := by
  obtain ⟨f_check_number, fd_check_number, F_check_number, m_check_number, k_check_number, b_check_number, q_check_number⟩ := C_check_number.ex
  obtain ⟨f_roots_of, fd_roots_of, F_roots_of, m_roots_of, k_roots_of, b_roots_of, q_roots_of⟩ := C_roots_of.ex
  obtain ⟨t_MOST_LOOPS, m_MOST_LOOPS⟩ := T.c_MOST_LOOPS
  have z := fnG (P := P) (w := w) (mg := mg) (base := base) (k := 3) (N := ["turn"]) (ps := ["turn"]) (g := g_how_many_own_mirrors) Fd sc_how_many_own_mirrors fun cdv A outer s H E π W hr tk hp => by exact (fss_cons (fs_expr (fe_call F_check_number (rm_mono hr (by rfl)) tk rfl m_check_number k_check_number b_check_number (fb_cons (fe_vr (pv 0)) (fb_cons fe_int (fb_cons (fe_gint rfl m_MOST_LOOPS) fb_nil))))) (fss_one (fs_ret (fe_if (ft_cmp op_lt q_cmp (fe_vr (pv 0)) fe_int (by rfl)) fe_int (fe_bin o_fdiv q_fdiv (fe_call F_roots_of (rm_mono hr (by rfl)) tk rfl m_roots_of k_roots_of b_roots_of (fb_cons (fe_vr (pv 0)) (fb_cons (fe_un un_neg q_neg fe_int) fb_nil))) fe_int)))))
  exact z
theorem ok_how_many_own_mirrors {f : Addr} {fd : FuncData} (T : Txt K mg) (Fd : Fun K "how_many_own_mirrors" "how_many_own_mirrors" s_how_many_own_mirrors f fd) (hm : mg "how_many_own_mirrors" = some (.ref f)) (C_check_number : Cal P w K mg base 3 "check_number" ["value", "least", "most"] [] G_check_number) (C_roots_of : Cal P w K mg base 1 "roots_of" ["turn", "rest"] [] G_roots_of) : Cal P w K mg base 4 "how_many_own_mirrors" ["turn"] [(["turn"], 0, [0])] G_how_many_own_mirrors :=
  cal_of Fd hm (fn_how_many_own_mirrors T Fd C_check_number C_roots_of) (fun _ _ _ _ _ _ us hl => match us, hl with | [_], _ => rfl) (kb_cons (fun _ _ _ _ _ _ us ws h1 h2 => match us, ws, h1, h2 with | [], [_], _, _ => rfl) kb_nil)
theorem sc_how_many_for_loops : FnScope ["turn"] ["turn"] (defScope s_how_many_for_loops) := ⟨rfl, rfl, rfl, by decide +kernel, rfl, by decide +kernel, by decide +kernel⟩
theorem fn_how_many_for_loops {f : Addr} {fd : FuncData} (T : Txt K mg) (Fd : Fun K "how_many_for_loops" "how_many_for_loops" s_how_many_for_loops f fd) (C_check_number : Cal P w K mg base 3 "check_number" ["value", "least", "most"] [] G_check_number) (C_roots_of : Cal P w K mg base 1 "roots_of" ["turn", "rest"] [] G_roots_of) : FnG P w K mg base 4 f fd ["turn"] (spG K 1 G_how_many_for_loops) := by
  obtain ⟨f_check_number, fd_check_number, F_check_number, m_check_number, k_check_number, b_check_number, q_check_number⟩ := C_check_number.ex
  obtain ⟨f_roots_of, fd_roots_of, F_roots_of, m_roots_of, k_roots_of, b_roots_of, q_roots_of⟩ := C_roots_of.ex
  obtain ⟨t_MOST_LOOPS, m_MOST_LOOPS⟩ := T.c_MOST_LOOPS
  have z := fnG (P := P) (w := w) (mg := mg) (base := base) (k := 3) (N := ["turn"]) (ps := ["turn"]) (g := g_how_many_for_loops) Fd sc_how_many_for_loops fun cdv A outer s H E π W hr tk hp => by exact (fss_cons (fs_expr (fe_call F_check_number (rm_mono hr (by rfl)) tk rfl m_check_number k_check_number b_check_number (fb_cons (fe_vr (pv 0)) (fb_cons fe_int (fb_cons (fe_gint rfl m_MOST_LOOPS) fb_nil))))) (fss_cons (fs_if (ft_cmp op_lt q_cmp (fe_vr (pv 0)) fe_int (by rfl)) (fss_one (fs_ret fe_int)) fss_nil) (fss_one (fs_ret (fe_bin o_fdiv q_fdiv (fe_call F_roots_of (rm_mono hr (by rfl)) tk rfl m_roots_of k_roots_of b_roots_of (fb_cons (fe_vr (pv 0)) (fb_cons fe_int fb_nil))) (fe_if (ft_cmp op_gt q_cmp (fe_call F_roots_of (rm_mono hr (by rfl)) tk rfl m_roots_of k_roots_of b_roots_of (fb_cons (fe_vr (pv 0)) (fb_cons (fe_un un_neg q_neg fe_int) fb_nil))) fe_int (by rfl)) fe_int fe_int))))))
  exact z
theorem ok_how_many_for_loops {f : Addr} {fd : FuncData} (T : Txt K mg) (Fd : Fun K "how_many_for_loops" "how_many_for_loops" s_how_many_for_loops f fd) (hm : mg "how_many_for_loops" = some (.ref f)) (C_check_number : Cal P w K mg base 3 "check_number" ["value", "least", "most"] [] G_check_number) (C_roots_of : Cal P w K mg base 1 "roots_of" ["turn", "rest"] [] G_roots_of) : Cal P w K mg base 4 "how_many_for_loops" ["turn"] [(["turn"], 0, [0])] G_how_many_for_loops :=
  cal_of Fd hm (fn_how_many_for_loops T Fd C_check_number C_roots_of) (fun _ _ _ _ _ _ us hl => match us, hl with | [_], _ => rfl) (kb_cons (fun _ _ _ _ _ _ us ws h1 h2 => match us, ws, h1, h2 with | [], [_], _, _ => rfl) kb_nil)
theorem sc_common : FnScope ["high", "low"] ["high", "low"] (defScope s_common) := ⟨rfl, rfl, rfl, by decide +kernel, rfl, by decide +kernel, by decide +kernel⟩
theorem fn_common {f : Addr} {fd : FuncData} (T : Txt K mg) (Fd : Fun K "common" "common" s_common f fd)  : FnG P w K mg base 1 f fd ["high", "low"] (spG K 2 G_common) := by
  have z := fnG (P := P) (w := w) (mg := mg) (base := base) (k := 0) (N := ["high", "low"]) (ps := ["high", "low"]) (g := g_common) Fd sc_common fun cdv A outer s H E π W hr tk hp => by exact (fss_cons (fs_while (ks := []) hp (ft_cmp op_gt q_cmp (fe_vr (pv 1)) fe_int (by rfl)) (fss_one (fs_par rfl sc_common.nd (i := 0) (j := 1) rfl rfl (by decide) rfl rfl (fa_cons (fe_vr (pv 1)) (fa_cons (fe_bin op_modN q_mod (fe_vr (pv 0)) (fe_vr (pv 1))) fa_nil)) (by rfl)))) (fss_one (fs_ret (fe_vr (pv 0)))))
  exact z
theorem ok_common {f : Addr} {fd : FuncData} (T : Txt K mg) (Fd : Fun K "common" "common" s_common f fd) (hm : mg "common" = some (.ref f))  : Cal P w K mg base 1 "common" ["high", "low"] [] G_common :=
  cal_of Fd hm (fn_common T Fd ) (fun _ _ _ _ _ _ us hl => match us, hl with | [_, _], _ => rfl) kb_nil
theorem sc_primes_to : FnScope ["turn", "number"] ["turn"] (defScope s_primes_to) := ⟨rfl, rfl, rfl, by decide +kernel, rfl, by decide +kernel, by decide +kernel⟩
theorem fn_primes_to {f : Addr} {fd : FuncData} (T : Txt K mg) (Fd : Fun K "primes_to" "primes_to" s_primes_to f fd) (C_common : Cal P w K mg base 1 "common" ["high", "low"] [] G_common) : FnG P w K mg base 2 f fd ["turn"] (spG K 1 G_primes_to) := by
  obtain ⟨f_common, fd_common, F_common, m_common, k_common, b_common, q_common⟩ := C_common.ex
  have z := fnG (P := P) (w := w) (mg := mg) (base := base) (k := 1) (N := ["turn", "number"]) (ps := ["turn"]) (g := g_primes_to) Fd sc_primes_to fun cdv A outer s H E π W hr tk hp => by exact (fss_one (fs_retM (fm_lc (own := [("number", 1)]) rfl sc_primes_to.nd (fi_range2 rfl T.b_range (fa_cons fe_int (fa_cons (fe_vr (pv 0)) fa_nil))) (show BlkOk ["turn", "number"] (defScope s_primes_to) _ _ from blkOk_by (by decide +kernel)) (fun _ _ _ _ _ => (fg_name sc_primes_to.nd (i := 1) rfl (Or.inl rfl))) (fun _ _ _ _ _ => (pts_one (ft_cmp (o_eqA hr.u64) q_eqA (fe_call F_common (rm_mono hr (by rfl)) takes_0 rfl m_common k_common b_common (fb_cons (fe_vr (pv 0)) (fb_cons (fe_vr (pv 1)) fb_nil))) fe_int (by rfl)))) (fun _ _ _ _ _ => (fe_vr (pv 1))) (by decide))))
  exact z
theorem ok_primes_to {f : Addr} {fd : FuncData} (T : Txt K mg) (Fd : Fun K "primes_to" "primes_to" s_primes_to f fd) (hm : mg "primes_to" = some (.ref f)) (C_common : Cal P w K mg base 1 "common" ["high", "low"] [] G_common) : Cal P w K mg base 2 "primes_to" ["turn"] [] G_primes_to :=
  cal_of Fd hm (fn_primes_to T Fd C_common) (fun _ _ _ _ _ _ us hl => match us, hl with | [_], _ => rfl) kb_nil
theorem sc_inverse : FnScope ["number", "whole", "one", "other", "gone", "part", "times"] ["number", "whole"] (defScope s_inverse) := ⟨rfl, rfl, rfl, by decide +kernel, rfl, by decide +kernel, by decide +kernel⟩
theorem fn_inverse {f : Addr} {fd : FuncData} (T : Txt K mg) (Fd : Fun K "inverse" "inverse" s_inverse f fd)  : FnG P w K mg base 1 f fd ["number", "whole"] (spG K 2 G_inverse) := by
  have z := fnG (P := P) (w := w) (mg := mg) (base := base) (k := 0) (N := ["number", "whole", "one", "other", "gone", "part", "times"]) (ps := ["number", "whole"]) (g := g_inverse) Fd sc_inverse fun cdv A outer s H E π W hr tk hp => by exact (fss_cons (fs_asg (fe_tup (fa_cons (fe_tup (fa_cons (fe_vr (pv 1)) (fa_cons (fe_bin op_modN q_mod (fe_vr (pv 0)) (fe_vr (pv 1))) fa_nil))) (fa_cons (fe_tup (fa_cons fe_int (fa_cons fe_int fa_nil))) fa_nil))) (fg_tup rfl (fgs_cons (fg_tup rfl (fgs_cons (fg_name sc_inverse.nd (i := 2) rfl (Or.inl rfl)) (fgs_cons (fg_name sc_inverse.nd (i := 3) rfl (Or.inl rfl)) fgs_nil))) (fgs_cons (fg_tup rfl (fgs_cons (fg_name sc_inverse.nd (i := 4) rfl (Or.inl rfl)) (fgs_cons (fg_name sc_inverse.nd (i := 5) rfl (Or.inl rfl)) fgs_nil))) fgs_nil)))) (fss_cons (fs_while (ks := []) hp (ft_cmp op_gt q_cmp (fe_vr (pv 3)) fe_int (by rfl)) (fss_cons (fs_set sc_inverse.nd (i := 6) rfl (Or.inl rfl) (fe_bin o_fdiv q_fdiv (fe_vr (pv 2)) (fe_vr (pv 3)))) (fss_cons (fs_par rfl sc_inverse.nd (i := 2) (j := 3) rfl rfl (by decide) rfl rfl (fa_cons (fe_vr (pv 3)) (fa_cons (fe_bin op_sub q_sub (fe_vr (pv 2)) (fe_bin o_mul q_mul (fe_vr (pv 6)) (fe_vr (pv 3)))) fa_nil)) (by rfl)) (fss_one (fs_par rfl sc_inverse.nd (i := 4) (j := 5) rfl rfl (by decide) rfl rfl (fa_cons (fe_vr (pv 5)) (fa_cons (fe_bin op_sub q_sub (fe_vr (pv 4)) (fe_bin o_mul q_mul (fe_vr (pv 6)) (fe_vr (pv 5)))) fa_nil)) (by rfl)))))) (fss_one (fs_ret (fe_bin op_modN q_mod (fe_vr (pv 4)) (fe_vr (pv 1)))))))
  exact z
theorem ok_inverse {f : Addr} {fd : FuncData} (T : Txt K mg) (Fd : Fun K "inverse" "inverse" s_inverse f fd) (hm : mg "inverse" = some (.ref f))  : Cal P w K mg base 1 "inverse" ["number", "whole"] [] G_inverse :=
  cal_of Fd hm (fn_inverse T Fd ) (fun _ _ _ _ _ _ us hl => match us, hl with | [_, _], _ => rfl) kb_nil
theorem sc_mirrored : FnScope ["pair"] ["pair"] (defScope s_mirrored) := ⟨rfl, rfl, rfl, by decide +kernel, rfl, by decide +kernel, by decide +kernel⟩
theorem fn_mirrored {f : Addr} {fd : FuncData} (T : Txt K mg) (Fd : Fun K "mirrored" "mirrored" s_mirrored f fd)  : FnG P w K mg base 1 f fd ["pair"] (spG K 1 G_mirrored) := by
  have z := fnG (P := P) (w := w) (mg := mg) (base := base) (k := 0) (N := ["pair"]) (ps := ["pair"]) (g := g_mirrored) Fd sc_mirrored fun cdv A outer s H E π W hr tk hp => by exact (fss_one (fs_ret (fe_if (ft_cmp op_lt q_cmp (fe_ix (fe_vr (pv 0)) fe_int (fun _ _ => rfl)) fe_int (by rfl)) (fe_vr (pv 0)) (fe_tup (fa_cons (fe_ix (fe_vr (pv 0)) fe_int (fun _ _ => rfl)) (fa_cons (fe_bin op_sub q_sub (fe_ix (fe_vr (pv 0)) fe_int (fun _ _ => rfl)) (fe_ix (fe_vr (pv 0)) fe_int (fun _ _ => rfl))) fa_nil))))))
  exact z
theorem ok_mirrored {f : Addr} {fd : FuncData} (T : Txt K mg) (Fd : Fun K "mirrored" "mirrored" s_mirrored f fd) (hm : mg "mirrored" = some (.ref f))  : Cal P w K mg base 1 "mirrored" ["pair"] [] G_mirrored :=
  cal_of Fd hm (fn_mirrored T Fd ) (fun _ _ _ _ _ _ us hl => match us, hl with | [_], _ => rfl) kb_nil
theorem sc_all_for : FnScope ["pair", "back", "one"] ["pair"] (defScope s_all_for) := ⟨rfl, rfl, rfl, by decide +kernel, rfl, by decide +kernel, by decide +kernel⟩
theorem fn_all_for {f : Addr} {fd : FuncData} (T : Txt K mg) (Fd : Fun K "all_for" "all_for" s_all_for f fd) (C_inverse : Cal P w K mg base 1 "inverse" ["number", "whole"] [] G_inverse) (C_mirrored : Cal P w K mg base 1 "mirrored" ["pair"] [] G_mirrored) : FnG P w K mg base 2 f fd ["pair"] (spG K 1 G_all_for) := by
  obtain ⟨f_inverse, fd_inverse, F_inverse, m_inverse, k_inverse, b_inverse, q_inverse⟩ := C_inverse.ex
  obtain ⟨f_mirrored, fd_mirrored, F_mirrored, m_mirrored, k_mirrored, b_mirrored, q_mirrored⟩ := C_mirrored.ex
  have z := fnG (P := P) (w := w) (mg := mg) (base := base) (k := 1) (N := ["pair", "back", "one"]) (ps := ["pair"]) (g := g_all_for) Fd sc_all_for fun cdv A outer s H E π W hr tk hp => by exact (fss_cons (fs_if (ft_cmp op_lt q_cmp (fe_ix (fe_vr (pv 0)) fe_int (fun _ _ => rfl)) fe_int (by rfl)) (fss_one (fs_retM (fm_lst (fa_cons (fe_vr (pv 0)) fa_nil)))) fss_nil) (fss_cons (fs_set sc_all_for.nd (i := 1) rfl (Or.inl rfl) (fe_tup (fa_cons (fe_ix (fe_vr (pv 0)) fe_int (fun _ _ => rfl)) (fa_cons (fe_call F_inverse (rm_mono hr (by rfl)) tk rfl m_inverse k_inverse b_inverse (fb_cons (fe_ix (fe_vr (pv 0)) fe_int (fun _ _ => rfl)) (fb_cons (fe_ix (fe_vr (pv 0)) fe_int (fun _ _ => rfl)) fb_nil))) fa_nil)))) (fss_one (fs_ret (fe_srtDc (own := [("one", 2)]) rfl (by have := hr.u64; omega) sc_all_for.nd rfl T.b_sorted (fi_seq (fe_tup (fa_cons (fe_vr (pv 0)) (fa_cons (fe_vr (pv 1)) (fa_cons (fe_call F_mirrored (rm_mono hr (by rfl)) tk rfl m_mirrored k_mirrored b_mirrored (fb_cons (fe_vr (pv 0)) fb_nil)) (fa_cons (fe_call F_mirrored (rm_mono hr (by rfl)) tk rfl m_mirrored k_mirrored b_mirrored (fb_cons (fe_vr (pv 1)) fb_nil)) fa_nil)))))) (show BlkOk ["pair", "back", "one"] (defScope s_all_for) _ _ from blkOk_by (by decide +kernel)) (fun _ _ _ _ _ => (fg_name sc_all_for.nd (i := 2) rfl (Or.inl rfl))) (fun _ _ _ _ _ => pts_non) (fun _ _ _ _ _ => (fe_vr (pv 2))) (fun _ _ _ _ _ => fe_bl) (by decide))))))
  exact z
theorem ok_all_for {f : Addr} {fd : FuncData} (T : Txt K mg) (Fd : Fun K "all_for" "all_for" s_all_for f fd) (hm : mg "all_for" = some (.ref f)) (C_inverse : Cal P w K mg base 1 "inverse" ["number", "whole"] [] G_inverse) (C_mirrored : Cal P w K mg base 1 "mirrored" ["pair"] [] G_mirrored) : Cal P w K mg base 2 "all_for" ["pair"] [] G_all_for :=
  cal_of Fd hm (fn_all_for T Fd C_inverse C_mirrored) (fun _ _ _ _ _ _ us hl => match us, hl with | [_], _ => rfl) kb_nil
theorem sc_solids : FnScope ["turn", "number"] ["turn"] (defScope s_solids) := ⟨rfl, rfl, rfl, by decide +kernel, rfl, by decide +kernel, by decide +kernel⟩
theorem fn_solids {f : Addr} {fd : FuncData} (T : Txt K mg) (Fd : Fun K "solids" "solids" s_solids f fd) (C_check_number : Cal P w K mg base 3 "check_number" ["value", "least", "most"] [] G_check_number) (C_primes_to : Cal P w K mg base 2 "primes_to" ["turn"] [] G_primes_to) (C_all_for : Cal P w K mg base 2 "all_for" ["pair"] [] G_all_for) : FnG P w K mg base 4 f fd ["turn"] (spG K 1 G_solids) := by
  obtain ⟨f_check_number, fd_check_number, F_check_number, m_check_number, k_check_number, b_check_number, q_check_number⟩ := C_check_number.ex
  obtain ⟨f_primes_to, fd_primes_to, F_primes_to, m_primes_to, k_primes_to, b_primes_to, q_primes_to⟩ := C_primes_to.ex
  obtain ⟨f_all_for, fd_all_for, F_all_for, m_all_for, k_all_for, b_all_for, q_all_for⟩ := C_all_for.ex
  obtain ⟨t_MOST_LISTED, m_MOST_LISTED⟩ := T.c_MOST_LISTED
  have z := fnG (P := P) (w := w) (mg := mg) (base := base) (k := 3) (N := ["turn", "number"]) (ps := ["turn"]) (g := g_solids) Fd sc_solids fun cdv A outer s H E π W hr tk hp => by exact (fss_cons (fs_expr (fe_call F_check_number (rm_mono hr (by rfl)) tk rfl m_check_number k_check_number b_check_number (fb_cons (fe_vr (pv 0)) (fb_cons fe_int (fb_cons (fe_gint rfl m_MOST_LISTED) fb_nil))))) (fss_cons (fs_if (ft_cmp (o_eqA hr.u64) q_eqA (fe_vr (pv 0)) fe_int (by rfl)) (fss_one (fs_ret (fe_tup (fa_cons (fe_tup (fa_cons fe_int (fa_cons fe_int fa_nil))) fa_nil)))) fss_nil) (fss_one (fs_ret (fe_callTy q_tup call_tupN rfl T.b_tuple (by decide +kernel) (fa_cons (fe_frz (fm_lc (own := [("number", 1)]) rfl sc_solids.nd (fi_seq (fe_call F_primes_to (rm_mono hr (by rfl)) tk rfl m_primes_to k_primes_to b_primes_to (fb_cons (fe_vr (pv 0)) fb_nil))) (show BlkOk ["turn", "number"] (defScope s_solids) _ _ from blkOk_by (by decide +kernel)) (fun _ _ _ _ _ => (fg_name sc_solids.nd (i := 1) rfl (Or.inl rfl))) (fun _ _ _ _ _ => (pts_one (ft_cmp (o_eqA hr.u64) q_eqA (fe_ix (fe_call F_all_for (rm_mono hr (by rfl)) takes_0 rfl m_all_for k_all_for b_all_for (fb_cons (fe_tup (fa_cons (fe_vr (pv 0)) (fa_cons (fe_vr (pv 1)) fa_nil))) fb_nil)) fe_int (fun _ _ => rfl)) (fe_tup (fa_cons (fe_vr (pv 0)) (fa_cons (fe_vr (pv 1)) fa_nil))) (by rfl)))) (fun _ _ _ _ _ => (fe_tup (fa_cons (fe_vr (pv 0)) (fa_cons (fe_vr (pv 1)) fa_nil)))) (by decide))) fa_nil))))))
  exact z
theorem ok_solids {f : Addr} {fd : FuncData} (T : Txt K mg) (Fd : Fun K "solids" "solids" s_solids f fd) (hm : mg "solids" = some (.ref f)) (C_check_number : Cal P w K mg base 3 "check_number" ["value", "least", "most"] [] G_check_number) (C_primes_to : Cal P w K mg base 2 "primes_to" ["turn"] [] G_primes_to) (C_all_for : Cal P w K mg base 2 "all_for" ["pair"] [] G_all_for) : Cal P w K mg base 4 "solids" ["turn"] [(["turn"], 0, [0])] G_solids :=
  cal_of Fd hm (fn_solids T Fd C_check_number C_primes_to C_all_for) (fun _ _ _ _ _ _ us hl => match us, hl with | [_], _ => rfl) (kb_cons (fun _ _ _ _ _ _ us ws h1 h2 => match us, ws, h1, h2 with | [], [_], _, _ => rfl) kb_nil)
theorem sc_first_with : FnScope ["number", "turn"] ["number"] (defScope s_first_with) := ⟨rfl, rfl, rfl, by decide +kernel, rfl, by decide +kernel, by decide +kernel⟩
theorem fn_first_with {f : Addr} {fd : FuncData} (T : Txt K mg) (Fd : Fun K "first_with" "first_with" s_first_with f fd) (C_check_number : Cal P w K mg base 3 "check_number" ["value", "least", "most"] [] G_check_number) (C_count_for : Cal P w K mg base 2 "count_for" ["turn"] [] G_count_for) : FnG P w K mg base 4 f fd ["number"] (spG K 1 G_first_with) := by
  obtain ⟨f_check_number, fd_check_number, F_check_number, m_check_number, k_check_number, b_check_number, q_check_number⟩ := C_check_number.ex
  obtain ⟨f_count_for, fd_count_for, F_count_for, m_count_for, k_count_for, b_count_for, q_count_for⟩ := C_count_for.ex
  obtain ⟨t_MOST_LISTED, m_MOST_LISTED⟩ := T.c_MOST_LISTED
  have z := fnG (P := P) (w := w) (mg := mg) (base := base) (k := 3) (N := ["number", "turn"]) (ps := ["number"]) (g := g_first_with) Fd sc_first_with fun cdv A outer s H E π W hr tk hp => by exact (fss_cons (fs_expr (fe_call F_check_number (rm_mono hr (by rfl)) tk rfl m_check_number k_check_number b_check_number (fb_cons (fe_vr (pv 0)) (fb_cons fe_int (fb_cons (fe_gint rfl m_MOST_LISTED) fb_nil))))) (fss_cons (fs_set sc_first_with.nd (i := 1) rfl (Or.inl rfl) fe_int) (fss_cons (fs_while (ks := []) hp (ft_cmp op_lt q_cmp (fe_call F_count_for (rm_mono hr (by rfl)) tk rfl m_count_for k_count_for b_count_for (fb_cons (fe_vr (pv 1)) fb_nil)) (fe_vr (pv 0)) (by rfl)) (fss_one (fs_set sc_first_with.nd (i := 1) rfl (Or.inl rfl) (fe_bin o_add q_add (fe_vr (pv 1)) fe_int)))) (fss_one (fs_ret (fe_vr (pv 1)))))))
  exact z
theorem ok_first_with {f : Addr} {fd : FuncData} (T : Txt K mg) (Fd : Fun K "first_with" "first_with" s_first_with f fd) (hm : mg "first_with" = some (.ref f)) (C_check_number : Cal P w K mg base 3 "check_number" ["value", "least", "most"] [] G_check_number) (C_count_for : Cal P w K mg base 2 "count_for" ["turn"] [] G_count_for) : Cal P w K mg base 4 "first_with" ["number"] [(["number"], 0, [0])] G_first_with :=
  cal_of Fd hm (fn_first_with T Fd C_check_number C_count_for) (fun _ _ _ _ _ _ us hl => match us, hl with | [_], _ => rfl) (kb_cons (fun _ _ _ _ _ _ us ws h1 h2 => match us, ws, h1, h2 with | [], [_], _, _ => rfl) kb_nil)
theorem sc__law_sip : FnScope ["_law_tray", "_law_top", "_law_digit"] ["_law_tray", "_law_top"] (defScope s__law_sip) := ⟨rfl, rfl, rfl, by decide +kernel, rfl, by decide +kernel, by decide +kernel⟩
theorem fn__law_sip {f : Addr} {fd : FuncData} (T : Txt K mg) (Fd : Fun K "_law_sip" "_law_sip" s__law_sip f fd)  : FnG P w K mg base 1 f fd ["_law_tray", "_law_top"] (spG K 2 G__law_sip) := by
  have z := fnG (P := P) (w := w) (mg := mg) (base := base) (k := 0) (N := ["_law_tray", "_law_top", "_law_digit"]) (ps := ["_law_tray", "_law_top"]) (g := g__law_sip) Fd sc__law_sip fun cdv A outer s H E π W hr tk hp => by exact (fss_cons (fs_sub (pv 0) (fe_bin o_add q_add (fe_ixM (pv 0) fe_int (fun _ _ => rfl)) fe_int) fe_int) (fss_cons (fs_if (ft_cmp op_gt q_cmp (fe_ixM (pv 0) fe_int (fun _ _ => rfl)) fe_int (by rfl)) (fss_cons (fs_set sc__law_sip.nd (i := 2) rfl (Or.inl rfl) (fe_bin op_modN q_mod (fe_callTy q_int call_int1 rfl T.b_int (by decide +kernel) (fa_cons (fe_ixM (pv 0) fe_int (fun _ _ => rfl)) fa_nil)) (fe_vr (pv 1)))) (fss_cons (fs_sub (pv 0) (fe_bin o_fdiv q_fdiv (fe_callTy q_int call_int1 rfl T.b_int (by decide +kernel) (fa_cons (fe_ixM (pv 0) fe_int (fun _ _ => rfl)) fa_nil)) (fe_vr (pv 1))) fe_int) (fss_one (fs_ret (fe_vr (pv 2)))))) fss_nil) (fss_cons (fs_sub (pv 0) (fe_bin op_modN q_mod (fe_callTy q_int call_int1 rfl T.b_int (by decide +kernel) (fa_cons (fe_bin o_add q_add (fe_bin o_add q_add (fe_bin o_mul q_mul (fe_ixM (pv 0) fe_int (fun _ _ => rfl)) fe_int) (fe_bin o_mul q_mul fe_int (fe_ixM (pv 0) fe_int (fun _ _ => rfl)))) fe_int) fa_nil)) fe_int) fe_int) (fss_one (fs_ret (fe_bin op_modN q_mod (fe_callTy q_int call_int1 rfl T.b_int (by decide +kernel) (fa_cons (fe_bin o_fdiv q_fdiv (fe_ixM (pv 0) fe_int (fun _ _ => rfl)) fe_int) fa_nil)) (fe_vr (pv 1))))))))
  exact z
theorem ok__law_sip {f : Addr} {fd : FuncData} (T : Txt K mg) (Fd : Fun K "_law_sip" "_law_sip" s__law_sip f fd) (hm : mg "_law_sip" = some (.ref f))  : Cal P w K mg base 1 "_law_sip" ["_law_tray", "_law_top"] [] G__law_sip :=
  cal_of Fd hm (fn__law_sip T Fd ) (fun _ _ _ _ _ _ us hl => match us, hl with | [_, _], _ => rfl) kb_nil
theorem sc__law_pick : FnScope ["_law_tray", "_law_menu"] ["_law_tray", "_law_menu"] (defScope s__law_pick) := ⟨rfl, rfl, rfl, by decide +kernel, rfl, by decide +kernel, by decide +kernel⟩
theorem fn__law_pick {f : Addr} {fd : FuncData} (T : Txt K mg) (Fd : Fun K "_law_pick" "_law_pick" s__law_pick f fd) (C__law_sip : Cal P w K mg base 1 "_law_sip" ["_law_tray", "_law_top"] [] G__law_sip) : FnG P w K mg base 2 f fd ["_law_tray", "_law_menu"] (spG K 2 G__law_pick) := by
  obtain ⟨f__law_sip, fd__law_sip, F__law_sip, m__law_sip, k__law_sip, b__law_sip, q__law_sip⟩ := C__law_sip.ex
  have z := fnG (P := P) (w := w) (mg := mg) (base := base) (k := 1) (N := ["_law_tray", "_law_menu"]) (ps := ["_law_tray", "_law_menu"]) (g := g__law_pick) Fd sc__law_pick fun cdv A outer s H E π W hr tk hp => by exact (fss_one (fs_ret (fe_ix (fe_vr (pv 1)) (fe_call F__law_sip (rm_mono hr (by rfl)) tk rfl m__law_sip k__law_sip b__law_sip (fb_sl (pv 0) (fb_cons (fe_callB q_len o_len rfl T.b_len (by decide +kernel) (fa_cons (fe_vr (pv 1)) fa_nil)) fb_nil))) (fun _ _ => rfl))))
  exact z
theorem ok__law_pick {f : Addr} {fd : FuncData} (T : Txt K mg) (Fd : Fun K "_law_pick" "_law_pick" s__law_pick f fd) (hm : mg "_law_pick" = some (.ref f)) (C__law_sip : Cal P w K mg base 1 "_law_sip" ["_law_tray", "_law_top"] [] G__law_sip) : Cal P w K mg base 2 "_law_pick" ["_law_tray", "_law_menu"] [] G__law_pick :=
  cal_of Fd hm (fn__law_pick T Fd C__law_sip) (fun _ _ _ _ _ _ us hl => match us, hl with | [_, _], _ => rfl) kb_nil
theorem sc__law_gcd : FnScope ["_law_one", "_law_two"] ["_law_one", "_law_two"] (defScope s__law_gcd) := ⟨rfl, rfl, rfl, by decide +kernel, rfl, by decide +kernel, by decide +kernel⟩
theorem fn__law_gcd {f : Addr} {fd : FuncData} (T : Txt K mg) (Fd : Fun K "_law_gcd" "_law_gcd" s__law_gcd f fd)  : FnG P w K mg base 1 f fd ["_law_one", "_law_two"] (spG K 2 G__law_gcd) := by
  have z := fnG (P := P) (w := w) (mg := mg) (base := base) (k := 0) (N := ["_law_one", "_law_two"]) (ps := ["_law_one", "_law_two"]) (g := g__law_gcd) Fd sc__law_gcd fun cdv A outer s H E π W hr tk hp => by exact (fss_cons (fs_par rfl sc__law_gcd.nd (i := 0) (j := 1) rfl rfl (by decide) rfl rfl (fa_cons (fe_callB q_abs call_abs rfl T.b_abs (by decide +kernel) (fa_cons (fe_vr (pv 0)) fa_nil)) (fa_cons (fe_callB q_abs call_abs rfl T.b_abs (by decide +kernel) (fa_cons (fe_vr (pv 1)) fa_nil)) fa_nil)) (by rfl)) (fss_cons (fs_while (ks := []) hp (ft_cmp op_gt q_cmp (fe_vr (pv 1)) fe_int (by rfl)) (fss_one (fs_par rfl sc__law_gcd.nd (i := 0) (j := 1) rfl rfl (by decide) rfl rfl (fa_cons (fe_vr (pv 1)) (fa_cons (fe_bin op_modN q_mod (fe_callTy q_int call_int1 rfl T.b_int (by decide +kernel) (fa_cons (fe_vr (pv 0)) fa_nil)) (fe_vr (pv 1))) fa_nil)) (by rfl)))) (fss_one (fs_ret (fe_vr (pv 0))))))
  exact z
theorem ok__law_gcd {f : Addr} {fd : FuncData} (T : Txt K mg) (Fd : Fun K "_law_gcd" "_law_gcd" s__law_gcd f fd) (hm : mg "_law_gcd" = some (.ref f))  : Cal P w K mg base 1 "_law_gcd" ["_law_one", "_law_two"] [] G__law_gcd :=
  cal_of Fd hm (fn__law_gcd T Fd ) (fun _ _ _ _ _ _ us hl => match us, hl with | [_, _], _ => rfl) kb_nil
theorem sc__law_inverse : FnScope ["_law_p", "_law_q", "_law_x"] ["_law_p", "_law_q"] (defScope s__law_inverse) := ⟨rfl, rfl, rfl, by decide +kernel, rfl, by decide +kernel, by decide +kernel⟩
theorem fn__law_inverse {f : Addr} {fd : FuncData} (T : Txt K mg) (Fd : Fun K "_law_inverse" "_law_inverse" s__law_inverse f fd)  : FnG P w K mg base 1 f fd ["_law_p", "_law_q"] (spG K 2 G__law_inverse) := by
  have z := fnG (P := P) (w := w) (mg := mg) (base := base) (k := 0) (N := ["_law_p", "_law_q", "_law_x"]) (ps := ["_law_p", "_law_q"]) (g := g__law_inverse) Fd sc__law_inverse fun cdv A outer s H E π W hr tk hp => by exact (fss_one (fs_ret (fe_ix (fe_frz (fm_lc (own := [("_law_x", 2)]) rfl sc__law_inverse.nd (fi_range2 rfl T.b_range (fa_cons fe_int (fa_cons (fe_vr (pv 0)) fa_nil))) (show BlkOk ["_law_p", "_law_q", "_law_x"] (defScope s__law_inverse) _ _ from blkOk_by (by decide +kernel)) (fun _ _ _ _ _ => (fg_name sc__law_inverse.nd (i := 2) rfl (Or.inl rfl))) (fun _ _ _ _ _ => (pts_one (ft_cmp (o_eqA hr.u64) q_eqA (fe_bin op_modN q_mod (fe_callTy q_int call_int1 rfl T.b_int (by decide +kernel) (fa_cons (fe_bin o_mul q_mul (fe_vr (pv 2)) (fe_vr (pv 1))) fa_nil)) (fe_vr (pv 0))) fe_int (by rfl)))) (fun _ _ _ _ _ => (fe_vr (pv 2))) (by decide))) fe_int (fun _ _ => rfl))))
  exact z
theorem ok__law_inverse {f : Addr} {fd : FuncData} (T : Txt K mg) (Fd : Fun K "_law_inverse" "_law_inverse" s__law_inverse f fd) (hm : mg "_law_inverse" = some (.ref f))  : Cal P w K mg base 1 "_law_inverse" ["_law_p", "_law_q"] [] G__law_inverse :=
  cal_of Fd hm (fn__law_inverse T Fd ) (fun _ _ _ _ _ _ us hl => match us, hl with | [_, _], _ => rfl) kb_nil
theorem sc__law_told : FnScope ["_law_p", "_law_q", "_law_units", "_law_backs", "_law_squares", "_law_alike_here", "_law_sides_here", "_law_loops_here", "_law_own", "_law_lot", "_law_kin", "_law_s", "_law_x"] ["_law_p"] (defScope s__law_told) := ⟨rfl, rfl, rfl, by decide +kernel, rfl, by decide +kernel, by decide +kernel⟩
theorem fn__law_told {f : Addr} {fd : FuncData} (T : Txt K mg) (Fd : Fun K "_law_told" "_law_told" s__law_told f fd) (C__law_gcd : Cal P w K mg base 1 "_law_gcd" ["_law_one", "_law_two"] [] G__law_gcd) (C__law_inverse : Cal P w K mg base 1 "_law_inverse" ["_law_p", "_law_q"] [] G__law_inverse) : FnG P w K mg base 2 f fd ["_law_p"] (spG K 1 G__law_told) := by
  obtain ⟨f__law_gcd, fd__law_gcd, F__law_gcd, m__law_gcd, k__law_gcd, b__law_gcd, q__law_gcd⟩ := C__law_gcd.ex
  obtain ⟨f__law_inverse, fd__law_inverse, F__law_inverse, m__law_inverse, k__law_inverse, b__law_inverse, q__law_inverse⟩ := C__law_inverse.ex
  have z := fnG (P := P) (w := w) (mg := mg) (base := base) (k := 1) (N := ["_law_p", "_law_q", "_law_units", "_law_backs", "_law_squares", "_law_alike_here", "_law_sides_here", "_law_loops_here", "_law_own", "_law_lot", "_law_kin", "_law_s", "_law_x"]) (ps := ["_law_p"]) (g := g__law_told) Fd sc__law_told fun cdv A outer s H E π W hr tk hp => by exact (fss_cons (fs_setLc (own := [("_law_q", 1)]) (i := 2) rfl sc__law_told.nd rfl rfl (by rfl) (fi_range2 rfl T.b_range (fa_cons fe_int (fa_cons (fe_vr (pv 0)) fa_nil))) (show BlkOk ["_law_p", "_law_q", "_law_units", "_law_backs", "_law_squares", "_law_alike_here", "_law_sides_here", "_law_loops_here", "_law_own", "_law_lot", "_law_kin", "_law_s", "_law_x"] (defScope s__law_told) _ _ from blkOk_by (by decide +kernel)) (fun _ _ _ _ _ => (fg_name sc__law_told.nd (i := 1) rfl (Or.inl rfl))) (fun _ _ _ _ _ => (pts_one (ft_cmp (o_eqA hr.u64) q_eqA (fe_call F__law_gcd (rm_mono hr (by rfl)) takes_0 rfl m__law_gcd k__law_gcd b__law_gcd (fb_cons (fe_vr (pv 0)) (fb_cons (fe_vr (pv 1)) fb_nil))) fe_int (by rfl)))) (fun _ _ _ _ _ => (fe_vr (pv 1))) (by decide)) (fss_cons (fs_set sc__law_told.nd (i := 3) rfl (Or.inl rfl) (fe_frzZ (fm_dic rfl rfl T.b_dict (by decide +kernel) (fa_cons (fe_frz (fm_lc (own := [("_law_q", 1)]) rfl sc__law_told.nd (fi_seq (fe_vr (pv 2))) (show BlkOk ["_law_p", "_law_q", "_law_units", "_law_backs", "_law_squares", "_law_alike_here", "_law_sides_here", "_law_loops_here", "_law_own", "_law_lot", "_law_kin", "_law_s", "_law_x"] (defScope s__law_told) _ _ from blkOk_by (by decide +kernel)) (fun _ _ _ _ _ => (fg_name sc__law_told.nd (i := 1) rfl (Or.inl rfl))) (fun _ _ _ _ _ => pts_non) (fun _ _ _ _ _ => (fe_tup (fa_cons (fe_vr (pv 1)) (fa_cons (fe_call F__law_inverse (rm_mono hr (by rfl)) takes_0 rfl m__law_inverse k__law_inverse b__law_inverse (fb_cons (fe_vr (pv 0)) (fb_cons (fe_vr (pv 1)) fb_nil))) fa_nil)))) (by decide))) fa_nil)))) (fss_cons (fs_set sc__law_told.nd (i := 4) rfl (Or.inl rfl) (fe_frzZ (fm_dic rfl rfl T.b_dict (by decide +kernel) (fa_cons (fe_frz (fm_lc (own := [("_law_q", 1)]) rfl sc__law_told.nd (fi_seq (fe_vr (pv 2))) (show BlkOk ["_law_p", "_law_q", "_law_units", "_law_backs", "_law_squares", "_law_alike_here", "_law_sides_here", "_law_loops_here", "_law_own", "_law_lot", "_law_kin", "_law_s", "_law_x"] (defScope s__law_told) _ _ from blkOk_by (by decide +kernel)) (fun _ _ _ _ _ => (fg_name sc__law_told.nd (i := 1) rfl (Or.inl rfl))) (fun _ _ _ _ _ => pts_non) (fun _ _ _ _ _ => (fe_tup (fa_cons (fe_bin op_modN q_mod (fe_callTy q_int call_int1 rfl T.b_int (by decide +kernel) (fa_cons (fe_bin o_mul q_mul (fe_vr (pv 1)) (fe_vr (pv 1))) fa_nil)) (fe_vr (pv 0))) (fa_cons fe_bl fa_nil)))) (by decide))) fa_nil)))) (fss_cons (fs_parN (is := [5, 6, 7, 8]) rfl (gn_cons sc__law_told.nd (i := 5) rfl (Or.inl rfl) (gn_cons sc__law_told.nd (i := 6) rfl (Or.inl rfl) (gn_cons sc__law_told.nd (i := 7) rfl (Or.inl rfl) (gn_cons sc__law_told.nd (i := 8) rfl (Or.inl rfl) gn_nil)))) (fn_new (fm_lst fa_nil) (fn_new (fm_lst fa_nil) (fn_new (fm_lst fa_nil) (fn_new (fm_lst fa_nil) fn_nil)))) (by decide)) (fss_cons (fs_for (ks := []) hp rfl (fi_seq (fe_vr (pv 2))) (fg_name sc__law_told.nd (i := 1) rfl (Or.inr rfl)) (fss_cons (fs_set sc__law_told.nd (i := 9) rfl (Or.inl rfl) (fe_frz (fm_lst (fa_cons (fe_vr (pv 1)) (fa_cons (fe_dget hr (fe_vr (pv 3)) (fe_vr (pv 1)) (fun _ _ => rfl)) (fa_cons (fe_bin op_sub q_sub (fe_vr (pv 0)) (fe_vr (pv 1))) (fa_cons (fe_bin op_sub q_sub (fe_vr (pv 0)) (fe_dget hr (fe_vr (pv 3)) (fe_vr (pv 1)) (fun _ _ => rfl))) fa_nil))))))) (fss_cons (fs_if (ft_cmp (o_eqA hr.u64) q_eqA (fe_vr (pv 1)) (fe_callB q_minL (cr_min rfl) rfl T.b_min (by decide +kernel) (fa_cons (fe_vr (pv 9)) fa_nil)) (by rfl)) (fss_one (fs_append (pv 5) (fe_vr (pv 1)))) fss_nil) (fss_cons (fs_if (ft_cmp (o_eqA hr.u64) q_eqA (fe_vr (pv 1)) (fe_callB q_minL (cr_min rfl) rfl T.b_min (by decide +kernel) (fa_cons (fe_sl (fe_vr (pv 9)) fo_none (fo_some fe_int)) fa_nil)) (by rfl)) (fss_cons (fs_append (pv 6) (fe_vr (pv 1))) (fss_one (fs_if (ft_cmp (o_inA hr.u65) q_inA (fe_bin op_sub q_sub (fe_vr (pv 0)) (fe_vr (pv 1))) (fe_sl (fe_vr (pv 9)) fo_none (fo_some fe_int)) (by rfl)) (fss_one (fs_append (pv 8) (fe_vr (pv 1)))) fss_nil))) fss_nil) (fss_cons (fs_setLc (own := [("_law_s", 11)]) (i := 10) rfl sc__law_told.nd rfl rfl (by rfl) (fi_keys (fe_vr (pv 4))) (show BlkOk ["_law_p", "_law_q", "_law_units", "_law_backs", "_law_squares", "_law_alike_here", "_law_sides_here", "_law_loops_here", "_law_own", "_law_lot", "_law_kin", "_law_s", "_law_x"] (defScope s__law_told) _ _ from blkOk_by (by decide +kernel)) (fun _ _ _ _ _ => (fg_name sc__law_told.nd (i := 11) rfl (Or.inl rfl))) (fun _ _ _ _ _ => pts_non) (fun _ _ _ _ _ => (fe_bin op_modN q_mod (fe_callTy q_int call_int1 rfl T.b_int (by decide +kernel) (fa_cons (fe_bin o_mul q_mul (fe_vr (pv 1)) (fe_vr (pv 11))) fa_nil)) (fe_vr (pv 0)))) (by decide)) (fss_one (fs_if (ft_cmp (o_eqA hr.u64) q_eqA (fe_vr (pv 1)) (fe_callB q_minL (cr_min rfl) rfl T.b_min (by decide +kernel) (fa_cons (fe_bin o_add q_add (fe_vr (pv 10)) (fe_frz (fm_lc (own := [("_law_x", 12)]) rfl sc__law_told.nd (fi_seq (fe_vr (pv 10))) (show BlkOk ["_law_p", "_law_q", "_law_units", "_law_backs", "_law_squares", "_law_alike_here", "_law_sides_here", "_law_loops_here", "_law_own", "_law_lot", "_law_kin", "_law_s", "_law_x"] (defScope s__law_told) _ _ from blkOk_by (by decide +kernel)) (fun _ _ _ _ _ => (fg_name sc__law_told.nd (i := 12) rfl (Or.inl rfl))) (fun _ _ _ _ _ => pts_non) (fun _ _ _ _ _ => (fe_bin op_sub q_sub (fe_vr (pv 0)) (fe_vr (pv 12)))) (by decide)))) fa_nil)) (by rfl)) (fss_one (fs_append (pv 7) (fe_vr (pv 1)))) fss_nil))))))) (fss_frz (i := 5) (fss_frz (i := 7) (fss_frz (i := 8) (fss_frz (i := 6) (fss_one (fs_retM (fm_lst (fa_cons (fe_vr (pv 5)) (fa_cons (fe_vr (pv 6)) (fa_cons (fe_vr (pv 7)) (fa_cons (fe_vr (pv 8)) fa_nil))))))))))))))))
  exact z
theorem ok__law_told {f : Addr} {fd : FuncData} (T : Txt K mg) (Fd : Fun K "_law_told" "_law_told" s__law_told f fd) (hm : mg "_law_told" = some (.ref f)) (C__law_gcd : Cal P w K mg base 1 "_law_gcd" ["_law_one", "_law_two"] [] G__law_gcd) (C__law_inverse : Cal P w K mg base 1 "_law_inverse" ["_law_p", "_law_q"] [] G__law_inverse) : Cal P w K mg base 2 "_law_told" ["_law_p"] [] G__law_told :=
  cal_of Fd hm (fn__law_told T Fd C__law_gcd C__law_inverse) (fun _ _ _ _ _ _ us hl => match us, hl with | [_], _ => rfl) kb_nil
theorem sc__law_sort : FnScope ["_law_e", "_law_sorts", "_law_found", "_law_word", "_law_fits_here"] ["_law_e"] (defScope s__law_sort) := ⟨rfl, rfl, rfl, by decide +kernel, rfl, by decide +kernel, by decide +kernel⟩
theorem fn__law_sort {f : Addr} {fd : FuncData} (T : Txt K mg) (Fd : Fun K "_law_sort" "_law_sort" s__law_sort f fd)  : FnH P w K mg base ctab 1 f fd ["_law_e"] (fun x => spG K 1 (G__law_sort x)) := by
  have z := fnH (P := P) (w := w) (mg := mg) (base := base) (ct := ctab) (k := 0) (N := ["_law_e", "_law_sorts", "_law_found", "_law_word", "_law_fits_here"]) (ps := ["_law_e"]) (g := g__law_sort) Fd sc__law_sort fun x0 cdv A outer s H E π oe hk hr hx => by exact (fss_cons (fs_set sc__law_sort.nd (i := 1) rfl (Or.inl rfl) (fe_frz (fm_lst (fa_cons (fe_frz (fm_lst (fa_cons fe_str (fa_cons (fe_isx hx T.t_ct hk (by decide +kernel) (by rfl) rfl rfl T.b_isinstance rfl T.k_InvalidText (fe_vr (pv 0))) fa_nil)))) (fa_cons (fe_frz (fm_lst (fa_cons fe_str (fa_cons (fe_isx hx T.t_ct hk (by decide +kernel) (by rfl) rfl rfl T.b_isinstance rfl T.k_InvalidNumber (fe_vr (pv 0))) fa_nil)))) fa_nil))))) (fss_cons (fs_set sc__law_sort.nd (i := 1) rfl (Or.inl rfl) (fe_bin o_add q_add (fe_vr (pv 1)) (fe_frz (fm_lst (fa_cons (fe_frz (fm_lst (fa_cons fe_str (fa_cons (fe_isx hx T.t_ct hk (by decide +kernel) (by rfl) rfl rfl T.b_isinstance rfl T.k_InvalidIndex (fe_vr (pv 0))) fa_nil)))) (fa_cons (fe_frz (fm_lst (fa_cons fe_str (fa_cons (fe_isx hx T.t_ct hk (by decide +kernel) (by rfl) rfl rfl T.b_isinstance rfl T.k_InvalidPair (fe_vr (pv 0))) fa_nil)))) fa_nil)))))) (fss_cons (fs_set sc__law_sort.nd (i := 1) rfl (Or.inl rfl) (fe_bin o_add q_add (fe_vr (pv 1)) (fe_frz (fm_lst (fa_cons (fe_frz (fm_lst (fa_cons fe_str (fa_cons (fe_isx hx T.t_ct hk (by decide +kernel) (by rfl) rfl rfl T.b_isinstance rfl T.k_InvalidString (fe_vr (pv 0))) fa_nil)))) (fa_cons (fe_frz (fm_lst (fa_cons fe_str (fa_cons (fe_isx hx T.t_ct hk (by decide +kernel) (by rfl) rfl rfl T.b_isinstance rfl T.k_NotLed (fe_vr (pv 0))) fa_nil)))) fa_nil)))))) (fss_cons (fs_set sc__law_sort.nd (i := 1) rfl (Or.inl rfl) (fe_bin o_add q_add (fe_vr (pv 1)) (fe_frz (fm_lst (fa_cons (fe_frz (fm_lst (fa_cons fe_str (fa_cons (fe_isx hx T.t_ct hk (by decide +kernel) (by rfl) rfl rfl T.b_isinstance rfl T.k_NoMove (fe_vr (pv 0))) fa_nil)))) (fa_cons (fe_frz (fm_lst (fa_cons fe_str (fa_cons (fe_isx hx T.t_ct hk (by decide +kernel) (by rfl) rfl rfl T.b_isinstance rfl T.k_TooGreat (fe_vr (pv 0))) fa_nil)))) (fa_cons (fe_frz (fm_lst (fa_cons fe_str (fa_cons (fe_isx hx T.t_ct hk (by decide +kernel) (by rfl) rfl rfl T.b_isinstance rfl T.k_Broken (fe_vr (pv 0))) fa_nil)))) fa_nil))))))) (fss_cons (fs_setLcH (own := [("_law_word", 3), ("_law_fits_here", 4)]) hx sc__law_sort.nd (i := 2) rfl rfl (by rfl) (fi_listH (fe_vr (pv 1))) (show BlkOk ["_law_e", "_law_sorts", "_law_found", "_law_word", "_law_fits_here"] (defScope s__law_sort) _ _ from blkOk_by (by decide +kernel)) (fun _ _ _ _ _ _ h1 => (fg_unlH (HotC.blkP h1) (fgs_cons (fg_name sc__law_sort.nd (i := 3) rfl (Or.inl rfl)) (fgs_cons (fg_name sc__law_sort.nd (i := 4) rfl (Or.inl rfl)) fgs_nil)))) (fun _ _ _ _ _ _ h1 => (pts_one (ft_truth (fe_vr (pv 4))))) (fun _ _ _ _ _ _ h1 => (fe_vr (pv 3))) (by decide)) (fss_one (fs_ret (fe_if (ft_cmp (o_eqA hr.u64) q_eqA (fe_callB q_len o_len rfl T.b_len (by decide +kernel) (fa_cons (fe_vr (pv 2)) fa_nil)) fe_int (by rfl)) (fe_ix (fe_vr (pv 2)) fe_int (fun _ _ => rfl)) fe_str))))))))
  exact z
theorem ok__law_sort {f : Addr} {fd : FuncData} (T : Txt K mg) (Fd : Fun K "_law_sort" "_law_sort" s__law_sort f fd) (hm : mg "_law_sort" = some (.ref f))  : CalH P w K mg base ctab 1 "_law_sort" ["_law_e"] G__law_sort :=
  calH_of Fd hm (fn__law_sort T Fd ) (fun _ _ _ _ _ _ us hl => match us, hl with | [_], _ => rfl)
theorem sc__law_field : FnScope ["_law_e"] ["_law_e"] (defScope s__law_field) := ⟨rfl, rfl, rfl, by decide +kernel, rfl, by decide +kernel, by decide +kernel⟩
theorem fn__law_field {f : Addr} {fd : FuncData} (T : Txt K mg) (Fd : Fun K "_law_field" "_law_field" s__law_field f fd)  : FnH P w K mg base ctab 1 f fd ["_law_e"] (fun x => spG K 1 (G__law_field x)) := by
  have z := fnH (P := P) (w := w) (mg := mg) (base := base) (ct := ctab) (k := 0) (N := ["_law_e"]) (ps := ["_law_e"]) (g := g__law_field) Fd sc__law_field fun x0 cdv A outer s H E π oe hk hr hx => by exact (fss_cons (fs_if (ft_val (fe_isxT hx T.t_ct hk (by decide +kernel) (by decide +kernel) (by rfl) (by rfl) rfl T.b_isinstance rfl T.k_InvalidString rfl T.k_Broken (fe_vr (pv 0)))) (fss_one (fs_ret (fe_efld hx T.t_ct (fe_vr (pv 0))))) fss_nil) (fss_cons (fs_if (ft_val (fe_isx hx T.t_ct hk (by decide +kernel) (by rfl) rfl rfl T.b_isinstance rfl T.k_NotLed (fe_vr (pv 0)))) (fss_one (fs_ret (fe_efld hx T.t_ct (fe_vr (pv 0))))) fss_nil) (fss_cons (fs_if (ft_val (fe_isx hx T.t_ct hk (by decide +kernel) (by rfl) rfl rfl T.b_isinstance rfl T.k_NoMove (fe_vr (pv 0)))) (fss_one (fs_ret fe_non)) fss_nil) (fss_one (fs_ret (fe_if (ft_val (fe_isx hx T.t_ct hk (by decide +kernel) (by rfl) rfl rfl T.b_isinstance rfl T.k_TooGreat (fe_vr (pv 0)))) (fe_efld hx T.t_ct (fe_vr (pv 0))) (fe_efld hx T.t_ct (fe_vr (pv 0)))))))))
  exact z
theorem ok__law_field {f : Addr} {fd : FuncData} (T : Txt K mg) (Fd : Fun K "_law_field" "_law_field" s__law_field f fd) (hm : mg "_law_field" = some (.ref f))  : CalH P w K mg base ctab 1 "_law_field" ["_law_e"] G__law_field :=
  calH_of Fd hm (fn__law_field T Fd ) (fun _ _ _ _ _ _ us hl => match us, hl with | [_], _ => rfl)
theorem sc__law_error : FnScope ["_law_act", "_law_found", "_law_e", "_law_under", "_law_plain"] ["_law_act"] (defScope s__law_error) := ⟨rfl, rfl, rfl, by decide +kernel, rfl, by decide +kernel, by decide +kernel⟩
theorem got__law_error {f : Addr} {fd : FuncData} (T : Txt K mg) (Fd : Fun K "_law_error" "_law_error" s__law_error f fd) (hm : mg "_law_error" = some (.ref f)) (C__law_field : CalH P w K mg base ctab 1 "_law_field" ["_law_e"] G__law_field) (C__law_sort : CalH P w K mg base ctab 1 "_law_sort" ["_law_e"] G__law_sort) : Got P w K mg base 5 "_law_error" c__law_error := by
  obtain ⟨f__law_field, fd__law_field, F__law_field, m__law_field, k__law_field, b__law_field⟩ := C__law_field.ex
  obtain ⟨f__law_sort, fd__law_sort, F__law_sort, m__law_sort, k__law_sort, b__law_sort⟩ := C__law_sort.ex
  exact got_of (Ng := ["_law_act", "_law_found", "_law_e", "_law_under", "_law_plain"]) (a := "_law_act") (back := "_law_found") (e := "_law_e") (n1 := "NotRight") (n2 := "NotKnown") (n3 := "NotPossible") Fd sc__law_error hm rfl rfl rfl rfl rfl (.inl rfl) rfl rfl rfl rfl rfl rfl T.k_NotRight T.k_NotKnown T.k_NotPossible (by decide) (by decide) (by decide) (by decide) (by decide) T.t_ca (fun _ _ _ _ _ _ us hl => match us, hl with | [_], _ => rfl) (fun _ _ => rfl)
    (fun x0 cdv A outer s H π oe pn hr hx hk => by exact (fss_cons (fs_set sc__law_error.nd (i := 3) rfl (Or.inl rfl) (fe_frz (fm_lst (fa_cons (fe_isx hx T.t_ct hk (by decide +kernel) (by rfl) rfl rfl T.b_isinstance rfl T.k_NotRight (fe_vr (pv 2))) (fa_cons (fe_isx hx T.t_ct hk (by decide +kernel) (by rfl) rfl rfl T.b_isinstance rfl T.k_NotKnown (fe_vr (pv 2))) (fa_cons (fe_isx hx T.t_ct hk (by decide +kernel) (by rfl) rfl rfl T.b_isinstance rfl T.k_NotPossible (fe_vr (pv 2))) fa_nil)))))) (fss_cons (fs_set sc__law_error.nd (i := 4) rfl (Or.inl rfl) (fe_frz (fm_lst (fa_cons (fe_isxB (t := "ValueError") hx T.t_ct hk (by decide +kernel) (by rfl) rfl T.b_isinstance rfl T.b_ValueError (by decide +kernel) (fe_vr (pv 2))) (fa_cons (fe_isxB (t := "LookupError") hx T.t_ct hk (by decide +kernel) (by rfl) rfl T.b_isinstance rfl T.b_LookupError (by decide +kernel) (fe_vr (pv 2))) (fa_cons (fe_isxB (t := "ArithmeticError") hx T.t_ct hk (by decide +kernel) (by rfl) rfl T.b_isinstance rfl T.b_ArithmeticError (by decide +kernel) (fe_vr (pv 2))) fa_nil)))))) (fss_one (fs_retM (fm_lst (fa_cons (fe_if (PW.pt (fw_and (ft_cmp (o_eqA hr.u64) q_eqA (fe_vr (pv 3)) (fe_vr (pv 4)) (by rfl)) (pw_and1 (ft_cmp (o_eqA hr.u64) q_eqA (fe_cntD (fe_vr (pv 3)) fe_bl) fe_int (by rfl))))) (fe_callH F__law_sort hk (rh_mono hr (by rfl)) hx rfl m__law_sort k__law_sort b__law_sort (fb_cons (fe_vr (pv 2)) fb_nil)) fe_str) (fa_cons (fe_callH F__law_field hk (rh_mono hr (by rfl)) hx rfl m__law_field k__law_field b__law_field (fb_cons (fe_vr (pv 2)) fb_nil)) fa_nil)))))))) (fun cdv A outer s H π hr => by exact (fss_one (fs_retM (fm_lst (fa_cons fe_str (fa_cons (fe_vr (pv 1)) fa_nil))))))
theorem sc__law_right : FnScope ["_law_tray", "_law_p", "_law_firsts", "_law_sides_here", "_law_loops_here", "_law_own", "_law_due", "_law_great", "_law_wanted", "_law_found", "_law_act", "_law_odd", "_law_q", "_law_k"] ["_law_tray"] (defScope s__law_right) := ⟨rfl, rfl, rfl, by decide +kernel, rfl, by decide +kernel, by decide +kernel⟩
theorem fn__law_right {f : Addr} {oc : Value} {od : Option Addr} {kV doc pm : Value} {an : Option Addr} {cd : Addr} {ct : Value} {osl : Array (Option Value)} (T : Txt K mg) (lk : K.lookup f = some ⟨oc, od, .func (PySem.W.fnOf "_law_right" "_law_right" (defArgs s__law_right) (defBody s__law_right) (defScope s__law_right) .none kV doc pm an (.ref cd) ct), osl⟩) (hcd : PySem.W.codeIn K (.ref cd) "_law_right" = true) (tb : LamX.TabB base mg cd (tabOf K cd)) (tm : (tabOf K cd, ("_law_right" : Str) ++ ".<locals>." ++ "<lambda>") ∈ FE.tabs) (tu : ∀ p ∈ FE.tabs, p.1 = tabOf K cd → p.2 = ("_law_right" : Str) ++ ".<locals>." ++ "<lambda>") (C__law_sip : Cal P w K mg base 1 "_law_sip" ["_law_tray", "_law_top"] [] G__law_sip) (C__law_pick : Cal P w K mg base 2 "_law_pick" ["_law_tray", "_law_menu"] [] G__law_pick) (C__law_told : Cal P w K mg base 2 "_law_told" ["_law_p"] [] G__law_told) (C_how_many_own_mirrors : Cal P w K mg base 4 "how_many_own_mirrors" ["turn"] [(["turn"], 0, [0])] G_how_many_own_mirrors) (C_how_many_for_loops : Cal P w K mg base 4 "how_many_for_loops" ["turn"] [(["turn"], 0, [0])] G_how_many_for_loops) (C_how_many_with_sides : Cal P w K mg base 4 "how_many_with_sides" ["turn"] [(["turn"], 0, [0])] G_how_many_with_sides) (C_how_many : Cal P w K mg base 4 "how_many" ["turn"] [(["turn"], 0, [0])] G_how_many) (C_solids : Cal P w K mg base 4 "solids" ["turn"] [(["turn"], 0, [0])] G_solids) (C_first_with : Cal P w K mg base 4 "first_with" ["number"] [(["number"], 0, [0])] G_first_with) (Q__law_error : Got P w K mg base 5 "_law_error" c__law_error) : FnG P w K mg base 7 f (PySem.W.fnOf "_law_right" "_law_right" (defArgs s__law_right) (defBody s__law_right) (defScope s__law_right) .none kV doc pm an (.ref cd) ct) ["_law_tray"] (spG K 1 G__law_right) := by
  obtain ⟨f__law_sip, fd__law_sip, F__law_sip, m__law_sip, k__law_sip, b__law_sip, q__law_sip⟩ := C__law_sip.ex
  obtain ⟨f__law_pick, fd__law_pick, F__law_pick, m__law_pick, k__law_pick, b__law_pick, q__law_pick⟩ := C__law_pick.ex
  obtain ⟨f__law_told, fd__law_told, F__law_told, m__law_told, k__law_told, b__law_told, q__law_told⟩ := C__law_told.ex
  obtain ⟨f_how_many_own_mirrors, fd_how_many_own_mirrors, F_how_many_own_mirrors, m_how_many_own_mirrors, k_how_many_own_mirrors, b_how_many_own_mirrors, q_how_many_own_mirrors⟩ := C_how_many_own_mirrors.ex
  obtain ⟨f_how_many_for_loops, fd_how_many_for_loops, F_how_many_for_loops, m_how_many_for_loops, k_how_many_for_loops, b_how_many_for_loops, q_how_many_for_loops⟩ := C_how_many_for_loops.ex
  obtain ⟨f_how_many_with_sides, fd_how_many_with_sides, F_how_many_with_sides, m_how_many_with_sides, k_how_many_with_sides, b_how_many_with_sides, q_how_many_with_sides⟩ := C_how_many_with_sides.ex
  obtain ⟨f_how_many, fd_how_many, F_how_many, m_how_many, k_how_many, b_how_many, q_how_many⟩ := C_how_many.ex
  obtain ⟨f_solids, fd_solids, F_solids, m_solids, k_solids, b_solids, q_solids⟩ := C_solids.ex
  obtain ⟨f_first_with, fd_first_with, F_first_with, m_first_with, k_first_with, b_first_with, q_first_with⟩ := C_first_with.ex
  have z := fnGc (P := P) (w := w) (mg := mg) (base := base) (k := 6) (N := ["_law_tray", "_law_p", "_law_firsts", "_law_sides_here", "_law_loops_here", "_law_own", "_law_due", "_law_great", "_law_wanted", "_law_found", "_law_act", "_law_odd", "_law_q", "_law_k"]) (ps := ["_law_tray"]) (g := g__law_right) lk hcd sc__law_right fun A outer s H E π W hr tk hp => by exact (fss_cons (fs_set sc__law_right.nd (i := 1) rfl (Or.inr rfl) (fe_bin o_add q_add fe_int (fe_call F__law_sip (rm_mono hr (by rfl)) tk rfl m__law_sip k__law_sip b__law_sip (fb_sl (pv 0) (fb_cons (fe_call F__law_pick (rm_mono hr (by rfl)) tk rfl m__law_pick k__law_pick b__law_pick (fb_sl (pv 0) (fb_cons (fe_frz (fm_lst (fa_cons fe_int (fa_cons fe_int fa_nil)))) fb_nil))) fb_nil))))) (fss_cons (fs_asg (fe_call F__law_told (rm_mono hr (by rfl)) tk rfl m__law_told k__law_told b__law_told (fb_cons (fe_vr (pv 1)) fb_nil)) (fg_tul rfl (fgs_cons (fg_name sc__law_right.nd (i := 2) rfl (Or.inl rfl)) (fgs_cons (fg_name sc__law_right.nd (i := 3) rfl (Or.inl rfl)) (fgs_cons (fg_name sc__law_right.nd (i := 4) rfl (Or.inl rfl)) (fgs_cons (fg_name sc__law_right.nd (i := 5) rfl (Or.inl rfl)) fgs_nil)))))) (fss_cons (fs_set sc__law_right.nd (i := 6) rfl (Or.inl rfl) (fe_frz (fm_lst (fa_cons (fe_callB q_len o_len rfl T.b_len (by decide +kernel) (fa_cons (fe_vr (pv 2)) fa_nil)) (fa_cons (fe_callB q_len o_len rfl T.b_len (by decide +kernel) (fa_cons (fe_vr (pv 3)) fa_nil)) (fa_cons (fe_callB q_len o_len rfl T.b_len (by decide +kernel) (fa_cons (fe_vr (pv 4)) fa_nil)) (fa_cons (fe_callB q_len o_len rfl T.b_len (by decide +kernel) (fa_cons (fe_vr (pv 5)) fa_nil)) fa_nil))))))) (fss_cons (fs_if (ft_cmp (o_neA hr.u64) q_neA (fe_callB q_reprQ (o_reprQ hr.g hr.u64) rfl T.b_repr (by decide +kernel) (fa_cons (fe_frz (fm_lst (fa_cons (fe_call F_how_many (rm_mono hr (by rfl)) tk rfl m_how_many k_how_many b_how_many (fb_cons (fe_vr (pv 1)) fb_nil)) (fa_cons (fe_call F_how_many_with_sides (rm_mono hr (by rfl)) tk rfl m_how_many_with_sides k_how_many_with_sides b_how_many_with_sides (fb_cons (fe_vr (pv 1)) fb_nil)) (fa_cons (fe_call F_how_many_for_loops (rm_mono hr (by rfl)) tk rfl m_how_many_for_loops k_how_many_for_loops b_how_many_for_loops (fb_cons (fe_vr (pv 1)) fb_nil)) (fa_cons (fe_call F_how_many_own_mirrors (rm_mono hr (by rfl)) tk rfl m_how_many_own_mirrors k_how_many_own_mirrors b_how_many_own_mirrors (fb_cons (fe_vr (pv 1)) fb_nil)) fa_nil)))))) fa_nil)) (fe_callB q_reprQ (o_reprQ hr.g hr.u64) rfl T.b_repr (by decide +kernel) (fa_cons (fe_vr (pv 6)) fa_nil)) (by rfl)) (fss_one (fs_ret fe_bl)) fss_nil) (fss_cons (fs_if (ft_cmp (o_neA hr.u64) q_neA (fe_callB q_reprQ (o_reprQ hr.g hr.u64) rfl T.b_repr (by decide +kernel) (fa_cons (fe_frz (fm_lst (fa_cons (fe_callK0 F_how_many (rm_mono hr (by rfl)) tk rfl m_how_many k_how_many (q_how_many _ List.mem_cons_self) (fk_cons (fe_vr (pv 1)) fk_nil)) (fa_cons (fe_callK0 F_how_many_with_sides (rm_mono hr (by rfl)) tk rfl m_how_many_with_sides k_how_many_with_sides (q_how_many_with_sides _ List.mem_cons_self) (fk_cons (fe_vr (pv 1)) fk_nil)) (fa_cons (fe_callK0 F_how_many_for_loops (rm_mono hr (by rfl)) tk rfl m_how_many_for_loops k_how_many_for_loops (q_how_many_for_loops _ List.mem_cons_self) (fk_cons (fe_vr (pv 1)) fk_nil)) (fa_cons (fe_callK0 F_how_many_own_mirrors (rm_mono hr (by rfl)) tk rfl m_how_many_own_mirrors k_how_many_own_mirrors (q_how_many_own_mirrors _ List.mem_cons_self) (fk_cons (fe_vr (pv 1)) fk_nil)) fa_nil)))))) fa_nil)) (fe_callB q_reprQ (o_reprQ hr.g hr.u64) rfl T.b_repr (by decide +kernel) (fa_cons (fe_vr (pv 6)) fa_nil)) (by rfl)) (fss_one (fs_ret fe_bl)) fss_nil) (fss_cons (fs_if (ft_cmp (o_neA hr.u64) q_neA (fe_callB q_reprQ (o_reprQ hr.g hr.u64) rfl T.b_repr (by decide +kernel) (fa_cons (fe_frz (fm_lst (fa_cons (fe_call F_solids (rm_mono hr (by rfl)) tk rfl m_solids k_solids b_solids (fb_cons (fe_vr (pv 1)) fb_nil)) (fa_cons (fe_callK0 F_solids (rm_mono hr (by rfl)) tk rfl m_solids k_solids (q_solids _ List.mem_cons_self) (fk_cons (fe_vr (pv 1)) fk_nil)) fa_nil)))) fa_nil)) (fe_callB q_reprQ (o_reprQ hr.g hr.u64) rfl T.b_repr (by decide +kernel) (fa_cons (fe_bin o_mul q_mul (fe_frz (fm_lst (fa_cons (fe_callTy q_tup call_tupN rfl T.b_tuple (by decide +kernel) (fa_cons (fe_frz (fm_lc (own := [("_law_q", 12)]) rfl sc__law_right.nd (fi_seq (fe_vr (pv 2))) (show BlkOk ["_law_tray", "_law_p", "_law_firsts", "_law_sides_here", "_law_loops_here", "_law_own", "_law_due", "_law_great", "_law_wanted", "_law_found", "_law_act", "_law_odd", "_law_q", "_law_k"] (defScope s__law_right) _ _ from blkOk_by (by decide +kernel)) (fun _ _ _ _ _ => (fg_name sc__law_right.nd (i := 12) rfl (Or.inl rfl))) (fun _ _ _ _ _ => pts_non) (fun _ _ _ _ _ => (fe_tup (fa_cons (fe_vr (pv 1)) (fa_cons (fe_vr (pv 12)) fa_nil)))) (by decide))) fa_nil)) fa_nil))) fe_int) fa_nil)) (by rfl)) (fss_one (fs_ret fe_bl)) fss_nil) (fss_cons (fs_set sc__law_right.nd (i := 7) rfl (Or.inl rfl) (fe_bin o_add q_add fe_int (fe_call F__law_sip (rm_mono hr (by rfl)) tk rfl m__law_sip k__law_sip b__law_sip (fb_sl (pv 0) (fb_cons fe_int fb_nil))))) (fss_cons (fs_if (PW.pt (fw_or (ft_cmp op_lt q_cmp (fe_bin o_mul q_mul fe_int (fe_call F_how_many (rm_mono hr (by rfl)) tk rfl m_how_many k_how_many b_how_many (fb_cons (fe_vr (pv 7)) fb_nil))) (fe_call F_how_many_with_sides (rm_mono hr (by rfl)) tk rfl m_how_many_with_sides k_how_many_with_sides b_how_many_with_sides (fb_cons (fe_vr (pv 7)) fb_nil)) (by rfl)) (fw_or (ft_cmp op_gt q_cmp (fe_call F_how_many_for_loops (rm_mono hr (by rfl)) tk rfl m_how_many_for_loops k_how_many_for_loops b_how_many_for_loops (fb_cons (fe_vr (pv 7)) fb_nil)) (fe_call F_how_many (rm_mono hr (by rfl)) tk rfl m_how_many k_how_many b_how_many (fb_cons (fe_vr (pv 7)) fb_nil)) (by rfl)) (pw_or1 (ft_cmp (o_neA hr.u64) q_neA (fe_call F_how_many_own_mirrors (rm_mono hr (by rfl)) tk rfl m_how_many_own_mirrors k_how_many_own_mirrors b_how_many_own_mirrors (fb_cons (fe_vr (pv 7)) fb_nil)) (fe_bin op_sub q_sub (fe_bin o_mul q_mul fe_int (fe_call F_how_many (rm_mono hr (by rfl)) tk rfl m_how_many k_how_many b_how_many (fb_cons (fe_vr (pv 7)) fb_nil))) (fe_call F_how_many_with_sides (rm_mono hr (by rfl)) tk rfl m_how_many_with_sides k_how_many_with_sides b_how_many_with_sides (fb_cons (fe_vr (pv 7)) fb_nil))) (by rfl)))))) (fss_one (fs_ret fe_bl)) fss_nil) (fss_cons (fs_set sc__law_right.nd (i := 8) rfl (Or.inr rfl) (fe_bin o_add q_add fe_int (fe_call F__law_sip (rm_mono hr (by rfl)) tk rfl m__law_sip k__law_sip b__law_sip (fb_sl (pv 0) (fb_cons fe_int fb_nil))))) (fss_cons (fs_set sc__law_right.nd (i := 9) rfl (Or.inl rfl) (fe_call F_first_with (rm_mono hr (by rfl)) tk rfl m_first_with k_first_with b_first_with (fb_cons (fe_vr (pv 8)) fb_nil))) (fss_cons (fs_if (PW.pt (fw_or (ft_cmp (o_neA hr.u64) q_neA (fe_callK0 F_first_with (rm_mono hr (by rfl)) tk rfl m_first_with k_first_with (q_first_with _ List.mem_cons_self) (fk_cons (fe_vr (pv 8)) fk_nil)) (fe_vr (pv 9)) (by rfl)) (fw_or (ft_cmp op_lt q_cmp (fe_call F_how_many (rm_mono hr (by rfl)) tk rfl m_how_many k_how_many b_how_many (fb_cons (fe_vr (pv 9)) fb_nil)) (fe_vr (pv 8)) (by rfl)) (pw_or1 (ft_cmp (o_neA hr.u64) q_neA (fe_frz (fm_lc (own := [("_law_k", 13)]) rfl sc__law_right.nd (fi_range2 rfl T.b_range (fa_cons fe_int (fa_cons (fe_vr (pv 9)) fa_nil))) (show BlkOk ["_law_tray", "_law_p", "_law_firsts", "_law_sides_here", "_law_loops_here", "_law_own", "_law_due", "_law_great", "_law_wanted", "_law_found", "_law_act", "_law_odd", "_law_q", "_law_k"] (defScope s__law_right) _ _ from blkOk_by (by decide +kernel)) (fun _ _ _ _ _ => (fg_name sc__law_right.nd (i := 13) rfl (Or.inl rfl))) (fun _ _ _ _ _ => (pts_one (ft_cmp op_ge q_cmp (fe_call F_how_many (rm_mono hr (by rfl)) takes_0 rfl m_how_many k_how_many b_how_many (fb_cons (fe_vr (pv 13)) fb_nil)) (fe_vr (pv 8)) (by rfl)))) (fun _ _ _ _ _ => (fe_vr (pv 13))) (by decide))) (fe_frz (fm_lst fa_nil)) (by rfl)))))) (fss_one (fs_ret fe_bl)) fss_nil) (fss_cons (fs_set sc__law_right.nd (i := 11) rfl (Or.inr rfl) (fe_call F__law_pick (rm_mono hr (by rfl)) tk rfl m__law_pick k__law_pick b__law_pick (fb_sl (pv 0) (fb_cons (fe_frz (fm_lst (fa_cons fe_int (fa_cons (fe_un un_neg q_neg fe_int) (fa_cons fe_non (fa_cons fe_bl (fa_cons fe_str (fa_cons (fe_bin o_add q_add (fe_bin op_pow q_pow fe_int fe_int) fe_int) (fa_cons (fe_tup (fa_cons fe_int fa_nil)) fa_nil))))))))) fb_nil)))) (fss_cons (fs_for (ks := []) hp rfl (fi_seq (fe_frz (fm_lst (fa_cons (fe_gfn rfl T.k_how_many) (fa_cons (fe_gfn rfl T.k_how_many_with_sides) (fa_cons (fe_gfn rfl T.k_how_many_for_loops) (fa_cons (fe_gfn rfl T.k_how_many_own_mirrors) (fa_cons (fe_gfn rfl T.k_solids) (fa_cons (fe_gfn rfl T.k_first_with) fa_nil))))))))) (fg_name sc__law_right.nd (i := 10) rfl (Or.inr rfl)) (fss_one (fs_if (ft_cmp (o_neA hr.u64) q_neA (fe_callB q_reprQ (o_reprQ hr.g hr.u64) rfl T.b_repr (by decide +kernel) (fa_cons (fe_caught (j := 4) Q__law_error (rm_mono hr (by rfl)) rfl ⟨tb, rfl, tm, tu⟩ (LamX.lamS_by (show LamX.lamSB (defScope s__law_right) _ = true from by decide +kernel)) rfl (fun _ _ _ _ _ => rfl) (fun A outer s H E f co hr => (fe_callVs (i := 10) lamX_takes (vs_cons F_first_with (rm_mono hr (by rfl)) m_first_with T.k_first_with k_first_with b_first_with rfl (vs_cons F_how_many (rm_mono hr (by rfl)) m_how_many T.k_how_many k_how_many b_how_many rfl (vs_cons F_how_many_for_loops (rm_mono hr (by rfl)) m_how_many_for_loops T.k_how_many_for_loops k_how_many_for_loops b_how_many_for_loops rfl (vs_cons F_how_many_own_mirrors (rm_mono hr (by rfl)) m_how_many_own_mirrors T.k_how_many_own_mirrors k_how_many_own_mirrors b_how_many_own_mirrors rfl (vs_cons F_how_many_with_sides (rm_mono hr (by rfl)) m_how_many_with_sides T.k_how_many_with_sides k_how_many_with_sides b_how_many_with_sides rfl (vs_cons F_solids (rm_mono hr (by rfl)) m_solids T.k_solids k_solids b_solids rfl vs_nil)))))) (fb_cons (fe_vr (pv 11)) fb_nil)))) fa_nil)) (fe_callB q_reprQ (o_reprQ hr.g hr.u64) rfl T.b_repr (by decide +kernel) (fa_cons (fe_frz (fm_lst (fa_cons fe_str (fa_cons (fe_vr (pv 11)) fa_nil)))) fa_nil)) (by rfl)) (fss_one (fs_ret fe_bl)) fss_nil))) (fss_cons (fs_if (ft_cmp (o_neA hr.u64) q_neA (fe_caught (j := 4) Q__law_error (rm_mono hr (by rfl)) rfl ⟨tb, rfl, tm, tu⟩ (LamX.lamS_by (show LamX.lamSB (defScope s__law_right) _ = true from by decide +kernel)) rfl (fun _ _ _ _ _ => rfl) (fun A outer s H E f co hr => (fe_call F_solids (rm_mono hr (by rfl)) lamX_takes rfl m_solids k_solids b_solids (fb_cons fe_int fb_nil)))) (fe_frz (fm_lst (fa_cons fe_str (fa_cons fe_int fa_nil)))) (by rfl)) (fss_one (fs_ret fe_bl)) fss_nil) (fss_one (fs_ret (fe_cmp (o_eqA hr.u64) q_eqA (fe_caught (j := 4) Q__law_error (rm_mono hr (by rfl)) rfl ⟨tb, rfl, tm, tu⟩ (LamX.lamS_by (show LamX.lamSB (defScope s__law_right) _ = true from by decide +kernel)) rfl (fun _ _ _ _ _ => rfl) (fun A outer s H E f co hr => (fe_call F_first_with (rm_mono hr (by rfl)) lamX_takes rfl m_first_with k_first_with b_first_with (fb_cons fe_int fb_nil)))) (fe_frz (fm_lst (fa_cons fe_str (fa_cons fe_int fa_nil)))) (by rfl))))))))))))))))))
  exact z
theorem ok__law_right {f : Addr} {oc : Value} {od : Option Addr} {kV doc pm : Value} {an : Option Addr} {cd : Addr} {ct : Value} {osl : Array (Option Value)} (T : Txt K mg) (Fd : Fun K "_law_right" "_law_right" s__law_right f (PySem.W.fnOf "_law_right" "_law_right" (defArgs s__law_right) (defBody s__law_right) (defScope s__law_right) .none kV doc pm an (.ref cd) ct)) (hm : mg "_law_right" = some (.ref f)) (lk : K.lookup f = some ⟨oc, od, .func (PySem.W.fnOf "_law_right" "_law_right" (defArgs s__law_right) (defBody s__law_right) (defScope s__law_right) .none kV doc pm an (.ref cd) ct), osl⟩) (hcd : PySem.W.codeIn K (.ref cd) "_law_right" = true) (tb : LamX.TabB base mg cd (tabOf K cd)) (tm : (tabOf K cd, ("_law_right" : Str) ++ ".<locals>." ++ "<lambda>") ∈ FE.tabs) (tu : ∀ p ∈ FE.tabs, p.1 = tabOf K cd → p.2 = ("_law_right" : Str) ++ ".<locals>." ++ "<lambda>") (C__law_sip : Cal P w K mg base 1 "_law_sip" ["_law_tray", "_law_top"] [] G__law_sip) (C__law_pick : Cal P w K mg base 2 "_law_pick" ["_law_tray", "_law_menu"] [] G__law_pick) (C__law_told : Cal P w K mg base 2 "_law_told" ["_law_p"] [] G__law_told) (C_how_many_own_mirrors : Cal P w K mg base 4 "how_many_own_mirrors" ["turn"] [(["turn"], 0, [0])] G_how_many_own_mirrors) (C_how_many_for_loops : Cal P w K mg base 4 "how_many_for_loops" ["turn"] [(["turn"], 0, [0])] G_how_many_for_loops) (C_how_many_with_sides : Cal P w K mg base 4 "how_many_with_sides" ["turn"] [(["turn"], 0, [0])] G_how_many_with_sides) (C_how_many : Cal P w K mg base 4 "how_many" ["turn"] [(["turn"], 0, [0])] G_how_many) (C_solids : Cal P w K mg base 4 "solids" ["turn"] [(["turn"], 0, [0])] G_solids) (C_first_with : Cal P w K mg base 4 "first_with" ["number"] [(["number"], 0, [0])] G_first_with) (Q__law_error : Got P w K mg base 5 "_law_error" c__law_error) : Cal P w K mg base 7 "_law_right" ["_law_tray"] [] G__law_right :=
  cal_of Fd hm (fn__law_right T lk hcd tb tm tu C__law_sip C__law_pick C__law_told C_how_many_own_mirrors C_how_many_for_loops C_how_many_with_sides C_how_many C_solids C_first_with Q__law_error) (fun _ _ _ _ _ _ us hl => match us, hl with | [_], _ => rfl) kb_nil
theorem sc__law_bin : FnScope ["_law_script", "_law_turn", "_law_entry", "_law_stirred", "_law_each"] ["_law_script", "_law_turn"] (defScope s__law_bin) := ⟨rfl, rfl, rfl, by decide +kernel, rfl, by decide +kernel, by decide +kernel⟩
theorem fn__law_bin {f : Addr} {fd : FuncData} (T : Txt K mg) (Fd : Fun K "_law_bin" "_law_bin" s__law_bin f fd)  : FnG P w K mg base 1 f fd ["_law_script", "_law_turn"] (spG K 2 G__law_bin) := by
  have z := fnG (P := P) (w := w) (mg := mg) (base := base) (k := 0) (N := ["_law_script", "_law_turn", "_law_entry", "_law_stirred", "_law_each"]) (ps := ["_law_script", "_law_turn"]) (g := g__law_bin) Fd sc__law_bin fun cdv A outer s H E π W hr tk hp => by exact (fss_cons (fs_set sc__law_bin.nd (i := 2) rfl (Or.inl rfl) (fe_if (ft_cmp op_lt q_cmp (fe_vr (pv 1)) (fe_callB q_len o_len rfl T.b_len (by decide +kernel) (fa_cons (fe_vr (pv 0)) fa_nil)) (by rfl)) (fe_callTy q_int call_int1 rfl T.b_int (by decide +kernel) (fa_cons (fe_ix (fe_vr (pv 0)) (fe_vr (pv 1)) (fun _ _ => rfl)) fa_nil)) (fe_bin o_add q_add (fe_bin o_mul q_mul fe_int (fe_vr (pv 1))) fe_int))) (fss_cons (fs_set sc__law_bin.nd (i := 3) rfl (Or.inl rfl) (fe_bin o_add q_add fe_int (fe_bin o_mul q_mul fe_int (fe_vr (pv 1))))) (fss_cons (fs_for (ks := []) hp rfl (fi_seq (fe_sl (fe_vr (pv 0)) fo_none (fo_some fe_int))) (fg_name sc__law_bin.nd (i := 4) rfl (Or.inl rfl)) (fss_one (fs_set sc__law_bin.nd (i := 3) rfl (Or.inl rfl) (fe_bin op_modN q_mod (fe_callTy q_int call_int1 rfl T.b_int (by decide +kernel) (fa_cons (fe_bin o_add q_add (fe_bin o_add q_add (fe_bin o_mul q_mul (fe_vr (pv 3)) fe_int) (fe_bin op_modN q_mod (fe_callTy q_int call_int1 rfl T.b_int (by decide +kernel) (fa_cons (fe_vr (pv 4)) fa_nil)) fe_int)) (fe_vr (pv 1))) fa_nil)) fe_int)))) (fss_cons (fs_set sc__law_bin.nd (i := 3) rfl (Or.inl rfl) (fe_bin op_modN q_mod (fe_callTy q_int call_int1 rfl T.b_int (by decide +kernel) (fa_cons (fe_bin o_add q_add (fe_bin o_mul q_mul (fe_vr (pv 3)) fe_int) (fe_bin op_modN q_mod (fe_callTy q_int call_int1 rfl T.b_int (by decide +kernel) (fa_cons (fe_vr (pv 2)) fa_nil)) fe_int)) fa_nil)) fe_int)) (fss_one (fs_retM (fm_lst (fa_cons (fe_if (ft_cmp op_ge q_cmp (fe_callB q_abs call_abs rfl T.b_abs (by decide +kernel) (fa_cons (fe_vr (pv 2)) fa_nil)) (fe_bin op_pow q_pow fe_int fe_int) (by rfl)) (fe_callB q_abs call_abs rfl T.b_abs (by decide +kernel) (fa_cons (fe_vr (pv 2)) fa_nil)) fe_int) (fa_cons (fe_vr (pv 3)) (fa_cons fe_int fa_nil))))))))))
  exact z
theorem ok__law_bin {f : Addr} {fd : FuncData} (T : Txt K mg) (Fd : Fun K "_law_bin" "_law_bin" s__law_bin f fd) (hm : mg "_law_bin" = some (.ref f))  : Cal P w K mg base 1 "_law_bin" ["_law_script", "_law_turn"] [] G__law_bin :=
  cal_of Fd hm (fn__law_bin T Fd ) (fun _ _ _ _ _ _ us hl => match us, hl with | [_, _], _ => rfl) kb_nil
theorem sc_law : FnScope ["_law_script", "_law_told_here", "_law_turn"] ["_law_script"] (defScope s_law) := ⟨rfl, rfl, rfl, by decide +kernel, rfl, by decide +kernel, by decide +kernel⟩
theorem fn_law {f : Addr} {fd : FuncData} (T : Txt K mg) (Fd : Fun K "law" "law" s_law f fd) (C_how_many_for_loops : Cal P w K mg base 4 "how_many_for_loops" ["turn"] [(["turn"], 0, [0])] G_how_many_for_loops) (C_how_many_with_sides : Cal P w K mg base 4 "how_many_with_sides" ["turn"] [(["turn"], 0, [0])] G_how_many_with_sides) (C_how_many : Cal P w K mg base 4 "how_many" ["turn"] [(["turn"], 0, [0])] G_how_many) (C_how_many_own_mirrors : Cal P w K mg base 4 "how_many_own_mirrors" ["turn"] [(["turn"], 0, [0])] G_how_many_own_mirrors) (C_first_with : Cal P w K mg base 4 "first_with" ["number"] [(["number"], 0, [0])] G_first_with) (C_solids : Cal P w K mg base 4 "solids" ["turn"] [(["turn"], 0, [0])] G_solids) (C__law_right : Cal P w K mg base 7 "_law_right" ["_law_tray"] [] G__law_right) (C__law_bin : Cal P w K mg base 1 "_law_bin" ["_law_script", "_law_turn"] [] G__law_bin) : FnG P w K mg base 8 f fd ["_law_script"] (spG K 1 G_law) := by
  obtain ⟨f_how_many_for_loops, fd_how_many_for_loops, F_how_many_for_loops, m_how_many_for_loops, k_how_many_for_loops, b_how_many_for_loops, q_how_many_for_loops⟩ := C_how_many_for_loops.ex
  obtain ⟨f_how_many_with_sides, fd_how_many_with_sides, F_how_many_with_sides, m_how_many_with_sides, k_how_many_with_sides, b_how_many_with_sides, q_how_many_with_sides⟩ := C_how_many_with_sides.ex
  obtain ⟨f_how_many, fd_how_many, F_how_many, m_how_many, k_how_many, b_how_many, q_how_many⟩ := C_how_many.ex
  obtain ⟨f_how_many_own_mirrors, fd_how_many_own_mirrors, F_how_many_own_mirrors, m_how_many_own_mirrors, k_how_many_own_mirrors, b_how_many_own_mirrors, q_how_many_own_mirrors⟩ := C_how_many_own_mirrors.ex
  obtain ⟨f_first_with, fd_first_with, F_first_with, m_first_with, k_first_with, b_first_with, q_first_with⟩ := C_first_with.ex
  obtain ⟨f_solids, fd_solids, F_solids, m_solids, k_solids, b_solids, q_solids⟩ := C_solids.ex
  obtain ⟨f__law_right, fd__law_right, F__law_right, m__law_right, k__law_right, b__law_right, q__law_right⟩ := C__law_right.ex
  obtain ⟨f__law_bin, fd__law_bin, F__law_bin, m__law_bin, k__law_bin, b__law_bin, q__law_bin⟩ := C__law_bin.ex
  have z := fnG (P := P) (w := w) (mg := mg) (base := base) (k := 7) (N := ["_law_script", "_law_told_here", "_law_turn"]) (ps := ["_law_script"]) (g := g_law) Fd sc_law fun cdv A outer s H E π W hr tk hp => by exact (fss_cons (fs_set sc_law.nd (i := 1) rfl (Or.inl rfl) (fe_frz (fm_lst (fa_cons (fe_call F_how_many (rm_mono hr (by rfl)) tk rfl m_how_many k_how_many b_how_many (fb_cons fe_int fb_nil)) (fa_cons (fe_call F_how_many_with_sides (rm_mono hr (by rfl)) tk rfl m_how_many_with_sides k_how_many_with_sides b_how_many_with_sides (fb_cons fe_int fb_nil)) (fa_cons (fe_call F_how_many_own_mirrors (rm_mono hr (by rfl)) tk rfl m_how_many_own_mirrors k_how_many_own_mirrors b_how_many_own_mirrors (fb_cons fe_int fb_nil)) (fa_cons (fe_call F_how_many_own_mirrors (rm_mono hr (by rfl)) tk rfl m_how_many_own_mirrors k_how_many_own_mirrors b_how_many_own_mirrors (fb_cons fe_int fb_nil)) (fa_cons (fe_call F_how_many_for_loops (rm_mono hr (by rfl)) tk rfl m_how_many_for_loops k_how_many_for_loops b_how_many_for_loops (fb_cons fe_int fb_nil)) (fa_cons (fe_call F_how_many_for_loops (rm_mono hr (by rfl)) tk rfl m_how_many_for_loops k_how_many_for_loops b_how_many_for_loops (fb_cons fe_int fb_nil)) (fa_cons (fe_call F_how_many (rm_mono hr (by rfl)) tk rfl m_how_many k_how_many b_how_many (fb_cons fe_int fb_nil)) (fa_cons (fe_call F_how_many (rm_mono hr (by rfl)) tk rfl m_how_many k_how_many b_how_many (fb_cons fe_int fb_nil)) (fa_cons (fe_call F_how_many (rm_mono hr (by rfl)) tk rfl m_how_many k_how_many b_how_many (fb_cons fe_int fb_nil)) (fa_cons (fe_call F_how_many_with_sides (rm_mono hr (by rfl)) tk rfl m_how_many_with_sides k_how_many_with_sides b_how_many_with_sides (fb_cons fe_int fb_nil)) (fa_cons (fe_call F_how_many_for_loops (rm_mono hr (by rfl)) tk rfl m_how_many_for_loops k_how_many_for_loops b_how_many_for_loops (fb_cons fe_int fb_nil)) fa_nil)))))))))))))) (fss_cons (fs_if (ft_cmp (o_neA hr.u64) q_neA (fe_vr (pv 1)) (fe_frz (fm_lst (fa_cons fe_int (fa_cons fe_int (fa_cons fe_int (fa_cons fe_int (fa_cons fe_int (fa_cons fe_int (fa_cons fe_int (fa_cons fe_int (fa_cons fe_int (fa_cons fe_int (fa_cons fe_int fa_nil))))))))))))) (by rfl)) (fss_one (fs_ret fe_bl)) fss_nil) (fss_cons (fs_if (ft_cmp (o_neA hr.u64) q_neA (fe_frz (fm_lst (fa_cons (fe_call F_solids (rm_mono hr (by rfl)) tk rfl m_solids k_solids b_solids (fb_cons fe_int fb_nil)) (fa_cons (fe_call F_solids (rm_mono hr (by rfl)) tk rfl m_solids k_solids b_solids (fb_cons fe_int fb_nil)) (fa_cons (fe_call F_solids (rm_mono hr (by rfl)) tk rfl m_solids k_solids b_solids (fb_cons fe_int fb_nil)) (fa_cons (fe_call F_solids (rm_mono hr (by rfl)) tk rfl m_solids k_solids b_solids (fb_cons fe_int fb_nil)) (fa_cons (fe_call F_first_with (rm_mono hr (by rfl)) tk rfl m_first_with k_first_with b_first_with (fb_cons fe_int fb_nil)) (fa_cons (fe_call F_first_with (rm_mono hr (by rfl)) tk rfl m_first_with k_first_with b_first_with (fb_cons fe_int fb_nil)) (fa_cons (fe_call F_first_with (rm_mono hr (by rfl)) tk rfl m_first_with k_first_with b_first_with (fb_cons fe_int fb_nil)) (fa_cons (fe_call F_how_many_own_mirrors (rm_mono hr (by rfl)) tk rfl m_how_many_own_mirrors k_how_many_own_mirrors b_how_many_own_mirrors (fb_cons fe_int fb_nil)) (fa_cons (fe_call F_how_many_own_mirrors (rm_mono hr (by rfl)) tk rfl m_how_many_own_mirrors k_how_many_own_mirrors b_how_many_own_mirrors (fb_cons fe_int fb_nil)) (fa_cons (fe_call F_how_many_with_sides (rm_mono hr (by rfl)) tk rfl m_how_many_with_sides k_how_many_with_sides b_how_many_with_sides (fb_cons fe_int fb_nil)) fa_nil)))))))))))) (fe_frz (fm_lst (fa_cons (fe_tup (fa_cons (fe_tup (fa_cons fe_int (fa_cons fe_int fa_nil))) (fa_cons (fe_tup (fa_cons fe_int (fa_cons fe_int fa_nil))) fa_nil))) (fa_cons (fe_tup (fa_cons (fe_tup (fa_cons fe_int (fa_cons fe_int fa_nil))) (fa_cons (fe_tup (fa_cons fe_int (fa_cons fe_int fa_nil))) fa_nil))) (fa_cons (fe_tup (fa_cons (fe_tup (fa_cons fe_int (fa_cons fe_int fa_nil))) (fa_cons (fe_tup (fa_cons fe_int (fa_cons fe_int fa_nil))) fa_nil))) (fa_cons (fe_tup (fa_cons (fe_tup (fa_cons fe_int (fa_cons fe_int fa_nil))) fa_nil)) (fa_cons fe_int (fa_cons fe_int (fa_cons fe_int (fa_cons fe_int (fa_cons fe_int (fa_cons fe_int fa_nil)))))))))))) (by rfl)) (fss_one (fs_ret fe_bl)) fss_nil) (fss_one (fs_ret (fe_callB q_all (cr_all rfl) rfl T.b_all (by decide +kernel) (fa_cons (fe_frz (fm_lc (own := [("_law_turn", 2)]) rfl sc_law.nd (fi_range1 rfl T.b_range (fa_cons (fe_callB q_max (call_max2 rfl) rfl T.b_max (by decide +kernel) (fa_cons fe_int (fa_cons (fe_callB q_min (call_min2 rfl) rfl T.b_min (by decide +kernel) (fa_cons (fe_callB q_len o_len rfl T.b_len (by decide +kernel) (fa_cons (fe_vr (pv 0)) fa_nil)) (fa_cons fe_int fa_nil))) fa_nil))) fa_nil)) (show BlkOk ["_law_script", "_law_told_here", "_law_turn"] (defScope s_law) _ _ from blkOk_by (by decide +kernel)) (fun _ _ _ _ _ => (fg_name sc_law.nd (i := 2) rfl (Or.inl rfl))) (fun _ _ _ _ _ => pts_non) (fun _ _ _ _ _ => (fe_callF F__law_right rfl (rm_mono hr (by rfl)) takes_0 rfl m__law_right k__law_right b__law_right (fm_call F__law_bin (rm_mono hr (by rfl)) takes_0 rfl m__law_bin k__law_bin b__law_bin (fb_cons (fe_vr (pv 0)) (fb_cons (fe_vr (pv 2)) fb_nil))))) (by decide))) fa_nil)))))))
  exact z
end
theorem all_mk {l : PySem.W.OpenLaw} {w : World} {K : PySem.W.Frag} {h : Heap} {mg : Str → Option Value} {fa : Addr} [fe : FE] (hq : (List.Nodup [FE.cl "first_with", FE.cl "how_many", FE.cl "how_many_for_loops", FE.cl "how_many_own_mirrors", FE.cl "how_many_with_sides", FE.cl "solids"] : Prop) → ∀ ns : List Int, ns.length ≤ 63 → G_law [.val (.scr ns)] = .ok (.v (.bl true)) []) (X : K.In h) (G : h.Ns mainGlobals mg) (hfa : mg "law" = some (.ref fa))
    {f1 f2 f3 f4 f5 f6 f7 f8 f9 f10 f11 f12 f13 f14 f15 f16 f17 f18 f19 f20 f21 f22 f23 f24 f25 f26 f27 f28 : Addr} {od1 an1 od2 an2 od3 an3 od4 an4 od5 an5 od6 an6 od7 an7 od8 an8 od9 an9 od10 an10 od11 an11 od12 an12 od13 an13 od14 an14 od15 an15 od16 an16 od17 an17 od18 an18 od19 an19 od20 an20 od21 an21 od22 an22 od23 an23 od24 an24 od25 an25 od26 an26 od27 an27 od28 an28 : Option Addr} {sl1 sl2 sl3 sl4 sl5 sl6 sl7 sl8 sl9 sl10 sl11 sl12 sl13 sl14 sl15 sl16 sl17 sl18 sl19 sl20 sl21 sl22 sl23 sl24 sl25 sl26 sl27 sl28 : Array (Option Value)} {oc1 kV1 dc1 pm1 ct1 cd1 oc2 kV2 dc2 pm2 ct2 cd2 oc3 kV3 dc3 pm3 ct3 cd3 oc4 kV4 dc4 pm4 ct4 cd4 oc5 kV5 dc5 pm5 ct5 cd5 oc6 kV6 dc6 pm6 ct6 cd6 oc7 kV7 dc7 pm7 ct7 cd7 oc8 kV8 dc8 pm8 ct8 cd8 oc9 kV9 dc9 pm9 ct9 cd9 oc10 kV10 dc10 pm10 ct10 cd10 oc11 kV11 dc11 pm11 ct11 cd11 oc12 kV12 dc12 pm12 ct12 cd12 oc13 kV13 dc13 pm13 ct13 cd13 oc14 kV14 dc14 pm14 ct14 cd14 oc15 kV15 dc15 pm15 ct15 cd15 oc16 kV16 dc16 pm16 ct16 cd16 oc17 kV17 dc17 pm17 ct17 cd17 oc18 kV18 dc18 pm18 ct18 cd18 oc19 kV19 dc19 pm19 ct19 cd19 oc20 kV20 dc20 pm20 ct20 cd20 oc21 kV21 dc21 pm21 ct21 cd21 oc22 kV22 dc22 pm22 ct22 cd22 oc23 kV23 dc23 pm23 ct23 cd23 oc24 kV24 dc24 pm24 ct24 cd24 oc25 kV25 dc25 pm25 ct25 cd25 oc26 kV26 dc26 pm26 ct26 oc27 kV27 dc27 pm27 ct27 cd27 oc28 kV28 dc28 pm28 ct28 cd28 : Value}
    {ca26 : Addr}
    (a1 : PySem.W.nsIn K mainGlobals "is_integer" = some (some (.ref f1))) (l1 : K.lookup f1 = some ⟨oc1, od1, .func (PySem.W.fnOf "is_integer" "is_integer" (defArgs s_is_integer) (defBody s_is_integer) (defScope s_is_integer) .none kV1 dc1 pm1 an1 cd1 ct1), sl1⟩) (c1 : PySem.W.codeIn K cd1 "is_integer" = true) (k1 : PySem.W.keepIn K (.ref f1) = true)
    (a2 : PySem.W.nsIn K mainGlobals "is_between" = some (some (.ref f2))) (l2 : K.lookup f2 = some ⟨oc2, od2, .func (PySem.W.fnOf "is_between" "is_between" (defArgs s_is_between) (defBody s_is_between) (defScope s_is_between) .none kV2 dc2 pm2 an2 cd2 ct2), sl2⟩) (c2 : PySem.W.codeIn K cd2 "is_between" = true) (k2 : PySem.W.keepIn K (.ref f2) = true)
    (a3 : PySem.W.nsIn K mainGlobals "check_number" = some (some (.ref f3))) (l3 : K.lookup f3 = some ⟨oc3, od3, .func (PySem.W.fnOf "check_number" "check_number" (defArgs s_check_number) (defBody s_check_number) (defScope s_check_number) .none kV3 dc3 pm3 an3 cd3 ct3), sl3⟩) (c3 : PySem.W.codeIn K cd3 "check_number" = true) (k3 : PySem.W.keepIn K (.ref f3) = true)
    (a4 : PySem.W.nsIn K mainGlobals "shares_of" = some (some (.ref f4))) (l4 : K.lookup f4 = some ⟨oc4, od4, .func (PySem.W.fnOf "shares_of" "shares_of" (defArgs s_shares_of) (defBody s_shares_of) (defScope s_shares_of) .none kV4 dc4 pm4 an4 cd4 ct4), sl4⟩) (c4 : PySem.W.codeIn K cd4 "shares_of" = true) (k4 : PySem.W.keepIn K (.ref f4) = true)
    (a5 : PySem.W.nsIn K mainGlobals "roots_of" = some (some (.ref f5))) (l5 : K.lookup f5 = some ⟨oc5, od5, .func (PySem.W.fnOf "roots_of" "roots_of" (defArgs s_roots_of) (defBody s_roots_of) (defScope s_roots_of) .none kV5 dc5 pm5 an5 cd5 ct5), sl5⟩) (c5 : PySem.W.codeIn K cd5 "roots_of" = true) (k5 : PySem.W.keepIn K (.ref f5) = true)
    (a6 : PySem.W.nsIn K mainGlobals "count_for" = some (some (.ref f6))) (l6 : K.lookup f6 = some ⟨oc6, od6, .func (PySem.W.fnOf "count_for" "count_for" (defArgs s_count_for) (defBody s_count_for) (defScope s_count_for) .none kV6 dc6 pm6 an6 cd6 ct6), sl6⟩) (c6 : PySem.W.codeIn K cd6 "count_for" = true) (k6 : PySem.W.keepIn K (.ref f6) = true)
    (a7 : PySem.W.nsIn K mainGlobals "how_many" = some (some (.ref f7))) (l7 : K.lookup f7 = some ⟨oc7, od7, .func (PySem.W.fnOf "how_many" "how_many" (defArgs s_how_many) (defBody s_how_many) (defScope s_how_many) .none kV7 dc7 pm7 an7 cd7 ct7), sl7⟩) (c7 : PySem.W.codeIn K cd7 "how_many" = true) (k7 : PySem.W.keepIn K (.ref f7) = true)
    (a8 : PySem.W.nsIn K mainGlobals "how_many_with_sides" = some (some (.ref f8))) (l8 : K.lookup f8 = some ⟨oc8, od8, .func (PySem.W.fnOf "how_many_with_sides" "how_many_with_sides" (defArgs s_how_many_with_sides) (defBody s_how_many_with_sides) (defScope s_how_many_with_sides) .none kV8 dc8 pm8 an8 cd8 ct8), sl8⟩) (c8 : PySem.W.codeIn K cd8 "how_many_with_sides" = true) (k8 : PySem.W.keepIn K (.ref f8) = true)
    (a9 : PySem.W.nsIn K mainGlobals "how_many_own_mirrors" = some (some (.ref f9))) (l9 : K.lookup f9 = some ⟨oc9, od9, .func (PySem.W.fnOf "how_many_own_mirrors" "how_many_own_mirrors" (defArgs s_how_many_own_mirrors) (defBody s_how_many_own_mirrors) (defScope s_how_many_own_mirrors) .none kV9 dc9 pm9 an9 cd9 ct9), sl9⟩) (c9 : PySem.W.codeIn K cd9 "how_many_own_mirrors" = true) (k9 : PySem.W.keepIn K (.ref f9) = true)
    (a10 : PySem.W.nsIn K mainGlobals "how_many_for_loops" = some (some (.ref f10))) (l10 : K.lookup f10 = some ⟨oc10, od10, .func (PySem.W.fnOf "how_many_for_loops" "how_many_for_loops" (defArgs s_how_many_for_loops) (defBody s_how_many_for_loops) (defScope s_how_many_for_loops) .none kV10 dc10 pm10 an10 cd10 ct10), sl10⟩) (c10 : PySem.W.codeIn K cd10 "how_many_for_loops" = true) (k10 : PySem.W.keepIn K (.ref f10) = true)
    (a11 : PySem.W.nsIn K mainGlobals "common" = some (some (.ref f11))) (l11 : K.lookup f11 = some ⟨oc11, od11, .func (PySem.W.fnOf "common" "common" (defArgs s_common) (defBody s_common) (defScope s_common) .none kV11 dc11 pm11 an11 cd11 ct11), sl11⟩) (c11 : PySem.W.codeIn K cd11 "common" = true) (k11 : PySem.W.keepIn K (.ref f11) = true)
    (a12 : PySem.W.nsIn K mainGlobals "primes_to" = some (some (.ref f12))) (l12 : K.lookup f12 = some ⟨oc12, od12, .func (PySem.W.fnOf "primes_to" "primes_to" (defArgs s_primes_to) (defBody s_primes_to) (defScope s_primes_to) .none kV12 dc12 pm12 an12 cd12 ct12), sl12⟩) (c12 : PySem.W.codeIn K cd12 "primes_to" = true) (k12 : PySem.W.keepIn K (.ref f12) = true)
    (a13 : PySem.W.nsIn K mainGlobals "inverse" = some (some (.ref f13))) (l13 : K.lookup f13 = some ⟨oc13, od13, .func (PySem.W.fnOf "inverse" "inverse" (defArgs s_inverse) (defBody s_inverse) (defScope s_inverse) .none kV13 dc13 pm13 an13 cd13 ct13), sl13⟩) (c13 : PySem.W.codeIn K cd13 "inverse" = true) (k13 : PySem.W.keepIn K (.ref f13) = true)
    (a14 : PySem.W.nsIn K mainGlobals "mirrored" = some (some (.ref f14))) (l14 : K.lookup f14 = some ⟨oc14, od14, .func (PySem.W.fnOf "mirrored" "mirrored" (defArgs s_mirrored) (defBody s_mirrored) (defScope s_mirrored) .none kV14 dc14 pm14 an14 cd14 ct14), sl14⟩) (c14 : PySem.W.codeIn K cd14 "mirrored" = true) (k14 : PySem.W.keepIn K (.ref f14) = true)
    (a15 : PySem.W.nsIn K mainGlobals "all_for" = some (some (.ref f15))) (l15 : K.lookup f15 = some ⟨oc15, od15, .func (PySem.W.fnOf "all_for" "all_for" (defArgs s_all_for) (defBody s_all_for) (defScope s_all_for) .none kV15 dc15 pm15 an15 cd15 ct15), sl15⟩) (c15 : PySem.W.codeIn K cd15 "all_for" = true) (k15 : PySem.W.keepIn K (.ref f15) = true)
    (a16 : PySem.W.nsIn K mainGlobals "solids" = some (some (.ref f16))) (l16 : K.lookup f16 = some ⟨oc16, od16, .func (PySem.W.fnOf "solids" "solids" (defArgs s_solids) (defBody s_solids) (defScope s_solids) .none kV16 dc16 pm16 an16 cd16 ct16), sl16⟩) (c16 : PySem.W.codeIn K cd16 "solids" = true) (k16 : PySem.W.keepIn K (.ref f16) = true)
    (a17 : PySem.W.nsIn K mainGlobals "first_with" = some (some (.ref f17))) (l17 : K.lookup f17 = some ⟨oc17, od17, .func (PySem.W.fnOf "first_with" "first_with" (defArgs s_first_with) (defBody s_first_with) (defScope s_first_with) .none kV17 dc17 pm17 an17 cd17 ct17), sl17⟩) (c17 : PySem.W.codeIn K cd17 "first_with" = true) (k17 : PySem.W.keepIn K (.ref f17) = true)
    (a18 : PySem.W.nsIn K mainGlobals "_law_sip" = some (some (.ref f18))) (l18 : K.lookup f18 = some ⟨oc18, od18, .func (PySem.W.fnOf "_law_sip" "_law_sip" (defArgs s__law_sip) (defBody s__law_sip) (defScope s__law_sip) .none kV18 dc18 pm18 an18 cd18 ct18), sl18⟩) (c18 : PySem.W.codeIn K cd18 "_law_sip" = true) (k18 : PySem.W.keepIn K (.ref f18) = true)
    (a19 : PySem.W.nsIn K mainGlobals "_law_pick" = some (some (.ref f19))) (l19 : K.lookup f19 = some ⟨oc19, od19, .func (PySem.W.fnOf "_law_pick" "_law_pick" (defArgs s__law_pick) (defBody s__law_pick) (defScope s__law_pick) .none kV19 dc19 pm19 an19 cd19 ct19), sl19⟩) (c19 : PySem.W.codeIn K cd19 "_law_pick" = true) (k19 : PySem.W.keepIn K (.ref f19) = true)
    (a20 : PySem.W.nsIn K mainGlobals "_law_gcd" = some (some (.ref f20))) (l20 : K.lookup f20 = some ⟨oc20, od20, .func (PySem.W.fnOf "_law_gcd" "_law_gcd" (defArgs s__law_gcd) (defBody s__law_gcd) (defScope s__law_gcd) .none kV20 dc20 pm20 an20 cd20 ct20), sl20⟩) (c20 : PySem.W.codeIn K cd20 "_law_gcd" = true) (k20 : PySem.W.keepIn K (.ref f20) = true)
    (a21 : PySem.W.nsIn K mainGlobals "_law_inverse" = some (some (.ref f21))) (l21 : K.lookup f21 = some ⟨oc21, od21, .func (PySem.W.fnOf "_law_inverse" "_law_inverse" (defArgs s__law_inverse) (defBody s__law_inverse) (defScope s__law_inverse) .none kV21 dc21 pm21 an21 cd21 ct21), sl21⟩) (c21 : PySem.W.codeIn K cd21 "_law_inverse" = true) (k21 : PySem.W.keepIn K (.ref f21) = true)
    (a22 : PySem.W.nsIn K mainGlobals "_law_told" = some (some (.ref f22))) (l22 : K.lookup f22 = some ⟨oc22, od22, .func (PySem.W.fnOf "_law_told" "_law_told" (defArgs s__law_told) (defBody s__law_told) (defScope s__law_told) .none kV22 dc22 pm22 an22 cd22 ct22), sl22⟩) (c22 : PySem.W.codeIn K cd22 "_law_told" = true) (k22 : PySem.W.keepIn K (.ref f22) = true)
    (a23 : PySem.W.nsIn K mainGlobals "_law_sort" = some (some (.ref f23))) (l23 : K.lookup f23 = some ⟨oc23, od23, .func (PySem.W.fnOf "_law_sort" "_law_sort" (defArgs s__law_sort) (defBody s__law_sort) (defScope s__law_sort) .none kV23 dc23 pm23 an23 cd23 ct23), sl23⟩) (c23 : PySem.W.codeIn K cd23 "_law_sort" = true) (k23 : PySem.W.keepIn K (.ref f23) = true)
    (a24 : PySem.W.nsIn K mainGlobals "_law_field" = some (some (.ref f24))) (l24 : K.lookup f24 = some ⟨oc24, od24, .func (PySem.W.fnOf "_law_field" "_law_field" (defArgs s__law_field) (defBody s__law_field) (defScope s__law_field) .none kV24 dc24 pm24 an24 cd24 ct24), sl24⟩) (c24 : PySem.W.codeIn K cd24 "_law_field" = true) (k24 : PySem.W.keepIn K (.ref f24) = true)
    (a25 : PySem.W.nsIn K mainGlobals "_law_error" = some (some (.ref f25))) (l25 : K.lookup f25 = some ⟨oc25, od25, .func (PySem.W.fnOf "_law_error" "_law_error" (defArgs s__law_error) (defBody s__law_error) (defScope s__law_error) .none kV25 dc25 pm25 an25 cd25 ct25), sl25⟩) (c25 : PySem.W.codeIn K cd25 "_law_error" = true) (k25 : PySem.W.keepIn K (.ref f25) = true)
    (a26 : PySem.W.nsIn K mainGlobals "_law_right" = some (some (.ref f26))) (l26 : K.lookup f26 = some ⟨oc26, od26, .func (PySem.W.fnOf "_law_right" "_law_right" (defArgs s__law_right) (defBody s__law_right) (defScope s__law_right) .none kV26 dc26 pm26 an26 (.ref ca26) ct26), sl26⟩) (c26 : PySem.W.codeIn K (.ref ca26) "_law_right" = true) (k26 : PySem.W.keepIn K (.ref f26) = true)
    (a27 : PySem.W.nsIn K mainGlobals "_law_bin" = some (some (.ref f27))) (l27 : K.lookup f27 = some ⟨oc27, od27, .func (PySem.W.fnOf "_law_bin" "_law_bin" (defArgs s__law_bin) (defBody s__law_bin) (defScope s__law_bin) .none kV27 dc27 pm27 an27 cd27 ct27), sl27⟩) (c27 : PySem.W.codeIn K cd27 "_law_bin" = true) (k27 : PySem.W.keepIn K (.ref f27) = true)
    (a28 : PySem.W.nsIn K mainGlobals "law" = some (some (.ref f28))) (l28 : K.lookup f28 = some ⟨oc28, od28, .func (PySem.W.fnOf "law" "law" (defArgs s_law) (defBody s_law) (defScope s_law) .none kV28 dc28 pm28 an28 cd28 ct28), sl28⟩) (c28 : PySem.W.codeIn K cd28 "law" = true) (k28 : PySem.W.keepIn K (.ref f28) = true)
    (z_ArithmeticError : PySem.W.nsIn K mainGlobals "ArithmeticError" = some none)
    (z_LookupError : PySem.W.nsIn K mainGlobals "LookupError" = some none)
    (z_ValueError : PySem.W.nsIn K mainGlobals "ValueError" = some none)
    (z_abs : PySem.W.nsIn K mainGlobals "abs" = some none)
    (z_all : PySem.W.nsIn K mainGlobals "all" = some none)
    (z_bool : PySem.W.nsIn K mainGlobals "bool" = some none)
    (z_dict : PySem.W.nsIn K mainGlobals "dict" = some none)
    (z_int : PySem.W.nsIn K mainGlobals "int" = some none)
    (z_isinstance : PySem.W.nsIn K mainGlobals "isinstance" = some none)
    (z_len : PySem.W.nsIn K mainGlobals "len" = some none)
    (z_max : PySem.W.nsIn K mainGlobals "max" = some none)
    (z_min : PySem.W.nsIn K mainGlobals "min" = some none)
    (z_range : PySem.W.nsIn K mainGlobals "range" = some none)
    (z_repr : PySem.W.nsIn K mainGlobals "repr" = some none)
    (z_sorted : PySem.W.nsIn K mainGlobals "sorted" = some none)
    (z_tuple : PySem.W.nsIn K mainGlobals "tuple" = some none)
    (y_MOST_LISTED : ∃ t : Tok, mg "MOST_LISTED" = some (.int 500 t))
    (y_MOST_LOOPS : ∃ t : Tok, mg "MOST_LOOPS" = some (.int 1000000 t))
    {C_Broken C_InvalidIndex C_InvalidNumber C_InvalidPair C_InvalidString C_InvalidText C_NoMove C_NotKnown C_NotLed C_NotPossible C_NotRight C_TooGreat C_first_with C_how_many C_how_many_for_loops C_how_many_own_mirrors C_how_many_with_sides C_solids : Addr}
    (q_Broken : PySem.W.nsIn K mainGlobals "Broken" = some (some (.ref C_Broken)))
    (q_InvalidIndex : PySem.W.nsIn K mainGlobals "InvalidIndex" = some (some (.ref C_InvalidIndex)))
    (q_InvalidNumber : PySem.W.nsIn K mainGlobals "InvalidNumber" = some (some (.ref C_InvalidNumber)))
    (q_InvalidPair : PySem.W.nsIn K mainGlobals "InvalidPair" = some (some (.ref C_InvalidPair)))
    (q_InvalidString : PySem.W.nsIn K mainGlobals "InvalidString" = some (some (.ref C_InvalidString)))
    (q_InvalidText : PySem.W.nsIn K mainGlobals "InvalidText" = some (some (.ref C_InvalidText)))
    (q_NoMove : PySem.W.nsIn K mainGlobals "NoMove" = some (some (.ref C_NoMove)))
    (q_NotKnown : PySem.W.nsIn K mainGlobals "NotKnown" = some (some (.ref C_NotKnown)))
    (q_NotLed : PySem.W.nsIn K mainGlobals "NotLed" = some (some (.ref C_NotLed)))
    (q_NotPossible : PySem.W.nsIn K mainGlobals "NotPossible" = some (some (.ref C_NotPossible)))
    (q_NotRight : PySem.W.nsIn K mainGlobals "NotRight" = some (some (.ref C_NotRight)))
    (q_TooGreat : PySem.W.nsIn K mainGlobals "TooGreat" = some (some (.ref C_TooGreat)))
    (q_first_with : PySem.W.nsIn K mainGlobals "first_with" = some (some (.ref C_first_with)))
    (q_how_many : PySem.W.nsIn K mainGlobals "how_many" = some (some (.ref C_how_many)))
    (q_how_many_for_loops : PySem.W.nsIn K mainGlobals "how_many_for_loops" = some (some (.ref C_how_many_for_loops)))
    (q_how_many_own_mirrors : PySem.W.nsIn K mainGlobals "how_many_own_mirrors" = some (some (.ref C_how_many_own_mirrors)))
    (q_how_many_with_sides : PySem.W.nsIn K mainGlobals "how_many_with_sides" = some (some (.ref C_how_many_with_sides)))
    (q_solids : PySem.W.nsIn K mainGlobals "solids" = some (some (.ref C_solids)))
    {I_InvalidNumber : Addr} {io_InvalidNumber it_InvalidNumber : Value} {id_InvalidNumber ia_InvalidNumber : Option Addr} {ix_InvalidNumber ip_InvalidNumber ic_InvalidNumber : Value} {is_InvalidNumber : Array (Option Value)} {p0_InvalidNumber p1_InvalidNumber g0_InvalidNumber g1_InvalidNumber g2_InvalidNumber g3_InvalidNumber : Pos}
    (i_InvalidNumber : PySem.W.findIn K (.ref C_InvalidNumber) "__init__" = some (some (.ref I_InvalidNumber))) (il_InvalidNumber : K.lookup I_InvalidNumber = some ⟨io_InvalidNumber, id_InvalidNumber, .func (PySem.W.fnOf "__init__" "InvalidNumber.__init__" (iA1 "given" p0_InvalidNumber p1_InvalidNumber) (iB1 "given" g0_InvalidNumber g1_InvalidNumber g2_InvalidNumber g3_InvalidNumber) (iS1 "given") .none .none ix_InvalidNumber ip_InvalidNumber ia_InvalidNumber ic_InvalidNumber it_InvalidNumber), is_InvalidNumber⟩) (ik_InvalidNumber : PySem.W.codeIn K ic_InvalidNumber "InvalidNumber.__init__" = true)
    (ib_InvalidNumber : excB K C_InvalidNumber I_InvalidNumber "ValueError.__new__" [.type "ValueError", .type "Exception", .type "BaseException", .type "object"] ["given"] = true)
    (hfe : fe = feOf [(tabOf K ca26, ("_law_right" : Str) ++ ".<locals>." ++ "<lambda>")] [("Broken", C_Broken), ("InvalidIndex", C_InvalidIndex), ("InvalidNumber", C_InvalidNumber), ("InvalidPair", C_InvalidPair), ("InvalidString", C_InvalidString), ("InvalidText", C_InvalidText), ("NoMove", C_NoMove), ("NotKnown", C_NotKnown), ("NotLed", C_NotLed), ("NotPossible", C_NotPossible), ("NotRight", C_NotRight), ("TooGreat", C_TooGreat), ("first_with", C_first_with), ("how_many", C_how_many), ("how_many_for_loops", C_how_many_for_loops), ("how_many_own_mirrors", C_how_many_own_mirrors), ("how_many_with_sides", C_how_many_with_sides), ("solids", C_solids)])
    (hneq : (List.Nodup [C_first_with, C_how_many, C_how_many_for_loops, C_how_many_own_mirrors, C_how_many_with_sides, C_solids] : Prop))
    (hct : (ctab.all fun p => clsB K (FE.cl p.1) p.2.2 (tests.map fun m => (cval bltc m, p.2.1.contains m))) = true) (hca : (ctab.all fun p => csn.all fun m => PySem.W.exmOne K (.ref (FE.cl p.1)) (.ref (FE.cl m)) == some (p.2.1.contains m)) = true)
    {ts : List Addr} (hts : ∀ P ∈ ts, h.get? P = some (PySem.W.tabObj #[])) (hcb : ([ca26].all fun c => codB K ts c) = true) (hun : uniqT [(tabOf K ca26, ("_law_right" : Str) ++ ".<locals>." ++ "<lambda>")] = true)
    : LawG l w K 8 63 "_law_script" mg fa h (trueG 63) := by
  have e := hfa.symm.trans (PySem.W.mg_of X G a28)
  cases e
  have cz_Broken : FE.cl "Broken" = C_Broken := by rw [hfe]; kernel_rfl
  have cz_InvalidIndex : FE.cl "InvalidIndex" = C_InvalidIndex := by rw [hfe]; kernel_rfl
  have cz_InvalidNumber : FE.cl "InvalidNumber" = C_InvalidNumber := by rw [hfe]; kernel_rfl
  have cz_InvalidPair : FE.cl "InvalidPair" = C_InvalidPair := by rw [hfe]; kernel_rfl
  have cz_InvalidString : FE.cl "InvalidString" = C_InvalidString := by rw [hfe]; kernel_rfl
  have cz_InvalidText : FE.cl "InvalidText" = C_InvalidText := by rw [hfe]; kernel_rfl
  have cz_NoMove : FE.cl "NoMove" = C_NoMove := by rw [hfe]; kernel_rfl
  have cz_NotKnown : FE.cl "NotKnown" = C_NotKnown := by rw [hfe]; kernel_rfl
  have cz_NotLed : FE.cl "NotLed" = C_NotLed := by rw [hfe]; kernel_rfl
  have cz_NotPossible : FE.cl "NotPossible" = C_NotPossible := by rw [hfe]; kernel_rfl
  have cz_NotRight : FE.cl "NotRight" = C_NotRight := by rw [hfe]; kernel_rfl
  have cz_TooGreat : FE.cl "TooGreat" = C_TooGreat := by rw [hfe]; kernel_rfl
  have cz_first_with : FE.cl "first_with" = C_first_with := by rw [hfe]; kernel_rfl
  have cz_how_many : FE.cl "how_many" = C_how_many := by rw [hfe]; kernel_rfl
  have cz_how_many_for_loops : FE.cl "how_many_for_loops" = C_how_many_for_loops := by rw [hfe]; kernel_rfl
  have cz_how_many_own_mirrors : FE.cl "how_many_own_mirrors" = C_how_many_own_mirrors := by rw [hfe]; kernel_rfl
  have cz_how_many_with_sides : FE.cl "how_many_with_sides" = C_how_many_with_sides := by rw [hfe]; kernel_rfl
  have cz_solids : FE.cl "solids" = C_solids := by rw [hfe]; kernel_rfl
  have T : Txt K mg := ⟨(by rw [cz_Broken]; exact PySem.W.mg_of X G q_Broken), (by rw [cz_InvalidIndex]; exact PySem.W.mg_of X G q_InvalidIndex), (by rw [cz_InvalidNumber]; exact PySem.W.mg_of X G q_InvalidNumber), (by rw [cz_InvalidPair]; exact PySem.W.mg_of X G q_InvalidPair), (by rw [cz_InvalidString]; exact PySem.W.mg_of X G q_InvalidString), (by rw [cz_InvalidText]; exact PySem.W.mg_of X G q_InvalidText), (by rw [cz_NoMove]; exact PySem.W.mg_of X G q_NoMove), (by rw [cz_NotKnown]; exact PySem.W.mg_of X G q_NotKnown), (by rw [cz_NotLed]; exact PySem.W.mg_of X G q_NotLed), (by rw [cz_NotPossible]; exact PySem.W.mg_of X G q_NotPossible), (by rw [cz_NotRight]; exact PySem.W.mg_of X G q_NotRight), (by rw [cz_TooGreat]; exact PySem.W.mg_of X G q_TooGreat), (by rw [cz_first_with]; exact PySem.W.mg_of X G q_first_with), (by rw [cz_how_many]; exact PySem.W.mg_of X G q_how_many), (by rw [cz_how_many_for_loops]; exact PySem.W.mg_of X G q_how_many_for_loops), (by rw [cz_how_many_own_mirrors]; exact PySem.W.mg_of X G q_how_many_own_mirrors), (by rw [cz_how_many_with_sides]; exact PySem.W.mg_of X G q_how_many_with_sides), (by rw [cz_solids]; exact PySem.W.mg_of X G q_solids), (by rw [cz_InvalidNumber]; exact ⟨I_InvalidNumber, excB_ok ib_InvalidNumber, ini_one tlV (excB_ok ib_InvalidNumber) il_InvalidNumber ik_InvalidNumber (fun _ _ => rfl) (by decide) (by decide)⟩), clsT_of hct, cauT_of hca, PySem.W.mg_none_of X G z_ArithmeticError, PySem.W.mg_none_of X G z_LookupError, PySem.W.mg_none_of X G z_ValueError, PySem.W.mg_none_of X G z_abs, PySem.W.mg_none_of X G z_all, PySem.W.mg_none_of X G z_bool, PySem.W.mg_none_of X G z_dict, PySem.W.mg_none_of X G z_int, PySem.W.mg_none_of X G z_isinstance, PySem.W.mg_none_of X G z_len, PySem.W.mg_none_of X G z_max, PySem.W.mg_none_of X G z_min, PySem.W.mg_none_of X G z_range, PySem.W.mg_none_of X G z_repr, PySem.W.mg_none_of X G z_sorted, PySem.W.mg_none_of X G z_tuple, y_MOST_LISTED, y_MOST_LOOPS⟩
  have F1 := fun_mk (st := s_is_integer) l1 c1 k1
  have F2 := fun_mk (st := s_is_between) l2 c2 k2
  have F3 := fun_mk (st := s_check_number) l3 c3 k3
  have F4 := fun_mk (st := s_shares_of) l4 c4 k4
  have F5 := fun_mk (st := s_roots_of) l5 c5 k5
  have F6 := fun_mk (st := s_count_for) l6 c6 k6
  have F7 := fun_mk (st := s_how_many) l7 c7 k7
  have F8 := fun_mk (st := s_how_many_with_sides) l8 c8 k8
  have F9 := fun_mk (st := s_how_many_own_mirrors) l9 c9 k9
  have F10 := fun_mk (st := s_how_many_for_loops) l10 c10 k10
  have F11 := fun_mk (st := s_common) l11 c11 k11
  have F12 := fun_mk (st := s_primes_to) l12 c12 k12
  have F13 := fun_mk (st := s_inverse) l13 c13 k13
  have F14 := fun_mk (st := s_mirrored) l14 c14 k14
  have F15 := fun_mk (st := s_all_for) l15 c15 k15
  have F16 := fun_mk (st := s_solids) l16 c16 k16
  have F17 := fun_mk (st := s_first_with) l17 c17 k17
  have F18 := fun_mk (st := s__law_sip) l18 c18 k18
  have F19 := fun_mk (st := s__law_pick) l19 c19 k19
  have F20 := fun_mk (st := s__law_gcd) l20 c20 k20
  have F21 := fun_mk (st := s__law_inverse) l21 c21 k21
  have F22 := fun_mk (st := s__law_told) l22 c22 k22
  have F23 := fun_mk (st := s__law_sort) l23 c23 k23
  have F24 := fun_mk (st := s__law_field) l24 c24 k24
  have F25 := fun_mk (st := s__law_error) l25 c25 k25
  have F26 := fun_mk (st := s__law_right) l26 c26 k26
  have F27 := fun_mk (st := s__law_bin) l27 c27 k27
  have F28 := fun_mk (st := s_law) l28 c28 k28
  have hCo := codesT X hts hcb
  have hT0 : FE.tabs = [(tabOf K ca26, ("_law_right" : Str) ++ ".<locals>." ++ "<lambda>")] := by rw [hfe]; rfl
  refine ⟨fe, PySem.W.fnOf "law" "law" (defArgs s_law) (defBody s_law) (defScope s_law) .none kV28 dc28 pm28 an28 cd28 ct28, [ca26].map fun c => (c, tabOf K c), hCo, ?_, ?_, ?_, fun ns hl _ => trueG_eq hl⟩
  · intro p hp
    rw [hT0] at hp
    simp only [List.mem_cons, List.not_mem_nil, or_false] at hp
    rw [List.map_map]
    subst hp
    exact List.mem_map.mpr ⟨_, List.mem_cons_self, rfl⟩
  · exact fun s v => .of_eq rfl
  · intro base _ _ hTB
    have D1 := ok_is_integer (P := l.prog) (w := w) (base := base) T F1 (PySem.W.mg_of X G a1) 
    have D2 := ok_is_between (P := l.prog) (w := w) (base := base) T F2 (PySem.W.mg_of X G a2) D1
    have D3 := ok_check_number (P := l.prog) (w := w) (base := base) T F3 (PySem.W.mg_of X G a3) D2
    have D4 := ok_shares_of (P := l.prog) (w := w) (base := base) T F4 (PySem.W.mg_of X G a4) 
    have D5 := ok_roots_of (P := l.prog) (w := w) (base := base) T F5 (PySem.W.mg_of X G a5) 
    have D6 := ok_count_for (P := l.prog) (w := w) (base := base) T F6 (PySem.W.mg_of X G a6) D4 D5
    have D7 := ok_how_many (P := l.prog) (w := w) (base := base) T F7 (PySem.W.mg_of X G a7) D3 D6
    have D8 := ok_how_many_with_sides (P := l.prog) (w := w) (base := base) T F8 (PySem.W.mg_of X G a8) D3 D4 D5
    have D9 := ok_how_many_own_mirrors (P := l.prog) (w := w) (base := base) T F9 (PySem.W.mg_of X G a9) D3 D5
    have D10 := ok_how_many_for_loops (P := l.prog) (w := w) (base := base) T F10 (PySem.W.mg_of X G a10) D3 D5
    have D11 := ok_common (P := l.prog) (w := w) (base := base) T F11 (PySem.W.mg_of X G a11) 
    have D12 := ok_primes_to (P := l.prog) (w := w) (base := base) T F12 (PySem.W.mg_of X G a12) D11
    have D13 := ok_inverse (P := l.prog) (w := w) (base := base) T F13 (PySem.W.mg_of X G a13) 
    have D14 := ok_mirrored (P := l.prog) (w := w) (base := base) T F14 (PySem.W.mg_of X G a14) 
    have D15 := ok_all_for (P := l.prog) (w := w) (base := base) T F15 (PySem.W.mg_of X G a15) D13 D14
    have D16 := ok_solids (P := l.prog) (w := w) (base := base) T F16 (PySem.W.mg_of X G a16) D3 D12 D15
    have D17 := ok_first_with (P := l.prog) (w := w) (base := base) T F17 (PySem.W.mg_of X G a17) D3 D6
    have D18 := ok__law_sip (P := l.prog) (w := w) (base := base) T F18 (PySem.W.mg_of X G a18) 
    have D19 := ok__law_pick (P := l.prog) (w := w) (base := base) T F19 (PySem.W.mg_of X G a19) D18
    have D20 := ok__law_gcd (P := l.prog) (w := w) (base := base) T F20 (PySem.W.mg_of X G a20) 
    have D21 := ok__law_inverse (P := l.prog) (w := w) (base := base) T F21 (PySem.W.mg_of X G a21) 
    have D22 := ok__law_told (P := l.prog) (w := w) (base := base) T F22 (PySem.W.mg_of X G a22) D20 D21
    have D23 := ok__law_sort (P := l.prog) (w := w) (base := base) T F23 (PySem.W.mg_of X G a23) 
    have D24 := ok__law_field (P := l.prog) (w := w) (base := base) T F24 (PySem.W.mg_of X G a24) 
    have Q__law_error := got__law_error (P := l.prog) (w := w) (base := base) T F25 (PySem.W.mg_of X G a25) D24 D23
    have D26 := ok__law_right (P := l.prog) (w := w) (base := base) T F26 (PySem.W.mg_of X G a26) l26 c26 (hTB (ca26, tabOf K ca26) (List.mem_map.mpr ⟨ca26, List.mem_cons_self, rfl⟩)) (by rw [hT0]; exact List.mem_cons_self) (fun p hp e => uniqT_ok (l := FE.tabs) (by rw [hT0]; exact hun) p hp _ (by rw [hT0]; exact List.mem_cons_self) e) D18 D19 D22 D9 D10 D8 D7 D16 D17 Q__law_error
    have D27 := ok__law_bin (P := l.prog) (w := w) (base := base) T F27 (PySem.W.mg_of X G a27) 
    exact fn_trueG (hq (by rw [cz_first_with, cz_how_many, cz_how_many_for_loops, cz_how_many_own_mirrors, cz_how_many_with_sides, cz_solids]; exact hneq)) (fn_law T F28 D10 D8 D7 D9 D17 D16 D26 D27)
end Wk
namespace Wk
section
open PySem PySem.Spec PyProof.Rows L2 FL
variable [FE]
local macro_rules | `(tactic| simp_arith only [$xs,*]) => `(tactic| simp only [seqS_eq, nxS, bkS, ctS, nxt_nx, nxt_rt, nxt_bk, nxt_ct, ifS_eq, ifE_eq, brR_t, brR_f, brR_dec, anT_eq, orT_eq, anE_eq, orE_eq, tst_eq, isB_bl, ↓R.bind_bd, R.bd_ok, R.of_some, noT, blE, vr, cst, op1, op2, setS, setR, nxO, asgS, tupG, cnsG, nilG, nmG, subGO, subG, subS, getM, ixM, putO, cnsA, nilA, dTup, dLst, frz, retS, retM, setM, exS, mutS, appO, opC, callE, callM, callG_eq, cnsB, nilB, slB, kwB, ioM, toArgs, okA, slsA, nodN, argG_some, goG_ok, asE, asM, putA, newM, putM, parS, par3S, frzS, frzAt, bindO, endR_rt, endR_nx, endG, FL.collect, bodyG_eq, rho0, toS, wipeR, FL.pick, tru, truD, chn, lenM, slM, slF, noO, smO, catO, catM, litM, isiD, typD, isTy, R.bd_exc, cauE_eq, goG_exc, endR_exc, List.getElem?_cons_zero, List.getElem?_cons_succ, List.getElem?_nil, List.set_cons_zero, List.set_cons_succ, List.set_nil, List.length_cons, List.length_nil, List.mapIdx_cons, List.mapIdx_nil, List.map_cons, List.map_nil, List.replicate_succ, List.replicate_zero, List.cons_append, List.nil_append, List.append_nil, List.foldl_cons, List.foldl_nil, List.filterMap_cons, List.filterMap_nil, Option.map_some, Option.map_none, Option.bind_some, Option.bind_none, Bool.not_true, Bool.not_false, Bool.and_true, Bool.true_and, Bool.or_true, Bool.and_self, if_true, if_false, eqA_int, neA_int, eqA_str, neA_str, ltD_int, leD_int, gtD_int, geD_int, addD_int, subD_int, negD_int, absC_int, intC_int, maxC_int, minC_int, lenC_lst, lenC_tup, lenC_scr, Int.cast_ofNat_Int, Int.natCast_zero, Int.natCast_one, ↓reduceIte, Nat.reduceAdd, Nat.reduceSub, Nat.reduceMul, Nat.reduceLT, Nat.reduceLeDiff, Nat.reduceBEq, Nat.reduceBneDiff, Nat.reduceEqDiff, Nat.reducePow, Int.reduceLT, Int.reduceLE, Int.reduceEq, Int.reduceNe, Int.reduceAdd, Int.reduceSub, Int.reduceMul, Int.reduceNeg, Int.reducePow, Int.reduceToNat, decide_true, decide_false, decide_eq_true_eq, Bool.false_eq_true, List.contains_nil, List.contains_cons, Bool.or_false, Bool.or_self, eq_self, and_self, and_true, true_and, dputU, sortU, newU, FL.setMs, FL.seqT, FL.callB_eq, FL.bodyB_eq, FL.rhoB, FL.toSB, FL.objL, FL.lnkR, FL.lkB, FL.lnkC, FL.isIo, FL.lkAll, FL.joinTE, FL.bn_1, FL.bn_2, FL.bn_3, FL.bn_4, FL.bn_5, FL.bn_6, FL.bn_7, FL.bn_8, $xs,*])
theorem cmpM_of {ks : List Nat} {it : IF} {g : GF} {t : TF} {f : EF} {ρ ρ0 ρ1 ρ2 : Rho} {ds ys : List D} (h1 : it ρ = .ok ds ρ0) (h2 : cmpL ks g t f [] ds (wipeR ks ρ0) = .ok (.lst ys) ρ1) (h3 : resR ks ρ0 ρ1 = some ρ2) : cmpM ks it g t f ρ = .ok (.lst ys) ρ2 := by
  show (it ρ).bind _ = _
  rw [h1]
  show (cmpL ks g t f [] ds (wipeR ks ρ0)).bind _ = _
  rw [h2]
  show bindO (resR ks ρ0 ρ1) _ = _
  rw [h3]
  rfl
theorem rng1_ok {g : Rho → R (List D)} {ρ ρ' : Rho} {n : Int} (h : g ρ = .ok [.int n] ρ') (hr : rgOk n = true) : rng1 g ρ = .ok (rangeL 0 n.toNat) ρ' := by
  unfold rng1
  rw [h, R.ok_bind]
  show R.of (if rgOk n = true then some (rangeL 0 n.toNat) else none) ρ' = _
  rw [if_pos hr]
  rfl
theorem rng2_ok {g : Rho → R (List D)} {ρ ρ' : Rho} {m n : Int} (h : g ρ = .ok [.int m, .int n] ρ') (hm : rgOk m = true) (hn : rgOk n = true) : rng2 g ρ = .ok (rangeL m (n - m).toNat) ρ' := by
  unfold rng2
  rw [h, R.ok_bind]
  show R.of (if rgOk m = true ∧ rgOk n = true then some (rangeL m (n - m).toNat) else none) ρ' = _
  rw [if_pos ⟨hm, hn⟩]
  rfl

def isInt : D → Bool
  | .int _ => true
  | _ => false
theorem isInt_of {d : D} (h : isInt d = true) : ∃ i, d = .int i := by
  cases d <;> first | exact ⟨_, rfl⟩ | cases h
theorem is_integer_ok {d : D} (h : (typD d).isSome = true) : G_is_integer [.val d] = .ok (.v (.bl (isInt d))) [] := by
  cases d <;> first | (cases h; done) | (simp_arith only [G_is_integer, g_is_integer, isInt])
theorem is_integer_int (i : Int) : G_is_integer [.val (.int i)] = .ok (.v (.bl true)) [] := is_integer_ok rfl

theorem is_between_int (i l m : Int) : G_is_between [.val (.int i), .val (.int l), .val (.int m)] = .ok (.v (.bl (decide (l ≤ i) && decide (i ≤ m)))) [] := by
  by_cases h : l ≤ i
  · simp_arith only [G_is_between, g_is_between, is_integer_int, h]
  · simp_arith only [G_is_between, g_is_between, is_integer_int, h, Bool.false_and]
theorem is_between_no {d : D} {l m : D} (h : (typD d).isSome = true) (hi : isInt d = false) : G_is_between [.val d, .val l, .val m] = .ok (.v (.bl false)) [] := by
  simp_arith only [G_is_between, g_is_between, is_integer_ok h, hi]

/-- a whole number from l to m -/
def betw (d : D) (l m : Int) : Bool := match d with
  | .int i => decide (l ≤ i) && decide (i ≤ m)
  | _ => false
theorem is_between_ok {d : D} (l m : Int) (h : (typD d).isSome = true) : G_is_between [.val d, .val (.int l), .val (.int m)] = .ok (.v (.bl (betw d l m))) [] := by
  cases hi : isInt d with
  | true =>
    obtain ⟨i, rfl⟩ := isInt_of hi
    exact is_between_int i l m
  | false =>
    rw [is_between_no h hi]
    cases d <;> first | rfl | cases hi
theorem check_number_ok {l m : Int} {i : D} (h : (typD i).isSome = true) (hf : betw i l m = true) : G_check_number [.val i, .val (.int l), .val (.int m)] = .ok (.v .non) [] := by
  have e := is_between_ok l m h
  simp_arith only [G_check_number, g_check_number, e, hf]

theorem check_number_no {l m : Int} {i : D} (h : (typD i).isSome = true) (hf : betw i l m = false) : G_check_number [.val i, .val (.int l), .val (.int m)] = .exc "InvalidNumber" [("given", i)] [] := by
  have e := is_between_ok l m h
  simp_arith only [G_check_number, g_check_number, e, hf, raiS, List.zip_cons_cons, List.zip_nil_left]

theorem common_wh : ∀ (n : Nat) (a b : Int), 0 ≤ a → 0 ≤ b → b < n → ∃ m, whN [] (tst (op2 gtD (vr 1) (cst (.int 0)))) b_common_1 m [.val (.int a), .val (.int b)] = .ok .nx [.val (.int (Int.gcd a b)), .val (.int 0)]
  | 0, a, b, h0, h1, h => by omega
  | n + 1, a, b, h0, h1, h => by
    by_cases hb : 0 < b
    · obtain ⟨m, e⟩ := common_wh n b (a % b) h1 (Int.emod_nonneg _ (by omega)) (by have := Int.emod_lt_of_pos a hb; omega)
      have g : Int.gcd b (a % b) = Int.gcd a b := by rw [Int.emod_def, Int.gcd_sub_mul_left_right, Int.gcd_comm]
      rw [g] at e
      have eb : b_common_1 [.val (.int a), .val (.int b)] = .ok .nx [.val (.int b), .val (.int (a % b))] := by simp_arith only [b_common_1, modD_pos hb]
      exact ⟨m + 1, by simp_arith only [whN, hb, eb, e]⟩
    · have : b = 0 := by omega
      subst this
      refine ⟨1, ?_⟩
      have g : ((Int.gcd a 0 : Nat) : Int) = a := by rw [Int.gcd_zero_right]; omega
      rw [g]
      simp_arith only [whN]
theorem common_ok {a b : Int} (h0 : 0 ≤ a) (h1 : 0 ≤ b) : G_common [.val (.int a), .val (.int b)] = .ok (.v (.int (Int.gcd a b))) [] := by
  obtain ⟨m, e⟩ := common_wh (b.toNat + 1) a b h0 h1 (by omega)
  have w := whS_eq (ks := []) (t := (tst (op2 gtD (vr 1) (cst (.int 0))))) (b := b_common_1) (n := m) (ρ := [.val (.int a), .val (.int b)]) (by rw [e]; rfl)
  rw [e] at w
  simp_arith only [G_common, g_common, w]

theorem mulD_g {a b : Int} (h : a.natAbs.log2 + b.natAbs.log2 < 1000000) : mulD (.int a) (.int b) = some (.int (a * b)) := by
  refine if_pos ?_
  unfold mulOk
  rw [decide_eq_true h, Bool.or_true]
theorem log2_le_of {n k : Nat} (h : n < 2 ^ (k + 1)) : n.log2 ≤ k := by
  by_cases z : n = 0
  · rw [z]
    exact Nat.zero_le _
  · have := (Nat.log2_lt z).mpr h
    omega
theorem fdivD_g {a b : Int} (h0 : 0 < b) (h : b.natAbs.log2 < 9000) : fdivD (.int a) (.int b) = some (.int (a / b)) := by
  have e : a.fdiv b = a / b := Int.fdiv_eq_ediv_of_nonneg a (Int.le_of_lt h0)
  rw [← e]
  exact if_pos (.inr ⟨by omega, h⟩)
theorem inverse_wh (n w : Int) (hw : w.natAbs < 2 ^ 8000) : ∀ (m : Nat) (one other a b s : Int) (c6 : Slot), 0 < one → 0 ≤ other → other < m → one ≤ w → other ≤ w → 0 ≤ a → 0 ≤ b → (s = 1 ∨ s = -1) → one * b + other * a = w → (∃ k, -s * a * n = one + w * k) → (∃ k, s * b * n = other + w * k) →
    ∃ (fuel : Nat) (g pt : Int) (c6' : Slot), whN [] (tst (op2 gtD (vr 3) (cst (.int 0)))) b_inverse_1 fuel [.val (.int n), .val (.int w), .val (.int one), .val (.int other), .val (.int (-s * a)), .val (.int (s * b)), c6] = .ok .nx [.val (.int n), .val (.int w), .val (.int (Int.gcd one other)), .val (.int 0), .val (.int g), .val (.int pt), c6'] ∧ ∃ k, g * n = (Int.gcd one other : Int) + w * k
  | 0, one, other, a, b, s, c6, _, h1, h2, _, _, _, _, _, _, _, _ => by omega
  | m + 1, one, other, a, b, s, c6, h0, h1, h2, h3, h3', ha, hb, hs, hd, hk1, hk2 => by
    by_cases ho : 0 < other
    · have lw : ∀ x : Int, x.natAbs ≤ w.natAbs → x.natAbs.log2 ≤ 7999 := fun x x1 => log2_le_of (Nat.lt_of_le_of_lt x1 hw)
      have bw : b ≤ w := by
        have h5 : 1 * b ≤ one * b := Int.mul_le_mul_of_nonneg_right (by omega) hb
        have h6 : 0 ≤ other * a := Int.mul_nonneg h1 ha
        omega
      have t0 : 0 ≤ one / other := Int.ediv_nonneg (by omega) (by omega)
      have t1 : one / other ≤ one := Int.ediv_le_self _ (by omega)
      have em : one - one / other * other = one % other := by rw [Int.emod_def, Int.mul_comm]
      have r0 := Int.emod_nonneg one (show other ≠ 0 by omega)
      have r1 := Int.emod_lt_of_pos one ho
      have f1 : fdivD (.int one) (.int other) = some (.int (one / other)) := fdivD_g ho (by have := lw other (by omega); omega)
      have sb : (s * b).natAbs ≤ w.natAbs := by rcases hs with rfl | rfl <;> omega
      have m1 : mulD (.int (one / other)) (.int other) = some (.int (one / other * other)) := mulD_g (by have := lw other (by omega); have := lw (one / other) (by omega); omega)
      have m2 : mulD (.int (one / other)) (.int (s * b)) = some (.int (one / other * (s * b))) := mulD_g (by have := lw (s * b) sb; have := lw (one / other) (by omega); omega)
      have e5 : -s * a - one / other * (s * b) = -s * (a + one / other * b) := by
        generalize one / other = t
        grind
      obtain ⟨k1, hk1⟩ := hk1
      obtain ⟨k2, hk2⟩ := hk2
      obtain ⟨fuel, g, pt, c6', e, hg⟩ := inverse_wh n w hw m other (one % other) b (a + one / other * b) (-s) (.val (.int (one / other))) ho r0 (by omega) h3' (by omega) hb (by have := Int.mul_nonneg t0 hb; omega) (by rcases hs with rfl | rfl <;> simp) (by
          rw [← em, ← hd]
          generalize one / other = t
          grind) ⟨k2, by rw [Int.neg_neg]; exact hk2⟩ ⟨k1 - one / other * k2, by
          rw [← em]
          generalize one / other = t
          have e1 : -s * (a + t * b) * n = -s * a * n - t * (s * b * n) := by grind
          rw [e1, hk1, hk2]
          grind⟩
      have gg : Int.gcd other (one % other) = Int.gcd one other := by rw [Int.emod_def, Int.gcd_sub_mul_left_right, Int.gcd_comm]
      rw [gg, Int.neg_neg] at e
      rw [gg] at hg
      refine ⟨fuel + 1, g, pt, c6', ?_, hg⟩
      have eb : b_inverse_1 [.val (.int n), .val (.int w), .val (.int one), .val (.int other), .val (.int (-s * a)), .val (.int (s * b)), c6] = .ok .nx [.val (.int n), .val (.int w), .val (.int other), .val (.int (one % other)), .val (.int (s * b)), .val (.int (-s * (a + one / other * b))), .val (.int (one / other))] := by
        simp_arith only [b_inverse_1, f1, m1, m2, em, e5]
      simp_arith only [whN, ho, eb, e]
    · have : other = 0 := by omega
      subst this
      have gz : ((Int.gcd one 0 : Nat) : Int) = one := by rw [Int.gcd_zero_right]; omega
      refine ⟨1, -s * a, s * b, c6, ?_, ?_⟩
      · rw [gz]
        simp_arith only [whN]
      · rw [gz]
        exact hk1
/-- the inverse of a number -/
theorem inverse_ok {n w : Int} (hw : 2 ≤ w) (hw2 : w.natAbs < 2 ^ 8000) (hg : Int.gcd w n = 1) : ∃ x, G_inverse [.val (.int n), .val (.int w)] = .ok (.v (.int x)) [] ∧ 0 ≤ x ∧ x < w ∧ n * x % w = 1 := by
  have s2 : small 2 = true := rfl
  have fm : ∀ x : Int, modD (.int x) (.int w) = some (.int (x % w)) := fun x => modD_pos (by omega)
  have r0 := Int.emod_nonneg n (show w ≠ 0 by omega)
  have r1 := Int.emod_lt_of_pos n (show 0 < w by omega)
  obtain ⟨fuel, g, pt, c6', e, k, hk⟩ := inverse_wh n w hw2 ((n % w).toNat + 1) w (n % w) 0 1 1 .no (by omega) r0 (by omega) (Int.le_refl _) (by omega) (by decide) (by decide) (.inl rfl) (by rw [Int.mul_one, Int.mul_zero, Int.add_zero]) ⟨-1, by rw [Int.mul_zero, Int.zero_mul]; omega⟩ ⟨n / w, by rw [Int.one_mul, Int.one_mul]; exact (Int.emod_add_mul_ediv n w).symm⟩
  have gg : Int.gcd w (n % w) = 1 := by
    rw [Int.emod_def, Int.gcd_sub_mul_left_right]
    exact hg
  rw [gg] at e hk
  have e : whN [] (tst (op2 gtD (vr 3) (cst (.int 0)))) b_inverse_1 fuel [.val (.int n), .val (.int w), .val (.int w), .val (.int (n % w)), .val (.int 0), .val (.int 1), .no] = .ok .nx [.val (.int n), .val (.int w), .val (.int 1), .val (.int 0), .val (.int g), .val (.int pt), c6'] := e
  have wl := whS_eq (ks := []) (t := (tst (op2 gtD (vr 3) (cst (.int 0))))) (b := b_inverse_1) (n := fuel) (ρ := [.val (.int n), .val (.int w), .val (.int w), .val (.int (n % w)), .val (.int 0), .val (.int 1), .no]) (by rw [e]; rfl)
  rw [e] at wl
  refine ⟨g % w, ?_, Int.emod_nonneg _ (by omega), Int.emod_lt_of_pos _ (by omega), ?_⟩
  · simp_arith only [G_inverse, g_inverse, s2, fm, wl]
  · rw [Int.mul_emod, Int.emod_emod, ← Int.mul_emod, Int.mul_comm, hk, show ((1 : Nat) : Int) = 1 from rfl, Int.add_mul_emod_self_left]
    exact Int.emod_eq_of_lt (by decide) (by omega)

/-- a tray that was drawn from at most n times -/
def Sp (n : Nat) (s : M) : Prop := ∃ h m c : Int, s = .lst [.int h, .int m, .int c] ∧ 0 ≤ c ∧ c ≤ n
theorem Sp.mono {m n : Nat} {s : M} (h : Sp m s) (l : m ≤ n) : Sp n s := by
  obtain ⟨a, b, c, e, h0, h1⟩ := h
  exact ⟨a, b, c, e, h0, by omega⟩
theorem sip_ok {n : Nat} {s : M} (hs : Sp n s) {k : Int} (h0 : 0 < k) (h1 : k < 1073741824) (hn : n ≤ 1000000000) : ∃ (d : Int) (s' : M), G__law_sip [.io s, .val (.int k)] = .ok (.v (.int d)) [s'] ∧ 0 ≤ d ∧ d < k ∧ Sp (n + 1) s' := by
  obtain ⟨h, m, c, rfl, c0, c1⟩ := hs
  have i2 : ixN 3 2 = some 2 := rfl
  have i1 : ixN 3 1 = some 1 := rfl
  have i0 : ixN 3 0 = some 0 := rfl
  have a2 : ∀ x y z : D, atI [x, y, z] 2 = some z := fun _ _ _ => rfl
  have a1 : ∀ x y z : D, atI [x, y, z] 1 = some y := fun _ _ _ => rfl
  have a0 : ∀ x y z : D, atI [x, y, z] 0 = some x := fun _ _ _ => rfl
  have fk : ∀ x : Int, modD (.int x) (.int k) = some (.int (x % k)) := fun x => modD_pos h0
  have dk : ∀ x : Int, fdivD (.int x) (.int k) = some (.int (x / k)) := fun x => fdivD_pos h0 h1
  by_cases hp : 0 < h
  · refine ⟨h % k, .lst [.int (h / k), .int m, .int (c + 1)], ?_, Int.emod_nonneg _ (by omega), Int.emod_lt_of_pos _ h0, _, _, _, rfl, by omega, by omega⟩
    simp_arith only [G__law_sip, g__law_sip, g__law_sip_1, g__law_sip_2, g__law_sip_3, i0, i1, i2, a0, a1, a2, fk, dk, hp]
  · have m1 : mulD (.int m) (.int 16807) = some (.int (m * 16807)) := mulD_r (by decide)
    have m2 : mulD (.int 1823) (.int (c + 1)) = some (.int (1823 * (c + 1))) := mulD_l (by decide)
    have f1 : ∀ x : Int, modD (.int x) (.int 2147483647) = some (.int (x % 2147483647)) := fun x => modD_pos (by decide)
    have f3 : ∀ x : Int, fdivD (.int x) (.int 64) = some (.int (x / 64)) := fun x => fdivD_pos (by decide) (by decide)
    refine ⟨(m * 16807 + 1823 * (c + 1) + 59) % 2147483647 / 64 % k, .lst [.int h, .int ((m * 16807 + 1823 * (c + 1) + 59) % 2147483647), .int (c + 1)], ?_, Int.emod_nonneg _ (by omega), Int.emod_lt_of_pos _ h0, _, _, _, rfl, by omega, by omega⟩
    simp_arith only [G__law_sip, g__law_sip, g__law_sip_1, g__law_sip_2, g__law_sip_3, i0, i1, i2, a0, a1, a2, hp, m1, m2, f1, fk, f3]

theorem pick_ok {n : Nat} {s : M} (hs : Sp n s) {xs : List D} (h0 : xs ≠ []) (h1 : xs.length ≤ 100000) (hn : n ≤ 1000000000) : ∃ (d : D) (s' : M), d ∈ xs ∧ G__law_pick [.io s, .val (.lst xs)] = .ok (.v d) [s'] ∧ Sp (n + 1) s' := by
  have hl : 0 < xs.length := List.length_pos_iff.mpr h0
  obtain ⟨i, s', e, i0, i1, hs'⟩ := sip_ok hs (k := xs.length) (by omega) (by omega) hn
  obtain ⟨d, hd, ed⟩ := ixD_lst (xs := xs) i0 i1
  exact ⟨d, s', hd, by simp_arith only [G__law_pick, g__law_pick, e, ed], hs'⟩

/-! numbers without a divisor in common with n, and those whose squares leave 1 or -1 -/
theorem cnt_split {α : Type} (q p : α → Bool) : ∀ l : List α, l.countP p = l.countP (fun x => q x && p x) + l.countP (fun x => !q x && p x)
  | [] => rfl
  | x :: l => by
    have ih := cnt_split q p l
    rw [List.countP_cons, List.countP_cons, List.countP_cons, ih]
    cases q x <;> cases p x <;> simp <;> omega
theorem cnt_congr {p q : Nat → Bool} {n : Nat} (h : ∀ x, x < n → p x = q x) : (List.range n).countP p = (List.range n).countP q :=
  List.countP_congr fun x hx => by rw [h x (List.mem_range.mp hx)]
theorem rev_range (n : Nat) : (List.range n).reverse = (List.range n).map fun x => n - 1 - x := by
  refine List.ext_getElem (by simp) fun i h1 h2 => ?_
  rw [List.getElem_reverse, List.getElem_range, List.getElem_map, List.getElem_range, List.length_range]
theorem cnt_refl {n : Nat} {q : Nat → Bool} (q0 : q 0 = false) : (List.range n).countP q = (List.range n).countP fun x => decide (1 ≤ x) && q (n - x) := by
  cases n with
  | zero => rfl
  | succ n =>
    rw [List.range_succ_eq_map, List.countP_cons, List.countP_cons, List.countP_map, List.countP_map, q0, ← List.countP_reverse, rev_range, List.countP_map]
    have : (List.range n).countP ((q ∘ Nat.succ) ∘ fun x => n - 1 - x) = (List.range n).countP ((fun x => decide (1 ≤ x) && q (n + 1 - x)) ∘ Nat.succ) := cnt_congr fun x hx => by
      show q (n - 1 - x + 1) = (decide (1 ≤ x + 1) && q (n + 1 - (x + 1)))
      rw [decide_eq_true (by omega), Bool.true_and]
      congr 1
      omega
    rw [this]
    rfl
def halfP (n : Nat) (p : Nat → Bool) (x : Nat) : Bool := decide (2 * x < n) && p x
theorem cnt_half {n : Nat} {p : Nat → Bool} (p0 : p 0 = false) (hp : ∀ x, x < n → p x = true → p (n - x) = true ∧ 2 * x ≠ n) : (List.range n).countP p = 2 * (List.range n).countP (halfP n p) := by
  have s := cnt_split (fun x => decide (2 * x < n)) p (List.range n)
  have r := cnt_refl (n := n) (q := fun x => !decide (2 * x < n) && p x) (by
    show (!decide (2 * 0 < n) && p 0) = false
    rw [p0, Bool.and_false])
  have c : (List.range n).countP (fun x => decide (1 ≤ x) && (!decide (2 * (n - x) < n) && p (n - x))) = (List.range n).countP (halfP n p) := cnt_congr fun x hx => by
    unfold halfP
    by_cases x0 : x = 0
    · subst x0
      rw [p0, Bool.and_false, decide_eq_false (by omega), Bool.false_and]
    rw [decide_eq_true (show 1 ≤ x by omega), Bool.true_and]
    by_cases c : p x = true
    · obtain ⟨c1, c2⟩ := hp x hx c
      rw [c, c1, Bool.and_true, Bool.and_true]
      by_cases d : 2 * x < n
      · rw [decide_eq_true d, decide_eq_false (by omega)]
        rfl
      · rw [decide_eq_false d, decide_eq_true (by omega)]
        rfl
    · have c' : p (n - x) = false := by
        cases e : p (n - x) with
        | false => rfl
        | true =>
          obtain ⟨h1, _⟩ := hp (n - x) (by omega) e
          rw [show n - (n - x) = x by omega] at h1
          exact absurd h1 c
      rw [c', Bool.eq_false_iff.mpr c, Bool.and_false, Bool.and_false]
  rw [s, r]
  show (List.range n).countP (halfP n p) + (List.range n).countP (fun x => decide (1 ≤ x) && (!decide (2 * (n - x) < n) && p (n - x))) = _
  rw [c]
  omega
/-- an involution without a fixed point: an even number of things -/
theorem inv_even (f : Nat → Nat) : ∀ (k : Nat) (S : List Nat), S.length ≤ k → S.Nodup → (∀ x ∈ S, f x ∈ S ∧ f (f x) = x ∧ f x ≠ x) → S.length % 2 = 0
  | _, [], _, _, _ => rfl
  | 0, _ :: _, h, _, _ => by simp at h
  | k + 1, x :: S, hl, nd, h => by
    obtain ⟨n1, n2⟩ := List.nodup_cons.mp nd
    obtain ⟨m1, m2, m3⟩ := h x List.mem_cons_self
    have hm : f x ∈ S := (List.mem_cons.mp m1).resolve_left m3
    have le := List.length_erase_of_mem hm
    have lp : 0 < S.length := List.length_pos_of_mem hm
    have ih := inv_even f k (S.erase (f x)) (by rw [le]; simp only [List.length_cons] at hl; omega) (n2.erase _) fun y hy => by
      obtain ⟨y1, y2⟩ := (n2.mem_erase_iff).mp hy
      obtain ⟨h1, h2, h3⟩ := h y (List.mem_cons_of_mem _ y2)
      refine ⟨(n2.mem_erase_iff).mpr ⟨fun z => ?_, ?_⟩, h2, h3⟩
      · -- f y = f x, so y = x
        have : y = x := by rw [← h2, z, m2]
        rw [this] at y2
        exact n1 y2
      · rcases List.mem_cons.mp h1 with z | z
        · exact absurd (by rw [← h2, z]) y1
        · exact z
    rw [List.length_cons]
    omega
/-- different things of a list are no more than the list has -/
theorem len_sub : ∀ {S T : List Nat}, S.Nodup → (∀ x ∈ S, x ∈ T) → S.length ≤ T.length
  | [], _, _, _ => Nat.zero_le _
  | x :: S, T, nd, h => by
    obtain ⟨n1, n2⟩ := List.nodup_cons.mp nd
    have hm := h x List.mem_cons_self
    have le := List.length_erase_of_mem hm
    have lp : 0 < T.length := List.length_pos_of_mem hm
    have ih := len_sub (S := S) (T := T.erase x) n2 fun y hy => by
      have : y ≠ x := fun z => n1 (z ▸ hy)
      exact (List.mem_erase_of_ne this).mpr (h y (List.mem_cons_of_mem _ hy))
    rw [List.length_cons]
    omega
def unitP (n x : Nat) : Bool := decide (1 ≤ x) && decide (Nat.gcd n x = 1)
def rootP (n : Nat) (r : Int) (x : Nat) : Bool := decide (1 ≤ x) && decide (((x : Int) * x - r) % n = 0)
def phiN (n : Nat) : Nat := (List.range n).countP (unitP n)
def rootsN (n : Nat) (r : Int) : Nat := (List.range n).countP (rootP n r)
theorem unitP_iff {n x : Nat} : unitP n x = true ↔ 1 ≤ x ∧ Nat.gcd n x = 1 := by
  unfold unitP
  rw [Bool.and_eq_true, decide_eq_true_iff, decide_eq_true_iff]
theorem rootP_iff {n x : Nat} {r : Int} : rootP n r x = true ↔ 1 ≤ x ∧ ∃ k, (x : Int) * x - r = n * k := by
  unfold rootP
  rw [Bool.and_eq_true, decide_eq_true_iff, decide_eq_true_iff]
  constructor
  · rintro ⟨h1, h2⟩
    obtain ⟨k, e⟩ := Int.dvd_of_emod_eq_zero h2
    exact ⟨h1, k, e⟩
  · rintro ⟨h1, k, e⟩
    exact ⟨h1, Int.emod_eq_zero_of_dvd ⟨k, e⟩⟩
/-- who has a fellow with which it leaves 1 has no divisor in common with n -/
theorem unit_of {n x : Nat} {y : Int} {k : Int} (e : (x : Int) * y - 1 = n * k) : Nat.gcd n x = 1 := by
  have d1 : ((Nat.gcd n x : Nat) : Int) ∣ n := Int.natCast_dvd_natCast.mpr (Nat.gcd_dvd_left n x)
  have d2 : ((Nat.gcd n x : Nat) : Int) ∣ x := Int.natCast_dvd_natCast.mpr (Nat.gcd_dvd_right n x)
  have d3 : ((Nat.gcd n x : Nat) : Int) ∣ 1 := by
    have : (1 : Int) = x * y - n * k := by omega
    rw [this]
    exact Int.dvd_sub (Int.dvd_mul_of_dvd_left d2) (Int.dvd_mul_of_dvd_left d1)
  have := Int.le_of_dvd (by decide) d3
  have z : Nat.gcd n x ≠ 0 := fun z => by
    rw [z] at d3
    exact absurd (Int.zero_dvd.mp d3) (by decide)
  omega
theorem unit_neg {n x : Nat} (h : x ≤ n) (u : Nat.gcd n x = 1) : Nat.gcd n (n - x) = 1 := by
  have := Nat.gcd_self_sub_right h
  rw [this]
  exact u
theorem root_neg {n x : Nat} {r k : Int} (h : x ≤ n) (e : (x : Int) * x - r = n * k) : ∃ k', ((n - x : Nat) : Int) * ((n - x : Nat) : Int) - r = n * k' := by
  refine ⟨n - 2 * x + k, ?_⟩
  rw [Int.ofNat_sub h]
  grind

/-- two fellows of x are the same -/
theorem fel_uniq {n : Nat} {x y z : Nat} {k l : Int} (hy : y < n) (hz : z < n) (e1 : (x : Int) * y - 1 = n * k) (e2 : (x : Int) * z - 1 = n * l) : y = z := by
  have e : (y : Int) - z = n * (z * k - y * l) := by grind
  have d : ((y : Int) - z) % n = 0 := Int.emod_eq_zero_of_dvd ⟨_, e⟩
  have h1 : (y : Int) % n = (z : Int) % n := Int.emod_eq_emod_iff_emod_sub_eq_zero.mpr d
  rw [Int.emod_eq_of_lt (by omega) (by omega), Int.emod_eq_of_lt (by omega) (by omega)] at h1
  omega
section
variable {n : Nat} (h3 : 3 ≤ n) (hinv : ∀ x, x < n → Nat.gcd n x = 1 → ∃ y, y < n ∧ ∃ k : Int, (x : Int) * y - 1 = n * k)
/-- neither 1 nor -1 by its square -/
def othP (n x : Nat) : Bool := !rootP n 1 x && (!rootP n (-1) x && unitP n x)
theorem two_ne {x : Nat} (h3 : 3 ≤ n) (u : Nat.gcd n x = 1) : 2 * x ≠ n := fun z => by
  have : Nat.gcd n x = x := Nat.gcd_eq_right ⟨2, by omega⟩
  omega
theorem root_unit {x : Nat} {r : Int} (hr : r = 1 ∨ r = -1) (h : rootP n r x = true) : unitP n x = true := by
  obtain ⟨h1, k, e⟩ := rootP_iff.mp h
  refine unitP_iff.mpr ⟨h1, ?_⟩
  rcases hr with rfl | rfl
  · exact unit_of e
  · exact unit_of (y := -(x : Int)) (k := -k) (by grind)
theorem not_both {x : Nat} (h3 : 3 ≤ n) (h : rootP n 1 x = true) : rootP n (-1) x = false := by
  cases c : rootP n (-1) x with
  | false => rfl
  | true =>
    obtain ⟨_, k, e⟩ := rootP_iff.mp h
    obtain ⟨_, l, e2⟩ := rootP_iff.mp c
    have d : (n : Int) ∣ 2 := ⟨l - k, by grind⟩
    have := Int.le_of_dvd (by decide) d
    omega
/-- the fellow, in the lower half -/
noncomputable def felH (n x : Nat) : Nat := @dite _ (∃ y, y < n ∧ ∃ k : Int, (x : Int) * y - 1 = n * k) (Classical.propDecidable _) (fun h => if 2 * Classical.choose h < n then Classical.choose h else n - Classical.choose h) fun _ => 0
theorem felH_eq {x y : Nat} {k : Int} (hy : y < n) (e : (x : Int) * y - 1 = n * k) : felH n x = if 2 * y < n then y else n - y := by
  have h : ∃ y, y < n ∧ ∃ k : Int, (x : Int) * y - 1 = n * k := ⟨y, hy, k, e⟩
  unfold felH
  rw [dif_pos h]
  obtain ⟨h1, l, h2⟩ := Classical.choose_spec h
  rw [fel_uniq h1 hy h2 e]
include h3 hinv
theorem oth_even : ((List.range n).countP (halfP n (othP n))) % 2 = 0 := by
  rw [List.countP_eq_length_filter]
  refine inv_even (felH n) _ _ (Nat.le_refl _) (List.nodup_range.filter _) fun x hx => ?_
  obtain ⟨hx, hp⟩ := List.mem_filter.mp hx
  have hx := List.mem_range.mp hx
  unfold halfP othP at hp
  rw [Bool.and_eq_true, Bool.and_eq_true, Bool.and_eq_true, decide_eq_true_iff, Bool.not_eq_true', Bool.not_eq_true'] at hp
  obtain ⟨x2, ra, rb, hu⟩ := hp
  obtain ⟨x1, u⟩ := unitP_iff.mp hu
  obtain ⟨y, hy, k, e⟩ := hinv x hx u
  have no1 : ∀ l : Int, (x : Int) * x - 1 ≠ n * l := fun l z => by
    rw [rootP_iff.mpr ⟨x1, l, z⟩] at ra
    cases ra
  have no2 : ∀ l : Int, (x : Int) * x - (-1) ≠ n * l := fun l z => by
    rw [rootP_iff.mpr ⟨x1, l, z⟩] at rb
    cases rb
  have y1 : 1 ≤ y := by
    rcases Nat.eq_zero_or_pos y with z | z
    · rw [z] at e
      have d : (n : Int) ∣ 1 := ⟨-k, by grind⟩
      have := Int.le_of_dvd (by decide) d
      omega
    · exact z
  have uy : Nat.gcd n y = 1 := unit_of (y := (x : Int)) (k := k) (by grind)
  have yn := two_ne h3 uy
  -- what is shown of the fellow z, which is y or n - y
  have fin : ∀ (z : Nat) (l : Int) (s : Int), (s = 1 ∨ s = -1) → 1 ≤ z → 2 * z < n → (x : Int) * z - s = n * l → Nat.gcd n z = 1 → z ≠ x ∧ z ∈ (List.range n).filter (halfP n (othP n)) := by
    intro z l s hs z1 z2 ez uz
    refine ⟨fun w => ?_, List.mem_filter.mpr ⟨List.mem_range.mpr (by omega), ?_⟩⟩
    · rw [w] at ez
      rcases hs with rfl | rfl
      · exact no1 _ ez
      · exact no2 _ ez
    · unfold halfP othP
      rw [Bool.and_eq_true, Bool.and_eq_true, Bool.and_eq_true, decide_eq_true_iff, Bool.not_eq_true', Bool.not_eq_true']
      have ss : s * s = 1 := by rcases hs with rfl | rfl <;> rfl
      refine ⟨z2, ?_, ?_, unitP_iff.mpr ⟨z1, uz⟩⟩
      · cases c : rootP n 1 z with
        | false => rfl
        | true =>
          obtain ⟨_, m, em⟩ := rootP_iff.mp c
          exact absurd (show (x : Int) * x - 1 = n * (l * (x * z + s) - m * (x * x)) by grind) (no1 _)
      · cases c : rootP n (-1) z with
        | false => rfl
        | true =>
          obtain ⟨_, m, em⟩ := rootP_iff.mp c
          exact absurd (show (x : Int) * x - (-1) = n * (m * (x * x) - l * (x * z + s)) by grind) (no2 _)
  rw [felH_eq hy e]
  by_cases c : 2 * y < n
  · rw [if_pos c]
    have e' : (y : Int) * x - 1 = n * k := by grind
    obtain ⟨f1, f2⟩ := fin y k 1 (.inl rfl) y1 c e uy
    exact ⟨f2, by rw [felH_eq hx e', if_pos x2], f1⟩
  · rw [if_neg c]
    have cy : ((n - y : Nat) : Int) = n - y := Int.ofNat_sub (by omega)
    have cx : ((n - x : Nat) : Int) = n - x := Int.ofNat_sub (by omega)
    have e1 : (x : Int) * (n - y : Nat) - (-1) = n * (x - k) := by rw [cy]; grind
    have e2 : ((n - y : Nat) : Int) * (n - x : Nat) - 1 = n * (n - x - y + k) := by rw [cy, cx]; grind
    obtain ⟨f1, f2⟩ := fin (n - y) (x - k) (-1) (.inr rfl) (by omega) (by omega) e1 (unit_neg (by omega) uy)
    refine ⟨f2, ?_, f1⟩
    rw [felH_eq (show n - x < n by omega) e2, if_neg (by omega)]
    omega
/-- the counts, by halves -/
theorem cnt_facts : ∃ a b c : Nat, phiN n = 2 * a ∧ rootsN n 1 = 2 * b ∧ rootsN n (-1) = 2 * c ∧ (a + b + c) % 2 = 0 ∧ b + c ≤ a ∧ (0 < c → b ≤ c) := by
  have hu : ∀ x, x < n → unitP n x = true → unitP n (n - x) = true ∧ 2 * x ≠ n := fun x hx h => by
    obtain ⟨h1, u⟩ := unitP_iff.mp h
    exact ⟨unitP_iff.mpr ⟨by omega, unit_neg (by omega) u⟩, two_ne h3 u⟩
  have hr : ∀ r : Int, (r = 1 ∨ r = -1) → ∀ x, x < n → rootP n r x = true → rootP n r (n - x) = true ∧ 2 * x ≠ n := fun r hr x hx h => by
    obtain ⟨h1, k, e⟩ := rootP_iff.mp h
    obtain ⟨_, u⟩ := unitP_iff.mp (root_unit hr h)
    exact ⟨rootP_iff.mpr ⟨by omega, root_neg (by omega) e⟩, two_ne h3 u⟩
  have e1 := cnt_half (n := n) (p := unitP n) rfl hu
  have e2 := cnt_half (n := n) (p := rootP n 1) rfl (hr 1 (.inl rfl))
  have e3 := cnt_half (n := n) (p := rootP n (-1)) rfl (hr (-1) (.inr rfl))
  have s1 := cnt_split (rootP n 1) (halfP n (unitP n)) (List.range n)
  have s2 := cnt_split (rootP n (-1)) (fun x => !rootP n 1 x && halfP n (unitP n) x) (List.range n)
  have k1 : (List.range n).countP (fun x => rootP n 1 x && halfP n (unitP n) x) = (List.range n).countP (halfP n (rootP n 1)) := cnt_congr fun x _ => by
    unfold halfP
    cases c : rootP n 1 x with
    | false => simp
    | true => simp [root_unit (.inl rfl) c]
  have k2 : (List.range n).countP (fun x => rootP n (-1) x && (!rootP n 1 x && halfP n (unitP n) x)) = (List.range n).countP (halfP n (rootP n (-1))) := cnt_congr fun x _ => by
    unfold halfP
    cases c : rootP n (-1) x with
    | false => simp
    | true =>
      have : rootP n 1 x = false := by
        cases d : rootP n 1 x with
        | false => rfl
        | true =>
          rw [not_both h3 d] at c
          cases c
      simp [root_unit (.inr rfl) c, this]
  have k3 : (List.range n).countP (fun x => !rootP n (-1) x && (!rootP n 1 x && halfP n (unitP n) x)) = (List.range n).countP (halfP n (othP n)) := cnt_congr fun x _ => by
    unfold halfP othP
    cases rootP n 1 x <;> cases rootP n (-1) x <;> simp
  have ev := oth_even h3 hinv
  refine ⟨_, _, _, e1, e2, e3, by omega, by omega, fun c0 => ?_⟩
  -- a number whose square leaves -1 leads from the ones to the others
  have key : rootsN n 1 ≤ rootsN n (-1) := by
    unfold rootsN
    obtain ⟨i, hi, pi⟩ : ∃ i, i ∈ List.range n ∧ rootP n (-1) i = true := List.countP_pos_iff.mp (by rw [e3]; omega)
    have hi := List.mem_range.mp hi
    obtain ⟨i1, ki, ei⟩ := rootP_iff.mp pi
    rw [List.countP_eq_length_filter, List.countP_eq_length_filter]
    have nd : ((List.range n).filter (rootP n 1)).Nodup := List.nodup_range.filter _
    have step : ∀ x, ((i * x % n : Nat) : Int) = i * x - n * ((i * x / n : Nat) : Int) := fun x => by
      have := Nat.div_add_mod (i * x) n
      have : ((n * (i * x / n) + i * x % n : Nat) : Int) = ((i * x : Nat) : Int) := by rw [this]
      rw [Int.natCast_add, Int.natCast_mul, Int.natCast_mul] at this
      omega
    have := len_sub (S := ((List.range n).filter (rootP n 1)).map fun x => i * x % n) (T := (List.range n).filter (rootP n (-1))) (by
      refine List.pairwise_map.mpr (nd.imp_of_mem fun {x y} hx hy ne z => ne ?_)
      have hx := List.mem_range.mp (List.mem_filter.mp hx).1
      have hy := List.mem_range.mp (List.mem_filter.mp hy).1
      have z' : ((i * x % n : Nat) : Int) = ((i * y % n : Nat) : Int) := by rw [z]
      rw [step, step] at z'
      have d : (x : Int) - y = n * (ki * (x - y) - i * (((i * x / n : Nat) : Int) - ((i * y / n : Nat) : Int))) := by grind
      have h1 : (x : Int) % n = (y : Int) % n := Int.emod_eq_emod_iff_emod_sub_eq_zero.mpr (Int.emod_eq_zero_of_dvd ⟨_, d⟩)
      rw [Int.emod_eq_of_lt (by omega) (by omega), Int.emod_eq_of_lt (by omega) (by omega)] at h1
      omega) (by
      intro w hw
      obtain ⟨x, hx, rfl⟩ := List.mem_map.mp hw
      obtain ⟨hx, px⟩ := List.mem_filter.mp hx
      obtain ⟨x1, kx, ex⟩ := rootP_iff.mp px
      have q : ∃ k : Int, ((i * x % n : Nat) : Int) * ((i * x % n : Nat) : Int) - (-1) = n * k := by
        rw [step]
        refine ⟨ki * (x * x) - kx + ((i * x / n : Nat) : Int) * (n * ((i * x / n : Nat) : Int) - 2 * i * x), ?_⟩
        grind
      refine List.mem_filter.mpr ⟨List.mem_range.mpr (Nat.mod_lt _ (by omega)), rootP_iff.mpr ⟨?_, q⟩⟩
      obtain ⟨k, ek⟩ := q
      rcases Nat.eq_zero_or_pos (i * x % n) with z | z
      · rw [z] at ek
        have d : (n : Int) ∣ 1 := ⟨k, by grind⟩
        have := Int.le_of_dvd (by decide) d
        omega
      · exact z)
    rw [List.length_map] at this
    exact this
  unfold rootsN at key
  omega
end

/-! how many numbers have no divisor in common with n: by dividing -/
def copP (r x : Nat) : Bool := Nat.gcd r x == 1
theorem cop_iff {r x : Nat} : copP r x = true ↔ Nat.gcd r x = 1 := beq_iff_eq
theorem cop_per (r x : Nat) : copP r (r + x) = copP r x := by
  unfold copP
  rw [Nat.gcd_self_add_right]
theorem cop_per' (r x : Nat) : ∀ k : Nat, copP r (r * k + x) = copP r x
  | 0 => by rw [Nat.mul_zero, Nat.zero_add]
  | k + 1 => by rw [Nat.mul_succ, show r * k + r + x = r + (r * k + x) by omega, cop_per, cop_per' r x k]
theorem cnt_per (r : Nat) : ∀ k : Nat, (List.range (r * k)).countP (copP r) = k * (List.range r).countP (copP r)
  | 0 => by rw [Nat.mul_zero, Nat.zero_mul]; rfl
  | k + 1 => by
    have e : (copP r ∘ fun x => r * k + x) = copP r := funext fun x => cop_per' r x k
    rw [Nat.mul_succ, List.range_add, List.countP_append, cnt_per r k, List.countP_map, e, Nat.succ_mul]
theorem cnt_one {f : Nat} {p : Nat → Bool} (h : ∀ x, 1 ≤ x → x < f + 1 → p x = false) : (List.range (f + 1)).countP p = if p 0 = true then 1 else 0 := by
  rw [List.range_succ_eq_map, List.countP_cons, List.countP_map]
  have : (List.range f).countP (p ∘ Nat.succ) = 0 := List.countP_eq_zero.mpr fun x hx => by
    have := h (x + 1) (by omega) (by have := List.mem_range.mp hx; omega)
    show ¬ p (x + 1) = true
    rw [this]
    exact Bool.false_ne_true
  rw [this, Nat.zero_add]
theorem cnt_mul {f : Nat} (hf : 1 ≤ f) (q : Nat → Bool) : ∀ m : Nat, (List.range (f * m)).countP (fun x => decide (f ∣ x) && q x) = (List.range m).countP fun y => q (f * y)
  | 0 => by rw [Nat.mul_zero]; rfl
  | m + 1 => by
    obtain ⟨g, rfl⟩ : ∃ g, f = g + 1 := ⟨f - 1, by omega⟩
    rw [Nat.mul_succ, List.range_add, List.countP_append, cnt_mul hf q m, List.countP_map, List.range_succ (n := m), List.countP_append]
    congr 1
    rw [cnt_one (p := (fun x => decide (g + 1 ∣ x) && q x) ∘ fun x => (g + 1) * m + x) fun x h1 h2 => by
      show (decide (g + 1 ∣ (g + 1) * m + x) && q ((g + 1) * m + x)) = false
      have : ¬ (g + 1 ∣ (g + 1) * m + x) := fun z => by
        have := Nat.le_of_dvd (by omega) ((Nat.dvd_add_right (Nat.dvd_mul_right _ _)).mp z)
        omega
      rw [decide_eq_false this, Bool.false_and]]
    show (if (decide (g + 1 ∣ (g + 1) * m) && q ((g + 1) * m)) = true then 1 else 0) = _
    rw [decide_eq_true (show g + 1 ∣ (g + 1) * m from Nat.dvd_mul_right _ _), Bool.true_and, List.countP_cons, List.countP_nil, Nat.zero_add]
/-- numbers that f divides are an f-th of those without a divisor in common with r -/
theorem share_mul {r L f : Nat} (hf : 1 ≤ f) (hd : f ∣ L) (hg : Nat.gcd r f = 1) : (List.range (r * L)).countP (fun x => decide (f ∣ x) && copP r x) = (List.range (r * L)).countP (copP r) / f := by
  obtain ⟨m, rfl⟩ := hd
  have e1 : r * (f * m) = f * (r * m) := by rw [Nat.mul_left_comm]
  rw [cnt_per, e1, cnt_mul hf]
  have e2 : (List.range (r * m)).countP (fun y => copP r (f * y)) = (List.range (r * m)).countP (copP r) := cnt_congr fun y _ => by
    unfold copP
    rw [Nat.Coprime.gcd_mul_left_cancel_right y (Nat.Coprime.symm hg)]
  rw [e2, cnt_per, Nat.mul_assoc, Nat.mul_div_cancel_left _ (by omega)]
theorem share_step {r L f : Nat} (hf : 1 ≤ f) (hd : f ∣ L) (hg : Nat.gcd r f = 1) : (List.range (r * L)).countP (copP r) - (List.range (r * L)).countP (copP r) / f = (List.range (r * L)).countP fun x => !decide (f ∣ x) && copP r x := by
  have s := cnt_split (fun x => decide (f ∣ x)) (copP r) (List.range (r * L))
  rw [share_mul hf hd hg] at s
  omega
/-- a number that only itself and 1 divide -/
def Prm (f : Nat) : Prop := 2 ≤ f ∧ ∀ d, d ∣ f → d = 1 ∨ d = f
theorem prm_gcd {f x : Nat} (h : Prm f) : Nat.gcd f x = 1 ↔ ¬ f ∣ x := by
  have := h.1
  rcases h.2 (Nat.gcd f x) (Nat.gcd_dvd_left f x) with e | e
  · refine ⟨fun _ z => ?_, fun _ => e⟩
    have := Nat.gcd_eq_left z
    omega
  · refine ⟨fun z => by omega, fun z => absurd ?_ z⟩
    rw [← e]
    exact Nat.gcd_dvd_right f x
theorem cop_step {r f k : Nat} (h : Prm f) (x : Nat) : copP (r * f ^ (k + 1)) x = (!decide (f ∣ x) && copP r x) := by
  unfold copP
  have : Nat.gcd (r * f ^ (k + 1)) x = 1 ↔ ¬ f ∣ x ∧ Nat.gcd r x = 1 := by
    rw [← prm_gcd h]
    constructor
    · intro z
      exact ⟨Nat.Coprime.coprime_dvd_left (Nat.dvd_trans (show f ∣ f ^ (k + 1) from ⟨f ^ k, by rw [Nat.pow_succ, Nat.mul_comm]⟩) (Nat.dvd_mul_left _ _)) z, Nat.Coprime.coprime_dvd_left (Nat.dvd_mul_right r _) z⟩
    · rintro ⟨z1, z2⟩
      exact Nat.Coprime.mul_left z2 (Nat.Coprime.pow_left (k + 1) z1)
  rw [Bool.eq_iff_iff, Bool.and_eq_true, Bool.not_eq_true', decide_eq_false_iff_not, beq_iff_eq, beq_iff_eq]
  exact this
/-- how the division stands: r is done, L is left, no number below f divides L -/
structure Div (n r L f : Nat) : Prop where
  e : n = r * L
  g : Nat.gcd r L = 1
  l : 1 ≤ L
  p : ∀ d, 2 ≤ d → d < f → ¬ d ∣ L
theorem Div.prm {n r L f : Nat} (h : Div n r L f) (h2 : 2 ≤ f) (hd : f ∣ L) : Prm f := ⟨h2, fun d hd' => by
  have := Nat.le_of_dvd (by omega) hd'
  by_cases c : d = f
  · exact .inr c
  · by_cases z : 2 ≤ d
    · exact absurd (Nat.dvd_trans hd' hd) (h.p d z (by omega))
    · left
      rcases Nat.eq_zero_or_pos d with w | w
      · rw [w] at hd'
        have := Nat.eq_zero_of_zero_dvd hd'
        omega
      · omega⟩
theorem Div.last {n r L f : Nat} (h : Div n r L f) (h2 : 2 ≤ L) (hf : L < f * f) : Prm L := ⟨h2, fun d hd => by
  obtain ⟨e, he⟩ := hd
  have d0 : d ≠ 0 := fun z => by rw [z, Nat.zero_mul] at he; omega
  have e0 : e ≠ 0 := fun z => by rw [z, Nat.mul_zero] at he; omega
  by_cases c : d = 1
  · exact .inl c
  by_cases c2 : e = 1
  · right
    rw [he, c2, Nat.mul_one]
  exfalso
  by_cases k : d < f
  · exact h.p d (by omega) k ⟨e, he⟩
  · have : e < f := by
      rcases Nat.lt_or_ge e f with z | z
      · exact z
      · have := Nat.mul_le_mul (Nat.le_of_not_lt k) z
        omega
    exact h.p e (by omega) this ⟨d, by rw [he, Nat.mul_comm]⟩⟩
theorem Div.gcdf {n r L f : Nat} (h : Div n r L f) (hd : f ∣ L) : Nat.gcd r f = 1 := Nat.Coprime.coprime_dvd_right hd h.g
/-- a divisor is taken out, altogether -/
theorem Div.out {n r L f k L' : Nat} (h : Div n r L f) (hp : Prm f) (e : L = f ^ (k + 1) * L') (hn : ¬ f ∣ L') : Div n (r * f ^ (k + 1)) L' (f + 1) := by
  have l1 := h.l
  have l' : 1 ≤ L' := by
    rcases Nat.eq_zero_or_pos L' with z | z
    · rw [e, z, Nat.mul_zero] at l1; omega
    · exact z
  refine ⟨by rw [h.e, e, Nat.mul_assoc], Nat.Coprime.mul_left (Nat.Coprime.coprime_dvd_right ⟨f ^ (k + 1), by rw [e, Nat.mul_comm]⟩ h.g) (Nat.Coprime.pow_left (k + 1) ((prm_gcd hp).mpr hn)), l', fun d d2 df hd => ?_⟩
  by_cases c : d = f
  · exact hn (c ▸ hd)
  · exact h.p d d2 (by omega) (Nat.dvd_trans hd ⟨f ^ (k + 1), by rw [e, Nat.mul_comm]⟩)
theorem Div.next {n r L f : Nat} (h : Div n r L f) (hn : ¬ f ∣ L) : Div n r L (f + 1) := ⟨h.e, h.g, h.l, fun d d2 df hd => by
  by_cases c : d = f
  · exact hn (c ▸ hd)
  · exact h.p d d2 (by omega) hd⟩
/-- how many are left -/
def cntC (n r : Nat) : Nat := (List.range n).countP (copP r)
theorem Div.cnt {n r L f k : Nat} (h : Div n r L f) (hp : Prm f) (hd : f ∣ L) : cntC n r - cntC n r / f = cntC n (r * f ^ (k + 1)) := by
  unfold cntC
  have s := share_step (r := r) (L := L) (by have := hp.1; omega) hd (h.gcdf hd)
  rw [← h.e] at s
  rw [s]
  exact cnt_congr fun x _ => (cop_step hp x).symm
theorem cnt_phi {n : Nat} (h : 2 ≤ n) : cntC n n = phiN n := cnt_congr fun x _ => by
  rw [Bool.eq_iff_iff, cop_iff, unitP_iff]
  refine ⟨fun z => ⟨?_, z⟩, fun z => z.2⟩
  rcases Nat.eq_zero_or_pos x with w | w
  · rw [w, Nat.gcd_zero_right] at z
    omega
  · exact w
theorem cnt_1 (n : Nat) : cntC n 1 = n := by
  unfold cntC
  have : copP 1 = fun _ => true := funext fun x => by
    unfold copP
    rw [Nat.gcd_one_left]
    rfl
  rw [this, List.countP_true, List.length_range]

theorem md_nat {a b : Nat} (h : 1 ≤ b) : modD (.int (a : Int)) (.int (b : Int)) = some (.int ((a % b : Nat) : Int)) := modD_pos (by omega)
theorem fd_nat {a b : Nat} (h : 1 ≤ b) (h2 : b < 1073741824) : fdivD (.int (a : Int)) (.int (b : Int)) = some (.int ((a / b : Nat) : Int)) := fdivD_pos (by omega) (by omega)
/-- a divisor is taken out as often as it is there -/
theorem out_wh {f : Nat} (h2 : 2 ≤ f) (hf : f < 1073741824) (a0 a1 : Slot) : ∀ (n L : Nat), L ≤ n → 1 ≤ L → ∃ (m k L' : Nat), whN [] (tst (op2 eqA (op2 modD (vr 2) (vr 3)) (cst (.int 0)))) b_shares_of_2 m [a0, a1, .val (.int (L : Int)), .val (.int (f : Int))] = .ok .nx [a0, a1, .val (.int (L' : Int)), .val (.int (f : Int))] ∧ L = f ^ k * L' ∧ ¬ f ∣ L'
  | 0, L, h, h1 => by omega
  | n + 1, L, h, h1 => by
    have e1 := md_nat (a := L) (b := f) (by omega)
    by_cases c : f ∣ L
    · have hm : ((L % f : Nat) : Int) = 0 := by rw [Nat.mod_eq_zero_of_dvd c]; rfl
      have lt : L / f < L := Nat.div_lt_self (by omega) (by omega)
      have pos : 1 ≤ L / f := Nat.div_pos (Nat.le_of_dvd (by omega) c) (by omega)
      obtain ⟨m, k, L', e, eL, hn⟩ := out_wh h2 hf a0 a1 n (L / f) (by omega) pos
      have e2 := fd_nat (a := L) (b := f) (by omega) hf
      refine ⟨m + 1, k + 1, L', ?_, ?_, hn⟩
      · have eb : b_shares_of_2 [a0, a1, .val (.int (L : Int)), .val (.int (f : Int))] = .ok .nx [a0, a1, .val (.int ((L / f : Nat) : Int)), .val (.int (f : Int))] := by
          simp_arith only [b_shares_of_2, e2]
        simp_arith only [whN, e1, hm, eb, e]
      · have : f * (L / f) = L := Nat.mul_div_cancel' c
        rw [← this, eL, Nat.pow_succ, Nat.mul_comm (f ^ k) f, Nat.mul_assoc]
    · have hm : ¬ ((L % f : Nat) : Int) = 0 := fun z => c (Nat.dvd_of_mod_eq_zero (by omega))
      exact ⟨1, 0, L, by simp_arith only [whN, e1, hm], by rw [Nat.pow_zero, Nat.one_mul], c⟩
theorem shares_wh {n : Nat} (hb : n ≤ 1000000) : ∀ (t r L f : Nat), n + 2 ≤ t + f → 2 ≤ f → f ≤ n + 1 → Div n r L f → ∃ (m r' L' f' : Nat), whN [] (tst (op2 leD (op2 mulD (vr 3) (vr 3)) (vr 2))) b_shares_of_1 m [.val (.int (n : Int)), .val (.int (cntC n r : Int)), .val (.int (L : Int)), .val (.int (f : Int))] = .ok .nx [.val (.int (n : Int)), .val (.int (cntC n r' : Int)), .val (.int (L' : Int)), .val (.int (f' : Int))] ∧ Div n r' L' f' ∧ L' < f' * f'
  | 0, r, L, f, ht, h2, hf, h => by omega
  | t + 1, r, L, f, ht, h2, hf, h => by
    have em : mulD (.int (f : Int)) (.int (f : Int)) = some (.int ((f * f : Nat) : Int)) := mulD_l (by omega)
    have lL : L ≤ n := by
      rw [h.e]
      have : r ≠ 0 := fun z => by
        have e := h.e
        rw [z, Nat.zero_mul] at e
        omega
      exact Nat.le_mul_of_pos_left _ (by omega)
    by_cases c : f * f ≤ L
    · have fl : f ≤ n := by
        have := Nat.mul_le_mul_left f h2
        omega
      have c' : ((f * f : Nat) : Int) ≤ (L : Int) := by omega
      have e1 := md_nat (a := L) (b := f) (by omega)
      have es : addD (.int (f : Int)) (.int 1) = some (.int ((f + 1 : Nat) : Int)) := rfl
      by_cases d : f ∣ L
      · have hp := h.prm h2 d
        obtain ⟨m0, k, L', e, eL, hn⟩ := out_wh h2 (by omega) (.val (.int (n : Int))) (.val (.int ((cntC n r - cntC n r / f : Nat) : Int))) L L (Nat.le_refl _) h.l
        obtain ⟨k, rfl⟩ : ∃ k', k = k' + 1 := by
          cases k with
          | zero =>
            rw [Nat.pow_zero, Nat.one_mul] at eL
            exact absurd (eL ▸ d) hn
          | succ k => exact ⟨k, rfl⟩
        have hm : ((L % f : Nat) : Int) = 0 := by rw [Nat.mod_eq_zero_of_dvd d]; rfl
        have hd := h.out hp eL hn
        obtain ⟨m, r', L2, f', e2, hd', lt⟩ := shares_wh hb t (r * f ^ (k + 1)) L' (f + 1) (by omega) (by omega) (by omega) hd
        have ew := whS_eq (ks := []) (t := (tst (op2 eqA (op2 modD (vr 2) (vr 3)) (cst (.int 0))))) (b := b_shares_of_2) (n := m0) (ρ := [.val (.int (n : Int)), .val (.int ((cntC n r - cntC n r / f : Nat) : Int)), .val (.int (L : Int)), .val (.int (f : Int))]) (by rw [e]; rfl)
        rw [e] at ew
        have ef := fd_nat (a := cntC n r) (b := f) (by omega) (by omega)
        have eu : subD (.int (cntC n r : Int)) (.int ((cntC n r / f : Nat) : Int)) = some (.int ((cntC n r - cntC n r / f : Nat) : Int)) := by
          rw [subD_int]
          congr 2
          rw [Int.ofNat_sub (Nat.div_le_self _ _)]
        have eb : b_shares_of_1 [.val (.int (n : Int)), .val (.int (cntC n r : Int)), .val (.int (L : Int)), .val (.int (f : Int))] = .ok .nx [.val (.int (n : Int)), .val (.int (cntC n (r * f ^ (k + 1)) : Int)), .val (.int (L' : Int)), .val (.int ((f + 1 : Nat) : Int))] := by
          rw [← h.cnt (k := k) hp d]
          simp_arith only [b_shares_of_1, e1, hm, ef, eu, ew, es]
        exact ⟨m + 1, r', L2, f', by simp_arith only [whN, em, c', eb, e2], hd', lt⟩
      · have hm : ¬ ((L % f : Nat) : Int) = 0 := fun z => d (Nat.dvd_of_mod_eq_zero (by omega))
        obtain ⟨m, r', L2, f', e2, hd', lt⟩ := shares_wh hb t r L (f + 1) (by omega) (by omega) (by omega) (h.next d)
        have eb : b_shares_of_1 [.val (.int (n : Int)), .val (.int (cntC n r : Int)), .val (.int (L : Int)), .val (.int (f : Int))] = .ok .nx [.val (.int (n : Int)), .val (.int (cntC n r : Int)), .val (.int (L : Int)), .val (.int ((f + 1 : Nat) : Int))] := by
          simp_arith only [b_shares_of_1, e1, hm, es]
        exact ⟨m + 1, r', L2, f', by simp_arith only [whN, em, c', eb, e2], hd', lt⟩
    · have c' : ¬ ((f * f : Nat) : Int) ≤ (L : Int) := by omega
      exact ⟨1, r, L, f, by simp_arith only [whN, em, c'], h, by omega⟩
theorem shares_ok {n : Nat} (h2 : 2 ≤ n) (hb : n ≤ 1000000) : G_shares_of [.val (.int (n : Int))] = .ok (.v (.int (phiN n : Int))) [] := by
  have d0 : Div n 1 n 2 := ⟨(Nat.one_mul n).symm, Nat.gcd_one_left n, by omega, fun d h1 h2 => by omega⟩
  obtain ⟨m, r, L, f, e, hd, lt⟩ := shares_wh hb n 1 n 2 (by omega) (by decide) (by omega) d0
  have ew := whS_eq (ks := []) (t := (tst (op2 leD (op2 mulD (vr 3) (vr 3)) (vr 2)))) (b := b_shares_of_1) (n := m) (ρ := [.val (.int (n : Int)), .val (.int (cntC n 1 : Int)), .val (.int (n : Int)), .val (.int ((2 : Nat) : Int))]) (by rw [e]; rfl)
  rw [e, cnt_1] at ew
  have i2 : ((2 : Nat) : Int) = 2 := rfl
  rw [i2] at ew
  rw [← cnt_phi h2]
  by_cases c : 1 < L
  · have c' : (1 : Int) < (L : Int) := by omega
    have hp := hd.last (by omega) lt
    have lL : L ≤ n := Nat.le_of_dvd (by omega) ⟨r, by rw [hd.e, Nat.mul_comm]⟩
    have hL : Div n r L L := ⟨hd.e, hd.g, hd.l, fun d h1 h2 h3 => by
      rcases hp.2 d h3 with z | z <;> omega⟩
    have ec := hL.cnt (k := 0) hp (Nat.dvd_refl L)
    rw [Nat.zero_add, Nat.pow_one, ← hd.e] at ec
    have ef := fd_nat (a := cntC n r) (b := L) (by omega) (by omega)
    have eu : subD (.int (cntC n r : Int)) (.int ((cntC n r / L : Nat) : Int)) = some (.int ((cntC n r - cntC n r / L : Nat) : Int)) := by
      rw [subD_int]
      congr 2
      rw [Int.ofNat_sub (Nat.div_le_self _ _)]
    rw [← ec]
    simp_arith only [G_shares_of, g_shares_of, ew, c', ef, eu]
  · have c' : ¬ (1 : Int) < (L : Int) := by omega
    have : L = 1 := by have := hd.l; omega
    have er : r = n := by rw [hd.e, this, Nat.mul_one]
    rw [er] at ew
    simp_arith only [G_shares_of, g_shares_of, ew, c']
theorem rangeL_nat1 : ∀ (n lo : Nat), rangeL (lo : Int) n = (List.range n).map fun j : Nat => D.int ((lo + j : Nat) : Int)
  | 0, _ => rfl
  | n + 1, lo => by
    rw [rangeL, List.range_succ_eq_map, List.map_cons, List.map_map, show (lo : Int) + 1 = ((lo + 1 : Nat) : Int) from rfl, rangeL_nat1 n (lo + 1)]
    refine congrArg (List.cons (D.int (lo : Int))) (List.map_congr_left fun j _ => ?_)
    show D.int ((lo + 1 + j : Nat) : Int) = D.int ((lo + (j + 1) : Nat) : Int)
    rw [show lo + 1 + j = lo + (j + 1) by omega]
def rootD (n : Nat) (r : Int) : D → Bool
  | .int x => decide ((x * x - r) % n = 0)
  | _ => false
theorem root_len {n : Nat} (h : 1 ≤ n) (r : Int) : ((rangeL 1 ((n : Int) - 1).toNat).filter (rootD n r)).length = rootsN n r := by
  obtain ⟨m, rfl⟩ : ∃ m, n = m + 1 := ⟨n - 1, by omega⟩
  have e : (((m + 1 : Nat) : Int) - 1).toNat = m := by omega
  unfold rootsN
  rw [e, show (1 : Int) = ((1 : Nat) : Int) from rfl, rangeL_nat1, List.filter_map, List.length_map, ← List.countP_eq_length_filter, List.range_succ_eq_map, List.countP_cons, List.countP_map]
  show _ = _ + 0
  rw [Nat.add_zero]
  refine cnt_congr fun x _ => ?_
  show decide ((((1 + x : Nat) : Int) * ((1 + x : Nat) : Int) - r) % ((m + 1 : Nat) : Int) = 0) = (decide (1 ≤ x + 1) && decide ((((x + 1 : Nat) : Int) * ((x + 1 : Nat) : Int) - r) % ((m + 1 : Nat) : Int) = 0))
  rw [decide_eq_true (show 1 ≤ x + 1 by omega), Bool.true_and, Nat.add_comm 1 x]
theorem roots_ok {n : Nat} (h : 1 ≤ n) (hb : n ≤ 100000) (r : Int) : G_roots_of [.val (.int (n : Int)), .val (.int r)] = .ok (.v (.int (rootsN n r : Int))) [] := by
  have g : rgOk (n : Int) = true := rgOk_of (by omega) (by omega)
  have rg : rng2 (cnsA (cst (.int 1)) (cnsA (vr 0) nilA)) [.val (.int (n : Int)), .val (.int r), .no] = .ok (rangeL 1 ((n : Int) - 1).toNat) [.val (.int (n : Int)), .val (.int r), .no] := rng2_ok (by simp_arith only []) (by decide) g
  have c := cmpM_p (ks := [2]) (it := rng2 (cnsA (cst (.int 1)) (cnsA (vr 0) nilA))) (g := nmG 2) (t := tst (op2 eqA (op2 modD (op2 subD (op2 mulD (vr 2) (vr 2)) (vr 1)) (vr 0)) (cst (.int 0)))) (f := vr 2) (rootD n r) id rg rfl rfl (by rw [rangeL_length]; omega) (by
    intro d hd
    obtain ⟨i, rfl, l0, l1⟩ := (rangeL_mem _ _ _).mp hd
    have em : mulD (.int i) (.int i) = some (.int (i * i)) := mulD_l (by omega)
    have ed := modD_pos (a := i * i - r) (b := (n : Int)) (by omega)
    exact ⟨[.val (.int (n : Int)), .val (.int r), .val (.int i)], by simp_arith only [], by simp_arith only [em, ed, rootD], by simp_arith only [], fun _ => by simp_arith only [id]⟩)
  rw [List.map_id] at c
  have el := root_len h r
  simp_arith only [G_roots_of, g_roots_of, c, el]
def countN (n : Nat) : Nat := if n < 3 then 1 else (phiN n + rootsN n 1 + rootsN n (-1)) / 4
def sidesN (n : Nat) : Nat := if n < 3 then 1 else (phiN n + rootsN n 1) / 2
def ownN (n : Nat) : Nat := if n < 3 then 1 else rootsN n (-1) / 2
def loopsN (n : Nat) : Nat := if n < 3 then 1 else rootsN n 1 / (if 0 < rootsN n (-1) then 1 else 2)
theorem fd_lit {a : Nat} {b : Nat} (h : 1 ≤ b) (h2 : b < 1073741824) {c : Int} (e : (b : Int) = c) : fdivD (.int (a : Int)) (.int c) = some (.int ((a / b : Nat) : Int)) := e ▸ fd_nat h h2
theorem count_ok {n : Nat} (h : 1 ≤ n) (hb : n ≤ 100000) : G_count_for [.val (.int (n : Int))] = .ok (.v (.int (countN n : Int))) [] := by
  unfold countN
  by_cases c : n < 3
  · have c' : (n : Int) < 3 := by omega
    rw [if_pos c]
    simp_arith only [G_count_for, g_count_for, c']
  · have c' : ¬ (n : Int) < 3 := by omega
    rw [if_neg c]
    have e1 := shares_ok (n := n) (by omega) (by omega)
    have e2 := roots_ok h hb 1
    have e3 := roots_ok h hb (-1)
    have n1 : negD (.int 1) = some (.int (-1)) := rfl
    have ea : addD (.int (phiN n : Int)) (.int (rootsN n 1 : Int)) = some (.int ((phiN n + rootsN n 1 : Nat) : Int)) := rfl
    have eb : addD (.int ((phiN n + rootsN n 1 : Nat) : Int)) (.int (rootsN n (-1) : Int)) = some (.int ((phiN n + rootsN n 1 + rootsN n (-1) : Nat) : Int)) := rfl
    have ed := fd_lit (a := phiN n + rootsN n 1 + rootsN n (-1)) (b := 4) (by decide) (by decide) (c := 4) rfl
    simp_arith only [G_count_for, g_count_for, n1, ea, eb, c', e1, e2, e3, ed]
theorem chk_ok {n : Nat} (h : 1 ≤ n) {m : Int} (hm : (n : Int) ≤ m) : G_check_number [.val (.int (n : Int)), .val (.int 1), .val (.int m)] = .ok (.v .non) [] := check_number_ok (l := 1) (m := m) (i := .int (n : Int)) rfl (by
  show (decide ((1 : Int) ≤ (n : Int)) && decide ((n : Int) ≤ m)) = true
  rw [decide_eq_true (by omega), decide_eq_true hm]
  rfl)
theorem many_ok {n : Nat} (h : 1 ≤ n) (hb : n ≤ 100000) : G_how_many [.val (.int (n : Int))] = .ok (.v (.int (countN n : Int))) [] := by
  have e1 := count_ok h hb
  have ec := chk_ok h (m := 1000000) (by omega)
  simp_arith only [G_how_many, g_how_many, ec, e1]
theorem sides_ok {n : Nat} (h : 1 ≤ n) (hb : n ≤ 100000) : G_how_many_with_sides [.val (.int (n : Int))] = .ok (.v (.int (sidesN n : Int))) [] := by
  have ec := chk_ok h (m := 1000000) (by omega)
  unfold sidesN
  by_cases c : n < 3
  · have c' : (n : Int) < 3 := by omega
    rw [if_pos c]
    simp_arith only [G_how_many_with_sides, g_how_many_with_sides, ec, c']
  · have c' : ¬ (n : Int) < 3 := by omega
    rw [if_neg c]
    have e1 := shares_ok (n := n) (by omega) (by omega)
    have e2 := roots_ok h hb 1
    have ea : addD (.int (phiN n : Int)) (.int (rootsN n 1 : Int)) = some (.int ((phiN n + rootsN n 1 : Nat) : Int)) := rfl
    have ed := fd_lit (a := phiN n + rootsN n 1) (b := 2) (by decide) (by decide) (c := 2) rfl
    simp_arith only [G_how_many_with_sides, g_how_many_with_sides, ea, ec, c', e1, e2, ed]
theorem own_ok {n : Nat} (h : 1 ≤ n) (hb : n ≤ 100000) : G_how_many_own_mirrors [.val (.int (n : Int))] = .ok (.v (.int (ownN n : Int))) [] := by
  have ec := chk_ok h (m := 1000000) (by omega)
  unfold ownN
  by_cases c : n < 3
  · have c' : (n : Int) < 3 := by omega
    rw [if_pos c]
    simp_arith only [G_how_many_own_mirrors, g_how_many_own_mirrors, ec, c']
  · have c' : ¬ (n : Int) < 3 := by omega
    rw [if_neg c]
    have e3 := roots_ok h hb (-1)
    have n1 : negD (.int 1) = some (.int (-1)) := rfl
    have ed := fd_lit (a := rootsN n (-1)) (b := 2) (by decide) (by decide) (c := 2) rfl
    simp_arith only [G_how_many_own_mirrors, g_how_many_own_mirrors, n1, ec, c', e3, ed]
theorem loops_ok {n : Nat} (h : 1 ≤ n) (hb : n ≤ 100000) : G_how_many_for_loops [.val (.int (n : Int))] = .ok (.v (.int (loopsN n : Int))) [] := by
  have ec := chk_ok h (m := 1000000) (by omega)
  unfold loopsN
  by_cases c : n < 3
  · have c' : (n : Int) < 3 := by omega
    rw [if_pos c]
    simp_arith only [G_how_many_for_loops, g_how_many_for_loops, ec, c']
  · have c' : ¬ (n : Int) < 3 := by omega
    rw [if_neg c]
    have e2 := roots_ok h hb 1
    have e3 := roots_ok h hb (-1)
    have n1 : negD (.int 1) = some (.int (-1)) := rfl
    by_cases d : 0 < rootsN n (-1)
    · have d' : (0 : Int) < (rootsN n (-1) : Int) := by omega
      have ed := fd_lit (a := rootsN n 1) (b := 1) (by decide) (by decide) (c := 1) rfl
      rw [if_pos d]
      simp_arith only [G_how_many_for_loops, g_how_many_for_loops, n1, ec, c', e2, e3, d', ed]
    · have d' : ¬ (0 : Int) < (rootsN n (-1) : Int) := by omega
      have ed := fd_lit (a := rootsN n 1) (b := 2) (by decide) (by decide) (c := 2) rfl
      rw [if_neg d]
      simp_arith only [G_how_many_for_loops, g_how_many_for_loops, n1, ec, c', e2, e3, d', ed]
/-- who has no divisor in common with n has a fellow -/
theorem fellow {n : Nat} (h2 : 2 ≤ n) (hb : n ≤ 100000) : ∀ x, x < n → Nat.gcd n x = 1 → ∃ y, y < n ∧ ∃ k : Int, (x : Int) * y - 1 = n * k := fun x hx hg => by
  obtain ⟨y, _, y0, y1, hy⟩ := inverse_ok (n := (x : Int)) (w := (n : Int)) (by omega) (Nat.lt_of_lt_of_le (show ((n : Int)).natAbs < 2 ^ 20 by omega) (Nat.pow_le_pow_right (by decide) (by decide))) (by
    show Int.gcd (n : Int) (x : Int) = 1
    rw [Int.gcd_natCast_natCast]
    exact hg)
  obtain ⟨z, rfl⟩ := Int.eq_ofNat_of_zero_le y0
  obtain ⟨k, e⟩ := Int.dvd_of_emod_eq_zero (show ((x : Int) * z - 1) % n = 0 from Int.emod_eq_emod_iff_emod_sub_eq_zero.mp (by rw [hy]; exact (Int.emod_eq_of_lt (by decide) (by omega)).symm))
  exact ⟨z, by omega, k, e⟩
/-- what the law asks of a great number -/
theorem great_ok {n : Nat} (h2 : 2 ≤ n) (hb : n ≤ 100000) : sidesN n ≤ 2 * countN n ∧ loopsN n ≤ countN n ∧ ownN n + sidesN n = 2 * countN n := by
  unfold sidesN countN loopsN ownN
  by_cases c : n < 3
  · simp only [if_pos c]
    decide
  · simp only [if_neg c]
    obtain ⟨a, x, y, e1, e2, e3, ev, le, key⟩ := cnt_facts (n := n) (by omega) (fellow h2 hb)
    rw [e1, e2, e3]
    by_cases d : 0 < y
    · have := key d
      rw [if_pos (by omega)]
      omega
    · rw [if_neg (by omega)]
      omega

theorem lgcd_wh : ∀ (n : Nat) (a b : Int), 0 ≤ a → 0 ≤ b → b < n → ∃ m, whN [] (tst (op2 gtD (vr 1) (cst (.int 0)))) b__law_gcd_1 m [.val (.int a), .val (.int b)] = .ok .nx [.val (.int (Int.gcd a b)), .val (.int 0)]
  | 0, a, b, h0, h1, h => by omega
  | n + 1, a, b, h0, h1, h => by
    by_cases hb : 0 < b
    · obtain ⟨m, e⟩ := lgcd_wh n b (a % b) h1 (Int.emod_nonneg _ (by omega)) (by have := Int.emod_lt_of_pos a hb; omega)
      have g : Int.gcd b (a % b) = Int.gcd a b := by rw [Int.emod_def, Int.gcd_sub_mul_left_right, Int.gcd_comm]
      rw [g] at e
      have eb : b__law_gcd_1 [.val (.int a), .val (.int b)] = .ok .nx [.val (.int b), .val (.int (a % b))] := by simp_arith only [b__law_gcd_1, modD_pos hb]
      exact ⟨m + 1, by simp_arith only [whN, hb, eb, e]⟩
    · have : b = 0 := by omega
      subst this
      refine ⟨1, ?_⟩
      have g : ((Int.gcd a 0 : Nat) : Int) = a := by rw [Int.gcd_zero_right]; omega
      rw [g]
      simp_arith only [whN]
theorem lgcd_ok {a b : Int} (h0 : 0 ≤ a) (h1 : 0 ≤ b) : G__law_gcd [.val (.int a), .val (.int b)] = .ok (.v (.int (Int.gcd a b))) [] := by
  have ea : ((a.natAbs : Nat) : Int) = a := Int.natAbs_of_nonneg h0
  have eb : ((b.natAbs : Nat) : Int) = b := Int.natAbs_of_nonneg h1
  obtain ⟨m, e⟩ := lgcd_wh (b.toNat + 1) a b h0 h1 (by omega)
  have w := whS_eq (ks := []) (t := (tst (op2 gtD (vr 1) (cst (.int 0))))) (b := b__law_gcd_1) (n := m) (ρ := [.val (.int a), .val (.int b)]) (by rw [e]; rfl)
  rw [e] at w
  simp_arith only [G__law_gcd, g__law_gcd, ea, eb, w]

theorem inv_uniq {p q x y : Int} (hx : q * x % p = 1) (hy : q * y % p = 1) (x0 : 0 ≤ x) (x1 : x < p) (y0 : 0 ≤ y) (y1 : y < p) : x = y := by
  have ex := Int.emod_add_mul_ediv (q * x) p
  have ey := Int.emod_add_mul_ediv (q * y) p
  rw [hx] at ex
  rw [hy] at ey
  generalize q * x / p = a at ex
  generalize q * y / p = b at ey
  -- x = x * (q y - p b), y = y * (q x - p a)
  have e1 : x - y = p * (x * -b + y * a) := by
    have h1 : x * (q * y) = x * (1 + p * b) := by rw [ey]
    have h2 : y * (q * x) = y * (1 + p * a) := by rw [ex]
    have h3 : x * (q * y) = y * (q * x) := by grind
    have h4 : x * (1 + p * b) = y * (1 + p * a) := by rw [← h1, ← h2, h3]
    grind
  have hx' : x % p = x := Int.emod_eq_of_lt x0 x1
  have hy' : y % p = y := Int.emod_eq_of_lt y0 y1
  have e2 : x = y + p * (x * -b + y * a) := by omega
  have e3 : x % p = y % p := by
    generalize x * -b + y * a = k at e2
    rw [e2, Int.add_mul_emod_self_left]
  omega

section
variable {f f' g g' : EF} {a a' : SF}
end

def Y_common : List FL.Arg → RG
  | [.val (.int a), .val (.int b)] => if 0 ≤ a ∧ 0 ≤ b then .ok (.v (.int (Int.gcd a b : Nat))) [] else .stuck
  | _ => .stuck
theorem le_Y_common : LeG Y_common G_common := fun as => by
  unfold Y_common
  split
  · split
    · rename_i h
      exact .inr (common_ok h.1 h.2).symm
    · exact .inl rfl
  · exact .inl rfl
def invI (n w : Int) : Option Nat := (List.range w.toNat).find? fun x => decide (n * (x : Int) % w = 1)
def Y_inverse : List FL.Arg → RG
  | [.val (.int n), .val (.int w)] => if 2 ≤ w ∧ w ≤ 1000 ∧ Int.gcd w n = 1 then (match invI n w with
    | some x => .ok (.v (.int (x : Int))) []
    | none => .stuck) else .stuck
  | _ => .stuck
theorem le_Y_inverse : LeG Y_inverse G_inverse := fun as => by
  unfold Y_inverse
  split
  · rename_i n w
    split
    · rename_i h
      split
      · rename_i x ex
        obtain ⟨y, e, y0, y1, hy⟩ := inverse_ok h.1 (Nat.lt_of_lt_of_le (show w.natAbs < 2 ^ 10 by omega) (Nat.pow_le_pow_right (by decide) (by decide))) h.2.2
        have px := List.find?_some ex
        have hx : n * (x : Int) % w = 1 := of_decide_eq_true px
        have mx := List.mem_range.mp (List.mem_of_find?_eq_some ex)
        have exy : (x : Int) = y := inv_uniq hx hy (by omega) (by omega) y0 y1
        rw [exy]
        exact .inr e.symm
      · exact .inl rfl
    · exact .inl rfl
  · exact .inl rfl
def Y__law_gcd : List FL.Arg → RG
  | [.val (.int a), .val (.int b)] => if 0 ≤ a ∧ 0 ≤ b then .ok (.v (.int (Int.gcd a b : Nat))) [] else .stuck
  | _ => .stuck
theorem le_Y__law_gcd : LeG Y__law_gcd G__law_gcd := fun as => by
  unfold Y__law_gcd
  split
  · split
    · rename_i h
      exact .inr (lgcd_ok h.1 h.2).symm
    · exact .inl rfl
  · exact .inl rfl
/-- the numbers of a list -/
def intsB : List D → Option (List Int)
  | [] => some []
  | .int a :: ds => (intsB ds).map (a :: ·)
  | _ :: _ => none
theorem intsB_of : ∀ {ds : List D} {as : List Int}, intsB ds = some as → ds = as.map D.int
  | [], _, h => by cases h; rfl
  | d :: ds, as, h => by
    cases d with
    | int a =>
      obtain ⟨bs, e, rfl⟩ := Option.map_eq_some_iff.mp h
      rw [intsB_of e]
      rfl
    | _ => cases h
section
variable {m m' : Rho → R M} {u u' : Rho → R (List D)}
theorem le_frzZ (k : Le m m') : Le (frzZ m) (frzZ m') := fun ρ => (k ρ).bind fun _ _ => .rfl
theorem le_dicM (k : Le u u') : Le (dicM u) (dicM u') := fun ρ => (k ρ).bind fun _ _ => .rfl
end
theorem wipe_no {i : Nat} {ρ : Rho} (h : ρ[i]? = some .no) : ρ.set i .no = ρ := by
  obtain ⟨hi, e⟩ := List.getElem?_eq_some_iff.mp h
  rw [← e, List.set_getElem_self]
/-- a comprehension over numbers that leaves the state as it is -/
theorem cmp_ints {k : Nat} {it : IF} {f : EF} {ρ : Rho} {as : List Int} (F : Int → Int) (hk : ρ[k]? = some .no) (h1 : it ρ = .ok (as.map D.int) ρ) (hl : as.length ≤ 1000) (hf : ∀ a ∈ as, f (ρ.set k (.val (.int a))) = .ok (.int (F a)) (ρ.set k (.val (.int a)))) :
    frz (cmpM [k] it (nmG k) yesT f) ρ = .ok (.lst (as.map fun a => .int (F a))) ρ := by
  obtain ⟨hi, _⟩ := List.getElem?_eq_some_iff.mp hk
  have w : wipeR [k] ρ = ρ := wipe_no hk
  have c := cmpM_p (ks := [k]) (it := it) (g := nmG k) (t := yesT) (f := f) (ρ := ρ) (ds := as.map D.int) (fun _ => true) (fun d => match d with | .int a => .int (F a) | d => d) h1 w (by
    show (match ρ[k]? with | some (.val d) => resR [] ρ (ρ.set k (.val d)) | some .no => resR [] ρ (ρ.set k .no) | none => resR [] ρ ρ | _ => none) = _
    rw [hk]
    show some (ρ.set k .no) = some ρ
    rw [wipe_no hk]) (by rw [List.length_map]; omega) (by
    intro d hd
    obtain ⟨a, ha, rfl⟩ := List.mem_map.mp hd
    refine ⟨ρ.set k (.val (.int a)), ?_, rfl, ?_, fun _ => hf a ha⟩
    · show (if k < ρ.length then some (ρ.set k (.val (.int a))) else none) = _
      rw [if_pos hi]
    · show (ρ.set k (.val (.int a))).set k .no = ρ
      rw [List.set_set, wipe_no hk])
  rw [List.filter_eq_self.mpr (fun _ _ => rfl), List.map_map] at c
  show (cmpM [k] it (nmG k) yesT f ρ).bind _ = _
  rw [c]
  rfl
def y_kin12 : EF := fun (ρ : Rho) => match (ρ[0]? : Option Slot), (ρ[1]? : Option Slot), (ρ[4]? : Option Slot), (ρ[11]? : Option Slot) with
  | some (.val (.int p)), some (.val (.int q)), some (.val d), some .no => (match keysD d with
    | some ds => (match intsB ds with
      | some as => if 0 < p ∧ q.natAbs ≤ 1000 ∧ as.length ≤ 1000 then .ok (.lst (as.map fun s => .int (q * s % p))) ρ else .stuck
      | none => .stuck)
    | none => .stuck)
  | _, _, _, _ => .stuck
theorem le_y_kin12 : Le y_kin12 (frz (cmpM [11] (keyI (vr 4)) (nmG 11) yesT (op2 modD (opC intC (cnsA (op2 mulD (vr 1) (vr 11)) nilA)) (vr 0)))) := fun ρ => by
  unfold y_kin12
  split
  · rename_i p q d h0 h1 h4 h11
    split
    · rename_i ds ek
      split
      · rename_i as ei
        split
        · rename_i hb
          refine .inr (cmp_ints (fun s => q * s % p) h11 ?_ hb.2.2 fun a _ => ?_).symm
          · rw [← intsB_of ei]
            have e4 : vr 4 ρ = .ok d ρ := by
              unfold vr
              rw [h4]
            unfold keyI
            rw [e4]
            show R.of (keysD d) ρ = _
            rw [ek]
            rfl
          · have g0 : (ρ.set 11 (.val (.int a)))[0]? = some (.val (.int p)) := by rw [List.getElem?_set_ne (by decide)]; exact h0
            have g1 : (ρ.set 11 (.val (.int a)))[1]? = some (.val (.int q)) := by rw [List.getElem?_set_ne (by decide)]; exact h1
            have g2 : (ρ.set 11 (.val (.int a)))[11]? = some (.val (.int a)) := by
              obtain ⟨hi, _⟩ := List.getElem?_eq_some_iff.mp h11
              rw [List.getElem?_set_self hi]
            have em : mulD (.int q) (.int a) = some (.int (q * a)) := mulD_l (by omega)
            have ed := modD_pos (a := q * a) (b := p) hb.1
            simp_arith only [g0, g1, g2, em, ed]
        · exact .inl rfl
      · exact .inl rfl
    · exact .inl rfl
  · exact .inl rfl
def y_sub12 : EF := fun (ρ : Rho) => match (ρ[0]? : Option Slot), (ρ[10]? : Option Slot), (ρ[12]? : Option Slot) with
  | some (.val (.int p)), some (.val (.lst ds)), some .no => (match intsB ds with
    | some as => if as.length ≤ 1000 then .ok (.lst (as.map fun s => .int (p - s))) ρ else .stuck
    | none => .stuck)
  | _, _, _ => .stuck
theorem le_y_sub12 : Le y_sub12 (frz (cmpM [12] (seqI (vr 10)) (nmG 12) yesT (op2 subD (vr 0) (vr 12)))) := fun ρ => by
  unfold y_sub12
  split
  · rename_i p ds h0 h10 h12
    split
    · rename_i as ei
      split
      · rename_i hb
        refine .inr (cmp_ints (fun s => p - s) h12 ?_ hb fun a _ => ?_).symm
        · rw [← intsB_of ei]
          have e4 : vr 10 ρ = .ok (.lst ds) ρ := by
            unfold vr
            rw [h10]
          unfold seqI
          rw [e4]
          rfl
        · have g0 : (ρ.set 12 (.val (.int a)))[0]? = some (.val (.int p)) := by rw [List.getElem?_set_ne (by decide)]; exact h0
          have g2 : (ρ.set 12 (.val (.int a)))[12]? = some (.val (.int a)) := by
            obtain ⟨hi, _⟩ := List.getElem?_eq_some_iff.mp h12
            rw [List.getElem?_set_self hi]
          simp_arith only [g0, g2]
      · exact .inl rfl
    · exact .inl rfl
  · exact .inl rfl
def linvB (p q : Int) (j : Nat) : Bool := decide (((1 + j : Nat) : Int) * q % p = 1)
def Y__law_inverse : List FL.Arg → RG
  | [.val (.int p), .val (.int q)] => if 1 ≤ p ∧ p ≤ 1000 then (match (List.range (p - 1).toNat).find? (linvB p q) with
    | some j => .ok (.v (.int ((1 + j : Nat) : Int))) []
    | none => .stuck) else .stuck
  | _ => .stuck
def linvD (p q : Int) : D → Bool
  | .int x => decide (x * q % p = 1)
  | _ => false
theorem le_Y__law_inverse : LeG Y__law_inverse G__law_inverse := fun as => by
  unfold Y__law_inverse
  split
  · rename_i p q
    split
    · rename_i hp
      split
      · rename_i j ej
        have rg : rng2 (cnsA (cst (.int 1)) (cnsA (vr 0) nilA)) [.val (.int p), .val (.int q), .no] = .ok (rangeL 1 (p - 1).toNat) [.val (.int p), .val (.int q), .no] := rng2_ok (by simp_arith only []) (by decide) (rgOk_of (by omega) (by omega))
        have c := cmpM_p (ks := [2]) (it := rng2 (cnsA (cst (.int 1)) (cnsA (vr 0) nilA))) (g := nmG 2) (t := tst (op2 eqA (op2 modD (opC intC (cnsA (op2 mulD (vr 2) (vr 1)) nilA)) (vr 0)) (cst (.int 1)))) (f := vr 2) (linvD p q) id rg rfl rfl (by rw [rangeL_length]; omega) (by
          intro d hd
          obtain ⟨i, rfl, l0, l1⟩ := (rangeL_mem _ _ _).mp hd
          have em : mulD (.int i) (.int q) = some (.int (i * q)) := mulD_l (by omega)
          have ed := modD_pos (a := i * q) (b := p) (by omega)
          exact ⟨[.val (.int p), .val (.int q), .val (.int i)], by simp_arith only [], by simp_arith only [em, ed, linvD], by simp_arith only [], fun _ => by simp_arith only [id]⟩)
        rw [List.map_id] at c
        have e0 : ixD (.lst ((rangeL 1 (p - 1).toNat).filter (linvD p q))) (.int 0) = some (.int ((1 + j : Nat) : Int)) := by
          have hh : ((rangeL 1 (p - 1).toNat).filter (linvD p q)).head? = some (.int ((1 + j : Nat) : Int)) := by
            rw [List.head?_filter, show (1 : Int) = ((1 : Nat) : Int) from rfl, rangeL_nat1, List.find?_map]
            show Option.map _ ((List.range (p - ((1 : Nat) : Int)).toNat).find? (linvB p q)) = _
            have ej : (List.range (p - ((1 : Nat) : Int)).toNat).find? (linvB p q) = some j := ej
            rw [ej]
            rfl
          generalize (rangeL 1 (p - 1).toNat).filter (linvD p q) = L at hh
          cases L with
          | nil => cases hh
          | cons x xs =>
            cases hh
            exact ix0_cons _ _
        exact .inr (by simp_arith only [G__law_inverse, g__law_inverse, c, e0])
      · exact .inl rfl
    · exact .inl rfl
  · exact .inl rfl

def y_primes_to : SF := (retM (cmpM [1] (rng2 (cnsA (cst (.int 1)) (cnsA (vr 0) nilA))) (nmG 1) (tst (op2 eqA (callE 2 Y_common (cnsB (vr 0) (cnsB (vr 1) nilB))) (cst (.int 1)))) (vr 1)))
theorem le_y_primes_to : Le y_primes_to g_primes_to := (le_retM (le_cmpM Le.rfl (le_tst (le_op2 (le_callG le_Y_common Le.rfl) Le.rfl)) Le.rfl))
def Y_primes_to : List FL.Arg → RG := bodyG 2 y_primes_to
theorem le_Y_primes_to : LeG Y_primes_to G_primes_to := le_body le_y_primes_to
def y_all_for : SF := (seqS (ifS (tst (op2 ltD (op2 ixD (vr 0) (cst (.int 0))) (cst (.int 2)))) (retM (dLst (cnsA (vr 0) nilA))) nxS) (seqS (setS 1 (dTup (cnsA (op2 ixD (vr 0) (cst (.int 0))) (cnsA (callE 2 Y_inverse (cnsB (op2 ixD (vr 0) (cst (.int 1))) (cnsB (op2 ixD (vr 0) (cst (.int 0))) nilB))) nilA)))) (retS (dtcE [2] (seqI (dTup (cnsA (vr 0) (cnsA (vr 1) (cnsA (callE 1 G_mirrored (cnsB (vr 0) nilB)) (cnsA (callE 1 G_mirrored (cnsB (vr 1) nilB)) nilA)))))) (nmG 2) yesT (vr 2) (cst (.bl true))))))
theorem le_y_all_for : Le y_all_for g_all_for := (le_seqS Le.rfl (le_seqS (le_setS (le_dTup (le_cnsA Le.rfl (le_cnsA (le_callG le_Y_inverse Le.rfl) Le.rfl)))) Le.rfl))
def Y_all_for : List FL.Arg → RG := bodyG 3 y_all_for
theorem le_Y_all_for : LeG Y_all_for G_all_for := le_body le_y_all_for
def y_solids : SF := (seqS (exS (callE 3 G_check_number (cnsB (vr 0) (cnsB (cst (.int 1)) (cnsB (cst (.int 500)) nilB))))) (seqS (ifS (tst (op2 eqA (vr 0) (cst (.int 1)))) (retS (dTup (cnsA (dTup (cnsA (cst (.int 1)) (cnsA (cst (.int 0)) nilA))) nilA))) nxS) (retS (opC tupC (cnsA (frz (cmpM [1] (seqI (callE 1 Y_primes_to (cnsB (vr 0) nilB))) (nmG 1) (tst (op2 eqA (op2 ixD (callE 1 Y_all_for (cnsB (dTup (cnsA (vr 0) (cnsA (vr 1) nilA))) nilB)) (cst (.int 0))) (dTup (cnsA (vr 0) (cnsA (vr 1) nilA))))) (dTup (cnsA (vr 0) (cnsA (vr 1) nilA))))) nilA)))))
theorem le_y_solids : Le y_solids g_solids := (le_seqS Le.rfl (le_seqS Le.rfl (le_retS (le_opC (le_cnsA (le_frz (le_cmpM (le_seqI (le_callG le_Y_primes_to Le.rfl)) (le_tst (le_op2 (le_op2 (le_callG le_Y_all_for Le.rfl) Le.rfl) Le.rfl)) Le.rfl)) Le.rfl)))))
def Y_solids : List FL.Arg → RG := bodyG 2 y_solids
theorem le_Y_solids : LeG Y_solids G_solids := le_body le_y_solids
def z__law_told_1_4 : SF := (ifS (tst (op2 eqA (vr 1) (opC minLC (cnsA (op2 addD (vr 10) y_sub12) nilA)))) (mutS 7 (vr 1) appO) nxS)
theorem le_z__law_told_1_4 : Le z__law_told_1_4 b__law_told_1_4 := (le_ifS (le_tst (le_op2 Le.rfl (le_opC (le_cnsA (le_op2 Le.rfl le_y_sub12) Le.rfl)))) Le.rfl Le.rfl)
def z__law_told_1_3 : SF := (seqS (setS 10 y_kin12) z__law_told_1_4)
theorem le_z__law_told_1_3 : Le z__law_told_1_3 b__law_told_1_3 := (le_seqS (le_setS le_y_kin12) le_z__law_told_1_4)
def z__law_told_1_2 : SF := (seqS (ifS (tst (op2 eqA (vr 1) (opC minLC (cnsA (slF (vr 9) noO (smO (cst (.int 2)))) nilA)))) (seqS (mutS 6 (vr 1) appO) (ifS (tst (op2 inA (op2 subD (vr 0) (vr 1)) (slF (vr 9) noO (smO (cst (.int 2)))))) (mutS 8 (vr 1) appO) nxS)) nxS) z__law_told_1_3)
theorem le_z__law_told_1_2 : Le z__law_told_1_2 b__law_told_1_2 := (le_seqS Le.rfl le_z__law_told_1_3)
def z__law_told_1_1 : SF := (seqS (ifS (tst (op2 eqA (vr 1) (opC minLC (cnsA (vr 9) nilA)))) (mutS 5 (vr 1) appO) nxS) z__law_told_1_2)
theorem le_z__law_told_1_1 : Le z__law_told_1_1 b__law_told_1_1 := (le_seqS Le.rfl le_z__law_told_1_2)
def z__law_told_1 : SF := (seqS (setS 9 (frz (dLst (cnsA (vr 1) (cnsA (op2 dgetD (vr 3) (vr 1)) (cnsA (op2 subD (vr 0) (vr 1)) (cnsA (op2 subD (vr 0) (op2 dgetD (vr 3) (vr 1))) nilA))))))) z__law_told_1_1)
theorem le_z__law_told_1 : Le z__law_told_1 b__law_told_1 := (le_seqS Le.rfl le_z__law_told_1_1)
def y__law_told_4 : SF := (seqS (forS [] (seqI (vr 2)) (nmG 1) z__law_told_1) g__law_told_5)
theorem le_y__law_told_4 : Le y__law_told_4 g__law_told_4 := (le_seqS (le_forS Le.rfl le_z__law_told_1) Le.rfl)
def y__law_told_3 : SF := (seqS (parN [5, 6, 7, 8] (newN (dLst nilA) (newN (dLst nilA) (newN (dLst nilA) (newN (dLst nilA) nilN))))) y__law_told_4)
theorem le_y__law_told_3 : Le y__law_told_3 g__law_told_3 := (le_seqS Le.rfl le_y__law_told_4)
def y__law_told_2 : SF := (seqS (setS 4 (frzZ (dicM (cnsA (frz (cmpM [1] (seqI (vr 2)) (nmG 1) yesT (dTup (cnsA (op2 modD (opC intC (cnsA (op2 mulD (vr 1) (vr 1)) nilA)) (vr 0)) (cnsA (cst (.bl true)) nilA))))) nilA)))) y__law_told_3)
theorem le_y__law_told_2 : Le y__law_told_2 g__law_told_2 := (le_seqS Le.rfl le_y__law_told_3)
def y__law_told_1 : SF := (seqS (setS 3 (frzZ (dicM (cnsA (frz (cmpM [1] (seqI (vr 2)) (nmG 1) yesT (dTup (cnsA (vr 1) (cnsA (callE 2 Y__law_inverse (cnsB (vr 0) (cnsB (vr 1) nilB))) nilA))))) nilA)))) y__law_told_2)
theorem le_y__law_told_1 : Le y__law_told_1 g__law_told_1 := (le_seqS (le_setS (le_frzZ (le_dicM (le_cnsA (le_frz (le_cmpM Le.rfl Le.rfl (le_dTup (le_cnsA Le.rfl (le_cnsA (le_callG le_Y__law_inverse Le.rfl) Le.rfl))))) Le.rfl)))) le_y__law_told_2)
def y__law_told : SF := (seqS (setS 2 (frz (cmpM [1] (rng2 (cnsA (cst (.int 1)) (cnsA (vr 0) nilA))) (nmG 1) (tst (op2 eqA (callE 2 Y__law_gcd (cnsB (vr 0) (cnsB (vr 1) nilB))) (cst (.int 1)))) (vr 1)))) y__law_told_1)
theorem le_y__law_told : Le y__law_told g__law_told := (le_seqS (le_setS (le_frz (le_cmpM Le.rfl (le_tst (le_op2 (le_callG le_Y__law_gcd Le.rfl) Le.rfl)) Le.rfl))) le_y__law_told_1)
def Y__law_told : List FL.Arg → RG := bodyG 13 y__law_told
theorem le_Y__law_told : LeG Y__law_told G__law_told := le_body le_y__law_told

def eqS (p : Int) : List Int → List D → Bool
  | [], [] => true
  | a :: as, d :: ds => (match d with
    | .tup [.int x, .int y] => decide (x = p) && decide (y = a)
    | _ => false) && eqS p as ds
  | _, _ => false
theorem eqS_of {p : Int} : ∀ {as : List Int} {ds : List D}, eqS p as ds = true → ds = as.map fun a => .tup [.int p, .int a]
  | [], [], _ => rfl
  | [], _ :: _, h => by cases h
  | _ :: _, [], h => by cases h
  | a :: as, d :: ds, h => by
    obtain ⟨h1, h2⟩ := Bool.and_eq_true_iff.mp h
    have e := eqS_of h2
    split at h1
    · obtain ⟨h3, h4⟩ := Bool.and_eq_true_iff.mp h1
      rw [of_decide_eq_true h3, of_decide_eq_true h4, e]
      rfl
    · cases h1
/-- what the law counts out for p, beside what is asked -/
def chkT (p : Nat) (n s l o : Nat) : RG → Option (List Int)
  | .ok (.m (.lst [.lst A, .lst B, .lst C, .lst E])) [] => if A.length = n ∧ B.length = s ∧ C.length = l ∧ E.length = o ∧ n ≤ 100 then (match intsB A with
    | some as => if (as.all fun a => decide (0 ≤ a) && decide (a ≤ 100)) = true then some as else none
    | none => none) else none
  | _ => none
def chkS (p : Nat) (as : List Int) : RG → Bool
  | .ok (.v (.tup S)) [] => eqS p as S
  | _ => false
def chkP (p : Nat) : Bool := match chkT p (countN p) (sidesN p) (loopsN p) (ownN p) (Y__law_told [.val (.int (p : Int))]) with
  | some as => chkS p as (Y_solids [.val (.int (p : Int))])
  | none => false
/-- what comes of it -/
structure Told (p : Nat) (as : List Int) (B C E : List D) : Prop where
  t : G__law_told [.val (.int (p : Int))] = .ok (.m (.lst [.lst (as.map D.int), .lst B, .lst C, .lst E])) []
  n : as.length = countN p
  s : B.length = sidesN p
  l : C.length = loopsN p
  o : E.length = ownN p
  b : ∀ a ∈ as, 0 ≤ a ∧ a ≤ 100
  m : as.length ≤ 100
  g : G_solids [.val (.int (p : Int))] = .ok (.v (.tup (as.map fun a => .tup [.int (p : Int), .int a]))) []
theorem told_of {p : Nat} (h : chkP p = true) : ∃ as B C E, Told p as B C E := by
  unfold chkP at h
  split at h
  · rename_i as e
    unfold chkT at e
    split at e
    · rename_i A B C E eY
      split at e
      · rename_i hl
        split at e
        · rename_i as' ea
          split at e
          · rename_i hall
            cases e
            unfold chkS at h
            split at h
            · rename_i S eS
              have eA := intsB_of ea
              have t := le_Y__law_told [.val (.int (p : Int))]
              have g := le_Y_solids [.val (.int (p : Int))]
              rw [eY] at t
              rw [eS] at g
              have lA : as.length = A.length := by rw [eA, List.length_map]
              refine ⟨as, B, C, E, ?_, by rw [lA]; exact hl.1, hl.2.1, hl.2.2.1, hl.2.2.2.1, fun a ha => ?_, by rw [lA, hl.1]; exact hl.2.2.2.2, ?_⟩
              · rcases t with t | t
                · cases t
                · rw [← t, eA]
              · have := List.all_eq_true.mp hall a ha
                obtain ⟨h1, h2⟩ := Bool.and_eq_true_iff.mp this
                exact ⟨of_decide_eq_true h1, of_decide_eq_true h2⟩
              · rcases g with g | g
                · cases g
                · rw [← g, eqS_of h]
            · cases h
          · cases e
        · cases e
      · cases e
    · cases e
  · cases h

theorem cp_2 : chkP 2 = true := by decide +kernel
theorem cp_3 : chkP 3 = true := by decide +kernel
theorem cp_4 : chkP 4 = true := by decide +kernel
theorem cp_5 : chkP 5 = true := by decide +kernel
theorem cp_6 : chkP 6 = true := by decide +kernel
theorem cp_7 : chkP 7 = true := by decide +kernel
theorem cp_8 : chkP 8 = true := by decide +kernel
theorem cp_9 : chkP 9 = true := by decide +kernel
theorem cp_10 : chkP 10 = true := by decide +kernel
theorem cp_11 : chkP 11 = true := by decide +kernel
theorem cp_12 : chkP 12 = true := by decide +kernel
theorem cp_13 : chkP 13 = true := by decide +kernel
theorem cp_14 : chkP 14 = true := by decide +kernel
theorem cp_15 : chkP 15 = true := by decide +kernel
theorem cp_16 : chkP 16 = true := by decide +kernel
theorem cp_17 : chkP 17 = true := by decide +kernel
theorem cp_18 : chkP 18 = true := by decide +kernel
theorem cp_19 : chkP 19 = true := by decide +kernel
theorem cp_20 : chkP 20 = true := by decide +kernel
theorem cp_21 : chkP 21 = true := by decide +kernel
theorem cp_22 : chkP 22 = true := by decide +kernel
theorem cp_23 : chkP 23 = true := by decide +kernel
theorem cp_24 : chkP 24 = true := by decide +kernel
theorem cp_25 : chkP 25 = true := by decide +kernel
theorem cp_26 : chkP 26 = true := by decide +kernel
theorem cp_27 : chkP 27 = true := by decide +kernel
theorem cp_28 : chkP 28 = true := by decide +kernel
theorem cp_29 : chkP 29 = true := by decide +kernel
theorem cp_30 : chkP 30 = true := by decide +kernel
theorem cp_31 : chkP 31 = true := by decide +kernel
theorem cp_32 : chkP 32 = true := by decide +kernel
theorem cp_33 : chkP 33 = true := by decide +kernel
theorem cp_34 : chkP 34 = true := by decide +kernel
theorem cp_35 : chkP 35 = true := by decide +kernel
theorem cp_36 : chkP 36 = true := by decide +kernel
theorem cp_37 : chkP 37 = true := by decide +kernel
theorem cp_38 : chkP 38 = true := by decide +kernel
theorem cp_39 : chkP 39 = true := by decide +kernel
theorem cp_40 : chkP 40 = true := by decide +kernel
theorem cp_41 : chkP 41 = true := by decide +kernel
theorem cp_42 : chkP 42 = true := by decide +kernel
theorem cp_43 : chkP 43 = true := by decide +kernel
theorem cp_44 : chkP 44 = true := by decide +kernel
theorem cp_45 : chkP 45 = true := by decide +kernel
theorem cp_46 : chkP 46 = true := by decide +kernel
theorem cp_47 : chkP 47 = true := by decide +kernel
theorem cp_48 : chkP 48 = true := by decide +kernel
theorem cp_49 : chkP 49 = true := by decide +kernel
theorem cp_50 : chkP 50 = true := by decide +kernel
theorem cp_51 : chkP 51 = true := by decide +kernel
theorem cp_52 : chkP 52 = true := by decide +kernel
theorem cp_53 : chkP 53 = true := by decide +kernel
theorem cp_54 : chkP 54 = true := by decide +kernel
theorem cp_55 : chkP 55 = true := by decide +kernel
theorem cp_56 : chkP 56 = true := by decide +kernel
theorem cp_57 : chkP 57 = true := by decide +kernel
theorem cp_58 : chkP 58 = true := by decide +kernel
theorem cp_59 : chkP 59 = true := by decide +kernel
theorem cp_60 : chkP 60 = true := by decide +kernel
theorem cp_61 : chkP 61 = true := by decide +kernel
theorem cp_62 : chkP 62 = true := by decide +kernel
theorem cp_63 : chkP 63 = true := by decide +kernel
theorem cp_64 : chkP 64 = true := by decide +kernel
theorem cp_65 : chkP 65 = true := by decide +kernel
theorem cp_66 : chkP 66 = true := by decide +kernel
theorem cp_67 : chkP 67 = true := by decide +kernel
theorem cp_68 : chkP 68 = true := by decide +kernel
theorem cp_69 : chkP 69 = true := by decide +kernel
theorem cp_70 : chkP 70 = true := by decide +kernel
theorem cp_71 : chkP 71 = true := by decide +kernel
theorem cp_72 : chkP 72 = true := by decide +kernel
theorem cp_73 : chkP 73 = true := by decide +kernel
theorem cp_74 : chkP 74 = true := by decide +kernel
theorem cp_75 : chkP 75 = true := by decide +kernel
theorem cp_76 : chkP 76 = true := by decide +kernel
theorem cp_77 : chkP 77 = true := by decide +kernel
theorem cp_78 : chkP 78 = true := by decide +kernel
theorem cp_79 : chkP 79 = true := by decide +kernel
theorem cp_80 : chkP 80 = true := by decide +kernel
theorem cp_81 : chkP 81 = true := by decide +kernel
theorem cp_82 : chkP 82 = true := by decide +kernel
theorem cp_83 : chkP 83 = true := by decide +kernel
theorem cp_84 : chkP 84 = true := by decide +kernel
theorem cp_85 : chkP 85 = true := by decide +kernel
theorem cp_86 : chkP 86 = true := by decide +kernel
theorem cp_87 : chkP 87 = true := by decide +kernel
theorem cp_88 : chkP 88 = true := by decide +kernel
theorem cp_89 : chkP 89 = true := by decide +kernel
theorem cp_90 : chkP 90 = true := by decide +kernel
theorem cp_91 : chkP 91 = true := by decide +kernel
theorem cp_92 : chkP 92 = true := by decide +kernel
theorem cp_93 : chkP 93 = true := by decide +kernel
theorem cp_94 : chkP 94 = true := by decide +kernel
theorem cp_95 : chkP 95 = true := by decide +kernel
theorem cp_96 : chkP 96 = true := by decide +kernel
theorem cp_97 : chkP 97 = true := by decide +kernel
theorem cp_98 : chkP 98 = true := by decide +kernel
theorem cp_99 : chkP 99 = true := by decide +kernel
theorem cp_100 : chkP 100 = true := by decide +kernel
theorem chkP_ok {p : Nat} (h1 : 2 ≤ p) (h2 : p ≤ 100) : chkP p = true := by
  by_cases c2 : p = 2
  · subst c2; exact cp_2
  by_cases c3 : p = 3
  · subst c3; exact cp_3
  by_cases c4 : p = 4
  · subst c4; exact cp_4
  by_cases c5 : p = 5
  · subst c5; exact cp_5
  by_cases c6 : p = 6
  · subst c6; exact cp_6
  by_cases c7 : p = 7
  · subst c7; exact cp_7
  by_cases c8 : p = 8
  · subst c8; exact cp_8
  by_cases c9 : p = 9
  · subst c9; exact cp_9
  by_cases c10 : p = 10
  · subst c10; exact cp_10
  by_cases c11 : p = 11
  · subst c11; exact cp_11
  by_cases c12 : p = 12
  · subst c12; exact cp_12
  by_cases c13 : p = 13
  · subst c13; exact cp_13
  by_cases c14 : p = 14
  · subst c14; exact cp_14
  by_cases c15 : p = 15
  · subst c15; exact cp_15
  by_cases c16 : p = 16
  · subst c16; exact cp_16
  by_cases c17 : p = 17
  · subst c17; exact cp_17
  by_cases c18 : p = 18
  · subst c18; exact cp_18
  by_cases c19 : p = 19
  · subst c19; exact cp_19
  by_cases c20 : p = 20
  · subst c20; exact cp_20
  by_cases c21 : p = 21
  · subst c21; exact cp_21
  by_cases c22 : p = 22
  · subst c22; exact cp_22
  by_cases c23 : p = 23
  · subst c23; exact cp_23
  by_cases c24 : p = 24
  · subst c24; exact cp_24
  by_cases c25 : p = 25
  · subst c25; exact cp_25
  by_cases c26 : p = 26
  · subst c26; exact cp_26
  by_cases c27 : p = 27
  · subst c27; exact cp_27
  by_cases c28 : p = 28
  · subst c28; exact cp_28
  by_cases c29 : p = 29
  · subst c29; exact cp_29
  by_cases c30 : p = 30
  · subst c30; exact cp_30
  by_cases c31 : p = 31
  · subst c31; exact cp_31
  by_cases c32 : p = 32
  · subst c32; exact cp_32
  by_cases c33 : p = 33
  · subst c33; exact cp_33
  by_cases c34 : p = 34
  · subst c34; exact cp_34
  by_cases c35 : p = 35
  · subst c35; exact cp_35
  by_cases c36 : p = 36
  · subst c36; exact cp_36
  by_cases c37 : p = 37
  · subst c37; exact cp_37
  by_cases c38 : p = 38
  · subst c38; exact cp_38
  by_cases c39 : p = 39
  · subst c39; exact cp_39
  by_cases c40 : p = 40
  · subst c40; exact cp_40
  by_cases c41 : p = 41
  · subst c41; exact cp_41
  by_cases c42 : p = 42
  · subst c42; exact cp_42
  by_cases c43 : p = 43
  · subst c43; exact cp_43
  by_cases c44 : p = 44
  · subst c44; exact cp_44
  by_cases c45 : p = 45
  · subst c45; exact cp_45
  by_cases c46 : p = 46
  · subst c46; exact cp_46
  by_cases c47 : p = 47
  · subst c47; exact cp_47
  by_cases c48 : p = 48
  · subst c48; exact cp_48
  by_cases c49 : p = 49
  · subst c49; exact cp_49
  by_cases c50 : p = 50
  · subst c50; exact cp_50
  by_cases c51 : p = 51
  · subst c51; exact cp_51
  by_cases c52 : p = 52
  · subst c52; exact cp_52
  by_cases c53 : p = 53
  · subst c53; exact cp_53
  by_cases c54 : p = 54
  · subst c54; exact cp_54
  by_cases c55 : p = 55
  · subst c55; exact cp_55
  by_cases c56 : p = 56
  · subst c56; exact cp_56
  by_cases c57 : p = 57
  · subst c57; exact cp_57
  by_cases c58 : p = 58
  · subst c58; exact cp_58
  by_cases c59 : p = 59
  · subst c59; exact cp_59
  by_cases c60 : p = 60
  · subst c60; exact cp_60
  by_cases c61 : p = 61
  · subst c61; exact cp_61
  by_cases c62 : p = 62
  · subst c62; exact cp_62
  by_cases c63 : p = 63
  · subst c63; exact cp_63
  by_cases c64 : p = 64
  · subst c64; exact cp_64
  by_cases c65 : p = 65
  · subst c65; exact cp_65
  by_cases c66 : p = 66
  · subst c66; exact cp_66
  by_cases c67 : p = 67
  · subst c67; exact cp_67
  by_cases c68 : p = 68
  · subst c68; exact cp_68
  by_cases c69 : p = 69
  · subst c69; exact cp_69
  by_cases c70 : p = 70
  · subst c70; exact cp_70
  by_cases c71 : p = 71
  · subst c71; exact cp_71
  by_cases c72 : p = 72
  · subst c72; exact cp_72
  by_cases c73 : p = 73
  · subst c73; exact cp_73
  by_cases c74 : p = 74
  · subst c74; exact cp_74
  by_cases c75 : p = 75
  · subst c75; exact cp_75
  by_cases c76 : p = 76
  · subst c76; exact cp_76
  by_cases c77 : p = 77
  · subst c77; exact cp_77
  by_cases c78 : p = 78
  · subst c78; exact cp_78
  by_cases c79 : p = 79
  · subst c79; exact cp_79
  by_cases c80 : p = 80
  · subst c80; exact cp_80
  by_cases c81 : p = 81
  · subst c81; exact cp_81
  by_cases c82 : p = 82
  · subst c82; exact cp_82
  by_cases c83 : p = 83
  · subst c83; exact cp_83
  by_cases c84 : p = 84
  · subst c84; exact cp_84
  by_cases c85 : p = 85
  · subst c85; exact cp_85
  by_cases c86 : p = 86
  · subst c86; exact cp_86
  by_cases c87 : p = 87
  · subst c87; exact cp_87
  by_cases c88 : p = 88
  · subst c88; exact cp_88
  by_cases c89 : p = 89
  · subst c89; exact cp_89
  by_cases c90 : p = 90
  · subst c90; exact cp_90
  by_cases c91 : p = 91
  · subst c91; exact cp_91
  by_cases c92 : p = 92
  · subst c92; exact cp_92
  by_cases c93 : p = 93
  · subst c93; exact cp_93
  by_cases c94 : p = 94
  · subst c94; exact cp_94
  by_cases c95 : p = 95
  · subst c95; exact cp_95
  by_cases c96 : p = 96
  · subst c96; exact cp_96
  by_cases c97 : p = 97
  · subst c97; exact cp_97
  by_cases c98 : p = 98
  · subst c98; exact cp_98
  by_cases c99 : p = 99
  · subst c99; exact cp_99
  by_cases c100 : p = 100
  · subst c100; exact cp_100
  omega

def cntT : List Nat := [1, 1, 1, 1, 1, 2, 1, 2, 2, 2, 2, 3, 2, 4, 2, 3, 3, 5, 2, 5, 3, 4, 3, 6, 4, 6, 4, 5, 4, 8, 3, 8, 5, 6, 5, 7, 4, 10, 5, 7, 6, 11, 4, 11, 6, 7, 6, 12, 6, 11, 6, 9, 7, 14, 5, 11, 8, 10, 8, 15, 6, 16, 8, 10, 9, 14, 6, 17, 9, 12, 7, 18, 8, 19, 10, 11, 10, 16, 7, 20, 10, 14, 11, 21, 8, 18, 11, 15, 12, 23, 7, 19, 12, 16, 12, 19, 10, 25, 11, 16, 11, 26, 9, 26, 14, 14, 14, 27, 10, 28, 11, 19, 14, 29, 10, 23, 15, 19, 15, 25, 12, 28, 16, 21, 16, 26, 10, 32, 17, 22]
theorem cnt_tab : (List.range 130).map countN = cntT := by decide +kernel
theorem cnt_at {t : Nat} (h : t < 130) : countN t = cntT.getD t 0 := by
  have e : cntT[t]? = some (countN t) := by
    rw [← cnt_tab, List.getElem?_map, List.getElem?_range h]
    rfl
  rw [List.getD_eq_getElem?_getD, e]
  rfl
def least : List Nat := [1, 5, 11, 13, 17, 23, 29, 29, 37, 37, 41, 47, 53, 53, 59, 61, 67, 71, 73, 79, 83, 89, 89, 97, 97, 101, 107, 109, 113, 127]
def leastB (i t : Nat) : Bool := decide (1 ≤ t) && decide (t < 130) && decide (i + 1 ≤ cntT.getD t 0) && (List.range t).all fun k => decide (k = 0) || decide (cntT.getD k 0 < i + 1)
theorem least_all : (List.range 30).all (fun i => leastB i (least.getD i 0)) = true := by decide +kernel
theorem least_ok {w : Nat} (h1 : 1 ≤ w) (h2 : w ≤ 30) : ∃ t, 1 ≤ t ∧ t < 130 ∧ w ≤ countN t ∧ ∀ k, 1 ≤ k → k < t → countN k < w := by
  have h := List.all_eq_true.mp least_all (w - 1) (List.mem_range.mpr (by omega))
  generalize least.getD (w - 1) 0 = t at h
  unfold leastB at h
  rw [Bool.and_eq_true, Bool.and_eq_true, Bool.and_eq_true, decide_eq_true_iff, decide_eq_true_iff, decide_eq_true_iff] at h
  obtain ⟨⟨⟨a, b⟩, c⟩, d⟩ := h
  refine ⟨t, a, b, ?_, fun k k1 k2 => ?_⟩
  · rw [cnt_at b]
    omega
  · have := List.all_eq_true.mp d k (List.mem_range.mpr k2)
    rw [Bool.or_eq_true, decide_eq_true_iff, decide_eq_true_iff] at this
    rw [cnt_at (by omega)]
    omega
/-- the least p, step by step -/
theorem first_wh {w t : Nat} (ht : t < 1000) (hw : w ≤ countN t) (a0 : Int) (ha : a0 = (w : Int)) : ∀ (n k : Nat), k + n = t → 1 ≤ k → (∀ j, k ≤ j → j < t → countN j < w) → ∃ m, whN [] (tst (op2 ltD (callE 1 G_count_for (cnsB (vr 1) nilB)) (vr 0))) b_first_with_1 m [.val (.int a0), .val (.int (k : Int))] = .ok .nx [.val (.int a0), .val (.int (t : Int))]
  | 0, k, hk, k1, _ => by
    have : k = t := by omega
    subst this
    have e := count_ok (n := k) k1 (by omega)
    have c : ¬ ((countN k : Nat) : Int) < a0 := by omega
    exact ⟨1, by simp_arith only [whN, e, c]⟩
  | n + 1, k, hk, k1, h => by
    have e := count_ok (n := k) k1 (by omega)
    have c : ((countN k : Nat) : Int) < a0 := by have := h k (Nat.le_refl _) (by omega); omega
    obtain ⟨m, em⟩ := first_wh ht hw a0 ha n (k + 1) (by omega) (by omega) fun j h1 h2 => h j (by omega) h2
    have ea : addD (.int (k : Int)) (.int 1) = some (.int ((k + 1 : Nat) : Int)) := rfl
    have eb : b_first_with_1 [.val (.int a0), .val (.int (k : Int))] = .ok .nx [.val (.int a0), .val (.int ((k + 1 : Nat) : Int))] := by
      simp_arith only [b_first_with_1, ea]
    exact ⟨m + 1, by simp_arith only [whN, e, c, eb, em]⟩
theorem first_ok {w t : Nat} (w1 : 1 ≤ w) (w2 : w ≤ 500) (t1 : 1 ≤ t) (ht : t < 1000) (hw : w ≤ countN t) (h : ∀ k, 1 ≤ k → k < t → countN k < w) : G_first_with [.val (.int (w : Int))] = .ok (.v (.int (t : Int))) [] := by
  obtain ⟨m, e⟩ := first_wh ht hw (w : Int) rfl (t - 1) 1 (by omega) (Nat.le_refl _) h
  have ew := whS_eq (ks := []) (t := (tst (op2 ltD (callE 1 G_count_for (cnsB (vr 1) nilB)) (vr 0)))) (b := b_first_with_1) (n := m) (ρ := [.val (.int (w : Int)), .val (.int ((1 : Nat) : Int))]) (by rw [e]; rfl)
  rw [e] at ew
  have i1 : ((1 : Nat) : Int) = 1 := rfl
  rw [i1] at ew
  have ec := chk_ok w1 (m := 500) (by omega)
  simp_arith only [G_first_with, g_first_with, g_first_with_1, g_first_with_2, g_first_with_3, ec, ew]

theorem sort_cmp (v : Slot) (rs : List (Str × Bool)) (h : rs.length ≤ 100) : cmpM [3, 4] (lstI (vr 1)) (unlG 2 (cnsG (nmG 3) (cnsG (nmG 4) nilG))) (tru (vr 4)) (vr 3) [v, .val (.lst (rs.map fun r => .lst [.str r.1, .bl r.2])), .no, .no, .no] = .ok (.lst ((rs.filter (·.2)).map fun r => .str r.1)) [v, .val (.lst (rs.map fun r => .lst [.str r.1, .bl r.2])), .no, .no, .no] := by
  have z := cmpM_p (ks := [3, 4]) (it := lstI (vr 1)) (g := unlG 2 (cnsG (nmG 3) (cnsG (nmG 4) nilG))) (t := tru (vr 4)) (f := vr 3) (ρ := [v, .val (.lst (rs.map fun r => .lst [.str r.1, .bl r.2])), .no, .no, .no]) (ds := rs.map fun r => D.lst [.str r.1, .bl r.2])
    (fun d => match d with | .lst [_, .bl b] => b | _ => false) (fun d => match d with | .lst [x, _] => x | _ => .non) rfl rfl rfl (by rw [List.length_map]; omega) (fun d hd => by
      obtain ⟨r, _, rfl⟩ := List.mem_map.mp hd
      exact ⟨[v, .val (.lst (rs.map fun r => .lst [.str r.1, .bl r.2])), .no, .val (.str r.1), .val (.bl r.2)], rfl, rfl, rfl, fun _ => rfl⟩)
  rw [z, List.filter_map, List.map_map]
  rfl

theorem is_InvalidNumber : isb ctab "InvalidNumber" "InvalidText" = false ∧ isb ctab "InvalidNumber" "InvalidNumber" = true ∧ isb ctab "InvalidNumber" "InvalidIndex" = false ∧ isb ctab "InvalidNumber" "InvalidPair" = false ∧ isb ctab "InvalidNumber" "InvalidString" = false ∧ isb ctab "InvalidNumber" "NotLed" = false ∧ isb ctab "InvalidNumber" "NoMove" = false ∧ isb ctab "InvalidNumber" "TooGreat" = false ∧ isb ctab "InvalidNumber" "Broken" = false ∧ isb ctab "InvalidNumber" "NotRight" = true ∧ isb ctab "InvalidNumber" "NotKnown" = false ∧ isb ctab "InvalidNumber" "NotPossible" = false ∧ isb ctab "InvalidNumber" "ValueError" = true ∧ isb ctab "InvalidNumber" "LookupError" = false ∧ isb ctab "InvalidNumber" "ArithmeticError" = false := by decide +kernel
theorem sort_InvalidNumber (a : Addr) (d : Option Addr) (e : D) : ∃ ρ, gs__law_error ⟨a, d, "InvalidNumber"⟩ ((List.replicate 5 Slot.no).set 2 (.val (.exc ⟨a, d, "InvalidNumber"⟩ [("given", e)]))) = .ok (.rt (.m (.lst [.str "number", e]))) ρ := by
  have lk : (ctab.lookup ("InvalidNumber" : Str)).isSome = true := by decide +kernel
  have fk : ∀ ρ, efldK ⟨a, d, "InvalidNumber"⟩ ctab "given" (.exc ⟨a, d, "InvalidNumber"⟩ [("given", e)]) ρ = .ok e ρ := fun ρ => efldK_own (by decide +kernel)
  have ik : ∀ m ρ, isxK ⟨a, d, "InvalidNumber"⟩ ctab m (.exc ⟨a, d, "InvalidNumber"⟩ [("given", e)]) ρ = .ok (.bl (isb ctab "InvalidNumber" m)) ρ := fun m ρ => isxK_own lk
  have itk : ∀ m1 m2 ρ, isxTK ⟨a, d, "InvalidNumber"⟩ ctab m1 m2 (.exc ⟨a, d, "InvalidNumber"⟩ [("given", e)]) ρ = .ok (.bl (isb ctab "InvalidNumber" m1 || isb ctab "InvalidNumber" m2)) ρ := fun m1 m2 ρ => isxTK_own lk
  have s1 : small 1 = true := rfl
  have s2 : small 2 = true := rfl
  have s3 : small 3 = true := rfl
  have s4 : small 4 = true := rfl
  have s6 : small 6 = true := rfl
  have s9 : small 9 = true := rfl
  have a2 : ∀ xs ys : List D, addD (.lst xs) (.lst ys) = if small (xs.length + ys.length) = true then some (.lst (xs ++ ys)) else none := fun _ _ => rfl
  have cm : cmpM [3, 4] (lstI (vr 1)) (unlG 2 (cnsG (nmG 3) (cnsG (nmG 4) nilG))) (tru (vr 4)) (vr 3) [.val (.exc ⟨a, d, "InvalidNumber"⟩ [("given", e)]), .val (.lst [.lst [.str "text", .bl false], .lst [.str "number", .bl true], .lst [.str "index", .bl false], .lst [.str "pair", .bl false], .lst [.str "string", .bl false], .lst [.str "led", .bl false], .lst [.str "move", .bl false], .lst [.str "great", .bl false], .lst [.str "broken", .bl false]]), .no, .no, .no] = .ok (.lst [.str "number"]) [.val (.exc ⟨a, d, "InvalidNumber"⟩ [("given", e)]), .val (.lst [.lst [.str "text", .bl false], .lst [.str "number", .bl true], .lst [.str "index", .bl false], .lst [.str "pair", .bl false], .lst [.str "string", .bl false], .lst [.str "led", .bl false], .lst [.str "move", .bl false], .lst [.str "great", .bl false], .lst [.str "broken", .bl false]]), .no, .no, .no] := sort_cmp (.val (.exc ⟨a, d, "InvalidNumber"⟩ [("given", e)])) [("text", false), ("number", true), ("index", false), ("pair", false), ("string", false), ("led", false), ("move", false), ("great", false), ("broken", false)] (by decide)
  have x0 : ixD (.lst [.str "number"]) (.int 0) = some (.str "number") := rfl
  have l1 : lenC [.lst [.str "number"]] = some (.int 1) := rfl
  have e1 : G__law_sort ⟨a, d, "InvalidNumber"⟩ [.val (.exc ⟨a, d, "InvalidNumber"⟩ [("given", e)])] = .ok (.v (.str "number")) [] := by
    rw [show G__law_sort = bodyH 5 g__law_sort from rfl]
    rw [bodyH_ok (fl := .rt (.v (.str "number"))) (ρ := [.val (.exc ⟨a, d, "InvalidNumber"⟩ [("given", e)]), .val (.lst [.lst [.str "text", .bl false], .lst [.str "number", .bl true], .lst [.str "index", .bl false], .lst [.str "pair", .bl false], .lst [.str "string", .bl false], .lst [.str "led", .bl false], .lst [.str "move", .bl false], .lst [.str "great", .bl false], .lst [.str "broken", .bl false]]), .val (.lst [.str "number"]), .no, .no])]
    · simp_arith only []
    · simp_arith only [g__law_sort, isx_eq, ik, is_InvalidNumber, a2, s1, s2, s3, s4, s6, s9, cm, x0, l1, ↓R.bind_bd]
  have e2 : G__law_field ⟨a, d, "InvalidNumber"⟩ [.val (.exc ⟨a, d, "InvalidNumber"⟩ [("given", e)])] = .ok (.v e) [] := by
    rw [show G__law_field = bodyH 1 g__law_field from rfl]
    rw [bodyH_ok (fl := .rt (.v e)) (ρ := [.val (.exc ⟨a, d, "InvalidNumber"⟩ [("given", e)])])]
    · simp_arith only []
    · simp_arith only [g__law_field, isx_eq, isxT_eqK, efld_eq, ik, itk, fk, is_InvalidNumber, Bool.or_false, Bool.false_or, Bool.or_true, Bool.true_or, ↓R.bind_bd]
  have c1 : cntL [.bl true, .bl false, .bl false] (.bl true) = some (.int 1) := rfl
  have c4 : eqA (.lst [.bl true, .bl false, .bl false]) (.lst [.bl true, .bl false, .bl false]) = some (.bl true) := rfl
  exact ⟨_, by simp_arith only [gs__law_error, isx_eq, ik, is_InvalidNumber, e1, e2, c1, c4, s3, s2, lmD, List.replicate, List.set, ↓R.bind_bd]; rfl⟩
theorem cau_InvalidNumber (e : D) (ρ : Rho) : c__law_error.cau (.exc "InvalidNumber" [("given", e)] ρ) = .ok (.lst [.str "number", e]) ρ :=
  cau_exc (r := .m (.lst [.str "number", e])) (by decide +kernel) fun a d => sort_InvalidNumber a d e
theorem repq_of {t : D} (h : showQ t = true) : ∃ z : Str, reprQC [t] = some (.str z) := ⟨_, if_pos h⟩
theorem show_four {a b c d : Nat} (ha : a ≤ 1000) (hb : b ≤ 1000) (hc : c ≤ 1000) (hd : d ≤ 1000) : showQ (.lst [.int (a : Int), .int (b : Int), .int (c : Int), .int (d : Int)]) = true := by
  have t : (1000 : Nat) < 10 ^ 60 := by decide +kernel
  have l : ∀ x : Nat, x ≤ 1000 → litQ 7 (.int (x : Int)) = true := fun x hx => decide_eq_true (by omega)
  refine showQ_of rfl ?_ ?_
  · show (litQ 7 (.int (a : Int)) && (litQ 7 (.int (b : Int)) && (litQ 7 (.int (c : Int)) && (litQ 7 (.int (d : Int)) && true)))) = true
    rw [l a ha, l b hb, l c hc, l d hd]
    rfl
  · show 3 + (62 + 2 + (62 + 2 + (62 + 2 + (62 + 2 + 0)))) ≤ _
    decide
theorem shq_prs (p : Int) (hp : p.natAbs ≤ 1000) : ∀ as : List Int, (∀ a ∈ as, 0 ≤ a ∧ a ≤ 100) → (as.map fun a => D.tup [.int p, .int a]).all (shq 6) = true ∧ (as.map fun a => D.tup [.int p, .int a]).all (litQ 6) = true ∧ ((as.map fun a => D.tup [.int p, .int a]).map fun x => costQ 6 x + 2).sum ≤ 133 * as.length
  | [], _ => ⟨rfl, rfl, Nat.zero_le _⟩
  | a :: as, h => by
    obtain ⟨x, y, z⟩ := shq_prs p hp as fun b hb => h b (List.mem_cons_of_mem _ hb)
    obtain ⟨a0, a1⟩ := h a List.mem_cons_self
    have t : (1000 : Nat) < 10 ^ 60 := by decide +kernel
    have l1 : litQ 5 (.int p) = true := decide_eq_true (by omega)
    have l2 : litQ 5 (.int a) = true := decide_eq_true (by omega)
    refine ⟨?_, ?_, ?_⟩
    · rw [List.map_cons, List.all_cons, x]
      rfl
    · rw [List.map_cons, List.all_cons, y]
      show ((litQ 5 (.int p) && (litQ 5 (.int a) && true)) && true) = true
      rw [l1, l2]
      rfl
    · rw [List.map_cons, List.map_cons, List.sum_cons, List.length_cons]
      have e : costQ 6 (.tup [.int p, .int a]) = 131 := rfl
      rw [e]
      omega
theorem show_prs {p : Int} (hp : p.natAbs ≤ 1000) {as : List Int} (hl : as.length ≤ 100) (h : ∀ a ∈ as, 0 ≤ a ∧ a ≤ 100) : showQ (.lst [.tup (as.map fun a => .tup [.int p, .int a]), .tup (as.map fun a => .tup [.int p, .int a])]) = true := by
  obtain ⟨x, y, z⟩ := shq_prs p hp as h
  generalize (as.map fun a => D.tup [.int p, .int a]) = L at *
  refine showQ_of ?_ ?_ ?_
  · show (L.all (shq 6) && (L.all (shq 6) && true)) = true
    rw [x]
    rfl
  · show (L.all (litQ 6) && (L.all (litQ 6) && true)) = true
    rw [y]
    rfl
  · show 3 + ((3 + (L.map fun x => costQ 6 x + 2).sum) + 2 + ((3 + (L.map fun x => costQ 6 x + 2).sum) + 2 + 0)) ≤ _
    omega
/-- what the law hands over as numbers that are none -/
def oddL : List D := [.int 0, .int (-1), .non, .bl true, .str "1", .int 1000001, .tup [.int 1]]
def oddOk (d : D) : Bool := (typD d).isSome && !betw d 1 1000000 && !betw d 1 500 && showQ (.lst [.str "number", d])
theorem odd_all : oddL.all oddOk = true := by decide +kernel
structure Odd (d : D) : Prop where
  t : (typD d).isSome = true
  m : betw d 1 1000000 = false
  l : betw d 1 500 = false
  s : ∃ z : Str, reprQC [.lst [.str "number", d]] = some (.str z)
theorem odd_of {d : D} (h : d ∈ oddL) : Odd d := by
  have := List.all_eq_true.mp odd_all d h
  unfold oddOk at this
  rw [Bool.and_eq_true, Bool.and_eq_true, Bool.and_eq_true, Bool.not_eq_true', Bool.not_eq_true'] at this
  exact ⟨this.1.1.1, this.1.1.2, this.1.2, repq_of this.2⟩
theorem no_many {d : D} (h : Odd d) : G_how_many [.val d] = .exc "InvalidNumber" [("given", d)] [] := by
  have e := check_number_no (l := 1) (m := 1000000) h.t h.m
  simp_arith only [G_how_many, g_how_many, e]
theorem no_sides {d : D} (h : Odd d) : G_how_many_with_sides [.val d] = .exc "InvalidNumber" [("given", d)] [] := by
  have e := check_number_no (l := 1) (m := 1000000) h.t h.m
  simp_arith only [G_how_many_with_sides, g_how_many_with_sides, e]
theorem no_own {d : D} (h : Odd d) : G_how_many_own_mirrors [.val d] = .exc "InvalidNumber" [("given", d)] [] := by
  have e := check_number_no (l := 1) (m := 1000000) h.t h.m
  simp_arith only [G_how_many_own_mirrors, g_how_many_own_mirrors, e]
theorem no_loops {d : D} (h : Odd d) : G_how_many_for_loops [.val d] = .exc "InvalidNumber" [("given", d)] [] := by
  have e := check_number_no (l := 1) (m := 1000000) h.t h.m
  simp_arith only [G_how_many_for_loops, g_how_many_for_loops, e]
theorem no_solids {d : D} (t : (typD d).isSome = true) (l : betw d 1 500 = false) : G_solids [.val d] = .exc "InvalidNumber" [("given", d)] [] := by
  have e := check_number_no (l := 1) (m := 500) t l
  simp_arith only [G_solids, g_solids, e]
theorem no_first {d : D} (t : (typD d).isSome = true) (l : betw d 1 500 = false) : G_first_with [.val d] = .exc "InvalidNumber" [("given", d)] [] := by
  have e := check_number_no (l := 1) (m := 500) t l
  simp_arith only [G_first_with, g_first_with, g_first_with_1, g_first_with_2, g_first_with_3, e]

noncomputable abbrev actsT : List (Str × (List FL.Arg → RG)) := [("first_with", G_first_with), ("how_many", G_how_many), ("how_many_for_loops", G_how_many_for_loops), ("how_many_own_mirrors", G_how_many_own_mirrors), ("how_many_with_sides", G_how_many_with_sides), ("solids", G_solids)]
abbrev ActsN [FE] : Prop := (List.Nodup [FE.cl "first_with", FE.cl "how_many", FE.cl "how_many_for_loops", FE.cl "how_many_own_mirrors", FE.cl "how_many_with_sides", FE.cl "solids"] : Prop)
theorem find_nd {β : Type} : ∀ (ts : List (Str × β)), (ts.map fun t => FE.cl t.1).Nodup → ∀ t ∈ ts, ts.find? (fun u => decide (FE.cl t.1 = FE.cl u.1)) = some t
  | [], _, _, h => by cases h
  | u :: ts, nd, t, h => by
    rw [List.map_cons, List.nodup_cons] at nd
    rw [List.find?_cons]
    rcases List.mem_cons.mp h with rfl | h
    · rw [decide_eq_true rfl]
    · have : ¬ FE.cl t.1 = FE.cl u.1 := fun z => nd.1 (z ▸ List.mem_map.mpr ⟨t, h, rfl⟩)
      rw [decide_eq_false this]
      exact find_nd ts nd.2 t h
theorem call_act (ne : ActsN) {t : Str × (List FL.Arg → RG)} (h : t ∈ actsT) {ρ : Rho} (h10 : ρ[10]? = some (.val (.fn (FE.cl t.1)))) : callVs 10 1 actsT (cnsB (vr 11) nilB) ρ = callE 1 t.2 (cnsB (vr 11) nilB) ρ := by
  unfold callVs
  rw [h10]
  show (match actsT.find? fun u => decide (FE.cl t.1 = FE.cl u.1) with
    | some t => callE 1 t.2 (cnsB (vr 11) nilB) ρ
    | none => .stuck) = _
  rw [find_nd actsT ne t h]
theorem act_ok (ne : ActsN) {d : D} (hd : Odd d) {t : Str × (List FL.Arg → RG)} (h : t ∈ actsT) (hG : t.2 [.val d] = .exc "InvalidNumber" [("given", d)] []) (s : M) (a1 a2 a3 a4 a5 a6 a7 a8 a9 : Slot) :
    b__law_right_1 [.io s, a1, a2, a3, a4, a5, a6, a7, a8, a9, .val (.fn (FE.cl t.1)), .val d, .no, .no] = .ok .nx [.io s, a1, a2, a3, a4, a5, a6, a7, a8, a9, .val (.fn (FE.cl t.1)), .val d, .no, .no] := by
  have e := call_act ne h (ρ := [.io s, a1, a2, a3, a4, a5, a6, a7, a8, a9, .val (.fn (FE.cl t.1)), .val d, .no, .no]) rfl
  have e2 : callE 1 t.2 (cnsB (vr 11) nilB) [.io s, a1, a2, a3, a4, a5, a6, a7, a8, a9, .val (.fn (FE.cl t.1)), .val d, .no, .no] = .exc "InvalidNumber" [("given", d)] [.io s, a1, a2, a3, a4, a5, a6, a7, a8, a9, .val (.fn (FE.cl t.1)), .val d, .no, .no] := by
    simp_arith only [hG]
  rw [e2] at e
  obtain ⟨z, r⟩ := hd.s
  have s2 : small 2 = true := rfl
  have nz : neA (.str z) (.str z) = some (.bl false) := by rw [neA_str, decide_eq_true rfl]; rfl
  simp_arith only [b__law_right_1, ↓e, cau_InvalidNumber, r, s2, nz]
theorem acts_ok (ne : ActsN) {d : D} (hd : Odd d) (s : M) (a1 a2 a3 a4 a5 a6 a7 a8 a9 a10 : Slot) :
    forL [] (nmG 10) b__law_right_1 [.fn (FE.cl "how_many"), .fn (FE.cl "how_many_with_sides"), .fn (FE.cl "how_many_for_loops"), .fn (FE.cl "how_many_own_mirrors"), .fn (FE.cl "solids"), .fn (FE.cl "first_with")] [.io s, a1, a2, a3, a4, a5, a6, a7, a8, a9, a10, .val d, .no, .no] = .ok .nx [.io s, a1, a2, a3, a4, a5, a6, a7, a8, a9, .val (.fn (FE.cl "first_with")), .val d, .no, .no] := by
  have f1 := act_ok ne hd (t := ("how_many", G_how_many)) (by simp) (no_many hd) s a1 a2 a3 a4 a5 a6 a7 a8 a9
  have f2 := act_ok ne hd (t := ("how_many_with_sides", G_how_many_with_sides)) (by simp) (no_sides hd) s a1 a2 a3 a4 a5 a6 a7 a8 a9
  have f3 := act_ok ne hd (t := ("how_many_for_loops", G_how_many_for_loops)) (by simp) (no_loops hd) s a1 a2 a3 a4 a5 a6 a7 a8 a9
  have f4 := act_ok ne hd (t := ("how_many_own_mirrors", G_how_many_own_mirrors)) (by simp) (no_own hd) s a1 a2 a3 a4 a5 a6 a7 a8 a9
  have f5 := act_ok ne hd (t := ("solids", G_solids)) (by simp) (no_solids hd.t hd.l) s a1 a2 a3 a4 a5 a6 a7 a8 a9
  have f6 := act_ok ne hd (t := ("first_with", G_first_with)) (by simp) (no_first hd.t hd.l) s a1 a2 a3 a4 a5 a6 a7 a8 a9
  have st : ∀ (f : D) (ds : List D) (x : Slot), b__law_right_1 [.io s, a1, a2, a3, a4, a5, a6, a7, a8, a9, .val f, .val d, .no, .no] = .ok .nx [.io s, a1, a2, a3, a4, a5, a6, a7, a8, a9, .val f, .val d, .no, .no] → forL [] (nmG 10) b__law_right_1 (f :: ds) [.io s, a1, a2, a3, a4, a5, a6, a7, a8, a9, x, .val d, .no, .no] = forL [] (nmG 10) b__law_right_1 ds [.io s, a1, a2, a3, a4, a5, a6, a7, a8, a9, .val f, .val d, .no, .no] := fun f ds x h => by
    rw [forL_cons]
    show (b__law_right_1 [.io s, a1, a2, a3, a4, a5, a6, a7, a8, a9, .val f, .val d, .no, .no]).bind _ = _
    rw [h]
    rfl
  rw [st _ _ _ f1, st _ _ _ f2, st _ _ _ f3, st _ _ _ f4, st _ _ _ f5, st _ _ _ f6]
  rfl

theorem cp_told {P : Nat} (h1 : 2 ≤ P) (h2 : P ≤ 100) : ∃ as B C E, Told P as B C E := told_of (chkP_ok h1 h2)
/-- the part about p itself -/
theorem part_p {P : Nat} (h1 : 2 ≤ P) (h2 : P ≤ 100) (s : M) : ∃ a2 a3 a4 a5 a6 : Slot, ∀ x : R Fl, g__law_right_6 [.io s, .val (.int (P : Int)), a2, a3, a4, a5, a6, .no, .no, .no, .no, .no, .no, .no] = x → g__law_right_1 [.io s, .val (.int (P : Int)), .no, .no, .no, .no, .no, .no, .no, .no, .no, .no, .no, .no] = x := by
  obtain ⟨as, B, C, E, h⟩ := cp_told h1 h2
  obtain ⟨g1, g2, g3⟩ := great_ok (n := P) h1 (by omega)
  have c0 := h.m
  have c1 := h.n
  have em := many_ok (n := P) (by omega) (by omega)
  have es := sides_ok (n := P) (by omega) (by omega)
  have el := loops_ok (n := P) (by omega) (by omega)
  have eo := own_ok (n := P) (by omega) (by omega)
  obtain ⟨z, r⟩ := repq_of (show_four (a := countN P) (b := sidesN P) (c := loopsN P) (d := ownN P) (by omega) (by omega) (by omega) (by omega))
  obtain ⟨y, r2⟩ := repq_of (show_prs (p := (P : Int)) (by omega) (as := as) c0 h.b)
  have s1 : small 1 = true := rfl
  have s2 : small 2 = true := rfl
  have s4 : small 4 = true := rfl
  have nz : ∀ z : Str, neA (.str z) (.str z) = some (.bl false) := fun z => by rw [neA_str, decide_eq_true rfl]; rfl
  have lA : ((as.map D.int).length : Int) = (countN P : Int) := by rw [List.length_map, c1]
  have lB : (B.length : Int) = (sidesN P : Int) := by rw [h.s]
  have lC : (C.length : Int) = (loopsN P : Int) := by rw [h.l]
  have lE : (E.length : Int) = (ownN P : Int) := by rw [h.o]
  have et := h.t
  have eg := h.g
  have m2 : ∀ x : D, mulD (.lst [x]) (.int 2) = some (.lst [x, x]) := fun _ => rfl
  have ht : ∀ xs, tupC [.lst xs] = some (.tup xs) := fun _ => rfl
  -- the pairs
  have cm : cmpM [12] (seqI (vr 2)) (nmG 12) yesT (dTup (cnsA (vr 1) (cnsA (vr 12) nilA))) [.io s, .val (.int (P : Int)), .val (.lst (as.map D.int)), .val (.lst B), .val (.lst C), .val (.lst E), .val (.lst [.int (countN P : Int), .int (sidesN P : Int), .int (loopsN P : Int), .int (ownN P : Int)]), .no, .no, .no, .no, .no, .no, .no] = .ok (.lst (as.map fun a => .tup [.int (P : Int), .int a])) [.io s, .val (.int (P : Int)), .val (.lst (as.map D.int)), .val (.lst B), .val (.lst C), .val (.lst E), .val (.lst [.int (countN P : Int), .int (sidesN P : Int), .int (loopsN P : Int), .int (ownN P : Int)]), .no, .no, .no, .no, .no, .no, .no] := by
    have c := cmpM_p (ks := [12]) (it := seqI (vr 2)) (g := nmG 12) (t := yesT) (f := dTup (cnsA (vr 1) (cnsA (vr 12) nilA))) (ρ := [.io s, .val (.int (P : Int)), .val (.lst (as.map D.int)), .val (.lst B), .val (.lst C), .val (.lst E), .val (.lst [.int (countN P : Int), .int (sidesN P : Int), .int (loopsN P : Int), .int (ownN P : Int)]), .no, .no, .no, .no, .no, .no, .no]) (ds := as.map D.int) (fun _ => true) (fun d => .tup [.int (P : Int), d]) rfl rfl rfl (by rw [List.length_map]; omega) (by
      intro d hd
      exact ⟨[.io s, .val (.int (P : Int)), .val (.lst (as.map D.int)), .val (.lst B), .val (.lst C), .val (.lst E), .val (.lst [.int (countN P : Int), .int (sidesN P : Int), .int (loopsN P : Int), .int (ownN P : Int)]), .no, .no, .no, .no, .no, .val d, .no], rfl, rfl, rfl, fun _ => by simp_arith only [s2]⟩)
    rw [List.filter_eq_self.mpr (fun _ _ => rfl), List.map_map] at c
    exact c
  refine ⟨.val (.lst (as.map D.int)), .val (.lst B), .val (.lst C), .val (.lst E), .val (.lst [.int (countN P : Int), .int (sidesN P : Int), .int (loopsN P : Int), .int (ownN P : Int)]), fun x hx => ?_⟩
  generalize as.map D.int = A at *
  generalize (as.map fun a => D.tup [.int (P : Int), .int a]) = S at *
  rw [← hx]
  have ec : callE 1 G__law_told (cnsB (vr 1) nilB) [.io s, .val (.int (P : Int)), .no, .no, .no, .no, .no, .no, .no, .no, .no, .no, .no, .no] = .ok (.lst [.lst A, .lst B, .lst C, .lst E]) [.io s, .val (.int (P : Int)), .no, .no, .no, .no, .no, .no, .no, .no, .no, .no, .no, .no] := by
    simp_arith only [et]
  have et2 : tulG 4 (cnsG (nmG 2) (cnsG (nmG 3) (cnsG (nmG 4) (cnsG (nmG 5) nilG)))) (.lst [.lst A, .lst B, .lst C, .lst E]) [.io s, .val (.int (P : Int)), .no, .no, .no, .no, .no, .no, .no, .no, .no, .no, .no, .no] = some [.io s, .val (.int (P : Int)), .val (.lst A), .val (.lst B), .val (.lst C), .val (.lst E), .no, .no, .no, .no, .no, .no, .no, .no] := rfl
  have k1 : ∀ G : SF, seqS (asgS (callE 1 G__law_told (cnsB (vr 1) nilB)) (tulG 4 (cnsG (nmG 2) (cnsG (nmG 3) (cnsG (nmG 4) (cnsG (nmG 5) nilG)))))) G [.io s, .val (.int (P : Int)), .no, .no, .no, .no, .no, .no, .no, .no, .no, .no, .no, .no] = G [.io s, .val (.int (P : Int)), .val (.lst A), .val (.lst B), .val (.lst C), .val (.lst E), .no, .no, .no, .no, .no, .no, .no, .no] := fun G => by
    rw [seqS_eq]
    unfold asgS
    rw [ec]
    show (nxO (tulG 4 (cnsG (nmG 2) (cnsG (nmG 3) (cnsG (nmG 4) (cnsG (nmG 5) nilG)))) (.lst [.lst A, .lst B, .lst C, .lst E]) [.io s, .val (.int (P : Int)), .no, .no, .no, .no, .no, .no, .no, .no, .no, .no, .no, .no])).bind _ = _
    rw [et2]
    rfl
  have k2 : ∀ G : SF, seqS (setS 6 (frz (dLst (cnsA (opC lenC (cnsA (vr 2) nilA)) (cnsA (opC lenC (cnsA (vr 3) nilA)) (cnsA (opC lenC (cnsA (vr 4) nilA)) (cnsA (opC lenC (cnsA (vr 5) nilA)) nilA))))))) G [.io s, .val (.int (P : Int)), .val (.lst A), .val (.lst B), .val (.lst C), .val (.lst E), .no, .no, .no, .no, .no, .no, .no, .no] = G [.io s, .val (.int (P : Int)), .val (.lst A), .val (.lst B), .val (.lst C), .val (.lst E), .val (.lst [.int (countN P : Int), .int (sidesN P : Int), .int (loopsN P : Int), .int (ownN P : Int)]), .no, .no, .no, .no, .no, .no, .no] := fun G => by
    simp_arith only [lA, lB, lC, lE, s4]
  have k3 : ∀ G : SF, seqS (ifS (tst (op2 neA (opC reprQC (cnsA (frz (dLst (cnsA (callE 1 G_how_many (cnsB (vr 1) nilB)) (cnsA (callE 1 G_how_many_with_sides (cnsB (vr 1) nilB)) (cnsA (callE 1 G_how_many_for_loops (cnsB (vr 1) nilB)) (cnsA (callE 1 G_how_many_own_mirrors (cnsB (vr 1) nilB)) nilA)))))) nilA)) (opC reprQC (cnsA (vr 6) nilA)))) (retS (cst (.bl false))) nxS) G [.io s, .val (.int (P : Int)), .val (.lst A), .val (.lst B), .val (.lst C), .val (.lst E), .val (.lst [.int (countN P : Int), .int (sidesN P : Int), .int (loopsN P : Int), .int (ownN P : Int)]), .no, .no, .no, .no, .no, .no, .no] = G [.io s, .val (.int (P : Int)), .val (.lst A), .val (.lst B), .val (.lst C), .val (.lst E), .val (.lst [.int (countN P : Int), .int (sidesN P : Int), .int (loopsN P : Int), .int (ownN P : Int)]), .no, .no, .no, .no, .no, .no, .no] := fun G => by
    generalize ((countN P : Nat) : Int) = n1 at *
    generalize ((sidesN P : Nat) : Int) = n2 at *
    generalize ((loopsN P : Nat) : Int) = n3 at *
    generalize ((ownN P : Nat) : Int) = n4 at *
    simp_arith only [em, es, el, eo, r, s4, nz]
  have k4 : ∀ G : SF, seqS (ifS (tst (op2 neA (opC reprQC (cnsA (frz (dLst (cnsA (callE 1 G_how_many (kwB 0 1 [0] nilB (cnsB (vr 1) nilB))) (cnsA (callE 1 G_how_many_with_sides (kwB 0 1 [0] nilB (cnsB (vr 1) nilB))) (cnsA (callE 1 G_how_many_for_loops (kwB 0 1 [0] nilB (cnsB (vr 1) nilB))) (cnsA (callE 1 G_how_many_own_mirrors (kwB 0 1 [0] nilB (cnsB (vr 1) nilB))) nilA)))))) nilA)) (opC reprQC (cnsA (vr 6) nilA)))) (retS (cst (.bl false))) nxS) G [.io s, .val (.int (P : Int)), .val (.lst A), .val (.lst B), .val (.lst C), .val (.lst E), .val (.lst [.int (countN P : Int), .int (sidesN P : Int), .int (loopsN P : Int), .int (ownN P : Int)]), .no, .no, .no, .no, .no, .no, .no] = G [.io s, .val (.int (P : Int)), .val (.lst A), .val (.lst B), .val (.lst C), .val (.lst E), .val (.lst [.int (countN P : Int), .int (sidesN P : Int), .int (loopsN P : Int), .int (ownN P : Int)]), .no, .no, .no, .no, .no, .no, .no] := fun G => by
    generalize ((countN P : Nat) : Int) = n1 at *
    generalize ((sidesN P : Nat) : Int) = n2 at *
    generalize ((loopsN P : Nat) : Int) = n3 at *
    generalize ((ownN P : Nat) : Int) = n4 at *
    simp_arith only [em, es, el, eo, r, s4, nz]
  have k5 : ∀ G : SF, seqS (ifS (tst (op2 neA (opC reprQC (cnsA (frz (dLst (cnsA (callE 1 G_solids (cnsB (vr 1) nilB)) (cnsA (callE 1 G_solids (kwB 0 1 [0] nilB (cnsB (vr 1) nilB))) nilA)))) nilA)) (opC reprQC (cnsA (op2 mulD (frz (dLst (cnsA (opC tupC (cnsA (frz (cmpM [12] (seqI (vr 2)) (nmG 12) yesT (dTup (cnsA (vr 1) (cnsA (vr 12) nilA))))) nilA)) nilA))) (cst (.int 2))) nilA)))) (retS (cst (.bl false))) nxS) G [.io s, .val (.int (P : Int)), .val (.lst A), .val (.lst B), .val (.lst C), .val (.lst E), .val (.lst [.int (countN P : Int), .int (sidesN P : Int), .int (loopsN P : Int), .int (ownN P : Int)]), .no, .no, .no, .no, .no, .no, .no] = G [.io s, .val (.int (P : Int)), .val (.lst A), .val (.lst B), .val (.lst C), .val (.lst E), .val (.lst [.int (countN P : Int), .int (sidesN P : Int), .int (loopsN P : Int), .int (ownN P : Int)]), .no, .no, .no, .no, .no, .no, .no] := fun G => by
    generalize ((countN P : Nat) : Int) = n1 at *
    generalize ((sidesN P : Nat) : Int) = n2 at *
    generalize ((loopsN P : Nat) : Int) = n3 at *
    generalize ((ownN P : Nat) : Int) = n4 at *
    simp_arith only [eg, r2, ↓cm, m2, ht, s1, s2, nz]
  show g__law_right_1 [.io s, .val (.int (P : Int)), .no, .no, .no, .no, .no, .no, .no, .no, .no, .no, .no, .no] = g__law_right_6 [.io s, .val (.int (P : Int)), .val (.lst A), .val (.lst B), .val (.lst C), .val (.lst E), .val (.lst [.int (countN P : Int), .int (sidesN P : Int), .int (loopsN P : Int), .int (ownN P : Int)]), .no, .no, .no, .no, .no, .no, .no]
  have f1 : g__law_right_1 [.io s, .val (.int (P : Int)), .no, .no, .no, .no, .no, .no, .no, .no, .no, .no, .no, .no] = g__law_right_2 [.io s, .val (.int (P : Int)), .val (.lst A), .val (.lst B), .val (.lst C), .val (.lst E), .no, .no, .no, .no, .no, .no, .no, .no] := k1 g__law_right_2
  have f2 : g__law_right_2 [.io s, .val (.int (P : Int)), .val (.lst A), .val (.lst B), .val (.lst C), .val (.lst E), .no, .no, .no, .no, .no, .no, .no, .no] = g__law_right_3 [.io s, .val (.int (P : Int)), .val (.lst A), .val (.lst B), .val (.lst C), .val (.lst E), .val (.lst [.int (countN P : Int), .int (sidesN P : Int), .int (loopsN P : Int), .int (ownN P : Int)]), .no, .no, .no, .no, .no, .no, .no] := k2 g__law_right_3
  have f3 : g__law_right_3 [.io s, .val (.int (P : Int)), .val (.lst A), .val (.lst B), .val (.lst C), .val (.lst E), .val (.lst [.int (countN P : Int), .int (sidesN P : Int), .int (loopsN P : Int), .int (ownN P : Int)]), .no, .no, .no, .no, .no, .no, .no] = g__law_right_4 [.io s, .val (.int (P : Int)), .val (.lst A), .val (.lst B), .val (.lst C), .val (.lst E), .val (.lst [.int (countN P : Int), .int (sidesN P : Int), .int (loopsN P : Int), .int (ownN P : Int)]), .no, .no, .no, .no, .no, .no, .no] := k3 g__law_right_4
  have f4 : g__law_right_4 [.io s, .val (.int (P : Int)), .val (.lst A), .val (.lst B), .val (.lst C), .val (.lst E), .val (.lst [.int (countN P : Int), .int (sidesN P : Int), .int (loopsN P : Int), .int (ownN P : Int)]), .no, .no, .no, .no, .no, .no, .no] = g__law_right_5 [.io s, .val (.int (P : Int)), .val (.lst A), .val (.lst B), .val (.lst C), .val (.lst E), .val (.lst [.int (countN P : Int), .int (sidesN P : Int), .int (loopsN P : Int), .int (ownN P : Int)]), .no, .no, .no, .no, .no, .no, .no] := k4 g__law_right_5
  have f5 : g__law_right_5 [.io s, .val (.int (P : Int)), .val (.lst A), .val (.lst B), .val (.lst C), .val (.lst E), .val (.lst [.int (countN P : Int), .int (sidesN P : Int), .int (loopsN P : Int), .int (ownN P : Int)]), .no, .no, .no, .no, .no, .no, .no] = g__law_right_6 [.io s, .val (.int (P : Int)), .val (.lst A), .val (.lst B), .val (.lst C), .val (.lst E), .val (.lst [.int (countN P : Int), .int (sidesN P : Int), .int (loopsN P : Int), .int (ownN P : Int)]), .no, .no, .no, .no, .no, .no, .no] := k5 g__law_right_6
  rw [f1, f2, f3, f4, f5]

/-- one great number -/
theorem part_g {n : Nat} {s : M} (hs : Sp n s) (hn : n ≤ 900000000) (a1 a2 a3 a4 a5 a6 : Slot) : ∃ (s' : M) (a7 : Slot), Sp (n + 1) s' ∧ g__law_right_6 [.io s, a1, a2, a3, a4, a5, a6, .no, .no, .no, .no, .no, .no, .no] = g__law_right_8 [.io s', a1, a2, a3, a4, a5, a6, a7, .no, .no, .no, .no, .no, .no] := by
  obtain ⟨d, s', e, d0, d1, h⟩ := sip_ok hs (k := 9998) (by decide) (by decide) (by omega)
  obtain ⟨P, hP⟩ := Int.eq_ofNat_of_zero_le (show 0 ≤ 2 + d by omega)
  have hP : 2 + d = (P : Int) := hP
  obtain ⟨g1, g2, g3⟩ := great_ok (n := P) (by omega) (by omega)
  have em := many_ok (n := P) (by omega) (by omega)
  have es := sides_ok (n := P) (by omega) (by omega)
  have el := loops_ok (n := P) (by omega) (by omega)
  have eo := own_ok (n := P) (by omega) (by omega)
  have k6 : ∀ G : SF, seqS (setS 7 (op2 addD (cst (.int 2)) (callE 2 G__law_sip (slB 0 (cnsB (cst (.int 9998)) nilB))))) G [.io s, a1, a2, a3, a4, a5, a6, .no, .no, .no, .no, .no, .no, .no] = G [.io s', a1, a2, a3, a4, a5, a6, (.val (.int (P : Int))), .no, .no, .no, .no, .no, .no] := fun G => by
    simp_arith only [e, hP]
  have m2 : mulD (.int 2) (.int (countN P : Int)) = some (.int (2 * (countN P : Int))) := mulD_l (by decide)
  have c1 : ¬ (2 * (countN P : Int)) < (sidesN P : Int) := by omega
  have c2 : ¬ (countN P : Int) < (loopsN P : Int) := by omega
  have c3 : (ownN P : Int) = 2 * (countN P : Int) - (sidesN P : Int) := by omega
  generalize ((countN P : Nat) : Int) = n1 at *
  generalize ((sidesN P : Nat) : Int) = n2 at *
  generalize ((loopsN P : Nat) : Int) = n3 at *
  rw [c3] at eo
  have k7 : ∀ G : SF, seqS (ifS (orT (tst (op2 ltD (op2 mulD (cst (.int 2)) (callE 1 G_how_many (cnsB (vr 7) nilB))) (callE 1 G_how_many_with_sides (cnsB (vr 7) nilB)))) (orT (tst (op2 gtD (callE 1 G_how_many_for_loops (cnsB (vr 7) nilB)) (callE 1 G_how_many (cnsB (vr 7) nilB)))) (tst (op2 neA (callE 1 G_how_many_own_mirrors (cnsB (vr 7) nilB)) (op2 subD (op2 mulD (cst (.int 2)) (callE 1 G_how_many (cnsB (vr 7) nilB))) (callE 1 G_how_many_with_sides (cnsB (vr 7) nilB))))))) (retS (cst (.bl false))) nxS) G [.io s', a1, a2, a3, a4, a5, a6, (.val (.int (P : Int))), .no, .no, .no, .no, .no, .no] = G [.io s', a1, a2, a3, a4, a5, a6, (.val (.int (P : Int))), .no, .no, .no, .no, .no, .no] := fun G => by
    simp_arith only [em, es, el, eo, m2, c1, c2]
  refine ⟨s', .val (.int (P : Int)), h, ?_⟩
  have f6 : g__law_right_6 [.io s, a1, a2, a3, a4, a5, a6, .no, .no, .no, .no, .no, .no, .no] = g__law_right_7 [.io s', a1, a2, a3, a4, a5, a6, (.val (.int (P : Int))), .no, .no, .no, .no, .no, .no] := k6 g__law_right_7
  have f7 : g__law_right_7 [.io s', a1, a2, a3, a4, a5, a6, (.val (.int (P : Int))), .no, .no, .no, .no, .no, .no] = g__law_right_8 [.io s', a1, a2, a3, a4, a5, a6, (.val (.int (P : Int))), .no, .no, .no, .no, .no, .no] := k7 g__law_right_8
  rw [f6, f7]

/-- the least p with so many -/
theorem part_f {n : Nat} {s : M} (hs : Sp n s) (hn : n ≤ 900000000) (a1 a2 a3 a4 a5 a6 a7 : Slot) : ∃ (s' : M) (a8 a9 : Slot), Sp (n + 1) s' ∧ g__law_right_8 [.io s, a1, a2, a3, a4, a5, a6, a7, .no, .no, .no, .no, .no, .no] = g__law_right_11 [.io s', a1, a2, a3, a4, a5, a6, a7, a8, a9, .no, .no, .no, .no] := by
  obtain ⟨d, s', e, d0, d1, h⟩ := sip_ok hs (k := 30) (by decide) (by decide) (by omega)
  obtain ⟨w, hw⟩ := Int.eq_ofNat_of_zero_le (show 0 ≤ 1 + d by omega)
  have hw : 1 + d = (w : Int) := hw
  obtain ⟨t, t1, t2, tw, tl⟩ := least_ok (w := w) (by omega) (by omega)
  have ef := first_ok (w := w) (t := t) (by omega) (by omega) t1 (by omega) tw tl
  have em := many_ok (n := t) t1 (by omega)
  have k8 : ∀ G : SF, seqS (setS 8 (op2 addD (cst (.int 1)) (callE 2 G__law_sip (slB 0 (cnsB (cst (.int 30)) nilB))))) G [.io s, a1, a2, a3, a4, a5, a6, a7, .no, .no, .no, .no, .no, .no] = G [.io s', a1, a2, a3, a4, a5, a6, a7, (.val (.int (w : Int))), .no, .no, .no, .no, .no] := fun G => by
    simp_arith only [e, hw]
  have k9 : ∀ G : SF, seqS (setS 9 (callE 1 G_first_with (cnsB (vr 8) nilB))) G [.io s', a1, a2, a3, a4, a5, a6, a7, (.val (.int (w : Int))), .no, .no, .no, .no, .no] = G [.io s', a1, a2, a3, a4, a5, a6, a7, (.val (.int (w : Int))), (.val (.int (t : Int))), .no, .no, .no, .no] := fun G => by
    simp_arith only [ef]
  have cm : (cmpM [13] (rng2 (cnsA (cst (.int 1)) (cnsA (vr 9) nilA))) (nmG 13) (tst (op2 geD (callE 1 G_how_many (cnsB (vr 13) nilB)) (vr 8))) (vr 13)) [.io s', a1, a2, a3, a4, a5, a6, a7, (.val (.int (w : Int))), (.val (.int (t : Int))), .no, .no, .no, .no] = .ok (.lst []) [.io s', a1, a2, a3, a4, a5, a6, a7, (.val (.int (w : Int))), (.val (.int (t : Int))), .no, .no, .no, .no] := by
    have rg : rng2 (cnsA (cst (.int 1)) (cnsA (vr 9) nilA)) [.io s', a1, a2, a3, a4, a5, a6, a7, (.val (.int (w : Int))), (.val (.int (t : Int))), .no, .no, .no, .no] = .ok (rangeL 1 ((t : Int) - 1).toNat) [.io s', a1, a2, a3, a4, a5, a6, a7, (.val (.int (w : Int))), (.val (.int (t : Int))), .no, .no, .no, .no] := rng2_ok (by simp_arith only []) (by decide) (rgOk_of (by omega) (by omega))
    have c := cmpM_p (ks := [13]) (it := rng2 (cnsA (cst (.int 1)) (cnsA (vr 9) nilA))) (g := nmG 13) (t := (tst (op2 geD (callE 1 G_how_many (cnsB (vr 13) nilB)) (vr 8)))) (f := (vr 13)) (ρ := [.io s', a1, a2, a3, a4, a5, a6, a7, (.val (.int (w : Int))), (.val (.int (t : Int))), .no, .no, .no, .no]) (fun _ => false) id rg rfl rfl (by rw [rangeL_length]; omega) (by
      intro d hd
      obtain ⟨i, rfl, i0, i1⟩ := (rangeL_mem _ _ _).mp hd
      obtain ⟨k, rfl⟩ := Int.eq_ofNat_of_zero_le (show 0 ≤ i by omega)
      have ek := many_ok (n := k) (by omega) (by omega)
      have hk := tl k (by omega) (by omega)
      have c : ¬ (w : Int) ≤ (countN k : Int) := by omega
      exact ⟨[.io s', a1, a2, a3, a4, a5, a6, a7, .val (.int (w : Int)), .val (.int (t : Int)), .no, .no, .no, .val (.int (k : Int))], by simp_arith only [], by simp_arith only [ek, c], rfl, fun h => by cases h⟩)
    rw [List.filter_eq_nil_iff.mpr (fun _ _ h => by cases h)] at c
    exact c
  have c1 : ¬ (countN t : Int) < (w : Int) := by omega
  have n0 : neA (.lst []) (.lst []) = some (.bl false) := rfl
  have s0 : small 0 = true := rfl
  generalize ((countN t : Nat) : Int) = n1 at *
  have k10 : ∀ G : SF, seqS (ifS (orT (tst (op2 neA (callE 1 G_first_with (kwB 0 1 [0] nilB (cnsB (vr 8) nilB))) (vr 9))) (orT (tst (op2 ltD (callE 1 G_how_many (cnsB (vr 9) nilB)) (vr 8))) (tst (op2 neA (frz (cmpM [13] (rng2 (cnsA (cst (.int 1)) (cnsA (vr 9) nilA))) (nmG 13) (tst (op2 geD (callE 1 G_how_many (cnsB (vr 13) nilB)) (vr 8))) (vr 13))) (frz (dLst nilA)))))) (retS (cst (.bl false))) nxS) G [.io s', a1, a2, a3, a4, a5, a6, a7, (.val (.int (w : Int))), (.val (.int (t : Int))), .no, .no, .no, .no] = G [.io s', a1, a2, a3, a4, a5, a6, a7, (.val (.int (w : Int))), (.val (.int (t : Int))), .no, .no, .no, .no] := fun G => by
    simp_arith only [ef, em, c1, ↓cm, n0, s0]
  refine ⟨s', .val (.int (w : Int)), .val (.int (t : Int)), h, ?_⟩
  have f8 : g__law_right_8 [.io s, a1, a2, a3, a4, a5, a6, a7, .no, .no, .no, .no, .no, .no] = g__law_right_9 [.io s', a1, a2, a3, a4, a5, a6, a7, (.val (.int (w : Int))), .no, .no, .no, .no, .no] := k8 g__law_right_9
  have f9 : g__law_right_9 [.io s', a1, a2, a3, a4, a5, a6, a7, (.val (.int (w : Int))), .no, .no, .no, .no, .no] = g__law_right_10 [.io s', a1, a2, a3, a4, a5, a6, a7, (.val (.int (w : Int))), (.val (.int (t : Int))), .no, .no, .no, .no] := k9 g__law_right_10
  have f10 : g__law_right_10 [.io s', a1, a2, a3, a4, a5, a6, a7, (.val (.int (w : Int))), (.val (.int (t : Int))), .no, .no, .no, .no] = g__law_right_11 [.io s', a1, a2, a3, a4, a5, a6, a7, (.val (.int (w : Int))), (.val (.int (t : Int))), .no, .no, .no, .no] := k10 g__law_right_11
  rw [f8, f9, f10]

/-- what is no number -/
theorem part_o (ne : ActsN) {n : Nat} {s : M} (hs : Sp n s) (hn : n ≤ 900000000) (a1 a2 a3 a4 a5 a6 a7 a8 a9 : Slot) : ∃ (s' : M) (ρ : Rho), g__law_right_11 [.io s, a1, a2, a3, a4, a5, a6, a7, a8, a9, .no, .no, .no, .no] = .ok (.rt (.v (.bl true))) (.io s' :: ρ) := by
  obtain ⟨d, s', hd, e, h⟩ := pick_ok hs (xs := oddL) (by simp [oddL]) (by decide) (by omega)
  have od := odd_of hd
  have s1 : small 1 = true := rfl
  have s2 : small 2 = true := rfl
  have s6 : small 6 = true := rfl
  have s7 : small 7 = true := rfl
  have n1 : negD (.int 1) = some (.int (-1)) := rfl
  have p6 : powD (.int 10) (.int 6) = some (.int 1000000) := rfl
  have e : G__law_pick [.io s, .val (.lst [.int 0, .int (-1), .non, .bl true, .str "1", .int 1000001, .tup [.int 1]])] = .ok (.v d) [s'] := e
  have k11 : ∀ G : SF, seqS (setS 11 (callE 2 G__law_pick (slB 0 (cnsB (frz (dLst (cnsA (cst (.int 0)) (cnsA (op1 negD (cst (.int 1))) (cnsA (cst .non) (cnsA (cst (.bl true)) (cnsA (cst (.str "1")) (cnsA (op2 addD (op2 powD (cst (.int 10)) (cst (.int 6))) (cst (.int 1))) (cnsA (dTup (cnsA (cst (.int 1)) nilA)) nilA))))))))) nilB)))) G [.io s, a1, a2, a3, a4, a5, a6, a7, a8, a9, .no, .no, .no, .no] = G [.io s', a1, a2, a3, a4, a5, a6, a7, a8, a9, .no, .val d, .no, .no] := fun G => by
    simp_arith only [n1, p6, s1, s7, e]
  have ea := acts_ok ne od s' a1 a2 a3 a4 a5 a6 a7 a8 a9 .no
  have ei : seqI (frz (dLst (cnsA (cst (.fn (FE.cl "how_many"))) (cnsA (cst (.fn (FE.cl "how_many_with_sides"))) (cnsA (cst (.fn (FE.cl "how_many_for_loops"))) (cnsA (cst (.fn (FE.cl "how_many_own_mirrors"))) (cnsA (cst (.fn (FE.cl "solids"))) (cnsA (cst (.fn (FE.cl "first_with"))) nilA)))))))) [.io s', a1, a2, a3, a4, a5, a6, a7, a8, a9, .no, .val d, .no, .no] = .ok [.fn (FE.cl "how_many"), .fn (FE.cl "how_many_with_sides"), .fn (FE.cl "how_many_for_loops"), .fn (FE.cl "how_many_own_mirrors"), .fn (FE.cl "solids"), .fn (FE.cl "first_with")] [.io s', a1, a2, a3, a4, a5, a6, a7, a8, a9, .no, .val d, .no, .no] := by
    simp_arith only [seqI, s6, seqD]
  have k12 : ∀ G : SF, seqS (forS [] (seqI (frz (dLst (cnsA (cst (.fn (FE.cl "how_many"))) (cnsA (cst (.fn (FE.cl "how_many_with_sides"))) (cnsA (cst (.fn (FE.cl "how_many_for_loops"))) (cnsA (cst (.fn (FE.cl "how_many_own_mirrors"))) (cnsA (cst (.fn (FE.cl "solids"))) (cnsA (cst (.fn (FE.cl "first_with"))) nilA))))))))) (nmG 10) b__law_right_1) G [.io s', a1, a2, a3, a4, a5, a6, a7, a8, a9, .no, .val d, .no, .no] = G [.io s', a1, a2, a3, a4, a5, a6, a7, a8, a9, .val (.fn (FE.cl "first_with")), .val d, .no, .no] := fun G => by
    rw [seqS_eq, forS_eq, ei]
    show (forL [] (nmG 10) b__law_right_1 _ _).bind _ = _
    rw [ea]
    rfl
  have es := no_solids (d := .int 501) rfl (by decide)
  have ef := no_first (d := .int 501) rfl (by decide)
  have nn : neA (.lst [.str "number", .int 501]) (.lst [.str "number", .int 501]) = some (.bl false) := neA_self (by decide +kernel)
  have qq : eqA (.lst [.str "number", .int 501]) (.lst [.str "number", .int 501]) = some (.bl true) := eqA_self (by decide +kernel)
  have k13 : ∀ G : SF, seqS (ifS (tst (op2 neA (cauE c__law_error (callE 1 G_solids (cnsB (cst (.int 501)) nilB))) (frz (dLst (cnsA (cst (.str "number")) (cnsA (cst (.int 501)) nilA)))))) (retS (cst (.bl false))) nxS) G [.io s', a1, a2, a3, a4, a5, a6, a7, a8, a9, .val (.fn (FE.cl "first_with")), .val d, .no, .no] = G [.io s', a1, a2, a3, a4, a5, a6, a7, a8, a9, .val (.fn (FE.cl "first_with")), .val d, .no, .no] := fun G => by
    simp_arith only [es, cau_InvalidNumber, s2, nn]
  have k14 : g__law_right_14 [.io s', a1, a2, a3, a4, a5, a6, a7, a8, a9, .val (.fn (FE.cl "first_with")), .val d, .no, .no] = .ok (.rt (.v (.bl true))) [.io s', a1, a2, a3, a4, a5, a6, a7, a8, a9, .val (.fn (FE.cl "first_with")), .val d, .no, .no] := by
    simp_arith only [g__law_right_14, ef, cau_InvalidNumber, s2, qq]
  have f11 : g__law_right_11 [.io s, a1, a2, a3, a4, a5, a6, a7, a8, a9, .no, .no, .no, .no] = g__law_right_12 [.io s', a1, a2, a3, a4, a5, a6, a7, a8, a9, .no, .val d, .no, .no] := k11 g__law_right_12
  have f12 : g__law_right_12 [.io s', a1, a2, a3, a4, a5, a6, a7, a8, a9, .no, .val d, .no, .no] = g__law_right_13 [.io s', a1, a2, a3, a4, a5, a6, a7, a8, a9, .val (.fn (FE.cl "first_with")), .val d, .no, .no] := k12 g__law_right_13
  have f13 : g__law_right_13 [.io s', a1, a2, a3, a4, a5, a6, a7, a8, a9, .val (.fn (FE.cl "first_with")), .val d, .no, .no] = g__law_right_14 [.io s', a1, a2, a3, a4, a5, a6, a7, a8, a9, .val (.fn (FE.cl "first_with")), .val d, .no, .no] := k13 g__law_right_14
  exact ⟨s', _, f11.trans (f12.trans (f13.trans k14))⟩
theorem right_ok (ne : ActsN) {n : Nat} {s : M} (hs : Sp n s) (hn : n ≤ 600000000) : ∃ s' : M, G__law_right [.io s] = .ok (.v (.bl true)) [s'] := by
  obtain ⟨d, s1, hd, e1, h1⟩ := pick_ok hs (xs := [.int 12, .int 99]) (by simp) (by decide) (by omega)
  obtain ⟨m, rfl, m1, m2⟩ : ∃ m : Int, d = .int m ∧ 12 ≤ m ∧ m ≤ 99 := by
    simp only [List.mem_cons, List.not_mem_nil, or_false] at hd
    rcases hd with rfl | rfl
    · exact ⟨12, rfl, by decide, by decide⟩
    · exact ⟨99, rfl, by decide, by decide⟩
  obtain ⟨q, s2, e2, q0, q1, h2⟩ := sip_ok h1 (k := m) (by omega) (by omega) (by omega)
  obtain ⟨P, hP⟩ := Int.eq_ofNat_of_zero_le (show 0 ≤ 2 + q by omega)
  have hP : 2 + q = (P : Int) := hP
  have sm2 : small 2 = true := rfl
  have k0 : ∀ G : SF, seqS (setS 1 (op2 addD (cst (.int 2)) (callE 2 G__law_sip (slB 0 (cnsB (callE 2 G__law_pick (slB 0 (cnsB (frz (dLst (cnsA (cst (.int 12)) (cnsA (cst (.int 99)) nilA)))) nilB))) nilB))))) G [.io s, .no, .no, .no, .no, .no, .no, .no, .no, .no, .no, .no, .no, .no] = G [.io s2, .val (.int (P : Int)), .no, .no, .no, .no, .no, .no, .no, .no, .no, .no, .no, .no] := fun G => by
    simp_arith only [e1, e2, hP, sm2]
  obtain ⟨a2, a3, a4, a5, a6, hp⟩ := part_p (P := P) (by omega) (by omega) s2
  obtain ⟨s3, a7, h3, eg⟩ := part_g h2 (by omega) (.val (.int (P : Int))) a2 a3 a4 a5 a6
  obtain ⟨s4, a8, a9, h4, ef⟩ := part_f h3 (by omega) (.val (.int (P : Int))) a2 a3 a4 a5 a6 a7
  obtain ⟨s5, ρ, eo⟩ := part_o ne h4 (by omega) (.val (.int (P : Int))) a2 a3 a4 a5 a6 a7 a8 a9
  have f0 : g__law_right [.io s, .no, .no, .no, .no, .no, .no, .no, .no, .no, .no, .no, .no, .no] = g__law_right_1 [.io s2, .val (.int (P : Int)), .no, .no, .no, .no, .no, .no, .no, .no, .no, .no, .no, .no] := k0 g__law_right_1
  have fin := hp _ rfl
  rw [eg, ef, eo] at fin
  refine ⟨s5, ?_⟩
  show bodyG 14 g__law_right [.io s] = _
  rw [bodyG_eq]
  show endR [.io s] (g__law_right [.io s, .no, .no, .no, .no, .no, .no, .no, .no, .no, .no, .no, .no, .no]) = _
  rw [f0, fin]
  rfl

theorem bin_ok (ns : List Int) (t : Int) (h0 : 0 ≤ t) : ∃ s : M, G__law_bin [.val (.scr ns), .val (.int t)] = .ok (.m s) [] ∧ Sp 0 s := by
  have m0 : mulD (.int 97) (.int t) = some (.int (97 * t)) := mulD_l (by decide)
  have m1 : mulD (.int 1031) (.int t) = some (.int (1031 * t)) := mulD_l (by decide)
  have m2 : ∀ x : Int, mulD (.int x) (.int 16807) = some (.int (x * 16807)) := fun x => mulD_r (by decide)
  have f1 : ∀ x : Int, modD (.int x) (.int 2147483647) = some (.int (x % 2147483647)) := fun x => modD_pos (by decide)
  have f2 : ∀ x : Int, modD (.int x) (.int 999853) = some (.int (x % 999853)) := fun x => modD_pos (by decide)
  have pw : powD (.int 10) (.int 18) = some (.int 1000000000000000000) := rfl
  have s3 : small 3 = true := rfl
  have key : ∀ (o : Int) (ds : List D), (∀ d ∈ ds, ∃ i, d = .int i) → ∀ (m : Int) (e : Slot), ∃ (m' : Int) (e' : Slot), forL [] (nmG 4) b__law_bin_1 ds [.val (.scr ns), .val (.int t), .val (.int o), .val (.int m), e] = .ok .nx [.val (.scr ns), .val (.int t), .val (.int o), .val (.int m'), e'] := by
    intro o ds
    induction ds with
    | nil => exact fun _ m e => ⟨m, e, rfl⟩
    | cons d ds ih =>
      intro h m e
      obtain ⟨i, rfl⟩ := h d List.mem_cons_self
      obtain ⟨m', e', ih⟩ := ih (fun d hd => h d (List.mem_cons_of_mem _ hd)) ((m * 16807 + i % 999853 + t) % 2147483647) (.val (.int i))
      have eb : b__law_bin_1 [.val (.scr ns), .val (.int t), .val (.int o), .val (.int m), .val (.int i)] = .ok .nx [.val (.scr ns), .val (.int t), .val (.int o), .val (.int ((m * 16807 + i % 999853 + t) % 2147483647)), .val (.int i)] := by simp_arith only [b__law_bin_1, m2, f1, f2]
      exact ⟨m', e', by simp_arith only [forL_cons, eb, aftF, ih]⟩
  have hit : ∀ o m : Int, seqI (slF (vr 0) noO (smO (cst (.int 8)))) [.val (.scr ns), .val (.int t), .val (.int o), .val (.int m), .no] = .ok ((FL.cut ns none (some 8)).map D.int) [.val (.scr ns), .val (.int t), .val (.int o), .val (.int m), .no] := fun _ _ => rfl
  have el : ∀ o : Int, ∃ (m' : Int) (e' : Slot), forL [] (nmG 4) b__law_bin_1 ((FL.cut ns none (some 8)).map D.int) [.val (.scr ns), .val (.int t), .val (.int o), .val (.int (90001 + 1031 * t)), .no] = .ok .nx [.val (.scr ns), .val (.int t), .val (.int o), .val (.int m'), e'] := fun o => key o _ (fun d hd => by obtain ⟨i, _, rfl⟩ := List.mem_map.mp hd; exact ⟨i, rfl⟩) _ _
  by_cases hl : t < ns.length
  · have g : ∃ o, ixD (.scr ns) (.int t) = some (.int o) := by
      have hl' : t.toNat < ns.length := by omega
      refine ⟨ns[t.toNat], ?_⟩
      show (atI ns t).map D.int = _
      rw [atI_nat h0 (List.getElem?_eq_getElem hl')]
      rfl
    obtain ⟨o, ho⟩ := g
    obtain ⟨m', e', el⟩ := el o
    by_cases c2 : 1000000000000000000 ≤ (o.natAbs : Int)
    · refine ⟨.lst [.int (o.natAbs : Int), .int ((m' * 16807 + o % 999853) % 2147483647), .int 0], ?_, _, _, _, rfl, by omega, by omega⟩
      simp_arith only [G__law_bin, g__law_bin, g__law_bin_1, g__law_bin_2, g__law_bin_3, g__law_bin_4, m0, m1, m2, f1, f2, forS_eq, hit, el, hl, ho, pw, c2, s3]
    · refine ⟨.lst [.int 0, .int ((m' * 16807 + o % 999853) % 2147483647), .int 0], ?_, _, _, _, rfl, by omega, by omega⟩
      simp_arith only [G__law_bin, g__law_bin, g__law_bin_1, g__law_bin_2, g__law_bin_3, g__law_bin_4, m0, m1, m2, f1, f2, forS_eq, hit, el, hl, ho, pw, c2, s3]
  · obtain ⟨m', e', el⟩ := el (97 * t + 43)
    by_cases c2 : 1000000000000000000 ≤ ((97 * t + 43).natAbs : Int)
    · refine ⟨.lst [.int ((97 * t + 43).natAbs : Int), .int ((m' * 16807 + (97 * t + 43) % 999853) % 2147483647), .int 0], ?_, _, _, _, rfl, by omega, by omega⟩
      simp_arith only [G__law_bin, g__law_bin, g__law_bin_1, g__law_bin_2, g__law_bin_3, g__law_bin_4, m0, m1, m2, f1, f2, forS_eq, hit, el, hl, pw, c2, s3]
    · refine ⟨.lst [.int 0, .int ((m' * 16807 + (97 * t + 43) % 999853) % 2147483647), .int 0], ?_, _, _, _, rfl, by omega, by omega⟩
      simp_arith only [G__law_bin, g__law_bin, g__law_bin_1, g__law_bin_2, g__law_bin_3, g__law_bin_4, m0, m1, m2, f1, f2, forS_eq, hit, el, hl, pw, c2, s3]

theorem all_true : ∀ ys : List D, (∀ y ∈ ys, y = D.bl true) → allC [.lst ys] = some (.bl true) := by
  have key : ∀ ys : List D, (∀ y ∈ ys, y = D.bl true) → ∃ bs, bools ys = some bs ∧ bs.all id = true := by
    intro ys
    induction ys with
    | nil => exact fun _ => ⟨[], rfl, rfl⟩
    | cons y ys ih =>
      intro h
      obtain ⟨bs, e, hb⟩ := ih fun z hz => h z (List.mem_cons_of_mem _ hz)
      have hy := h y List.mem_cons_self
      subst hy
      refine ⟨true :: bs, ?_, by simpa using hb⟩
      show (bools ys).map (true :: ·) = _
      rw [e]
      rfl
  intro ys h
  obtain ⟨bs, e, hb⟩ := key ys h
  show (bools ys).map (fun bs => D.bl (bs.all id)) = _
  rw [e]
  show some (D.bl (bs.all id)) = _
  rw [hb]

/-- the turns -/
theorem turns12 (ne : ActsN) (ns : List Int) (hl : ns.length ≤ 63) (x : D) : ∃ ys : List D, allC [.lst ys] = some (.bl true) ∧ cmpM [2] (rng1 (cnsA (opC maxC (cnsA (cst (.int 2)) (cnsA (opC minC (cnsA (opC lenC (cnsA (vr 0) nilA)) (cnsA (cst (.int 4)) nilA))) nilA))) nilA)) (nmG 2) yesT (callFE G__law_right (callM 2 G__law_bin (cnsB (vr 0) (cnsB (vr 2) nilB)))) [.val (.scr ns), .val x, .no] = .ok (.lst ys) [.val (.scr ns), .val x, .no] := by
  have r : rng1 (cnsA (opC maxC (cnsA (cst (.int 2)) (cnsA (opC minC (cnsA (opC lenC (cnsA (vr 0) nilA)) (cnsA (cst (.int 4)) nilA))) nilA))) nilA) [.val (.scr ns), .val x, .no] = .ok (rangeL 0 (max 2 (min (ns.length : Int) 4)).toNat) [.val (.scr ns), .val x, .no] :=
    rng1_ok (by simp_arith only []) (rgOk_of (by omega) (by omega))
  obtain ⟨ys, ρ', e, hy, rfl⟩ := cmpL_of (ks := [2]) (g := nmG 2) (t := yesT) (f := callFE G__law_right (callM 2 G__law_bin (cnsB (vr 0) (cnsB (vr 2) nilB)))) (fun _ ρ => ρ = [.val (.scr ns), .val x, .no]) (fun _ y => y = .bl true)
    (rangeL 0 (max 2 (min (ns.length : Int) 4)).toNat) 0 [] [.val (.scr ns), .val x, .no] (by rw [rangeL_length, List.length_nil]; omega) rfl (fun i d ρ h hd => by
      subst h
      obtain ⟨_, rfl⟩ := rangeL_get _ _ _ _ hd
      obtain ⟨s, es, hs⟩ := bin_ok ns (0 + i) (by omega)
      obtain ⟨s', er⟩ := right_ok ne hs (by omega)
      refine ⟨[.val (.scr ns), .val x, .val (.int (0 + i))], by simp_arith only [], .inr ⟨[.val (.scr ns), .val x, .val (.int (0 + i))], .bl true, [.val (.scr ns), .val x, .val (.int (0 + i))], rfl, ?_, rfl, by simp_arith only []⟩⟩
      simp_arith only [callFE, callF, es, er])
  rw [List.nil_append] at e
  refine ⟨ys, all_true ys fun y hy' => ?_, cmpM_of r e (by rfl)⟩
  obtain ⟨_, _, h⟩ := hy y hy'
  exact h
theorem sol_of {p : Nat} {as : List Int} (h : chkS p as (Y_solids [.val (.int (p : Int))]) = true) : G_solids [.val (.int (p : Int))] = .ok (.v (.tup (as.map fun a => .tup [.int (p : Int), .int a]))) [] := by
  unfold chkS at h
  split at h
  · rename_i S eS
    have g := le_Y_solids [.val (.int (p : Int))]
    rw [eS] at g
    rcases g with g | g
    · cases g
    · rw [← g, eqS_of h]
  · cases h
theorem law_true (ne : ActsN) (ns : List Int) (hl : ns.length ≤ 63) : G_law [.val (.scr ns)] = .ok (.v (.bl true)) [] := by
  have cN : countN 7 = 2 ∧ countN 1 = 1 ∧ countN 2 = 1 ∧ countN 8 = 2 ∧ sidesN 7 = 4 ∧ sidesN 8 = 4 ∧ sidesN 2 = 1 ∧ ownN 7 = 0 ∧ ownN 5 = 1 ∧ ownN 1 = 1 ∧ ownN 2 = 1 ∧ loopsN 7 = 1 ∧ loopsN 5 = 2 ∧ loopsN 8 = 2 := by decide +kernel
  obtain ⟨x1, x2, x3, x4, x5, x6, x7, x8, x9, x10, x11, x12, x13, x14⟩ := cN
  have m7 : G_how_many [.val (.int 7)] = .ok (.v (.int 2)) [] := by
    have h := many_ok (n := 7) (by decide) (by decide)
    rw [x1] at h
    exact h
  have m1 : G_how_many [.val (.int 1)] = .ok (.v (.int 1)) [] := by
    have h := many_ok (n := 1) (by decide) (by decide)
    rw [x2] at h
    exact h
  have m2 : G_how_many [.val (.int 2)] = .ok (.v (.int 1)) [] := by
    have h := many_ok (n := 2) (by decide) (by decide)
    rw [x3] at h
    exact h
  have m8 : G_how_many [.val (.int 8)] = .ok (.v (.int 2)) [] := by
    have h := many_ok (n := 8) (by decide) (by decide)
    rw [x4] at h
    exact h
  have b7 : G_how_many_with_sides [.val (.int 7)] = .ok (.v (.int 4)) [] := by
    have h := sides_ok (n := 7) (by decide) (by decide)
    rw [x5] at h
    exact h
  have b8 : G_how_many_with_sides [.val (.int 8)] = .ok (.v (.int 4)) [] := by
    have h := sides_ok (n := 8) (by decide) (by decide)
    rw [x6] at h
    exact h
  have b2 : G_how_many_with_sides [.val (.int 2)] = .ok (.v (.int 1)) [] := by
    have h := sides_ok (n := 2) (by decide) (by decide)
    rw [x7] at h
    exact h
  have o7 : G_how_many_own_mirrors [.val (.int 7)] = .ok (.v (.int 0)) [] := by
    have h := own_ok (n := 7) (by decide) (by decide)
    rw [x8] at h
    exact h
  have o5 : G_how_many_own_mirrors [.val (.int 5)] = .ok (.v (.int 1)) [] := by
    have h := own_ok (n := 5) (by decide) (by decide)
    rw [x9] at h
    exact h
  have o1 : G_how_many_own_mirrors [.val (.int 1)] = .ok (.v (.int 1)) [] := by
    have h := own_ok (n := 1) (by decide) (by decide)
    rw [x10] at h
    exact h
  have o2 : G_how_many_own_mirrors [.val (.int 2)] = .ok (.v (.int 1)) [] := by
    have h := own_ok (n := 2) (by decide) (by decide)
    rw [x11] at h
    exact h
  have l7 : G_how_many_for_loops [.val (.int 7)] = .ok (.v (.int 1)) [] := by
    have h := loops_ok (n := 7) (by decide) (by decide)
    rw [x12] at h
    exact h
  have l5 : G_how_many_for_loops [.val (.int 5)] = .ok (.v (.int 2)) [] := by
    have h := loops_ok (n := 5) (by decide) (by decide)
    rw [x13] at h
    exact h
  have l8 : G_how_many_for_loops [.val (.int 8)] = .ok (.v (.int 2)) [] := by
    have h := loops_ok (n := 8) (by decide) (by decide)
    rw [x14] at h
    exact h
  have t7 : G_solids [.val (.int 7)] = .ok (.v (.tup [.tup [.int 7, .int 1], .tup [.int 7, .int 2]])) [] := sol_of (p := 7) (as := [1, 2]) (by decide +kernel)
  have t5 : G_solids [.val (.int 5)] = .ok (.v (.tup [.tup [.int 5, .int 1], .tup [.int 5, .int 2]])) [] := sol_of (p := 5) (as := [1, 2]) (by decide +kernel)
  have t12 : G_solids [.val (.int 12)] = .ok (.v (.tup [.tup [.int 12, .int 1], .tup [.int 12, .int 5]])) [] := sol_of (p := 12) (as := [1, 5]) (by decide +kernel)
  have t1 : G_solids [.val (.int 1)] = .ok (.v (.tup [.tup [.int 1, .int 0]])) [] := sol_of (p := 1) (as := [0]) (by decide +kernel)
  have c5 : countN 5 = 2 ∧ countN 11 = 3 := by decide +kernel
  have w1 : G_first_with [.val (.int 1)] = .ok (.v (.int 1)) [] := first_ok (w := 1) (t := 1) (by decide) (by decide) (by decide) (by decide) (by rw [x2]; decide) (fun k h1 h2 => by omega)
  have sm : (List.range 11).all (fun k => decide (k = 0) || (decide (countN k < 3) && (decide (5 ≤ k) || decide (countN k < 2)))) = true := by decide +kernel
  have w2 : G_first_with [.val (.int 2)] = .ok (.v (.int 5)) [] := first_ok (w := 2) (t := 5) (by decide) (by decide) (by decide) (by decide) (by rw [c5.1]; decide) (fun k h1 h2 => by
    have h := List.all_eq_true.mp sm k (List.mem_range.mpr (by omega))
    simp only [Bool.or_eq_true, Bool.and_eq_true, decide_eq_true_eq] at h
    omega)
  have w3 : G_first_with [.val (.int 3)] = .ok (.v (.int 11)) [] := first_ok (w := 3) (t := 11) (by decide) (by decide) (by decide) (by decide) (by rw [c5.2]; decide) (fun k h1 h2 => by
    have h := List.all_eq_true.mp sm k (List.mem_range.mpr (by omega))
    simp only [Bool.or_eq_true, Bool.and_eq_true, decide_eq_true_eq] at h
    omega)
  have s2 : small 2 = true := rfl
  have s10 : small 10 = true := rfl
  have s11 : small 11 = true := rfl
  have s1 : small 1 = true := rfl
  have na : neA (.lst [.int 2, .int 4, .int 0, .int 1, .int 1, .int 2, .int 1, .int 1, .int 2, .int 4, .int 2]) (.lst [.int 2, .int 4, .int 0, .int 1, .int 1, .int 2, .int 1, .int 1, .int 2, .int 4, .int 2]) = some (.bl false) := neA_self rfl
  have nb : neA (.lst [.tup [.tup [.int 7, .int 1], .tup [.int 7, .int 2]], .tup [.tup [.int 5, .int 1], .tup [.int 5, .int 2]], .tup [.tup [.int 12, .int 1], .tup [.int 12, .int 5]], .tup [.tup [.int 1, .int 0]], .int 1, .int 5, .int 11, .int 1, .int 1, .int 1]) (.lst [.tup [.tup [.int 7, .int 1], .tup [.int 7, .int 2]], .tup [.tup [.int 5, .int 1], .tup [.int 5, .int 2]], .tup [.tup [.int 12, .int 1], .tup [.int 12, .int 5]], .tup [.tup [.int 1, .int 0]], .int 1, .int 5, .int 11, .int 1, .int 1, .int 1]) = some (.bl false) := neA_self rfl
  obtain ⟨ys, ha, hc⟩ := turns12 ne ns hl (.lst [.int 2, .int 4, .int 0, .int 1, .int 1, .int 2, .int 1, .int 1, .int 2, .int 4, .int 2])
  simp_arith only [G_law, g_law, g_law_1, g_law_2, g_law_3, m7, m1, m2, m8, b7, b8, b2, o7, o5, o1, o2, l7, l5, l8, t7, t5, t12, t1, w1, w2, w3, s1, s2, s10, s11, na, nb, ↓hc, ha]


end
end Wk
theorem Wk.law_trueE (fe : FL.FE) (ne : (List.Nodup [FL.FE.cl "first_with", FL.FE.cl "how_many", FL.FE.cl "how_many_for_loops", FL.FE.cl "how_many_own_mirrors", FL.FE.cl "how_many_with_sides", FL.FE.cl "solids"] : Prop)) (ns : List Int) (hl : ns.length ≤ 63) : @Wk.G_law fe [.val (.scr ns)] = .ok (.v (.bl true)) [] := @Wk.law_true fe ne ns hl
open PySem PySem.W PyProof.Rows in
set_option maxRecDepth 100000 in
set_option maxHeartbeats 0 in
theorem PySem.Challenge.cw_lenspairs_k12_whole_numbers_of_solids_holds : PySem.Challenge.rw_lenspairs_k12_whole_numbers_of_solids.Holds := by
  w_on; o_law; k_head; (case hw => w_witness2)
  k_fill
  refine FL.walkG (l := PySem.Challenge.rw_lenspairs_k12_whole_numbers_of_solids) (n := 63) (k := 8) (G := fun _ _ => FL.trueG 63) (x := "_law_script") rfl (by decide) rfl (by decide) (fun w h Y => PySem.W.km_in_of Y) ?F
  case F =>
    intro w mg fa h Y KX G XP hmg
    have hts := PySem.W.km_tabs_of Y
    have y_MOST_LISTED : ∃ t : PySem.Tok, mg "MOST_LISTED" = some (.int 500 t) := by
      exact ⟨_, PySem.W.mg_of KX G (by k_is)⟩
    have y_MOST_LOOPS : ∃ t : PySem.Tok, mg "MOST_LOOPS" = some (.int 1000000 t) := by
      exact ⟨_, PySem.W.mg_of KX G (by k_is)⟩
    refine' Wk.all_mk (l := PySem.Challenge.rw_lenspairs_k12_whole_numbers_of_solids) (fe := FL.feOf _ _) (Wk.law_trueE _) KX G hmg ?a1 ?l1 ?c1 ?k1 ?a2 ?l2 ?c2 ?k2 ?a3 ?l3 ?c3 ?k3 ?a4 ?l4 ?c4 ?k4 ?a5 ?l5 ?c5 ?k5 ?a6 ?l6 ?c6 ?k6 ?a7 ?l7 ?c7 ?k7 ?a8 ?l8 ?c8 ?k8 ?a9 ?l9 ?c9 ?k9 ?a10 ?l10 ?c10 ?k10 ?a11 ?l11 ?c11 ?k11 ?a12 ?l12 ?c12 ?k12 ?a13 ?l13 ?c13 ?k13 ?a14 ?l14 ?c14 ?k14 ?a15 ?l15 ?c15 ?k15 ?a16 ?l16 ?c16 ?k16 ?a17 ?l17 ?c17 ?k17 ?a18 ?l18 ?c18 ?k18 ?a19 ?l19 ?c19 ?k19 ?a20 ?l20 ?c20 ?k20 ?a21 ?l21 ?c21 ?k21 ?a22 ?l22 ?c22 ?k22 ?a23 ?l23 ?c23 ?k23 ?a24 ?l24 ?c24 ?k24 ?a25 ?l25 ?c25 ?k25 ?a26 ?l26 ?c26 ?k26 ?a27 ?l27 ?c27 ?k27 ?a28 ?l28 ?c28 ?k28 ?z_ArithmeticError ?z_LookupError ?z_ValueError ?z_abs ?z_all ?z_bool ?z_dict ?z_int ?z_isinstance ?z_len ?z_max ?z_min ?z_range ?z_repr ?z_sorted ?z_tuple y_MOST_LISTED y_MOST_LOOPS ?q_Broken ?q_InvalidIndex ?q_InvalidNumber ?q_InvalidPair ?q_InvalidString ?q_InvalidText ?q_NoMove ?q_NotKnown ?q_NotLed ?q_NotPossible ?q_NotRight ?q_TooGreat ?q_first_with ?q_how_many ?q_how_many_for_loops ?q_how_many_own_mirrors ?q_how_many_with_sides ?q_solids ?i_InvalidNumber ?il_InvalidNumber ?ik_InvalidNumber ?ib_InvalidNumber rfl ?hneq ?hct ?hca hts ?hcb ?hun
    (case a1 => k_is)
    (case l1 => k_is)
    (case c1 => k_is)
    (case k1 => k_is)
    (case a2 => k_is)
    (case l2 => k_is)
    (case c2 => k_is)
    (case k2 => k_is)
    (case a3 => k_is)
    (case l3 => k_is)
    (case c3 => k_is)
    (case k3 => k_is)
    (case a4 => k_is)
    (case l4 => k_is)
    (case c4 => k_is)
    (case k4 => k_is)
    (case a5 => k_is)
    (case l5 => k_is)
    (case c5 => k_is)
    (case k5 => k_is)
    (case a6 => k_is)
    (case l6 => k_is)
    (case c6 => k_is)
    (case k6 => k_is)
    (case a7 => k_is)
    (case l7 => k_is)
    (case c7 => k_is)
    (case k7 => k_is)
    (case a8 => k_is)
    (case l8 => k_is)
    (case c8 => k_is)
    (case k8 => k_is)
    (case a9 => k_is)
    (case l9 => k_is)
    (case c9 => k_is)
    (case k9 => k_is)
    (case a10 => k_is)
    (case l10 => k_is)
    (case c10 => k_is)
    (case k10 => k_is)
    (case a11 => k_is)
    (case l11 => k_is)
    (case c11 => k_is)
    (case k11 => k_is)
    (case a12 => k_is)
    (case l12 => k_is)
    (case c12 => k_is)
    (case k12 => k_is)
    (case a13 => k_is)
    (case l13 => k_is)
    (case c13 => k_is)
    (case k13 => k_is)
    (case a14 => k_is)
    (case l14 => k_is)
    (case c14 => k_is)
    (case k14 => k_is)
    (case a15 => k_is)
    (case l15 => k_is)
    (case c15 => k_is)
    (case k15 => k_is)
    (case a16 => k_is)
    (case l16 => k_is)
    (case c16 => k_is)
    (case k16 => k_is)
    (case a17 => k_is)
    (case l17 => k_is)
    (case c17 => k_is)
    (case k17 => k_is)
    (case a18 => k_is)
    (case l18 => k_is)
    (case c18 => k_is)
    (case k18 => k_is)
    (case a19 => k_is)
    (case l19 => k_is)
    (case c19 => k_is)
    (case k19 => k_is)
    (case a20 => k_is)
    (case l20 => k_is)
    (case c20 => k_is)
    (case k20 => k_is)
    (case a21 => k_is)
    (case l21 => k_is)
    (case c21 => k_is)
    (case k21 => k_is)
    (case a22 => k_is)
    (case l22 => k_is)
    (case c22 => k_is)
    (case k22 => k_is)
    (case a23 => k_is)
    (case l23 => k_is)
    (case c23 => k_is)
    (case k23 => k_is)
    (case a24 => k_is)
    (case l24 => k_is)
    (case c24 => k_is)
    (case k24 => k_is)
    (case a25 => k_is)
    (case l25 => k_is)
    (case c25 => k_is)
    (case k25 => k_is)
    (case a26 => k_is)
    (case l26 => k_is)
    (case c26 => k_is)
    (case k26 => k_is)
    (case a27 => k_is)
    (case l27 => k_is)
    (case c27 => k_is)
    (case k27 => k_is)
    (case a28 => k_is)
    (case l28 => k_is)
    (case c28 => k_is)
    (case k28 => k_is)
    (case z_ArithmeticError => k_is)
    (case z_LookupError => k_is)
    (case z_ValueError => k_is)
    (case z_abs => k_is)
    (case z_all => k_is)
    (case z_bool => k_is)
    (case z_dict => k_is)
    (case z_int => k_is)
    (case z_isinstance => k_is)
    (case z_len => k_is)
    (case z_max => k_is)
    (case z_min => k_is)
    (case z_range => k_is)
    (case z_repr => k_is)
    (case z_sorted => k_is)
    (case z_tuple => k_is)
    (case q_Broken => k_is)
    (case q_InvalidIndex => k_is)
    (case q_InvalidNumber => k_is)
    (case q_InvalidPair => k_is)
    (case q_InvalidString => k_is)
    (case q_InvalidText => k_is)
    (case q_NoMove => k_is)
    (case q_NotKnown => k_is)
    (case q_NotLed => k_is)
    (case q_NotPossible => k_is)
    (case q_NotRight => k_is)
    (case q_TooGreat => k_is)
    (case q_first_with => k_is)
    (case q_how_many => k_is)
    (case q_how_many_for_loops => k_is)
    (case q_how_many_own_mirrors => k_is)
    (case q_how_many_with_sides => k_is)
    (case q_solids => k_is)
    (case i_InvalidNumber => k_is)
    (case il_InvalidNumber => k_is)
    (case ik_InvalidNumber => k_is)
    (case ib_InvalidNumber => kernel_rfl)
    (case hneq => decide)
    (case hct => kernel_rfl)
    (case hca => kernel_rfl)
    (case hcb => kernel_rfl)
    (case hun => kernel_rfl)
