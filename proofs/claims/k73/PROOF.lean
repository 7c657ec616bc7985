import PyProof.Rows.All
import HandS.ForMost
import HandS.Exc
import HandS.Deep
import HandS.Wide
import HandS.TupAny
import HandS.TupMul
import HandS.IsInst
import HandS.SortInts
import HandS.Style
import HandS.Zip
import HandS.CallSlots
import HandS.Lambda
import HandS.ExcCtx
import HandS.Dict
import HandS.Star
import HandS.MakeKwOnly
import PyProof.NeKinds
import HandS.EndBits
import HandS.SetFor
import HandS.Strs
import KE.KExcInit
import HandS.ExcInit
import HandS.Small
import KE.KExcIs
import HandS.ExcField
import HandS.HotCalls
import KE.KNestM
import HandS.DictComp
import HandS.More
import HandS.List
import PyProof.P3Eq
import PyProof.ReprLen
import PyProof.TupleOfSeq
import PyProof.Rows.Digits
import HandS.NoneIn
import HandS.Property
import HandS.MakeKw
import HandS.Iter
import HandS.Walk
import PyProof.DictUpdate
import PyProof.DictDisplay
import KE.KDictDisplayH
import HandS.ExcValue
import HandS.Text
import PyProof.ListStr
import HandS.DictEq
import PyProof.EqAt
import HandS.Call
import HandS.Hot
import HandS.Conv
import HandS.SortOrd
import HandS.SortRule
import KE.DataMinMax
import HandS.NamedTupSort
import KE.KDictPairs
import HandS.TupSets
import PyProof.DictTable
import HandS.ListItems
import HandS.FStr
import HandS.RaiseMore
import PyProof.Rows.SortShellAny
import KE.GoesRaise
import KE.KEqNest
import KE.KDictCopyH
import KE.DataEq
import PySem.Challenge.RW_lenspairs_k73_any_values_in_claims
set_option Elab.async false
set_option linter.all false
set_option maxRecDepth 100000
set_option maxHeartbeats 4000000
/-! FL1: pure data D, the state of a def's body over it (Sta), the readings by functions. -/
namespace FL
open PySem PySem.Spec PyProof.Rows L2

/-- what holds of the whole law: the tables of code objects, where its classes stand -/
class FE where
  tabs : List (Addr × Str)
  cl : Str → Addr
  /-- the hash of a key -/
  hs : Option Key → Int := fun _ => 0
/-- a caught exception: its object, its dict, its class -/
structure EId where
  a : Addr
  d : Option Addr
  C : Str
deriving DecidableEq
/-- pure data -/
inductive D where
  | non
  | bl (b : Bool)
  | int (i : Int)
  | str (x : Str)
  | tup (xs : List D)
  | lst (xs : List D)
  | scr (ns : List Int)
  | fn (a : Addr)
  | dct (kvs : List (Key × D))
  | exc (x : EId) (fs : List (Str × D))
  | clo (a : Addr) (R : Hp → Prop)
  | dcf (kvs : List (Key × D))
  | err (n : Str) (C : Addr) (fs : List (Str × D))
  | dl1 (h : Int) (k : Option Key) (d : D)

instance : Inhabited D := ⟨.non⟩

/-- an exception's dict -/
def XD (F : Hp) (d : Option Addr) (fsV : List (Str × V)) : Prop := match d with
  | some d => F d = some (.xd fsV)
  | none => fsV = []
theorem XD.mono {F F' : Hp} {d : Option Addr} {fsV : List (Str × V)} (h : XD F d fsV) (e : Same F F') : XD F' d fsV := by
  cases d with
  | none => exact h
  | some d => exact e _ _ h
/-- an exception object of the class at C that has been made, its dict at d -/
def exV (e C : Addr) (d : Option Addr) : HO := .ext fun h => ∃ (oe : Obj) (vs : Array Value), h.get? e = some oe ∧ oe.cls = .ref C ∧ oe.dict = d ∧ oe.data = .fields vs
/-- a key that is a number, a text or None -/
def keyIs : Option Key → Value → Prop
  | none, v => v = .none
  | some (.inl i), v => (∃ t, v = .int i t) ∨ ∃ b : Bool, v = .bool b ∧ (if b = true then 1 else 0) = i
  | some (.inr x), v => ∃ t, v = .str x t
/-- a dict of one entry -/
def LfO (n : Int) (a : Addr) (k : Option Key) (u : Value) : HO := .ext fun h => (a == sysModules) = false ∧ ∃ (o : Obj) (es : Array DictEntry) (ep : Nat) (key : Value), h.get? a = some o ∧ o.ExactDict ∧ o.data = .dict es ep ∧ es.toList = [⟨n, key, u⟩] ∧ keyIs k key
/-- no table -/
def NT (o : HO) : Prop := ∀ ps, o ≠ .tbl ps
/-- no tuple of which only the items are known: a tuple is told with its object, which has no dict -/
def PlO (o : HO) : Prop := (∀ xs, o ≠ .tup xs) ∧ ∀ u xs, o = .frz u (.tup xs) → u.dict = none
def NoT (F : Hp) : Prop := ∀ q o, F q = some o → NT o ∧ PlO o

mutual
inductive Rep (K : PySem.W.Frag) (F : Hp) : V → D → Prop
  | non : Rep K F .non .non
  | bl (b : Bool) : Rep K F (.bl b) (.bl b)
  | int (i : Int) : Rep K F (.int i) (.int i)
  | str (x : Str) : Rep K F (.str x) (.str x)
  | fn (a : Addr) : Rep K F (.ref a) (.fn a)
  | tup {a : Addr} {xs : List V} {ds : List D} : SqT K F a xs → Reps K F xs ds → Rep K F (.ref a) (.tup ds)
  | lst {a : Addr} {xs : List V} {ds : List D} : F a = some (.lst xs) → Reps K F xs ds → Rep K F (.ref a) (.lst ds)
  | scr {a : Addr} {ns : List Int} : SqL K F a (ns.map V.int) → Rep K F (.ref a) (.scr ns)
  | dct {a : Addr} {kvs : List (Key × V)} {ds : List (Key × D)} : F a = some (.dK kvs) → kvs.map (·.1) = ds.map (·.1) → Reps K F (kvs.map (·.2)) (ds.map (·.2)) → Rep K F (.ref a) (.dct ds)
  | exc {x : EId} {fsV : List (Str × V)} {fs : List (Str × D)} : XD F x.d fsV → fsV.map (·.1) = fs.map (·.1) → Reps K F (fsV.map (·.2)) (fs.map (·.2)) → Rep K F (.ref x.a) (.exc x fs)
  | clo {a : Addr} {R : Hp → Prop} : (∀ G G' : Hp, Same G G' → R G → R G') → R F → Rep K F (.ref a) (.clo a R)
  | dcf {a : Addr} {o : Obj} {kvs : List (Key × V)} {ds : List (Key × D)} : F a = some (.frz o (.dK kvs)) → kvs.map (·.1) = ds.map (·.1) → Reps K F (kvs.map (·.2)) (ds.map (·.2)) → Rep K F (.ref a) (.dcf ds)
  | err {e C : Addr} {d : Option Addr} {n : Str} {fsV : List (Str × V)} {fs : List (Str × D)} : F e = some (exV e C d) → XD F d fsV → fsV.map (·.1) = fs.map (·.1) → Reps K F (fsV.map (·.2)) (fs.map (·.2)) → Rep K F (.ref e) (.err n C fs)
  | dl1 {a : Addr} {n : Int} {k : Option Key} {u : Value} {v : V} {d : D} : F a = some (LfO n a k u) → RelV v u → Rep K F v d → Rep K F (.ref a) (.dl1 n k d)
inductive Reps (K : PySem.W.Frag) (F : Hp) : List V → List D → Prop
  | nil : Reps K F [] []
  | cons {v : V} {vs : List V} {d : D} {ds : List D} : Rep K F v d → Reps K F vs ds → Reps K F (v :: vs) (d :: ds)
end

theorem sm_rd {H H' : Hp} {a : Addr} {u : HO} (e : Same H H') (h : Rd H a u) : Rd H' a u := by
  rcases h with h | ⟨o, h⟩
  · exact .inl (e _ _ h)
  · exact .inr ⟨o, e _ _ h⟩
theorem sm_tup {K : PySem.W.Frag} {H H' : Hp} {a : Addr} {xs : List V} (e : Same H H') (h : SqT K H a xs) : SqT K H' a xs := by
  rcases h with h | h
  · exact .inl (sm_rd e h)
  · exact .inr h

section
variable {K : PySem.W.Frag} {F F' : Hp}
mutual
theorem Rep.mono (e : Same F F') : ∀ {v : V} {d : D}, Rep K F v d → Rep K F' v d
  | _, _, .non => .non
  | _, _, .bl b => .bl b
  | _, _, .int i => .int i
  | _, _, .str x => .str x
  | _, _, .fn a => .fn a
  | _, _, .tup h r => .tup (sm_tup e h) (Reps.mono e r)
  | _, _, .lst h r => .lst (e _ _ h) (Reps.mono e r)
  | _, _, .scr h => .scr (Same.seq e h)
  | _, _, .dct h k r => .dct (e _ _ h) k (Reps.mono e r)
  | _, _, .exc h1 k r => .exc (h1.mono e) k (Reps.mono e r)
  | _, _, .clo m h => .clo m (m _ _ e h)
  | _, _, .dcf h k r => .dcf (e _ _ h) k (Reps.mono e r)
  | _, _, .err h1 h2 k r => .err (e _ _ h1) (h2.mono e) k (Reps.mono e r)
  | _, _, .dl1 h1 h2 r => .dl1 (e _ _ h1) h2 (Rep.mono e r)
theorem Reps.mono (e : Same F F') : ∀ {vs : List V} {ds : List D}, Reps K F vs ds → Reps K F' vs ds
  | _, _, .nil => .nil
  | _, _, .cons h r => .cons (Rep.mono e h) (Reps.mono e r)
end
theorem Reps.length : ∀ {vs : List V} {ds : List D}, Reps K F vs ds → vs.length = ds.length
  | _, _, .nil => rfl
  | _, _, .cons _ r => congrArg (· + 1) (Reps.length r)
theorem Reps.append : ∀ {vs ws : List V} {ds es : List D}, Reps K F vs ds → Reps K F ws es → Reps K F (vs ++ ws) (ds ++ es)
  | _, _, _, _, .nil, q => q
  | _, _, _, _, .cons h r, q => .cons h (Reps.append r q)
theorem Reps.get : ∀ {vs : List V} {ds : List D} {i : Nat} {d : D}, Reps K F vs ds → ds[i]? = some d → ∃ v, vs[i]? = some v ∧ Rep K F v d
  | _, _, _, _, .nil, e => by simp at e
  | _, _, 0, _, .cons h r, e => by
    simp at e
    subst e
    exact ⟨_, rfl, h⟩
  | _, _, i + 1, d, .cons h r, e => by
    obtain ⟨v, h1, h2⟩ := Reps.get (i := i) (d := d) r (by simpa using e)
    exact ⟨v, by simpa using h1, h2⟩
theorem Reps.take : ∀ {vs : List V} {ds : List D} (n : Nat), Reps K F vs ds → Reps K F (vs.take n) (ds.take n)
  | _, _, 0, _ => .nil
  | _, _, _ + 1, .nil => .nil
  | _, _, n + 1, .cons h r => .cons h (Reps.take n r)
theorem Reps.drop : ∀ {vs : List V} {ds : List D} (n : Nat), Reps K F vs ds → Reps K F (vs.drop n) (ds.drop n)
  | _, _, 0, r => r
  | _, _, _ + 1, .nil => .nil
  | _, _, n + 1, .cons h r => Reps.drop n r
theorem Reps.set {v : V} {d : D} (h : Rep K F v d) : ∀ {vs : List V} {ds : List D} (i : Nat), Reps K F vs ds → Reps K F (vs.set i v) (ds.set i d)
  | _, _, _, .nil => .nil
  | _, _, 0, .cons _ r => .cons h r
  | _, _, i + 1, .cons q r => .cons q (Reps.set h i r)
theorem Reps.ints : ∀ (ns : List Int), Reps K F (ns.map V.int) (ns.map D.int)
  | [] => .nil
  | n :: ns => .cons (.int n) (Reps.ints ns)
theorem Reps.of_ints : ∀ {vs : List V} {ns : List Int}, Reps K F vs (ns.map D.int) → vs = ns.map V.int
  | _, [], .nil => rfl
  | _, n :: ns, .cons h r => by
    cases h
    rw [Reps.of_ints r]
    rfl
theorem Reps.snoc {vs : List V} {ds : List D} {v : V} {d : D} (r : Reps K F vs ds) (h : Rep K F v d) : Reps K F (vs ++ [v]) (ds ++ [d]) := r.append (.cons h .nil)
theorem Reps.reverse : ∀ {vs : List V} {ds : List D}, Reps K F vs ds → Reps K F vs.reverse ds.reverse
  | _, _, .nil => .nil
  | _, _, .cons h r => by
    rw [List.reverse_cons, List.reverse_cons]
    exact (Reps.reverse r).append (.cons h .nil)
end

/-! ### slots -/
/-- an entry: the key, where it stands, the value -/
abbrev Ent := List Key × Addr × Value
def DTt (P : Program) (w : World) (a : Addr) (xs : List Ent) (h : Heap) : Prop :=
  ∃ ob rows ep, h.get? a = some ob ∧ ob.ExactDict ∧ ob.data = .dict rows ep ∧ rows.toList = xs.map (entryOfKey (tupleKind (mixKind P w))) ∧ (xs.map fun e => e.1).Nodup
def DTo (P : Program) (w : World) (a : Addr) (xs : List Ent) : HO := .ext fun h => xs.length ≤ sizeLine ∧ (a == sysModules) = false ∧ DTt P w a xs h
/-- a dict is no code object -/
theorem dto_not_code {P : Program} {w : World} {D c : Addr} {xs : List Ent} {q : Str} : DTo P w D xs ≠ LamX.CodeO c q := fun z => by
  let o : Obj := { cls := .none, data := .fields #[.none, .str q 0] }
  let g : Heap := Heap.push ⟨Array.replicate c o, {}⟩ o
  have there : g.get? c = some o := by
    have := Heap.get?_push_size (⟨Array.replicate c o, {}⟩ : Heap) (show o.isFreed = false from rfl)
    rwa [show (Heap.mk (Array.replicate c o) {}).objs.size = c from Array.size_replicate ..] at this
  have only : ∀ b u, g.get? b = some u → u = o := fun b u e => by
    rcases Heap.get?_push_cases e with ⟨_, e⟩ | e
    · exact e
    · obtain ⟨e, _⟩ := Heap.get?_some_iff.mp e
      have e : (Array.replicate c o)[b]? = some u := e
      rw [Array.getElem?_replicate] at e
      split at e
      · exact (Option.some.inj e).symm
      · cases e
  have k : (∃ (oc : Obj) (vs : Array Value) (t : Tok), g.get? c = some oc ∧ oc.data = .fields vs ∧ vs[1]? = some (.str q t)) := ⟨o, _, _, there, rfl, rfl⟩
  obtain ⟨_, _, o', es, ep, g', _, d, _⟩ := (congrFun (HO.ext.inj z) g).mpr k
  cases only _ _ g'
  cases d
/-- the entries of a dict whose keys are tuples of whole numbers -/
abbrev EntU (K : PySem.W.Frag) (F : Hp) (xs : List Ent) (kvs : List (List Int × D)) : Prop := Paired (fun x p => SqT K F x.2.1 (p.1.map V.int) ∧ x.1 = p.1.map Sum.inl ∧ ∃ v, RelV v x.2.2 ∧ Rep K F v p.2) xs kvs
/-- what a mutable thing holds: a list, an instance, a dict -/
inductive M where
  | lst (ds : List D)
  | ins (C : Addr) (fs : List (Str × D))
  | dct (kvs : List (Key × D))
  | dtu (kvs : List (List Int × D))
def MRep (K : PySem.W.Frag) (F H : Hp) (p : Addr) : M → Prop
  | .lst ds => ∃ vs, H p = some (.lst vs) ∧ Reps K F vs ds
  | .ins C fs => ∃ dx fsV, H p = some (.ins C dx fsV) ∧ fsV.map (·.1) = fs.map (·.1) ∧ Reps K F (fsV.map (·.2)) (fs.map (·.2))
  | .dct ds => ∃ kvs, H p = some (.dK kvs) ∧ kvs.map (·.1) = ds.map (·.1) ∧ Reps K F (kvs.map (·.2)) (ds.map (·.2))
  | .dtu ds => ∃ P w xs, H p = some (DTo P w p xs) ∧ EntU K F xs ds
theorem MRep.here {K : PySem.W.Frag} {F H : Hp} {p : Addr} {m : M} (h : MRep K F H p m) : ∃ o, H p = some o := by
  cases m with
  | lst ds => obtain ⟨vs, e, _⟩ := h; exact ⟨_, e⟩
  | ins C fs => obtain ⟨dx, fsV, e, _⟩ := h; exact ⟨_, e⟩
  | dct ds => obtain ⟨kvs, e, _⟩ := h; exact ⟨_, e⟩
  | dtu ds => obtain ⟨P, w, xs, e, _⟩ := h; exact ⟨_, e⟩
/-- a thing that may be changed -/
def Mut (o : HO) : Prop := (∃ vs, o = .lst vs) ∨ (∃ C dx fs, o = .ins C dx fs) ∨ (∃ kvs, o = .dK kvs) ∨ ∃ P w a xs, o = DTo P w a xs
theorem Mut.nt {o : HO} (h : Mut o) : NT o := fun ps z => by
  subst z
  rcases h with ⟨_, h⟩ | ⟨_, _, _, h⟩ | ⟨_, h⟩ | ⟨_, _, _, _, h⟩ <;> cases h
theorem MRep.mut {K : PySem.W.Frag} {F H : Hp} {p : Addr} {m : M} (h : MRep K F H p m) : ∃ o, H p = some o ∧ Mut o := by
  cases m with
  | lst ds => obtain ⟨vs, e, _⟩ := h; exact ⟨_, e, .inl ⟨_, rfl⟩⟩
  | ins C fs => obtain ⟨dx, fsV, e, _⟩ := h; exact ⟨_, e, .inr (.inl ⟨_, _, _, rfl⟩)⟩
  | dct ds => obtain ⟨kvs, e, _⟩ := h; exact ⟨_, e, .inr (.inr (.inl ⟨_, rfl⟩))⟩
  | dtu ds => obtain ⟨P, w, xs, e, _⟩ := h; exact ⟨_, e, .inr (.inr (.inr ⟨_, _, _, _, rfl⟩))⟩
theorem tabs_upd {T : List (Addr × Str)} {H : Hp} {p : Addr} {o o' : HO} (t : LamX.Tabs T H) (h : H p = some o) (m : Mut o) : LamX.Tabs T (upd H p o') := fun q hq => by
  obtain ⟨ps, h1, h2, h3⟩ := t q hq
  have nx : ∀ {b : Addr} {u : HO}, H b = some u → ¬ Mut u → b ≠ p := fun {b u} e n z => by
    subst z
    rw [h] at e
    cases e
    exact n m
  refine ⟨ps, by rw [upd_ne (nx h1 fun z => z.nt _ rfl)]; exact h1, h2, fun pos cv hc => ?_⟩
  obtain ⟨c, e1, e2⟩ := h3 pos cv hc
  refine ⟨c, e1, ?_⟩
  rw [upd_ne (nx e2 fun z => by
    rcases z with ⟨_, h⟩ | ⟨_, _, _, h⟩ | ⟨_, h⟩ | ⟨_, _, _, _, h⟩ <;> first | exact dto_not_code h.symm | (unfold LamX.CodeO at h; cases h))]
  exact e2
theorem Mut.pl {o : HO} (h : Mut o) : PlO o := by
  rcases h with ⟨_, rfl⟩ | ⟨_, _, _, rfl⟩ | ⟨_, rfl⟩ | ⟨_, _, _, _, rfl⟩ <;> exact ⟨fun _ z => (nomatch z), fun _ _ z => (nomatch z)⟩
theorem MRep.mono {K : PySem.W.Frag} {F F' H H' : Hp} {p : Addr} {m : M} (h : MRep K F H p m) (e : Same F F') (k : ∀ o, H p = some o → H' p = some o) : MRep K F' H' p m := by
  cases m with
  | lst ds => obtain ⟨vs, e1, r⟩ := h; exact ⟨vs, k _ e1, r.mono e⟩
  | ins C fs => obtain ⟨dx, fsV, e1, l, r⟩ := h; exact ⟨dx, fsV, k _ e1, l, r.mono e⟩
  | dct ds => obtain ⟨kvs, e1, l, r⟩ := h; exact ⟨kvs, k _ e1, l, r.mono e⟩
  | dtu ds => obtain ⟨P, w, xs, e1, r⟩ := h; exact ⟨P, w, xs, k _ e1, Paired.mapP r fun _ _ ⟨a, b, v, c, d⟩ => ⟨sm_tup e a, b, v, c, d.mono e⟩⟩

inductive Slot where
  /-- not known -/
  | no
  /-- data, never changed -/
  | val (d : D)
  /-- a thing of our own -/
  | own (m : M)
  /-- a thing that was handed to us, at the place π i -/
  | io (m : M)
  /-- an instance of the class at C, never changed; its one field f is the thing at the place π j -/
  | lk (C : Addr) (f : Str) (j : Nat)
abbrev Rho := List Slot

/-- what the state is compared with: the heap at a beginning, its frozen part, what may be changed of it: handed in, own -/
structure Cfg where
  H0 : Hp
  F0 : Hp
  io : List Addr
  ow : List Addr

def SlotOk (K : PySem.W.Frag) (π : Nat → Addr) (c : Cfg) (F H : Hp) (σ : L2.St) (i : Nat) : Slot → Prop
  | .no => True
  | .val d => ∃ v, σ[i]? = some (some v) ∧ Rep K F v d
  | .own m => ∃ p, σ[i]? = some (some (.ref p)) ∧ F p = none ∧ (c.H0 p = none ∨ p ∈ c.ow) ∧ MRep K F H p m
  | .io m => σ[i]? = some (some (.ref (π i))) ∧ F (π i) = none ∧ π i ∈ c.io ∧ MRep K F H (π i) m
  | .lk C f j => ∃ a dx, σ[i]? = some (some (.ref a)) ∧ F a = some (.ins C dx [(f, .ref (π j))])
/-- slot i is at p, ours to change -/
def OwnAt (σ : L2.St) (ρ : Rho) (i : Nat) (p : Addr) : Prop := σ[i]? = some (some (.ref p)) ∧ ∃ m, ρ[i]? = some (.own m) ∨ ρ[i]? = some (.io m)

/-- the tables, in a state -/
structure StT [FE] (c : Cfg) (F H : Hp) : Prop where
  tb : LamX.Tabs FE.tabs H
  tk : ∀ q ps, c.H0 q = some (.tbl ps) → ∃ ps', H q = some (.tbl ps')
  nt : NoT F
section
variable [FE]
structure Sta (K : PySem.W.Frag) (π : Nat → Addr) (c : Cfg) (F H : Hp) (σ : L2.St) (ρ : Rho) : Prop where
  h0 : ∀ q o, c.H0 q = some o → q ∉ c.io → q ∉ c.ow → NT o → H q = some o
  hio : ∀ q, q ∈ c.io ∨ q ∈ c.ow → ∃ o, H q = some o
  f0 : Same c.F0 F
  f : Same F H
  nf : ∀ q o, c.H0 q = some o → c.F0 q = none → F q = none
  len : σ.length = ρ.length
  rep : ∀ i s, ρ[i]? = some s → SlotOk K π c F H σ i s
  dis : ∀ i j p, OwnAt σ ρ i p → OwnAt σ ρ j p → i = j
  t : StT c F H

/-- the heap has grown, nothing has changed -/
structure GrT (F H F' H' : Hp) : Prop where
  tb : LamX.Tabs FE.tabs H → LamX.Tabs FE.tabs H'
  tk : ∀ q ps, H q = some (.tbl ps) → ∃ ps', H' q = some (.tbl ps')
  nt : NoT F → NoT F'
theorem GrT.of {F H F' H' : Hp} (h : Same H H') (n : NoT F → NoT F') : GrT F H F' H' := ⟨fun t => t.ext h, fun q ps e => ⟨ps, h _ _ e⟩, n⟩
theorem NoT.upd {F : Hp} {p : Addr} {o : HO} (h : NoT F) (n : NT o ∧ PlO o) : NoT (upd F p o) := fun q u e => by
  by_cases z : q = p
  · subst z
    rw [upd_same] at e
    cases e
    exact n
  · rw [upd_ne z] at e
    exact h _ _ e
structure Grw (F H F' H' : Hp) : Prop where
  f : Same F F'
  h : LamX.ExtN H H'
  fh : Same F' H'
  nf : ∀ q o, H q = some o → F q = none → F' q = none
  t : GrT F H F' H'
theorem extN {H H' : Hp} (h : Same H H') : LamX.ExtN H H' := fun b o e _ => h b o e
theorem Grw.refl {F H : Hp} (h : Same F H) : Grw F H F H := ⟨Same.refl _, extN (Same.refl _), h, fun _ _ _ e => e, .of (Same.refl _) fun n => n⟩
theorem sm_new {H : Hp} {p : Addr} {o : HO} (h : H p = none) : Same H (upd H p o) := fun a u e => by
  rw [upd_ne (ne_of_none e h)]
  exact e
theorem sm_upd2 {F H : Hp} (e : Same F H) {p : Addr} {o : HO} : Same (upd F p o) (upd H p o) := fun a u h => by
  by_cases q : a = p
  · subst q
    rw [upd_same] at h ⊢
    exact h
  · rw [upd_ne q] at h ⊢
    exact e _ _ h
theorem sm_updR {F H : Hp} (e : Same F H) {p : Addr} {o : HO} (h : F p = none) : Same F (upd H p o) := fun a u q => by
  rw [upd_ne (ne_of_none q h)]
  exact e _ _ q
/-- a new thing, frozen at once -/
theorem Grw.newF {F H : Hp} {p : Addr} {o : HO} (h : Same F H) (e : H p = none) (n : NT o := by intro ps z; cases z) (m : PlO o := by exact ⟨fun _ z => (nomatch z), fun _ _ z => (nomatch z)⟩) : Grw F H (upd F p o) (upd H p o) :=
  ⟨sm_new (Same.free h e), extN (sm_new e), sm_upd2 h, fun q u h1 h2 => by rw [upd_ne (ne_of_none h1 e)]; exact h2, .of (sm_new e) fun x => x.upd ⟨n, m⟩⟩
/-- a new thing, not frozen -/
theorem Grw.newO {F H : Hp} {p : Addr} {o : HO} (h : Same F H) (e : H p = none) : Grw F H F (upd H p o) :=
  ⟨Same.refl _, extN (sm_new e), sm_updR h (Same.free h e), fun _ _ _ q => q, .of (sm_new e) fun x => x⟩
/-- a new tuple, told with its object -/
theorem Grw.newT {F H : Hp} {p : Addr} {o : Obj} {xs : List V} (h : Same F H) (e : H p = none) (d : o.dict = none) : Grw F H (upd F p (.frz o (.tup xs))) (upd H p (.frz o (.tup xs))) :=
  Grw.newF h e (m := ⟨fun _ z => (nomatch z), fun u ys z => by
    cases z
    exact d⟩)
theorem Grw.trans {F H F1 H1 F2 H2 : Hp} (a : Grw F H F1 H1) (b : Grw F1 H1 F2 H2) : Grw F H F2 H2 :=
  ⟨a.f.trans b.f, a.h.trans b.h, b.fh, fun q o h e => by
    by_cases z : ∃ ps, o = .tbl ps
    · obtain ⟨ps, rfl⟩ := z
      obtain ⟨ps', e'⟩ := a.t.tk q ps h
      exact b.nf q _ e' (a.nf q _ h e)
    · exact b.nf q o (a.h _ _ h fun ps y => z ⟨ps, y⟩) (a.nf q o h e),
   ⟨fun t => b.t.tb (a.t.tb t), fun q ps e => by
    obtain ⟨ps', e'⟩ := a.t.tk q ps e
    exact b.t.tk q ps' e', fun n => b.t.nt (a.t.nt n)⟩⟩
/-- what stood stands, of its kind -/
theorem Grw.any {F H F' H' : Hp} (g : Grw F H F' H') {q : Addr} {o : HO} (e : H q = some o) : ∃ o', H' q = some o' := by
  by_cases z : ∃ ps, o = .tbl ps
  · obtain ⟨ps, rfl⟩ := z
    obtain ⟨ps', e'⟩ := g.t.tk q ps e
    exact ⟨_, e'⟩
  · exact ⟨o, g.h _ _ e fun ps y => z ⟨ps, y⟩⟩

section
variable {K : PySem.W.Frag} {π : Nat → Addr} {c : Cfg} {F H F' H' : Hp} {σ σ' : L2.St} {ρ ρ' : Rho}
theorem Sta.any (S : Sta K π c F H σ ρ) {q : Addr} {o : HO} (e : c.H0 q = some o) : ∃ o', H q = some o' := by
  by_cases h1 : q ∈ c.io
  · exact S.hio q (.inl h1)
  · by_cases h2 : q ∈ c.ow
    · exact S.hio q (.inr h2)
    · by_cases z : ∃ ps, o = .tbl ps
      · obtain ⟨ps, rfl⟩ := z
        obtain ⟨ps', e'⟩ := S.t.tk q ps e
        exact ⟨_, e'⟩
      · exact ⟨o, S.h0 q o e h1 h2 fun ps y => z ⟨ps, y⟩⟩
theorem Sta.grow (S : Sta K π c F H σ ρ) (g : Grw F H F' H') : Sta K π c F' H' σ ρ := by
  refine ⟨fun q o e n n' nt => g.h _ _ (S.h0 q o e n n' nt) nt, fun q hq => ?_, S.f0.trans g.f, g.fh, fun q o e n => ?_, S.len, fun i s hs => ?_, S.dis, ⟨g.t.tb S.t.tb, fun q ps e => ?_, g.t.nt S.t.nt⟩⟩
  · obtain ⟨o, e⟩ := S.hio q hq
    exact g.any e
  · obtain ⟨o', e'⟩ := S.any e
    exact g.nf q o' e' (S.nf q o e n)
  · have z := S.rep i s hs
    cases s with
    | lk C f jj => obtain ⟨a, dx, e, h⟩ := z; exact ⟨a, dx, e, g.f _ _ h⟩
    | no => trivial
    | val d =>
      obtain ⟨v, e, r⟩ := z
      exact ⟨v, e, r.mono g.f⟩
    | own m =>
      obtain ⟨p, e, n, fr, r⟩ := z
      obtain ⟨o, ho, hm⟩ := r.mut
      exact ⟨p, e, g.nf p o ho n, fr, r.mono g.f fun o' ho' => g.h _ _ ho' (by rw [ho] at ho'; cases ho'; exact hm.nt)⟩
    | io m =>
      obtain ⟨e, n, fr, r⟩ := z
      obtain ⟨o, ho, hm⟩ := r.mut
      exact ⟨e, g.nf _ o ho n, fr, r.mono g.f fun o' ho' => g.h _ _ ho' (by rw [ho] at ho'; cases ho'; exact hm.nt)⟩
  · obtain ⟨ps', e'⟩ := S.t.tk q ps e
    exact g.t.tk q ps' e'
theorem Sta.val (S : Sta K π c F H σ ρ) {i : Nat} {d : D} (h : ρ[i]? = some (.val d)) : ∃ v, σ[i]? = some (some v) ∧ Rep K F v d := S.rep i _ h

/-- what may be changed now -/
def isO : Slot → Bool
  | .own _ => true
  | _ => false
def isI : Slot → Bool
  | .io _ => true
  | _ => false
def adr : Option (Option V) → Option Addr
  | some (some (.ref p)) => some p
  | _ => none
theorem adr_eq {x : Option (Option V)} {p : Addr} (h : adr x = some p) : x = some (some (.ref p)) := by
  unfold adr at h
  split at h
  · cases h
    rfl
  · cases h
def adrs (t : Slot → Bool) (σ : L2.St) (ρ : Rho) : List Addr := (List.range ρ.length).filterMap fun i => if (ρ[i]?.map t).getD false = true then adr σ[i]? else none
theorem mem_adrs {t : Slot → Bool} {p : Addr} : p ∈ adrs t σ ρ ↔ ∃ (i : Nat) (s : Slot), σ[i]? = some (some (V.ref p)) ∧ ρ[i]? = some s ∧ t s = true := by
  constructor
  · intro h
    obtain ⟨i, hi, e⟩ := List.mem_filterMap.mp h
    cases h2 : ρ[i]? with
    | none => rw [h2] at e; cases e
    | some s =>
      rw [h2] at e
      by_cases z : t s = true
      · rw [if_pos (show ((some s).map t).getD false = true from z)] at e
        exact ⟨i, s, adr_eq e, h2, z⟩
      · rw [if_neg (show ¬ ((some s).map t).getD false = true from z)] at e
        cases e
  · rintro ⟨i, s, h1, h2, h3⟩
    refine List.mem_filterMap.mpr ⟨i, List.mem_range.mpr (List.getElem?_eq_some_iff.mp h2).1, ?_⟩
    rw [h2, if_pos (show ((some s).map t).getD false = true from h3), h1]
    rfl
/-- the state as its own beginning -/
def cfg (F H : Hp) (σ : L2.St) (ρ : Rho) : Cfg := ⟨H, F, adrs isI σ ρ, adrs isO σ ρ⟩
theorem Sta.ownO (S : Sta K π c F H σ ρ) {p : Addr} (h : p ∈ adrs isO σ ρ) : F p = none ∧ (c.H0 p = none ∨ p ∈ c.ow) ∧ ∃ o, H p = some o := by
  obtain ⟨i, s, e, hs, z⟩ := mem_adrs.mp h
  cases s with
  | lk C f jj => cases z
  | own m =>
    obtain ⟨q, e', n, fr, r⟩ := S.rep i _ hs
    rw [e] at e'
    cases e'
    exact ⟨n, fr, r.here⟩
  | no => cases z
  | val d => cases z
  | io m => cases z
theorem Sta.ownI (S : Sta K π c F H σ ρ) {p : Addr} (h : p ∈ adrs isI σ ρ) : F p = none ∧ p ∈ c.io ∧ ∃ o, H p = some o := by
  obtain ⟨i, s, e, hs, z⟩ := mem_adrs.mp h
  cases s with
  | lk C f jj => cases z
  | io m =>
    obtain ⟨e', n, fr, r⟩ := S.rep i _ hs
    rw [e] at e'
    cases e'
    exact ⟨n, fr, r.here⟩
  | no => cases z
  | val d => cases z
  | own m => cases z
theorem Sta.self (S : Sta K π c F H σ ρ) : Sta K π (cfg F H σ ρ) F H σ ρ := by
  refine ⟨fun q o e _ _ _ => e, fun q hq => ?_, Same.refl _, S.f, fun q o _ n => n, S.len, fun i s hs => ?_, S.dis, ⟨S.t.tb, fun q ps e => ⟨ps, e⟩, S.t.nt⟩⟩
  · rcases hq with hq | hq
    · exact (S.ownI hq).2.2
    · exact (S.ownO hq).2.2
  · have z := S.rep i s hs
    cases s with
    | lk C f jj => exact z
    | no => trivial
    | val d => exact z
    | own m =>
      obtain ⟨p, e, n, fr, r⟩ := z
      exact ⟨p, e, n, .inr (mem_adrs.mpr ⟨i, _, e, hs, rfl⟩), r⟩
    | io m =>
      obtain ⟨e, n, fr, r⟩ := z
      exact ⟨e, n, mem_adrs.mpr ⟨i, _, e, hs, rfl⟩, r⟩
/-- from a part's end to the whole's -/
theorem Sta.back (S : Sta K π c F H σ ρ) (T : Sta K π (cfg F H σ ρ) F' H' σ' ρ') : Sta K π c F' H' σ' ρ' := by
  have ne : ∀ q o, c.H0 q = some o → q ∉ c.io → q ∉ c.ow → q ∉ adrs isI σ ρ ∧ q ∉ adrs isO σ ρ := fun q o e n1 n2 => ⟨fun h => n1 (S.ownI h).2.1, fun h => by
    rcases (S.ownO h).2.1 with z | z
    · rw [e] at z
      cases z
    · exact n2 z⟩
  have sm : ∀ q, (∃ o, H q = some o) → ∃ o, H' q = some o := fun q ⟨o, e⟩ => T.any e
  refine ⟨fun q o e n n' nt => T.h0 q o (S.h0 q o e n n' nt) (ne q o e n n').1 (ne q o e n n').2 nt, fun q hq => sm q (S.hio q hq), S.f0.trans T.f0, T.f, fun q o e n => ?_, T.len, fun i s hs => ?_, T.dis, ⟨T.t.tb, fun q ps e => by
    obtain ⟨ps', e'⟩ := S.t.tk q ps e
    exact T.t.tk q ps' e', T.t.nt⟩⟩
  · obtain ⟨o', e'⟩ := S.any e
    exact T.nf q o' e' (S.nf q o e n)
  · have z := T.rep i s hs
    cases s with
    | lk C f jj => exact z
    | no => trivial
    | val d => exact z
    | own m =>
      obtain ⟨p, e, n, f, r⟩ := z
      refine ⟨p, e, n, ?_, r⟩
      rcases f with f | f
      · refine .inl ?_
        cases e : c.H0 p with
        | none => rfl
        | some o =>
          obtain ⟨o', e'⟩ := S.any e
          have f : H p = none := f
          rw [e'] at f
          cases f
      · exact (S.ownO f).2.1
    | io m =>
      obtain ⟨e, n, f, r⟩ := z
      exact ⟨e, n, (S.ownI f).2.1, r⟩

theorem Sta.ownAt (S : Sta K π c F H σ ρ) {i : Nat} {p : Addr} (h : OwnAt σ ρ i p) : F p = none ∧ (c.H0 p = none ∨ p ∈ c.ow ∨ p ∈ c.io) ∧ ∃ o, H p = some o := by
  obtain ⟨e, m, h | h⟩ := h
  · obtain ⟨q, e', n, fr, r⟩ := S.rep i _ h
    rw [e] at e'
    cases e'
    exact ⟨n, fr.elim .inl fun z => .inr (.inl z), r.here⟩
  · obtain ⟨e', n, fr, r⟩ := S.rep i _ h
    rw [e] at e'
    cases e'
    exact ⟨n, .inr (.inr fr), r.here⟩
theorem Sta.ownMut (S : Sta K π c F H σ ρ) {i : Nat} {p : Addr} (h : OwnAt σ ρ i p) : ∃ o, H p = some o ∧ Mut o := by
  obtain ⟨e, m, h | h⟩ := h
  · obtain ⟨q, e', n, fr, r⟩ := S.rep i _ h
    rw [e] at e'
    cases e'
    exact r.mut
  · obtain ⟨e', n, fr, r⟩ := S.rep i _ h
    rw [e] at e'
    cases e'
    exact r.mut
/-- a slot gets data -/
theorem Sta.set (S : Sta K π c F H σ ρ) {i : Nat} (hi : i < ρ.length) {v : V} {d : D} (r : Rep K F v d) : Sta K π c F H (σ.set i (some v)) (ρ.set i (.val d)) := by
  have hl : i < σ.length := by rw [S.len]; exact hi
  refine ⟨S.h0, S.hio, S.f0, S.f, S.nf, by simpa using S.len, fun j s hs => ?_, fun j k p h1 h2 => ?_, S.t⟩
  · by_cases e : j = i
    · subst e
      rw [List.getElem?_set_self hi] at hs
      cases hs
      exact ⟨v, List.getElem?_set_self hl, r⟩
    · rw [List.getElem?_set_ne (Ne.symm e)] at hs
      have z := S.rep j s hs
      have g : (σ.set i (some v))[j]? = σ[j]? := List.getElem?_set_ne (Ne.symm e)
      cases s with
      | lk C f jj => obtain ⟨a, dx, e1, h1⟩ := z; exact ⟨a, dx, g.trans e1, h1⟩
      | no => trivial
      | val d => obtain ⟨w, e1, r1⟩ := z; exact ⟨w, g.trans e1, r1⟩
      | own m => obtain ⟨p, e1, r1⟩ := z; exact ⟨p, g.trans e1, r1⟩
      | io m => obtain ⟨e1, r1⟩ := z; exact ⟨g.trans e1, r1⟩
  · have key : ∀ j, OwnAt (σ.set i (some v)) (ρ.set i (.val d)) j p → OwnAt σ ρ j p := fun j h => by
      obtain ⟨e, m, h⟩ := h
      by_cases q : j = i
      · subst q
        rw [List.getElem?_set_self hi] at h
        rcases h with h | h <;> cases h
      · rw [List.getElem?_set_ne (Ne.symm q)] at e h
        exact ⟨e, m, h⟩
    exact S.dis j k p (key j h1) (key k h2)
/-- a slot is forgotten -/
theorem Sta.forget (S : Sta K π c F H σ ρ) (i : Nat) : Sta K π c F H σ (ρ.set i .no) := by
  refine ⟨S.h0, S.hio, S.f0, S.f, S.nf, by simpa using S.len, fun j s hs => ?_, fun j k p h1 h2 => ?_, S.t⟩
  · by_cases e : j = i
    · subst e
      by_cases hi : j < ρ.length
      · rw [List.getElem?_set_self hi] at hs
        cases hs
        trivial
      · have z : (ρ.set j Slot.no)[j]? = none := by simp; omega
        rw [z] at hs
        cases hs
    · rw [List.getElem?_set_ne (Ne.symm e)] at hs
      exact S.rep j s hs
  · have key : ∀ j, OwnAt σ (ρ.set i .no) j p → OwnAt σ ρ j p := fun j h => by
      obtain ⟨e, m, h⟩ := h
      by_cases q : j = i
      · subst q
        by_cases hi : j < ρ.length
        · rw [List.getElem?_set_self hi] at h
          rcases h with h | h <;> cases h
        · have z : (ρ.set j Slot.no)[j]? = none := by simp; omega
          rw [z] at h
          rcases h with h | h <;> cases h
      · rw [List.getElem?_set_ne (Ne.symm q)] at h
        exact ⟨e, m, h⟩
    exact S.dis j k p (key j h1) (key k h2)
/-- a slot gets a new thing of its own -/
theorem Sta.setOwn (S : Sta K π c F H σ ρ) {i : Nat} (hi : i < ρ.length) {p : Addr} {m : M} (n : F p = none) (fr : c.H0 p = none ∨ p ∈ c.ow) (r : MRep K F H p m) (nw : ∀ j, ¬ OwnAt σ ρ j p) :
    Sta K π c F H (σ.set i (some (.ref p))) (ρ.set i (.own m)) := by
  have hl : i < σ.length := by rw [S.len]; exact hi
  refine ⟨S.h0, S.hio, S.f0, S.f, S.nf, by simpa using S.len, fun j s hs => ?_, fun j k q h1 h2 => ?_, S.t⟩
  · by_cases e : j = i
    · subst e
      rw [List.getElem?_set_self hi] at hs
      cases hs
      exact ⟨p, List.getElem?_set_self hl, n, fr, r⟩
    · rw [List.getElem?_set_ne (Ne.symm e)] at hs
      have z := S.rep j s hs
      have g : (σ.set i (some (V.ref p)))[j]? = σ[j]? := List.getElem?_set_ne (Ne.symm e)
      cases s with
      | lk C f jj => obtain ⟨a, dx, e1, h1⟩ := z; exact ⟨a, dx, g.trans e1, h1⟩
      | no => trivial
      | val d => obtain ⟨w, e1, r1⟩ := z; exact ⟨w, g.trans e1, r1⟩
      | own m => obtain ⟨p, e1, r1⟩ := z; exact ⟨p, g.trans e1, r1⟩
      | io m => obtain ⟨e1, r1⟩ := z; exact ⟨g.trans e1, r1⟩
  · have key : ∀ j, OwnAt (σ.set i (some (.ref p))) (ρ.set i (.own m)) j q → (j = i ∧ q = p) ∨ (j ≠ i ∧ OwnAt σ ρ j q) := fun j h => by
      obtain ⟨e, m', h⟩ := h
      by_cases z : j = i
      · subst z
        rw [List.getElem?_set_self hl] at e
        cases e
        exact .inl ⟨rfl, rfl⟩
      · rw [List.getElem?_set_ne (Ne.symm z)] at e h
        exact .inr ⟨z, e, m', h⟩
    rcases key j h1 with ⟨a, b⟩ | ⟨a, b⟩
    · rcases key k h2 with ⟨a', b'⟩ | ⟨a', b'⟩
      · rw [a, a']
      · rw [b] at b'
        exact absurd b' (nw k)
    · rcases key k h2 with ⟨a', b'⟩ | ⟨a', b'⟩
      · rw [b'] at b
        exact absurd b (nw j)
      · exact S.dis j k q b b'
/-- our own thing has changed -/
theorem Sta.change (S : Sta K π c F H σ ρ) {i : Nat} {p : Addr} {m : M} {o : HO} (h : OwnAt σ ρ i p) (r : MRep K F (upd H p o) p m) (s' : Slot) (hs' : (s' = .own m ∧ ∃ m0, ρ[i]? = some (.own m0)) ∨ (s' = .io m ∧ ∃ m0, ρ[i]? = some (.io m0))) :
    Sta K π c F (upd H p o) σ (ρ.set i s') := by
  obtain ⟨n, fr, o0, ho⟩ := S.ownAt h
  have hi : i < ρ.length := by
    obtain ⟨_, m0, z | z⟩ := h <;> exact (List.getElem?_eq_some_iff.mp z).1
  obtain ⟨om, hom, mm⟩ := S.ownMut h
  refine ⟨fun q u e nq nq' nt => ?_, fun q hq => ?_, S.f0, sm_updR S.f n, S.nf, by simpa using S.len, fun j s hs => ?_, fun j k q h1 h2 => ?_, ⟨tabs_upd S.t.tb hom mm, fun q ps e => ?_, S.t.nt⟩⟩
  · have z : q ≠ p := fun z => by
      subst z
      rcases fr with z | z | z
      · rw [e] at z; cases z
      · exact nq' z
      · exact nq z
    rw [upd_ne z]
    exact S.h0 q u e nq nq' nt
  · by_cases z : q = p
    · subst z
      exact ⟨o, upd_same⟩
    · rw [upd_ne z]
      exact S.hio q hq
  · by_cases e : j = i
    · subst e
      rw [List.getElem?_set_self hi] at hs
      cases hs
      rcases hs' with ⟨rfl, m0, z⟩ | ⟨rfl, m0, z⟩
      · obtain ⟨p', e1, e2, e3, e4⟩ := S.rep j _ z
        have hp := h.1
        rw [e1] at hp
        cases hp
        exact ⟨p, e1, n, e3, r⟩
      · obtain ⟨e1, e2, e3, e4⟩ := S.rep j _ z
        have hp : p = π j := by
          have := h.1
          rw [e1] at this
          cases this
          rfl
        subst hp
        exact ⟨e1, e2, e3, r⟩
    · rw [List.getElem?_set_ne (Ne.symm e)] at hs
      have z := S.rep j s hs
      cases s with
      | lk C f jj => exact z
      | no => trivial
      | val d => exact z
      | own m' =>
        obtain ⟨q, e1, e2, e3, r1⟩ := z
        have nq : q ≠ p := fun z => by
          subst z
          exact e (S.dis j i q ⟨e1, m', .inl hs⟩ h)
        exact ⟨q, e1, e2, e3, r1.mono (Same.refl _) fun u hu => by rw [upd_ne nq]; exact hu⟩
      | io m' =>
        obtain ⟨e1, e2, e3, r1⟩ := z
        have nq : π j ≠ p := fun z => by
          rw [z] at e1
          exact e (S.dis j i p ⟨e1, m', .inr hs⟩ h)
        exact ⟨e1, e2, e3, r1.mono (Same.refl _) fun u hu => by rw [upd_ne nq]; exact hu⟩
  · have key : ∀ j, OwnAt σ (ρ.set i s') j q → OwnAt σ ρ j q := fun j hj => by
      obtain ⟨e, m', hj⟩ := hj
      by_cases z : j = i
      · subst z
        rcases hs' with ⟨_, m0, y⟩ | ⟨_, m0, y⟩
        · exact ⟨e, m0, .inl y⟩
        · exact ⟨e, m0, .inr y⟩
      · rw [List.getElem?_set_ne (Ne.symm z)] at hj
        exact ⟨e, m', hj⟩
    exact S.dis j k q (key j h1) (key k h2)
  · obtain ⟨ps', e'⟩ := S.t.tk q ps e
    exact ⟨ps', by rw [upd_ne (fun z => by subst z; rw [hom] at e'; cases e'; exact mm.nt _ rfl)]; exact e'⟩
/-- our own list is frozen -/
theorem Sta.freezeG (S : Sta K π c F H σ ρ) {i : Nat} {m : M} {d : D} (h : ρ[i]? = some (.own m)) (hn : c.ow = []) (hd : ∀ p, MRep K F H p m → ∃ o, NT o ∧ H p = some o ∧ ∀ G : Hp, Same F G → G p = some o → Rep K G (.ref p) d) :
    ∃ F', Grw F F F' F' ∧ Same F F' ∧ Sta K π c F' H σ (ρ.set i (.val d)) := by
  obtain ⟨p, e, n, fr, hm⟩ := S.rep i _ h
  obtain ⟨o, nt, ho, hr⟩ := hd p hm
  have hi : i < ρ.length := (List.getElem?_eq_some_iff.mp h).1
  have hp : c.H0 p = none := by
    rcases fr with z | z
    · exact z
    · rw [hn] at z
      cases z
  have sm : Same F (upd F p o) := sm_new n
  have pl : PlO o := by
    obtain ⟨o', e', mu⟩ := hm.mut
    rw [ho] at e'
    cases e'
    exact mu.pl
  refine ⟨upd F p o, ⟨sm, extN sm, Same.refl _, fun q o h1 h2 => (by rw [h1] at h2; cases h2), .of sm fun x => x.upd ⟨nt, pl⟩⟩, sm, S.h0, S.hio, S.f0.trans sm, fun a u q => ?_, fun q o e1 e2 => ?_, by simpa using S.len, fun j s hs => ?_, fun j k q h1 h2 => ?_, ⟨S.t.tb, S.t.tk, S.t.nt.upd ⟨nt, pl⟩⟩⟩
  · by_cases z : a = p
    · subst z
      rw [upd_same] at q
      cases q
      exact ho
    · rw [upd_ne z] at q
      exact S.f _ _ q
  · rw [upd_ne (fun z => by subst z; rw [hp] at e1; cases e1)]
    exact S.nf q o e1 e2
  · by_cases z : j = i
    · subst z
      rw [List.getElem?_set_self hi] at hs
      cases hs
      exact ⟨_, e, hr _ sm upd_same⟩
    · rw [List.getElem?_set_ne (Ne.symm z)] at hs
      have y := S.rep j s hs
      cases s with
      | lk C f jj => obtain ⟨a, dx, e1, h1⟩ := y; exact ⟨a, dx, e1, sm _ _ h1⟩
      | no => trivial
      | val d => obtain ⟨w, e1, r1⟩ := y; exact ⟨w, e1, r1.mono sm⟩
      | own m' =>
        obtain ⟨q, e1, e2, e3, r1⟩ := y
        have nq : q ≠ p := fun w => by
          subst w
          exact z (S.dis j i q ⟨e1, m', .inl hs⟩ ⟨e, _, .inl h⟩)
        exact ⟨q, e1, by rw [upd_ne nq]; exact e2, e3, r1.mono sm fun _ hu => hu⟩
      | io m' =>
        obtain ⟨e1, e2, e3, r1⟩ := y
        have nq : π j ≠ p := fun w => by
          rw [w] at e1
          exact z (S.dis j i p ⟨e1, m', .inr hs⟩ ⟨e, _, .inl h⟩)
        exact ⟨e1, by rw [upd_ne nq]; exact e2, e3, r1.mono sm fun _ hu => hu⟩
  · have key : ∀ j, OwnAt σ (ρ.set i (.val d)) j q → OwnAt σ ρ j q := fun j hj => by
      obtain ⟨e, m', hj⟩ := hj
      by_cases z : j = i
      · subst z
        rw [List.getElem?_set_self hi] at hj
        rcases hj with hj | hj <;> cases hj
      · rw [List.getElem?_set_ne (Ne.symm z)] at hj
        exact ⟨e, m', hj⟩
    exact S.dis j k q (key j h1) (key k h2)
theorem Sta.freeze (S : Sta K π c F H σ ρ) {i : Nat} {ds : List D} (h : ρ[i]? = some (.own (.lst ds))) (hn : c.ow = []) :
    ∃ F', Grw F F F' F' ∧ Same F F' ∧ Sta K π c F' H σ (ρ.set i (.val (.lst ds))) :=
  S.freezeG h hn fun p ⟨vs, ho, r⟩ => ⟨_, (by intro ps z; cases z), ho, fun G sm e => .lst e (r.mono sm)⟩
theorem Sta.freezeD (S : Sta K π c F H σ ρ) {i : Nat} {ds : List (Key × D)} (h : ρ[i]? = some (.own (.dct ds))) (hn : c.ow = []) :
    ∃ F', Grw F F F' F' ∧ Same F F' ∧ Sta K π c F' H σ (ρ.set i (.val (.dct ds))) :=
  S.freezeG h hn fun p ⟨kvs, ho, hk, r⟩ => ⟨_, (by intro ps z; cases z), ho, fun G sm e => .dct e hk (r.mono sm)⟩
/-- a new thing is frozen -/
theorem frz_newG (S : Sta K π c F H σ ρ) {p : Addr} {o : HO} (nt : NT o) (ho : H p = some o) (f1 : F p = none) (f2 : c.H0 p = none) (f3 : ∀ j, ¬ OwnAt σ ρ j p) (pl : PlO o := by exact ⟨fun _ z => (nomatch z), fun _ _ z => (nomatch z)⟩) : Same F (upd F p o) ∧ Sta K π c (upd F p o) H σ ρ := by
  have sm : Same F (upd F p o) := sm_new f1
  refine ⟨sm, S.h0, S.hio, S.f0.trans sm, fun a u q => ?_, fun q o e n => ?_, S.len, fun i s hs => ?_, S.dis, ⟨S.t.tb, S.t.tk, S.t.nt.upd ⟨nt, pl⟩⟩⟩
  · by_cases z : a = p
    · subst z
      rw [upd_same] at q
      cases q
      exact ho
    · rw [upd_ne z] at q
      exact S.f _ _ q
  · rw [upd_ne (fun z => by subst z; rw [f2] at e; cases e)]
    exact S.nf q _ e n
  · have z := S.rep i s hs
    cases s with
    | lk C f jj => obtain ⟨a, dx, e1, h1⟩ := z; exact ⟨a, dx, e1, sm _ _ h1⟩
    | no => trivial
    | val d => obtain ⟨w, e1, q⟩ := z; exact ⟨w, e1, q.mono sm⟩
    | own m' =>
      obtain ⟨q, e1, e2, e3, q1⟩ := z
      have nq : q ≠ p := fun w => by subst w; exact f3 i ⟨e1, m', .inl hs⟩
      exact ⟨q, e1, by rw [upd_ne nq]; exact e2, e3, q1.mono sm fun _ hu => hu⟩
    | io m' =>
      obtain ⟨e1, e2, e3, q1⟩ := z
      have nq : π i ≠ p := fun w => by rw [w] at e1; exact f3 i ⟨e1, m', .inr hs⟩
      exact ⟨e1, by rw [upd_ne nq]; exact e2, e3, q1.mono sm fun _ hu => hu⟩
end
end
/-! ### new tuples: plain ones -/
/-- a new tuple with these items, its object has no dict -/
def NewT (H : Hp) (xs : List V) (Q : VK) : Prop := ∀ (p : Addr) (o : Obj), H p = none → o.dict = none → Q (.ref p) (upd H p (.frz o (.tup xs)))
theorem sqT_new {K : PySem.W.Frag} {H : Hp} {p : Addr} {o : Obj} {xs : List V} (h : H p = some (.frz o (.tup xs))) : SqT K H p xs := .inl (.inr ⟨o, h⟩)
section
variable {X : Cx} {pins : List (Addr × Obj)} {σ : L2.St} {H : Hp} {s : Shared}
theorem newT_ep {xs : List V} {its : List Value} {h' : Heap} {tk : Nat} {Q : VK} (I : Inv X pins σ H s) (z : xs.length ≤ sizeLine) (r : Vals xs its) (k : ∀ b ob, s.heap.get? b = some ob → h'.get? b = some ob) (q : NewT H xs Q) : EP X pins σ Q (.ref h'.objs.size) { s with heap := h'.push { cls := .type "tuple", data := .seq its.toArray }, toks := tk } := by
  let ob : Obj := { cls := .type "tuple", data := .seq its.toArray }
  have told : (h'.push ob).get? h'.objs.size = some ob := Heap.get?_push_size _ rfl
  have I1 : Inv X pins σ H { s with heap := h' } := I.kept (t' := s.toks) k
  have free : H h'.objs.size = none := I1.hok.fresh (Nat.le_refl _)
  have good : ObjOk X.prog X.w (upd H h'.objs.size (.frz ob (.tup xs))) (h'.push ob) h'.objs.size (.frz ob (.tup xs)) := ⟨told, z, its, r, IsTup.new _ _⟩
  have J := I1.laid (t' := tk) (h' := h'.push ob) (fun b u e => Heap.get?_push_of_some _ e) (Nat.le_refl _) good
  exact ⟨.ref h'.objs.size, _, J, rfl, q _ ob free rfl⟩
def tTupN (t : TA) : TE := fun σ H Q => t σ H fun xs H1 => xs.length ≤ sizeLine ∧ NewT H1 xs Q
end
end FL
/-! FL2: readings by functions, rules for expressions and tests. -/
namespace FL
open PySem PySem.Spec PyProof.Rows L2

inductive R (α : Type) where
  | ok (a : α) (ρ : Rho)
  | exc (C : Str) (fs : List (Str × D)) (ρ : Rho)
  | stuck
def R.bind {α β : Type} (x : R α) (k : α → Rho → R β) : R β := match x with
  | .ok a ρ => k a ρ
  | .exc C fs ρ => .exc C fs ρ
  | .stuck => .stuck
def R.of {α : Type} (x : Option α) (ρ : Rho) : R α := match x with
  | some a => .ok a ρ
  | none => .stuck
theorem R.ok_bind {α β : Type} (a : α) (ρ : Rho) (k : α → Rho → R β) : (R.ok a ρ).bind k = k a ρ := rfl
theorem R.exc_bind {α β : Type} (C : Str) (fs : List (Str × D)) (ρ : Rho) (k : α → Rho → R β) : (R.exc C fs ρ : R α).bind k = .exc C fs ρ := rfl
theorem R.stuck_bind {α β : Type} (k : α → Rho → R β) : (R.stuck : R α).bind k = .stuck := rfl
theorem R.of_some {α : Type} (a : α) (ρ : Rho) : R.of (some a) ρ = .ok a ρ := rfl
abbrev EF := Rho → R D
abbrev TF := Rho → R Bool

/-- how results lie -/
abbrev Rel (β α : Type) := Cfg → Hp → Hp → L2.St → Rho → β → α → Prop
section
variable [FE]
section
variable (K : PySem.W.Frag) (π : Nat → Addr) (W : WX)
def relE : Rel V D := fun _ F _ _ _ v d => Rep K F v d
def relT : Rel Bool Bool := fun _ _ _ _ _ b c => b = c
def relA : Rel (List V) (List D) := fun _ F _ _ _ vs ds => Reps K F vs ds
def relM : Rel V M := fun c F H σ ρ v m => ∃ p, v = .ref p ∧ F p = none ∧ c.H0 p = none ∧ (∀ j, ¬ OwnAt σ ρ j p) ∧ MRep K F H p m

def Po {α β : Type} (rel : Rel β α) (c : Cfg) (F : Hp) (σ : L2.St) (Q : β → Hp → Prop) : R α → Prop
  | .ok a ρ' => ∀ v F' H', Same F F' → Sta K π c F' H' σ ρ' → rel c F' H' σ ρ' v a → Q v H'
  | .exc C fs ρ' => ∀ d fsV F' H', Same F F' → Sta K π c F' H' σ ρ' → XD F' d fsV → fsV.map (·.1) = fs.map (·.1) → Reps K F' (fsV.map (·.2)) (fs.map (·.2)) → W (.ref (FE.cl C)) d σ H'
  | .stuck => False
def tG {α β : Type} (rel : Rel β α) (f : Rho → R α) : L2.St → Hp → (β → Hp → Prop) → Prop := fun σ H Q => ∃ c F ρ, Sta K π c F H σ ρ ∧ Po K π W rel c F σ Q (f ρ)
abbrev tE (f : EF) : TE := tG K π W (relE K) f
abbrev tT (f : TF) : TT := tG K π W relT f
abbrev tA (f : Rho → R (List D)) : TA := tG K π W (relA K) f
abbrev tM (f : Rho → R M) : TE := tG K π W (relM K) f
end

section
variable {K : PySem.W.Frag} {π : Nat → Addr} {W : WX} {α β α' β' : Type} {rel : Rel β α} {rel' : Rel β' α'} {c : Cfg} {F F' H H' : Hp} {σ : L2.St} {ρ ρ' : Rho}
theorem Po.mono {Q : β → Hp → Prop} (s : Same F F') : ∀ {r : R α}, Po K π W rel c F σ Q r → Po K π W rel c F' σ Q r
  | .ok a ρ', h => fun v F2 H2 s2 => h v F2 H2 (s.trans s2)
  | .exc C fs ρ', h => fun dd fsV F2 H2 s2 => h dd fsV F2 H2 (s.trans s2)
  | .stuck, h => h
theorem Po.imp {Q Q' : β → Hp → Prop} {r : R α} (h : Po K π W rel c F σ Q r) (k : ∀ v F' H' ρ' a, Same F F' → Sta K π c F' H' σ ρ' → rel c F' H' σ ρ' v a → Q v H' → Q' v H') : Po K π W rel c F σ Q' r := by
  cases r with
  | ok a ρ' => exact fun v F2 H2 s2 S r => k v F2 H2 ρ' a s2 S r (h v F2 H2 s2 S r)
  | exc C fs ρ' => exact h
  | stuck => exact h
/-- what follows a part -/
theorem po_bind {f : Rho → R α} {k : α → Rho → R α'} {Q : β' → Hp → Prop} {Q1 : β → Hp → Prop} (S : Sta K π c F H σ ρ) (h : Po K π W rel' c F σ Q ((f ρ).bind k))
    (cont : ∀ v F' H' ρ' a, Same F F' → Sta K π c F' H' σ ρ' → rel c F' H' σ ρ' v a → Po K π W rel' c F' σ Q (k a ρ') → Q1 v H') : tG K π W rel f σ H Q1 := by
  refine ⟨c, F, ρ, S, ?_⟩
  cases e : f ρ with
  | ok a ρ' =>
    rw [e] at h
    have h : Po K π W rel' c F σ Q (k a ρ') := h
    exact fun v F2 H2 s2 S2 r => cont v F2 H2 ρ' a s2 S2 r (h.mono s2)
  | exc C fs ρ' =>
    rw [e] at h
    exact h
  | stuck =>
    rw [e] at h
    exact h
/-- what a pure operation asks, at the end -/
theorem po_of {x : Option α} {Q : β → Hp → Prop} (h : Po K π W rel c F σ Q (R.of x ρ)) : ∃ a, x = some a ∧ ∀ v F' H', Same F F' → Sta K π c F' H' σ ρ → rel c F' H' σ ρ v a → Q v H' := by
  cases x with
  | none => exact h.elim
  | some a => exact ⟨a, rfl, h⟩
end

section
variable {X : Cx} {π : Nat → Addr} {W : WX} {e a b d : Expr} {es : List Expr} {pos p : Pos}
theorem PE.imp {t t' : TE} (h : PE X e t) (k : ∀ σ H Q, t' σ H Q → t σ H Q) : PE X e t' := ⟨fun pins s σ H Q I q => h.run pins s σ H Q I (k σ H Q q)⟩
theorem PT.imp {t t' : TT} (h : PT X e t) (k : ∀ σ H Q, t' σ H Q → t σ H Q) : PT X e t' := ⟨fun pins s σ H Q I q => h.run pins s σ H Q I (k σ H Q q)⟩
theorem PW.imp {t t' : TT} (h : PW X e t) (k : ∀ σ H Q, t' σ H Q → t σ H Q) : PW X e t' := ⟨fun wh pins s σ H Q I q => h.run wh pins s σ H Q I (k σ H Q q)⟩
theorem PA.imp {t t' : TA} (h : PA X es t) (k : ∀ σ H Q, t' σ H Q → t σ H Q) : PA X es t' := ⟨fun ps pins s σ H Q I q => h.run ps pins s σ H Q I (k σ H Q q)⟩

/-! ### names, constants -/
def vr (i : Nat) : EF := fun ρ => match ρ[i]? with
  | some (.val d) => .ok d ρ
  | _ => .stuck
def cst (d : D) : EF := fun ρ => .ok d ρ
theorem fe_vr {i : Nat} {x : Str} (h : PE X (.Name x pos) (tVar i)) : PE X (.Name x pos) (tE X.K π W (vr i)) := PE.imp h fun σ H Q ⟨c, F, ρ, S, q⟩ => by
  unfold vr at q
  split at q
  · rename_i d e
    obtain ⟨v, e1, r⟩ := S.val e
    exact ⟨v, e1, q v F H (Same.refl _) S r⟩
  · exact q.elim
theorem fe_cst {v : V} {d : D} (h : PE X e (tC v)) (hr : ∀ F, Rep X.K F v d) : PE X e (tE X.K π W (cst d)) := PE.imp h fun σ H Q ⟨c, F, ρ, S, q⟩ => q v F H (Same.refl _) S (hr F)
theorem fe_int {i : Int} {j : Nat} : PE X (.Constant (.int i) j pos) (tE X.K π W (cst (.int i))) := fe_cst pe_int fun _ => .int i
theorem fe_bl {i : Bool} {j : Nat} : PE X (.Constant (.bool i) j pos) (tE X.K π W (cst (.bl i))) := fe_cst pe_bl fun _ => .bl i
theorem fe_non {j : Nat} : PE X (.Constant .none j pos) (tE X.K π W (cst .non)) := fe_cst pe_non fun _ => .non
theorem fe_str {i : Str} {j : Nat} : PE X (.Constant (.str i) j pos) (tE X.K π W (cst (.str i))) := fe_cst pe_str fun _ => .str i
/-- a module's int -/
theorem fe_gint {x : Str} {i : Int} {t : Tok} (hg : Gl X x) (hm : X.mg x = some (.int i t)) (hd : (x == ("__debug__" : Str)) = false := by decide) : PE X (.Name x pos) (tE X.K π W (cst (.int i))) := fe_cst (pe_glob (v := .int i) hg hm ⟨t, rfl⟩ hd) fun _ => .int i
/-- a module's tuple -/
theorem fe_gtup {x : Str} {a : Addr} {xs : List V} {ds : List D} (hg : Gl X x) (hm : X.mg x = some (.ref a)) (hs : ∀ F, SqT X.K F a xs) (hr : ∀ F, Reps X.K F xs ds) (hd : (x == ("__debug__" : Str)) = false := by decide) : PE X (.Name x pos) (tE X.K π W (cst (.tup ds))) :=
  fe_cst (pe_glob (v := .ref a) hg hm rfl hd) fun F => .tup (hs F) (hr F)
/-! ### operators -/
def op1 (o : D → Option D) (f : EF) : EF := fun ρ => (f ρ).bind fun x ρ => R.of (o x) ρ
def op2 (o : D → D → Option D) (f g : EF) : EF := fun ρ => (f ρ).bind fun x ρ => (g ρ).bind fun y ρ => R.of (o x y) ρ
def Op1 (K : PySem.W.Frag) (o : D → Option D) (r : V → Hp → VK → Prop) : Prop := ∀ {F H : Hp} {x : V} {dx d : D} {Q : VK}, Same F H → Rep K F x dx → o dx = some d → (∀ v F' H', Grw F H F' H' → Rep K F' v d → Q v H') → r x H Q
def Op2 (K : PySem.W.Frag) (o : D → D → Option D) (r : R2) : Prop := ∀ {F H : Hp} {x y : V} {dx dy d : D} {Q : VK}, Same F H → Rep K F x dx → Rep K F y dy → o dx dy = some d → (∀ v F' H', Grw F H F' H' → Rep K F' v d → Q v H') → r x y H Q
section
variable {K : PySem.W.Frag} {r r' : R2} {o o' : D → D → Option D} {f g h : EF}
/-- the reading of two operands and an operation -/
theorem rd_op2 {σ : L2.St} {H : Hp} {Q : VK} (q : Op2 K o r) (t : tE K π W (op2 o f g) σ H Q) : tOp r (tE K π W f) (tE K π W g) σ H Q := by
  obtain ⟨c, F, ρ, S, P⟩ := t
  refine po_bind S P fun x F1 H1 ρ1 dx s1 S1 r1 P1 => ?_
  refine po_bind S1 P1 fun y F2 H2 ρ2 dy s2 S2 r2 P2 => ?_
  obtain ⟨d, e, P3⟩ := po_of P2
  exact q S2.f (Rep.mono s2 r1) r2 e fun v F3 H3 gr rv => P3 v F3 H3 gr.f (S2.grow gr) rv
theorem rd_op1 {ru : V → Hp → VK → Prop} {o : D → Option D} {σ : L2.St} {H : Hp} {Q : VK} (q : Op1 K o ru) (t : tE K π W (op1 o f) σ H Q) : tUn ru (tE K π W f) σ H Q := by
  obtain ⟨c, F, ρ, S, P⟩ := t
  refine po_bind S P fun x F1 H1 ρ1 dx s1 S1 r1 P1 => ?_
  obtain ⟨d, e, P3⟩ := po_of P1
  exact q S1.f r1 e fun v F3 H3 gr rv => P3 v F3 H3 gr.f (S1.grow gr) rv
end
theorem fe_bin {op : Operator} {r : R2} {o : D → D → Option D} {f g : EF} (ho : OpR X (binaryOp op) r) (q : Op2 X.K o r) (ha : PE X a (tE X.K π W f)) (hb : PE X b (tE X.K π W g)) : PE X (.BinOp a op b pos) (tE X.K π W (op2 o f g)) :=
  PE.imp (pe_op ho ha hb) fun _ _ _ => rd_op2 q
theorem fe_un {op : UnaryOp} {r : V → Hp → VK → Prop} {o : D → Option D} {f : EF} (ho : UnR X (unaryOp op) r) (q : Op1 X.K o r) (ha : PE X a (tE X.K π W f)) : PE X (.UnaryOp op a pos) (tE X.K π W (op1 o f)) :=
  PE.imp (pe_un ho ha) fun _ _ _ => rd_op1 q
theorem fe_cmp {op : CmpOp} {r : R2} {o : D → D → Option D} {f g : EF} (ho : OpR X (compareOp op) r) (q : Op2 X.K o r) (ha : PE X a (tE X.K π W f)) (hb : PE X b (tE X.K π W g)) (hm : behindInMarks op b = false) : PE X (.Compare a [op] [b] pos) (tE X.K π W (op2 o f g)) :=
  PE.imp (pe_cmpR ho ha hb hm) fun _ _ _ => rd_op2 q
def tst (f : EF) : TF := fun ρ => (f ρ).bind fun x ρ => R.of (match x with | .bl b => some b | _ => none) ρ
theorem rd_tst {K : PySem.W.Frag} {f : EF} {σ : L2.St} {H : Hp} {Q : Bool → Hp → Prop} (t : tT K π W (tst f) σ H Q) : (tE K π W f) σ H fun x H1 => ∃ k, x = .bl k ∧ Q k H1 := by
  obtain ⟨c, F, ρ, S, P⟩ := t
  refine po_bind S P fun x F1 H1 ρ1 dx s1 S1 r1 P1 => ?_
  obtain ⟨d, e, P3⟩ := po_of P1
  cases r1 with
  | bl b =>
    cases e
    exact ⟨_, rfl, P3 _ F1 H1 (Same.refl _) S1 rfl⟩
  | _ => cases e
theorem ft_cmp {op : CmpOp} {r : R2} {o : D → D → Option D} {f g : EF} (ho : OpR X (compareOp op) r) (q : Op2 X.K o r) (ha : PE X a (tE X.K π W f)) (hb : PE X b (tE X.K π W g)) (hm : behindInMarks op b = false) : PT X (.Compare a [op] [b] pos) (tT X.K π W (tst (op2 o f g))) :=
  PT.imp (pt_cmpR ho ha hb hm) fun σ H Q t => by
    obtain ⟨c, F, ρ, S, P⟩ := t
    exact rd_op2 (π := π) (W := W) q (rd_tst ⟨c, F, ρ, S, P⟩)
/-- a chain of two comparisons -/
def chn (o o' : D → D → Option D) (f g h : EF) : EF := fun ρ => (f ρ).bind fun x ρ => (g ρ).bind fun y ρ => (R.of (o x y) ρ).bind fun z ρ => match z with
  | .bl true => (h ρ).bind fun w ρ => R.of (o' y w) ρ
  | .bl false => .ok (.bl false) ρ
  | _ => .stuck
theorem rd_chn {K : PySem.W.Frag} {r r' : R2} {o o' : D → D → Option D} {f g h : EF} {σ : L2.St} {H : Hp} {Q : VK} (q : Op2 K o r) (q' : Op2 K o' r') (t : tE K π W (chn o o' f g h) σ H Q) : tChain r r' (tE K π W f) (tE K π W g) (tE K π W h) σ H Q := by
  obtain ⟨c, F, ρ, S, P⟩ := t
  refine po_bind S P fun x F1 H1 ρ1 dx s1 S1 r1 P1 => ?_
  refine po_bind S1 P1 fun y F2 H2 ρ2 dy s2 S2 r2 P2 => ?_
  cases ed : o dx dy with
  | none =>
    rw [ed] at P2
    exact P2.elim
  | some d =>
    rw [ed] at P2
    refine q S2.f (Rep.mono s2 r1) r2 ed fun v F3 H3 gr rv => ?_
    have S3 := S2.grow gr
    cases rv with
    | bl b =>
      cases b with
      | true =>
        refine ⟨true, rfl, ?_⟩
        show (if true = true then _ else _)
        rw [if_pos rfl]
        have P3 : Po K π W (relE K) c F2 σ Q ((h ρ2).bind fun w ρ => R.of (o' dy w) ρ) := P2
        refine po_bind S3 (P3.mono gr.f) fun w F4 H4 ρ4 dw s4 S4 r4 P4 => ?_
        obtain ⟨d', e', P5⟩ := po_of P4
        exact q' S4.f (Rep.mono s4 (Rep.mono gr.f r2)) r4 e' fun v F5 H5 gr' rv => P5 v F5 H5 gr'.f (S4.grow gr') rv
      | false =>
        refine ⟨false, rfl, ?_⟩
        show (if false = true then _ else _)
        rw [if_neg Bool.false_ne_true]
        exact P2 (.bl false) F3 H3 gr.f S3 (.bl false)
    | _ => exact P2.elim
theorem fe_chn {op op' : CmpOp} {r r' : R2} {o o' : D → D → Option D} {f g h : EF} (ho : OpR X (compareOp op) r) (ho' : OpR X (compareOp op') r') (q : Op2 X.K o r) (q' : Op2 X.K o' r') (ha : PE X a (tE X.K π W f)) (hb : PE X b (tE X.K π W g)) (hd : PE X d (tE X.K π W h)) (hm : lastMarks [op, op'] [b, d] = false) :
    PE X (.Compare a [op, op'] [b, d] pos) (tE X.K π W (chn o o' f g h)) := PE.imp (pe_chain ho ho' ha hb hd (hm := hm)) fun _ _ _ => rd_chn q q'
theorem ft_chn {op op' : CmpOp} {r r' : R2} {o o' : D → D → Option D} {f g h : EF} (ho : OpR X (compareOp op) r) (ho' : OpR X (compareOp op') r') (q : Op2 X.K o r) (q' : Op2 X.K o' r') (ha : PE X a (tE X.K π W f)) (hb : PE X b (tE X.K π W g)) (hd : PE X d (tE X.K π W h)) (hm : lastMarks [op, op'] [b, d] = false) :
    PT X (.Compare a [op, op'] [b, d] pos) (tT X.K π W (tst (chn o o' f g h))) := PT.imp (pt_chain ho ho' ha hb hd (hm := hm)) fun σ H Q t => by
  obtain ⟨c, F, ρ, S, P⟩ := t
  exact rd_chn (π := π) (W := W) q q' (rd_tst ⟨c, F, ρ, S, P⟩)

/-! ### and, or, not, if -/
def anT (f g : TF) : TF := fun ρ => (f ρ).bind fun b ρ => if b = true then g ρ else .ok false ρ
def orT (f g : TF) : TF := fun ρ => (f ρ).bind fun b ρ => if b = true then .ok true ρ else g ρ
def noT (f : TF) : TF := fun ρ => (f ρ).bind fun b ρ => .ok (!b) ρ
def blE (f : TF) : EF := fun ρ => (f ρ).bind fun b ρ => .ok (.bl b) ρ
def ifE (t : TF) (f g : EF) : EF := fun ρ => (t ρ).bind fun b ρ => if b = true then f ρ else g ρ
def anE (f g : EF) : EF := fun ρ => (tst f ρ).bind fun b ρ => if b = true then g ρ else .ok (.bl false) ρ
def orE (f g : EF) : EF := fun ρ => (tst f ρ).bind fun b ρ => if b = true then .ok (.bl true) ρ else g ρ
section
variable {f g : TF} {rest : List Expr}
theorem fw_and (ha : PT X a (tT X.K π W f)) (hb : PW X (.BoolOp .And (b :: rest) pos) (tT X.K π W g)) : PW X (.BoolOp .And (a :: b :: rest) pos) (tT X.K π W (anT f g)) :=
  PW.imp (pw_and ha hb) fun σ H Q ⟨c, F, ρ, S, P⟩ => by
    refine po_bind S P fun b' F1 H1 ρ1 b1 s1 S1 r1 P1 => ?_
    cases r1
    cases b' with
    | true =>
      rw [if_pos rfl] at P1 ⊢
      exact ⟨c, F1, ρ1, S1, P1⟩
    | false =>
      rw [if_neg Bool.false_ne_true] at P1 ⊢
      exact P1 false F1 H1 (Same.refl _) S1 rfl
theorem fw_or (ha : PT X a (tT X.K π W f)) (hb : PW X (.BoolOp .Or (b :: rest) pos) (tT X.K π W g)) : PW X (.BoolOp .Or (a :: b :: rest) pos) (tT X.K π W (orT f g)) :=
  PW.imp (pw_or ha hb) fun σ H Q ⟨c, F, ρ, S, P⟩ => by
    refine po_bind S P fun b' F1 H1 ρ1 b1 s1 S1 r1 P1 => ?_
    cases r1
    cases b' with
    | true =>
      rw [if_pos rfl] at P1 ⊢
      exact P1 true F1 H1 (Same.refl _) S1 rfl
    | false =>
      rw [if_neg Bool.false_ne_true] at P1 ⊢
      exact ⟨c, F1, ρ1, S1, P1⟩
theorem ft_not (ha : PT X a (tT X.K π W f)) : PT X (.UnaryOp .Not a pos) (tT X.K π W (noT f)) :=
  PT.imp (pt_not ha) fun σ H Q ⟨c, F, ρ, S, P⟩ => by
    refine po_bind S P fun b' F1 H1 ρ1 b1 s1 S1 r1 P1 => ?_
    cases r1
    exact P1 (!b') F1 H1 (Same.refl _) S1 rfl
theorem ft_val {f : EF} (h : PE X e (tE X.K π W f)) (he : ∀ whole, isTrue e X.env whole = (do let v ← whole; standAt e.pos; holding [v] (truthy v)) := by intro _; rfl) : PT X e (tT X.K π W (tst f)) :=
  PT.imp (pt_val h he) fun _ _ _ => rd_tst
theorem fe_not {f : EF} (ha : PE X a (tE X.K π W f)) : PE X (.UnaryOp .Not a pos) (tE X.K π W (blE (noT (tst f)))) :=
  PE.imp (pe_not ha) fun σ H Q ⟨c, F, ρ, S, P⟩ => by
    refine rd_tst (Q := fun k H1 => Q (.bl (!k)) H1) ⟨c, F, ρ, S, ?_⟩
    unfold blE noT at P
    cases ef : tst f ρ with
    | ok b' ρ1 =>
      rw [ef] at P
      have P : Po X.K π W (relE X.K) c F σ Q (.ok (.bl (!b')) ρ1) := P
      exact fun v F1 H1 s1 S1 r1 => by
        cases r1
        exact P _ F1 H1 s1 S1 (.bl _)
    | exc C fs ρ1 => rw [ef] at P; exact P
    | stuck => rw [ef] at P; exact P
theorem fe_and {f g : EF} (ha : PE X a (tE X.K π W f)) (hb : PE X (.BoolOp .And (b :: rest) pos) (tE X.K π W g)) : PE X (.BoolOp .And (a :: b :: rest) pos) (tE X.K π W (anE f g)) :=
  PE.imp (pe_and ha hb) fun σ H Q ⟨c, F, ρ, S, P⟩ => by
    have z : tT X.K π W (tst f) σ H fun k H1 => if k = true then (tE X.K π W g) σ H1 Q else Q (.bl false) H1 := by
      refine po_bind S P fun b' F1 H1 ρ1 b1 s1 S1 r1 P1 => ?_
      cases r1
      cases b' with
      | true =>
        rw [if_pos rfl] at P1 ⊢
        exact ⟨c, F1, ρ1, S1, P1⟩
      | false =>
        rw [if_neg Bool.false_ne_true] at P1 ⊢
        exact P1 _ F1 H1 (Same.refl _) S1 (.bl false)
    exact rd_tst z
theorem fe_or {f g : EF} (ha : PE X a (tE X.K π W f)) (hb : PE X (.BoolOp .Or (b :: rest) pos) (tE X.K π W g)) : PE X (.BoolOp .Or (a :: b :: rest) pos) (tE X.K π W (orE f g)) :=
  PE.imp (pe_or ha hb) fun σ H Q ⟨c, F, ρ, S, P⟩ => by
    have z : tT X.K π W (tst f) σ H fun k H1 => if k = true then Q (.bl true) H1 else (tE X.K π W g) σ H1 Q := by
      refine po_bind S P fun b' F1 H1 ρ1 b1 s1 S1 r1 P1 => ?_
      cases r1
      cases b' with
      | true =>
        rw [if_pos rfl] at P1 ⊢
        exact P1 _ F1 H1 (Same.refl _) S1 (.bl true)
      | false =>
        rw [if_neg Bool.false_ne_true] at P1 ⊢
        exact ⟨c, F1, ρ1, S1, P1⟩
    exact rd_tst z
theorem fe_if {t : TF} {f g : EF} (hc : PT X d (tT X.K π W t)) (ha : PE X a (tE X.K π W f)) (hb : PE X b (tE X.K π W g)) : PE X (.IfExp d a b pos) (tE X.K π W (ifE t f g)) :=
  PE.imp (pe_ifExp hc ha hb) fun σ H Q ⟨c, F, ρ, S, P⟩ => by
    refine po_bind S P fun b' F1 H1 ρ1 b1 s1 S1 r1 P1 => ?_
    cases r1
    cases b' with
    | true =>
      rw [if_pos rfl] at P1 ⊢
      exact ⟨c, F1, ρ1, S1, P1⟩
    | false =>
      rw [if_neg Bool.false_ne_true] at P1 ⊢
      exact ⟨c, F1, ρ1, S1, P1⟩
/-- truth of any value -/
def truD : D → Option Bool
  | .non => some false
  | .bl b => some b
  | .int i => some (i != 0)
  | .str x => if x.length ≤ 100000 then some (x.length != 0) else none
  | .tup xs => some (!xs.isEmpty)
  | .lst xs => some (!xs.isEmpty)
  | _ => none
def tru (f : EF) : TF := fun ρ => (f ρ).bind fun x ρ => R.of (truD x) ρ
theorem le_line {n : Nat} (h : n ≤ 100000) : n ≤ sizeLine := Nat.le_trans h (by decide)
theorem lt_line {n : Nat} (h : n ≤ 100000) : n < sizeLine := Nat.lt_of_le_of_lt h (by decide)
end

/-! ### argument lists, displays -/
def nilA : Rho → R (List D) := fun ρ => .ok [] ρ
def cnsA (f : EF) (g : Rho → R (List D)) : Rho → R (List D) := fun ρ => (f ρ).bind fun x ρ => (g ρ).bind fun xs ρ => .ok (x :: xs) ρ
theorem fa_nil : PA X [] (tA X.K π W nilA) := PA.imp pa_nil fun σ H Q ⟨c, F, ρ, S, P⟩ => P [] F H (Same.refl _) S .nil
theorem fa_cons {f : EF} {g : Rho → R (List D)} (ha : PE X e (tE X.K π W f)) (hr : PA X es (tA X.K π W g)) (hs : starEach (e :: es) X.env = (false, eval e X.env) :: starEach es X.env := by rfl) : PA X (e :: es) (tA X.K π W (cnsA f g)) :=
  PA.imp (pa_cons ha hr hs) fun σ H Q ⟨c, F, ρ, S, P⟩ => by
    refine po_bind S P fun x F1 H1 ρ1 dx s1 S1 r1 P1 => ?_
    refine po_bind S1 P1 fun xs F2 H2 ρ2 ds s2 S2 r2 P2 => ?_
    exact P2 (x :: xs) F2 H2 (Same.refl _) S2 (.cons (Rep.mono s2 r1) r2)
def small (n : Nat) : Bool := decide (n ≤ 100000)
theorem small_le {n : Nat} (h : small n = true) : n ≤ 100000 := of_decide_eq_true h
def dTup (g : Rho → R (List D)) : EF := fun ρ => (g ρ).bind fun xs ρ => if small xs.length = true then .ok (.tup xs) ρ else .stuck
def dLst (g : Rho → R (List D)) : Rho → R M := fun ρ => (g ρ).bind fun xs ρ => if small xs.length = true then .ok (.lst xs) ρ else .stuck
theorem pe_tupN {x1} {t : TA} (h : PA X es t) : PE X (.Tuple es x1 pos) (tTupN t) := by
  constructor
  intro pins s σ H Q I q
  apply wpAny_Tuple_spliced
  refine thn (h.run pos pins s σ H _ I q) fun us s1 ⟨xs, H1, I1, r, z, n⟩ => ?_
  have sz : us.length ≤ sizeLine := r.length ▸ z
  exact ⟨sz, newT_ep (tk := s1.toks) I1 z r (fun _ _ e => e) n⟩
theorem fe_tup {x1} {g : Rho → R (List D)} (h : PA X es (tA X.K π W g)) : PE X (.Tuple es x1 pos) (tE X.K π W (dTup g)) :=
  PE.imp (pe_tupN h) fun σ H Q ⟨c, F, ρ, S, P⟩ => by
    refine po_bind S P fun xs F1 H1 ρ1 ds s1 S1 r1 P1 => ?_
    split at P1
    · rename_i hz
      have hl : xs.length ≤ 100000 := by rw [Reps.length r1]; exact small_le hz
      refine ⟨le_line hl, fun p o hp hd => ?_⟩
      have gr := Grw.newT (xs := xs) S1.f hp hd
      exact P1 _ _ _ gr.f (S1.grow gr) (.tup (sqT_new upd_same) (Reps.mono gr.f r1))
    · exact P1.elim
theorem Sta.fresh {K : PySem.W.Frag} {c : Cfg} {F H : Hp} {σ : L2.St} {ρ : Rho} (S : Sta K π c F H σ ρ) {q : Addr} (h : H q = none) : F q = none ∧ c.H0 q = none ∧ ∀ j, ¬ OwnAt σ ρ j q := by
  refine ⟨Same.free S.f h, ?_, fun j hj => ?_⟩
  · cases e : c.H0 q with
    | none => rfl
    | some o =>
      obtain ⟨o', e'⟩ := S.any e
      rw [h] at e'
      cases e'
  · obtain ⟨o, e⟩ := (S.ownAt hj).2.2
    rw [h] at e
    cases e
theorem fm_lst {g : Rho → R (List D)} (h : PA X es (tA X.K π W g)) : PE X (.List es pos) (tM X.K π W (dLst g)) :=
  PE.imp (pe_lst h) fun σ H Q ⟨c, F, ρ, S, P⟩ => by
    refine po_bind S P fun xs F1 H1 ρ1 ds s1 S1 r1 P1 => ?_
    split at P1
    · rename_i hz
      have hl : xs.length ≤ 100000 := by rw [Reps.length r1]; exact small_le hz
      refine ⟨le_line hl, fun p hp => ?_⟩
      have gr := Grw.newO (o := .lst xs) S1.f hp
      obtain ⟨f1, f2, f3⟩ := S1.fresh hp
      exact P1 _ _ _ gr.f (S1.grow gr) ⟨p, rfl, f1, f2, f3, xs, upd_same, r1⟩
    · exact P1.elim
/-- a new list, as data -/
def frz (f : Rho → R M) : EF := fun ρ => (f ρ).bind fun m ρ => match m with
  | .lst ds => .ok (.lst ds) ρ
  | .dct ds => .ok (.dct ds) ρ
  | _ => .stuck
theorem fe_frz {f : Rho → R M} (h : PE X e (tM X.K π W f)) : PE X e (tE X.K π W (frz f)) :=
  PE.imp h fun σ H Q ⟨c, F, ρ, S, P⟩ => by
    refine po_bind S P fun v F1 H1 ρ1 m s1 S1 r1 P1 => ?_
    obtain ⟨p, rfl, f1, f2, f3, hm⟩ := r1
    cases m with
    | ins C fs => exact P1.elim
    | dtu ds => exact P1.elim
    | lst ds =>
      obtain ⟨vs, ho, r⟩ := hm
      obtain ⟨sm, S'⟩ := frz_newG S1 (by intro ps z; cases z) ho f1 f2 f3
      exact P1 (.ref p) _ H1 sm S' (.lst upd_same (Reps.mono sm r))
    | dct ds =>
      obtain ⟨kvs, ho, hk, r⟩ := hm
      obtain ⟨sm, S'⟩ := frz_newG S1 (by intro ps z; cases z) ho f1 f2 f3
      exact P1 (.ref p) _ H1 sm S' (.dct upd_same hk (Reps.mono sm r))
end
end
end FL
/-! FL3: operations on data. -/
namespace FL
open PySem PySem.Spec PyProof.Rows L2

/-! ### data as the library's data -/
mutual
def toP : D → PyData
  | .non => .none
  | .bl b => .bool b
  | .int i => .int i
  | .str x => .str x
  | .tup xs => .tuple (toPs xs)
  | .lst xs => .list (toPs xs)
  | .scr _ => .none
  | .fn _ => .none
  | .dct _ => .none
  | .exc _ _ => .none
  | .clo _ _ => .none
  | .dcf _ => .none
  | .err _ _ _ => .none
  | .dl1 _ _ _ => .none
def toPs : List D → List PyData
  | [] => []
  | x :: xs => toP x :: toPs xs
end
/-- plain data, at most n deep -/
def shp : Nat → D → Bool
  | _, .non => true
  | _, .bl _ => true
  | _, .int _ => true
  | _, .str x => PyData.strOk x
  | n + 1, .tup xs => xs.all (shp n)
  | n + 1, .lst xs => xs.all (shp n)
  | _, _ => false
theorem shp_all {n : Nat} : ∀ {xs : List D}, (∀ x, shp n x = true → (toP x).canLay0 = true ∧ (toP x).depth ≤ n) → xs.all (shp n) = true → PyData.canLayAll0 (toPs xs) = true ∧ PyData.depthAll (toPs xs) ≤ n
  | [], _, _ => ⟨by simp [toPs, PyData.canLayAll0], by simp [toPs, PyData.depthAll]⟩
  | x :: xs, h, e => by
    rw [List.all_cons, Bool.and_eq_true] at e
    obtain ⟨h1, h2⟩ := h x e.1
    obtain ⟨h3, h4⟩ := shp_all (n := n) h e.2
    simp only [toPs, PyData.canLayAll0, PyData.depthAll, h1, h3, Bool.and_self, true_and]
    omega
theorem shp_ok : ∀ (n : Nat) (d : D), shp n d = true → (toP d).canLay0 = true ∧ (toP d).depth ≤ n
  | n, .non, _ => ⟨by simp [toP, PyData.canLay0], by simp [toP, PyData.depth]⟩
  | n, .bl _, _ => ⟨by simp [toP, PyData.canLay0], by simp [toP, PyData.depth]⟩
  | n, .int _, _ => ⟨by simp [toP, PyData.canLay0], by simp [toP, PyData.depth]⟩
  | n, .str x, h => ⟨by simpa [toP, PyData.canLay0, shp] using h, by simp [toP, PyData.depth]⟩
  | n + 1, .tup xs, h => by
    obtain ⟨h1, h2⟩ := shp_all (n := n) (shp_ok n) (by simpa [shp] using h)
    simp only [toP, PyData.canLay0, PyData.depth, h1, true_and]
    omega
  | n + 1, .lst xs, h => by
    obtain ⟨h1, h2⟩ := shp_all (n := n) (shp_ok n) (by simpa [shp] using h)
    simp only [toP, PyData.canLay0, PyData.depth, h1, true_and]
    omega
  | 0, .tup xs, h => by simp [shp] at h
  | 0, .lst xs, h => by simp [shp] at h
  | n, .scr _, h => by cases n <;> simp [shp] at h
  | n, .fn _, h => by cases n <;> simp [shp] at h
  | n, .dct _, h => by cases n <;> simp [shp] at h
  | n, .exc _ _, h => by cases n <;> simp [shp] at h
  | n, .clo _ _, h => by cases n <;> simp [shp] at h
  | n, .dcf _, h => by cases n <;> simp [shp] at h
  | n, .err _ _ _, h => by cases n <;> simp [shp] at h
  | n, .dl1 _ _ _, h => by cases n <;> simp [shp] at h
section
variable {K : PySem.W.Frag} {F H : Hp}
theorem dpAll_of {n : Nat} (h : ∀ v d, shp n d = true → Rep K F v d → Dp K H v (toP d)) : ∀ {vs : List V} {ds : List D}, ds.all (shp n) = true → Reps K F vs ds → DpAll K H vs (toPs ds)
  | _, _, _, .nil => by rw [toPs]; exact .nil
  | _, _, e, .cons r rs => by
    rw [List.all_cons, Bool.and_eq_true] at e
    rw [toPs]
    exact .cons (h _ _ e.1 r) (dpAll_of h e.2 rs)
theorem dp_of (s : Same F H) : ∀ (n : Nat) (v : V) (d : D), shp n d = true → Rep K F v d → Dp K H v (toP d)
  | n, _, .non, _, .non => by rw [toP]; exact .non
  | n, _, .bl _, _, .bl _ => by rw [toP]; exact .bl _
  | n, _, .int _, _, .int _ => by rw [toP]; exact .int _
  | n, _, .str _, _, .str _ => by rw [toP]; exact .str _
  | n + 1, _, .tup xs, h, .tup q r => by rw [toP]; exact .tup (sm_tup s q) (dpAll_of (dp_of s n) (by simpa [shp] using h) r)
  | n + 1, _, .lst xs, h, .lst q r => by rw [toP]; exact .lst (SqL.of (s _ _ q)) (dpAll_of (dp_of s n) (by simpa [shp] using h) r)
  | 0, _, .tup xs, h, _ => by simp [shp] at h
  | 0, _, .lst xs, h, _ => by simp [shp] at h
  | n, _, .scr _, h, _ => by cases n <;> simp [shp] at h
  | n, _, .fn _, h, _ => by cases n <;> simp [shp] at h
  | n, _, .dct _, h, _ => by cases n <;> simp [shp] at h
  | n, _, .exc _ _, h, _ => by cases n <;> simp [shp] at h
  | n, _, .clo _ _, h, _ => by cases n <;> simp [shp] at h
  | n, _, .dcf _, h, _ => by cases n <;> simp [shp] at h
  | n, _, .err _ _ _, h, _ => by cases n <;> simp [shp] at h
  | n, _, .dl1 _ _ _, h, _ => by cases n <;> simp [shp] at h
end
theorem shaped_of {d : D} (h : shp 8 d = true) : SeqAt.shaped (toP d) = true := by
  obtain ⟨h1, h2⟩ := shp_ok 8 d h
  unfold SeqAt.shaped
  rw [h1, Bool.true_and]
  exact decide_eq_true (by omega)
def eqd (x y : D) : Bool := PyData.eqv (toP x) (toP y)
def eqD (x y : D) : Option D := if shp 8 x = true ∧ shp 8 y = true then some (.bl (eqd x y)) else none
def neD (x y : D) : Option D := if shp 8 x = true ∧ shp 8 y = true then some (.bl (!eqd x y)) else none

/-! ### arithmetic -/
def addD : D → D → Option D
  | .int a, .int b => some (.int (a + b))
  | .str a, .str b => if small (a.length + b.length) = true then some (.str (a ++ b)) else none
  | .lst xs, .lst ys => if small (xs.length + ys.length) = true then some (.lst (xs ++ ys)) else none
  | .tup xs, .tup ys => if small (xs.length + ys.length) = true then some (.tup (xs ++ ys)) else none
  | _, _ => none
def subD : D → D → Option D
  | .int a, .int b => some (.int (a - b))
  | _, _ => none
def mulOk (a b : Int) : Bool := decide (a.natAbs < 2 ^ 64) || decide (b.natAbs < 2 ^ 64) || decide (a.natAbs.log2 + b.natAbs.log2 < 1000000)
def mulD : D → D → Option D
  | .int a, .int b => if mulOk a b = true then some (.int (a * b)) else none
  | .lst xs, .int k => if 0 ≤ k ∧ k ≤ 100000 ∧ xs.length * k.toNat ≤ 100000 then some (.lst (List.replicate k.toNat xs).flatten) else none
  | .tup xs, .int k => if 2 ≤ k ∧ k ≤ 1000 ∧ xs.length ≤ 1000 ∧ xs ≠ [] then some (.tup (List.replicate k.toNat xs).flatten) else none
  | _, _ => none
def fdivD : D → D → Option D
  | .int a, .int b => if (b ≠ 0 ∧ b.natAbs < 1073741824) ∨ (b ≠ 0 ∧ b.natAbs.log2 < 9000) then some (.int (a.fdiv b)) else none
  | _, _ => none
def modD : D → D → Option D
  | .int a, .int b => if b ≠ 0 then some (.int (a.fmod b)) else none
  | _, _ => none
def powD : D → D → Option D
  | .int a, .int b => if 0 ≤ b ∧ b ≤ 1000000 ∧ a.natAbs < 2 ^ 64 then some (.int (a ^ b.toNat)) else none
  | _, _ => none
def negD : D → Option D
  | .int a => some (.int (-a))
  | _ => none
def cmpD (p : Int → Int → Bool) : D → D → Option D
  | .int a, .int b => some (.bl (p a b))
  | _, _ => none
def ltD := cmpD fun a b => decide (a < b)
def leD := cmpD fun a b => decide (a ≤ b)
def gtD := cmpD fun a b => decide (b < a)
def geD := cmpD fun a b => decide (b ≤ a)
def isNon : D → Bool
  | .non => true
  | _ => false
def nisD : D → D → Option D
  | x, .non => some (.bl (!isNon x))
  | .bl a, .bl b => some (.bl (!decide (a = b)))
  | _, _ => none
def flatD : D → Bool
  | .non => true
  | .bl _ => true
  | .int _ => true
  | .str _ => true
  | _ => false
def inD : D → D → Option D
  | x, .lst ys => if shp 7 x = true ∧ ys.all (shp 7) = true then some (.bl (ys.any fun y => eqd y x)) else none
  | x, .tup ys => if flatD x = true ∧ ys.all flatD = true then some (.bl (ys.any fun y => eqd y x)) else none
  | .str c, .str z => match c.cps.toList with
    | [n] => some (.bl (decide (n ∈ z.cps.toList)))
    | _ => none
  | _, _ => none
/-- t + u: where one of both is empty the other one itself -/
def rCatN (K : PySem.W.Frag) : R2 := fun x y H Q => ∃ (a b : Addr) (xs ys : List V), x = .ref a ∧ y = .ref b ∧ SqT K H a xs ∧ SqT K H b ys ∧ xs.length + ys.length ≤ sizeLine ∧
  (xs = [] → Q (.ref b) H) ∧ (xs ≠ [] → ys = [] → Q (.ref a) H) ∧ (xs ≠ [] → ys ≠ [] → NewT H (xs ++ ys) Q)
theorem o_catN {X : Cx} : OpR X (binaryOp .Add) (rCatN X.K) := by
  rintro pins s σ H x y v u Q I rx ry ⟨a, b, xs, ys, rfl, rfl, ta, tb, z, left, right, both⟩
  cases rx
  cases ry
  obtain ⟨its, r1, p1, _⟩ := I.tuple ta
  obtain ⟨jts, r2, p2, _⟩ := I.tuple tb
  match xs, its, r1, p1 with
  | [], _, .nil, p1 => exact cat_tup0 p1 p2 ⟨.ref b, H, I, rfl, left rfl⟩
  | x :: xs, w :: ws, r1, p1 =>
    have l1 := r1.length
    have l2 := r2.length
    refine HT.cat_tup p1 p2 (by simp) (fun e => ?_) (fun e => newT_ep (tk := s.toks) I (by rw [List.length_append]; exact z) (r1.append r2) (fun _ _ e => e) (both (by simp) fun e' => ?_)) (by omega)
    · exact ⟨.ref a, H, I, rfl, right (by simp) (r2.nil_iff.mp e)⟩
    · subst e'
      exact e (r2.nil_iff.mpr rfl)
/-- a tuple times a number, as long as it stays within the bounds -/
def rTimes (K : PySem.W.Frag) : R2 := fun x y H Q => ∃ (a : Addr) (m : Nat) (vs : List V), x = .ref a ∧ y = .int m ∧ SqT K H a vs ∧ vs ≠ [] ∧ 2 ≤ m ∧ m ≤ 1000000 ∧ vs.length * m ≤ 1000000 ∧
    NewT H (List.replicate m vs).flatten Q
theorem o_times {X : Cx} : OpR X (binaryOp .Mult) (rTimes X.K) := by
  rintro pins s σ H x y v u Q I rx ry ⟨a, m, vs, rfl, rfl, ht, h0, h2, h3, h4, q⟩
  cases rx
  obtain ⟨tk, rfl⟩ := ry
  obtain ⟨us, rv, ⟨⟨c, od, dt, slo⟩, hob, hcl, nn, hdt⟩, _⟩ := I.tuple ht
  dsimp only at hcl hdt
  subst hcl
  subst hdt
  have el : us.length = vs.length := rv.length.symm
  have hpos : 0 < us.length := by
    rw [el]
    exact List.length_pos_iff.mpr h0
  have sz : us.toArray.size = vs.length := List.size_toArray.trans el
  have hemp : us.toArray.isEmpty = false := by
    match us, hpos with
    | _ :: _, _ => rfl
  have prod : ((us.toArray.size : Nat) : Int) * (m : Int) ≤ 1000000 := by
    rw [sz]
    have : ((vs.length * m : Nat) : Int) ≤ 1000000 := by omega
    rwa [Int.natCast_mul] at this
  have flat : (List.replicate m us).flatten.length ≤ 1000000 := by
    rw [PyProof.Rows.lm_len_rep_flat, el, Nat.mul_comm]
    exact h4
  have line : 1000000 ≤ sizeLine := by decide
  have b0 : (decide ((m : Int) < -(2 ^ 63)) || decide ((m : Int) ≥ 2 ^ 63)) = false :=
    Bool.or_eq_false_iff.mpr ⟨decide_eq_false (by omega), decide_eq_false (by omega)⟩
  have b1 : (us.toArray.isEmpty || (m : Int) == 1) = false :=
    Bool.or_eq_false_iff.mpr ⟨hemp, beq_eq_false_iff_ne.mpr (by omega)⟩
  have b2 : (decide ((m : Int) ≤ 0) || us.toArray.isEmpty) = false :=
    Bool.or_eq_false_iff.mpr ⟨decide_eq_false (by omega), hemp⟩
  have b4 : Builtin.Tuple.tupleTooMany (((us.toArray.size : Nat) : Int) * (m : Int)) = false := by
    unfold Builtin.Tuple.tupleTooMany
    have := line
    exact decide_eq_false (by rw [sizeLine_eq]; omega)
  have fold := size_rep us m
  have hs2 : (List.foldl (fun x1 x2 => x1 ++ x2) #[] (List.replicate (m : Int).toNat us.toArray)).size ≤ sizeLine := by
    rw [Int.toNat_natCast, fold, List.size_toArray]
    exact Nat.le_trans flat line
  have body := tuple_mulW a us.toArray nn od slo (m : Int) tk b0 b1 b2 (by omega) b4 hs2
  have back := int_rmul_tuple (m : Int) tk a us.toArray nn od slo
  have is_t : s.heap.get? a = some { cls := .type "tuple", dict := od, data := .seq us.toArray nn, slots := slo } := hob
  refine wpAny_binaryOp_repeat_ref (U := "int") (T := "tuple") (by decide) ⟨_, is_t, rfl⟩ (fun s' => typeIs_int s' _ tk) noFill_tuple_mul F.fills_int_mul F.slot_int_rmul repeat_tuple F.slot_int_index.lookup ?_
  refine call_meets F.slot_int_rmul (typeIs_int s _ tk) F.entry_int_rmul (F.args_int_rmul_2 _ _) back ⟨is_t, rfl, ⟨_, is_t, rfl⟩, ?_⟩
  refine call_meets F.slot_tuple_mul ⟨_, is_t, rfl⟩ F.entry_tuple_mul (F.args_tuple_mul_2 _ _) body ⟨is_t, ?_⟩
  rw [Int.toNat_natCast, fold]
  have lv : (List.replicate m vs).flatten.length ≤ sizeLine := by
    rw [PyProof.Rows.lm_len_rep_flat, Nat.mul_comm]
    exact Nat.le_trans h4 line
  exact newT_ep (tk := s.toks) I lv (rv.rep m) (fun _ _ e => e) q
section
variable [FE]
variable {X : Cx} {K : PySem.W.Frag}
theorem q_add : Op2 K addD (fun x y H Q => (rI0 fun i j => .int (i + j)) x y H Q ∨ (∃ i j, x = V.str i ∧ y = V.str j ∧ i.length + j.length ≤ sizeLine ∧ Q (.str (i ++ j)) H) ∨ rCat x y H Q ∨ rCatN K x y H Q) := by
  intro F H x y dx dy d Q s rx ry e k
  cases rx <;> cases ry <;> first | (cases e; done) | skip
  · rename_i i j
    cases e
    exact .inl ⟨i, j, rfl, rfl, k _ F H (Grw.refl s) (.int _)⟩
  · rename_i i j
    simp only [addD] at e
    split at e
    · rename_i hz
      cases e
      exact .inr (.inl ⟨i, j, rfl, rfl, le_line (small_le hz), k _ F H (Grw.refl s) (.str _)⟩)
    · cases e
  · rename_i a xs ds h1 r1 b ys es h2 r2
    simp only [addD] at e
    split at e
    · rename_i hz
      cases e
      have hl : xs.length + ys.length ≤ 100000 := by rw [Reps.length r1, Reps.length r2]; exact small_le hz
      refine .inr (.inr (.inr ⟨a, b, xs, ys, rfl, rfl, sm_tup s h1, sm_tup s h2, le_line hl, fun z => ?_, fun z1 z2 => ?_, fun z1 z2 p o hp hd => ?_⟩))
      · subst z
        cases r1
        exact k _ F H (Grw.refl s) (.tup h2 r2)
      · subst z2
        cases r2
        rw [List.append_nil] at *
        exact k _ F H (Grw.refl s) (.tup h1 r1)
      · have g := Grw.newT (xs := xs ++ ys) s hp hd
        exact k _ _ _ g (.tup (sqT_new upd_same) ((Reps.mono g.f r1).append (Reps.mono g.f r2)))
    · cases e
  · rename_i a xs ds h1 r1 b ys es h2 r2
    simp only [addD] at e
    split at e
    · rename_i hz
      cases e
      have hl : xs.length + ys.length ≤ 100000 := by rw [Reps.length r1, Reps.length r2]; exact small_le hz
      refine .inr (.inr (.inl ⟨a, b, xs, ys, rfl, rfl, s _ _ h1, s _ _ h2, le_line hl, fun p hp => ?_⟩))
      have g := Grw.newF (o := .lst (xs ++ ys)) s hp
      exact k _ _ _ g (.lst upd_same ((Reps.mono g.f r1).append (Reps.mono g.f r2)))
    · cases e
theorem o_add : OpR X (binaryOp .Add) (fun x y H Q => (rI0 fun i j => .int (i + j)) x y H Q ∨ (∃ i j, x = V.str i ∧ y = V.str j ∧ i.length + j.length ≤ sizeLine ∧ Q (.str (i ++ j)) H) ∨ rCat x y H Q ∨ rCatN X.K x y H Q) :=
  op_add.or (op_add_str.or (op_cat.or o_catN))
theorem q_sub : Op2 K subD (rI0 fun i j => .int (i - j)) := by
  intro F H x y dx dy d Q s rx ry e k
  cases rx <;> cases ry <;> first | (cases e; done) | skip
  rename_i i j
  cases e
  exact ⟨i, j, rfl, rfl, k _ F H (Grw.refl s) (.int _)⟩
theorem Reps.rep {F : Hp} {vs : List V} {ds : List D} (r : Reps K F vs ds) : ∀ n : Nat, Reps K F (List.replicate n vs).flatten (List.replicate n ds).flatten
  | 0 => .nil
  | n + 1 => by
    rw [List.replicate_succ, List.replicate_succ, List.flatten_cons, List.flatten_cons]
    exact r.append (Reps.rep r n)
theorem q_mul : Op2 K mulD (fun x y H Q => (rI CMul fun i j => .int (i * j)) x y H Q ∨ (rI CMulW fun i j => .int (i * j)) x y H Q ∨ rRep x y H Q ∨ rTimes K x y H Q) := by
  intro F H x y dx dy d Q s rx ry e k
  cases rx <;> cases ry <;> first | (cases e; done) | skip
  · rename_i i j
    simp only [mulD] at e
    split at e
    · rename_i hz
      cases e
      have q := k _ F H (Grw.refl s) (.int (i * j))
      unfold mulOk at hz
      rw [Bool.or_eq_true, Bool.or_eq_true, decide_eq_true_eq, decide_eq_true_eq, decide_eq_true_eq] at hz
      rcases hz with (hz | hz) | hz
      · exact .inl ⟨i, j, rfl, rfl, .inl (by omega), q⟩
      · exact .inl ⟨i, j, rfl, rfl, .inr (by omega), q⟩
      · exact .inr (.inl ⟨i, j, rfl, rfl, hz, q⟩)
    · cases e
  · rename_i a xs ds h1 r1 j
    simp only [mulD] at e
    split at e
    · rename_i hz
      cases e
      obtain ⟨z1, z2, z3, z4⟩ := hz
      have hl := Reps.length r1
      have hm : xs.length * j.toNat ≤ 1000 * 1000 := Nat.mul_le_mul (by omega) (by omega)
      refine .inr (.inr (.inr ⟨a, j.toNat, xs, rfl, by rw [show ((j.toNat : Nat) : Int) = j by omega], sm_tup s h1, fun z => ?_, by omega, by omega, by omega, fun p o hp hd => ?_⟩))
      · subst z
        cases r1
        exact z4 rfl
      · have g := Grw.newT (xs := (List.replicate j.toNat xs).flatten) s hp hd
        exact k _ _ _ g (.tup (sqT_new upd_same) ((Reps.mono g.f r1).rep _))
    · cases e
  · rename_i a xs ds h1 r1 j
    simp only [mulD] at e
    split at e
    · rename_i hz
      cases e
      obtain ⟨z1, z2, z3⟩ := hz
      refine .inr (.inr (.inl ⟨a, j, xs, rfl, rfl, s _ _ h1, by omega, by omega, le_line (by rw [Reps.length r1]; exact z3), fun p hp => ?_⟩))
      have g := Grw.newF (o := .lst (List.replicate j.toNat xs).flatten) s hp
      exact k _ _ _ g (.lst upd_same ((Reps.mono g.f r1).rep _))
    · cases e
theorem o_mul : OpR X (binaryOp .Mult) (fun x y H Q => (rI CMul fun i j => .int (i * j)) x y H Q ∨ (rI CMulW fun i j => .int (i * j)) x y H Q ∨ rRep x y H Q ∨ rTimes X.K x y H Q) :=
  op_mul.or (op_mulW.or (op_rep.or o_times))
def CDivA (_ j : Int) : Prop := j ≠ 0 ∧ j.natAbs.log2 < 9000
theorem op_fdivA : OpR X (binaryOp .FloorDiv) (rI CDivA fun i j => .int (i.fdiv j)) := opI fun _ _ _ _ _ _ _ hc q => floordiv_int hc.1 q (.inl (PyProof.noPylong_of_log2 hc.2))
theorem q_fdiv : Op2 K fdivD (fun x y H Q => (rI CDivN fun i j => .int (i.fdiv j)) x y H Q ∨ (rI CDivA fun i j => .int (i.fdiv j)) x y H Q) := by
  intro F H x y dx dy d Q s rx ry e k
  cases rx <;> cases ry <;> first | (cases e; done) | skip
  rename_i i j
  simp only [fdivD] at e
  split at e
  · rename_i hz
    cases e
    have q := k _ F H (Grw.refl s) (.int (i.fdiv j))
    rcases hz with hz | hz
    · exact .inl ⟨i, j, rfl, rfl, hz, q⟩
    · exact .inr ⟨i, j, rfl, rfl, hz, q⟩
  · cases e
theorem o_fdiv : OpR X (binaryOp .FloorDiv) (fun x y H Q => (rI CDivN fun i j => .int (i.fdiv j)) x y H Q ∨ (rI CDivA fun i j => .int (i.fdiv j)) x y H Q) := op_fdivN.or op_fdivA
theorem q_mod : Op2 K modD (rI (fun _ j => j ≠ 0) fun i j => .int (i.fmod j)) := by
  intro F H x y dx dy d Q s rx ry e k
  cases rx <;> cases ry <;> first | (cases e; done) | skip
  rename_i i j
  simp only [modD] at e
  split at e
  · rename_i hz
    cases e
    exact ⟨i, j, rfl, rfl, hz, k _ F H (Grw.refl s) (.int _)⟩
  · cases e
theorem q_pow : Op2 K powD (rI CPow fun i j => .int (i ^ j.toNat)) := by
  intro F H x y dx dy d Q s rx ry e k
  cases rx <;> cases ry <;> first | (cases e; done) | skip
  rename_i i j
  simp only [powD] at e
  split at e
  · rename_i hz
    cases e
    exact ⟨i, j, rfl, rfl, hz, k _ F H (Grw.refl s) (.int _)⟩
  · cases e
theorem q_neg : Op1 K negD (rU fun i => .int (-i)) := by
  intro F H x dx d Q s rx e k
  cases rx <;> first | (cases e; done) | skip
  rename_i i
  cases e
  exact ⟨i, rfl, k _ F H (Grw.refl s) (.int _)⟩
theorem q_cmp {p : Int → Int → Bool} : Op2 K (cmpD p) (rI0 fun i j => .bl (p i j)) := by
  intro F H x y dx dy d Q s rx ry e k
  cases rx <;> cases ry <;> first | (cases e; done) | skip
  rename_i i j
  cases e
  exact ⟨i, j, rfl, rfl, k _ F H (Grw.refl s) (.bl _)⟩
theorem isNon_rep {F : Hp} {v : V} {d : D} (h : Rep K F v d) : decide (v = .non) = isNon d := by cases h <;> rfl
theorem q_nis : Op2 K nisD (fun x y H Q => (y = .non ∧ Q (.bl (!decide (x = .non))) H) ∨ rNotB x y H Q) := by
  intro F H x y dx dy d Q s rx ry e k
  cases ry with
  | non =>
    have e : some (D.bl (!isNon dx)) = some d := by cases dx <;> exact e
    cases e
    exact .inl ⟨rfl, by rw [isNon_rep rx]; exact k _ F H (Grw.refl s) (.bl _)⟩
  | bl b =>
    cases rx <;> first | (cases e; done) | skip
    rename_i a
    cases e
    exact .inr ⟨a, b, rfl, rfl, k _ F H (Grw.refl s) (.bl _)⟩
  | _ => cases rx <;> cases e
theorem o_nis : OpR X (compareOp .IsNot) (fun x y H Q => (y = .non ∧ Q (.bl (!decide (x = .non))) H) ∨ rNotB x y H Q) := op_notN.or op_notBl
theorem q_eq : Op2 K eqD (rEqD K) := by
  intro F H x y dx dy d Q s rx ry e k
  unfold eqD at e
  split at e
  · rename_i hz
    cases e
    exact ⟨_, _, dp_of s 8 _ _ hz.1 rx, dp_of s 8 _ _ hz.2 ry, shaped_of hz.1, shaped_of hz.2, k _ F H (Grw.refl s) (.bl _)⟩
  · cases e
theorem q_ne : Op2 K neD (rNeD K) := by
  intro F H x y dx dy d Q s rx ry e k
  unfold neD at e
  split at e
  · rename_i hz
    cases e
    exact ⟨_, _, dp_of s 8 _ _ hz.1 rx, dp_of s 8 _ _ hz.2 ry, shaped_of hz.1, shaped_of hz.2, k _ F H (Grw.refl s) (.bl _)⟩
  · cases e
theorem flat_rep {F : Hp} {v : V} {d : D} (r : Rep K F v d) (h : flatD d = true) : flatV v = true := by cases r <;> first | rfl | cases h
theorem flats_rep {F : Hp} : ∀ {vs : List V} {ds : List D}, Reps K F vs ds → ds.all flatD = true → vs.all flatV = true
  | _, _, .nil, _ => rfl
  | _, _, .cons r rs, h => by
    rw [List.all_cons, Bool.and_eq_true] at h ⊢
    exact ⟨flat_rep r h.1, flats_rep rs h.2⟩
theorem eqv_rep {F : Hp} {x y : V} {dx dy : D} (r : Rep K F x dx) (q : Rep K F y dy) (h : flatD dx = true) (h' : flatD dy = true) : eqV x y = eqd dx dy := by
  cases r <;> cases q <;> first | (cases h; done) | (cases h'; done) | (simp [eqd, toP, PyData.eqv, eqV]; done) | (simp only [eqd, toP, PyData.eqv, eqV]; done) | rfl
theorem anyv_rep {F : Hp} {x : V} {dx : D} (r : Rep K F x dx) (h : flatD dx = true) : ∀ {vs : List V} {ds : List D}, Reps K F vs ds → ds.all flatD = true → (vs.any fun y => eqV y x) = ds.any fun y => eqd y dx
  | _, _, .nil, _ => rfl
  | _, _, .cons q qs, e => by
    rw [List.all_cons, Bool.and_eq_true] at e
    rw [List.any_cons, List.any_cons, eqv_rep q r e.1 h, anyv_rep r h qs e.2]
theorem any_toPs {dx : D} : ∀ ds : List D, ((toPs ds).any fun z => PyData.eqv z (toP dx)) = ds.any fun y => eqd y dx
  | [] => rfl
  | d :: ds => by
    rw [toPs, List.any_cons, List.any_cons, any_toPs ds]
    rfl
theorem shp_mono1 : ∀ (n : Nat) (d : D), shp n d = true → shp (n + 1) d = true
  | n, .non, _ => by simp [shp]
  | n, .bl _, _ => by simp [shp]
  | n, .int _, _ => by simp [shp]
  | n, .str x, h => by simpa [shp] using h
  | n + 1, .tup xs, h => by
    simp only [shp, List.all_eq_true] at h ⊢
    exact fun x hx => shp_mono1 n x (h x hx)
  | n + 1, .lst xs, h => by
    simp only [shp, List.all_eq_true] at h ⊢
    exact fun x hx => shp_mono1 n x (h x hx)
  | 0, .tup xs, h => by simp [shp] at h
  | 0, .lst xs, h => by simp [shp] at h
  | n, .scr _, h => by cases n <;> simp [shp] at h
  | n, .fn _, h => by cases n <;> simp [shp] at h
  | n, .dct _, h => by cases n <;> simp [shp] at h
  | n, .exc _ _, h => by cases n <;> simp [shp] at h
  | n, .clo _ _, h => by cases n <;> simp [shp] at h
  | n, .dcf _, h => by cases n <;> simp [shp] at h
  | n, .err _ _ _, h => by cases n <;> simp [shp] at h
  | n, .dl1 _ _ _, h => by cases n <;> simp [shp] at h
def rInA (K : PySem.W.Frag) : R2 := fun x y H Q => rInD K x y H Q ∨ rIn K false x y H Q ∨ (∃ (c : Nat) (z : Str), x = .str ⟨#[c]⟩ ∧ y = .str z ∧ Q (.bl (decide (c ∈ z.cps.toList))) H)
theorem str_one {c : Str} {n : Nat} (h : c.cps.toList = [n]) : c = ⟨#[n]⟩ := by
  obtain ⟨a⟩ := c
  congr 1
  exact Array.toList_inj.mp h
theorem in_cases {F H : Hp} {x y : V} {dx dy d : D} {Q : VK} (s : Same F H) (rx : Rep K F x dx) (ry : Rep K F y dy) (e : inD dx dy = some d) :
    ∃ b, d = .bl b ∧ (((∃ p q, Dp K H x p ∧ Dp K H y (.list q) ∧ SeqAt.shaped p = true ∧ SeqAt.shaped (.list q) = true ∧ (q.any fun z => PyData.eqv z p) = b)) ∨ (∃ p xs, y = .ref p ∧ (SqL K H p xs ∨ SqT K H p xs) ∧ flatV x = true ∧ xs.all flatV = true ∧ inV x xs = b) ∨
      (∃ (c : Nat) (z : Str), x = .str ⟨#[c]⟩ ∧ y = .str z ∧ decide (c ∈ z.cps.toList) = b)) := by
  cases ry with
  | @lst a ys ds h1 r1 =>
    have e : (if shp 7 dx = true ∧ ds.all (shp 7) = true then some (D.bl (ds.any fun y => eqd y dx)) else none) = some d := by cases dx <;> exact e
    split at e
    · rename_i hz
      cases e
      have e8 : shp 8 (.lst ds) = true := by simpa [shp] using hz.2
      refine ⟨_, rfl, .inl ⟨_, _, dp_of s 7 _ _ hz.1 rx, ?_, shaped_of (shp_mono1 7 _ hz.1), ?_, any_toPs ds⟩⟩
      · have z := dp_of s 8 _ _ e8 (Rep.lst (K := K) h1 r1)
        rw [toP] at z
        exact z
      · have z := shaped_of e8
        rw [toP] at z
        exact z
    · cases e
  | @tup a ys ds h1 r1 =>
    have e : (if flatD dx = true ∧ ds.all flatD = true then some (D.bl (ds.any fun y => eqd y dx)) else none) = some d := by cases dx <;> exact e
    split at e
    · rename_i hz
      cases e
      exact ⟨_, rfl, .inr (.inl ⟨a, ys, rfl, .inr (sm_tup s h1), flat_rep rx hz.1, flats_rep r1 hz.2, anyv_rep rx hz.1 r1 hz.2⟩)⟩
    · cases e
  | str z =>
    cases rx with
    | str c =>
      simp only [inD] at e
      split at e
      · rename_i n hn
        cases e
        exact ⟨_, rfl, .inr (.inr ⟨n, z, by rw [str_one hn], rfl, rfl⟩)⟩
      · cases e
    | _ => cases e
  | _ => cases rx <;> cases e
theorem q_in : Op2 K inD (rInA K) := by
  intro F H x y dx dy d Q s rx ry e k
  obtain ⟨b, rfl, h⟩ := in_cases (Q := Q) s rx ry e
  have q := k (.bl b) F H (Grw.refl s) (.bl b)
  rcases h with ⟨p, w, h1, h2, h3, h4, h5⟩ | ⟨p, xs, h1, h2, h3, h4, h5⟩ | ⟨c, z, h1, h2, h3⟩
  · exact .inl ⟨p, w, h1, h2, h3, h4, by rw [h5]; exact q⟩
  · refine .inr (.inl ⟨p, xs, h1, h2, h3, h4, ?_⟩)
    rw [if_neg Bool.false_ne_true, h5]
    exact q
  · exact .inr (.inr ⟨c, z, h1, h2, by rw [h3]; exact q⟩)
theorem o_in (hu : X.A.units + 65 < cLine) : OpR X (compareOp .In) (rInA X.K) := (op_inD hu).or (op_in_seq.or op_in_sign)
end
end FL
/-! FL4: subscripts, slices, built-in calls. -/
namespace FL
open PySem PySem.Spec PyProof.Rows L2

/-! ### a tuple read backwards -/
section
variable {prog : Program} {w : World} {A : Around} {E : Value → Shared → Prop} {s : Shared}
theorem applied_rev {sl : Addr} {vl vu vs : Value} {n : Nat} {Q : Int × Int × Nat → Shared → Prop} (hs : s.heap.IsSliceOf sl vl vu vs) (pl : IsPart vl none) (pu : IsPart vu none) (ps : IsPart vs (some (-1)))
    (h : Q ((n : Int) - 1, -1, n) s) : wpAny (model prog w) A (Builtin.Slice.sliceApplied (.ref sl) (pure (n : Int))) Q E s := by
  obtain ⟨os, hos, hcs, hds⟩ := id hs
  unfold Builtin.Slice.sliceApplied Builtin.Slice.sliceFields
  refine wpAny_bind (wpAny_bind (wpAny_field hos hds (x := vl) rfl (wpAny_bind (wpAny_field hos hds (x := vu) rfl (wpAny_bind (wpAny_field hos hds (x := vs) rfl (wpAny_pure ?_)))))))
  refine wpAny_bind (HT.slicePart_ ps ?_)
  show wpAny _ _ (if ((-1 : Int) == 0) = true then _ else _) _ _ s
  rw [if_neg (by decide)]
  refine wpAny_bind (HT.slicePart_ pl (wpAny_bind (HT.slicePart_ pu (wpAny_bind (wpAny_pure ?_)))))
  have ea : Builtin.Slice.sliceAdjust none none (-1) (n : Int) = ((n : Int) - 1, -1) := by
    unfold Builtin.Slice.sliceAdjust
    have h1 : ((-1 : Int) < 0) := by omega
    simp only [h1, if_true]
  show wpAny _ _ (match Builtin.Slice.sliceAdjust none none (-1) (n : Int) with | (lo, hi) => pure (lo, (-1 : Int), Builtin.Slice.slicePlaces lo hi (-1))) _ _ s
  rw [ea]
  show wpAny _ _ (pure ((n : Int) - 1, (-1 : Int), Builtin.Slice.slicePlaces ((n : Int) - 1) (-1) (-1))) _ _ s
  have ep : Builtin.Slice.slicePlaces ((n : Int) - 1) (-1) (-1) = n := by
    unfold Builtin.Slice.slicePlaces
    have h1 : ¬ ((-1 : Int) > 0) := by omega
    simp only [h1, if_false]
    have e2 : (-(-1) : Int) = 1 := by omega
    rw [e2, Int.ediv_one]
    split <;> omega
  rw [ep]
  exact wpAny_pure h
theorem pick_rev (xs : Array Value) : ((List.range xs.size).filterMap fun (m : Nat) => xs[((xs.size : Int) - 1 + (m : Int) * (-1)).toNat]?).toArray = xs.toList.reverse.toArray := by
  have h := PySem.W.krv_pick xs
  unfold slicePick at h
  rw [PySem.W.krv_bounds] at h
  have h : ((sliceRange ((xs.size : Int) - 1) (-1) (-1)).filterMap (xs[·]?)).toArray = xs.toList.reverse.toArray := h
  rw [PySem.W.krv_sliceRange, List.filterMap_map] at h
  rw [← h]
  congr 1
  congr 1
  funext m
  show xs[((xs.size : Int) - 1 + (m : Int) * (-1)).toNat]? = xs[xs.size - 1 - m]?
  congr 1
  omega
theorem item_tuple_rev {t sl : Addr} {items : Array Value} {vl vu vs : Value} {Q : Value → Shared → Prop} (ht : IsTup s.heap t items) (hs : s.heap.IsSliceOf sl vl vu vs) (pl : IsPart vl none) (pu : IsPart vu none) (ps : IsPart vs (some (-1)))
    (h : Q (.ref s.heap.objs.size) { s with heap := s.heap.push { cls := .type "tuple", data := .seq items.toList.reverse.toArray } })
    (hsz : items.size ≤ sizeLine) : wpAny (model prog w) A (getItem (.ref t) (.ref sl)) Q E s := by
  have htake : sizeOk (.seq items.toList.reverse.toArray) := by
    show items.toList.reverse.toArray.size ≤ sizeLine
    rw [List.size_toArray, List.length_reverse, Array.length_toList]
    exact hsz
  obtain ⟨os, hos, hcs, hds⟩ := id hs
  have hTs : s.TypeIs (.ref sl) "slice" := ⟨os, hos, hcs⟩
  unfold getItem
  try with_reducible refine wpAny_holding ?_
  first | refine wpAny_bind (wpAny_pure ?_) | skip
  refine wpAny_bind (wpAny_sequenceKey ht.typeIs (by decide) ?_)
  refine wpAny_bind (wpAny_callSpecial?_slot (name := Str.ofString "__getitem__") ht.typeIs PyProof.Rows.slot_tuple_getitem
    (wpAny_call_entry PyProof.Rows.slot_tuple_getitem ht.typeIs entry_tuple_getitem ?_ (args_tuple_getitem _ _)))
  show wpAny _ _ (Builtin.Tuple.tupleItemsOf (.ref t) >>= _) _ _ s
  refine wpAny_bind (tupleItemsOf_ ht ?_)
  refine wpAny_bind (wpAny_typeOf hTs ?_)
  rw [if_pos (by decide)]
  refine wpAny_bind (applied_rev hs pl pu ps ?_)
  have hno : ¬ ((((items.size : Int) - 1) == 0 && (-1 : Int) == 1 && items.size == items.size) = true) := by
    rw [show ((-1 : Int) == 1) = false by decide, Bool.and_false, Bool.false_and]
    exact Bool.false_ne_true
  show wpAny _ _ (if (((items.size : Int) - 1) == 0 && (-1 : Int) == 1 && items.size == items.size) = true then _ else _) _ _ s
  rw [if_neg hno, pick_rev]
  first
    | exact wpAny_bind (m := Builtin.Tuple.tupleExact _) (wpAny_newObj_type (wpAny_pure ⟨_, rfl, wpAny_pure h⟩) htake)
    | exact wpAny_bind (m := Builtin.Tuple.tupleExact _) (wpAny_newObj_type (wpAny_bind (wpAny_pure (wpAny_pure ⟨_, rfl, wpAny_pure h⟩))) htake)
    | exact wpAny_bind (wpAny_bind (m := Builtin.Tuple.tupleExact _) (wpAny_newObj_type (wpAny_pure (wpAny_pure ⟨_, rfl, wpAny_pure h⟩)) htake))
    | exact wpAny_bind (wpAny_bind (m := Builtin.Tuple.tupleExact _) (wpAny_newObj_type (wpAny_pure ⟨_, rfl, wpAny_pure h⟩) htake))
end
def revD : D → Option D
  | .tup xs => some (.tup xs.reverse)
  | .lst xs => some (.lst xs.reverse)
  | _ => none
section
variable [FE]
variable {X : Cx} {π : Nat → Addr} {W : WX}
def rRevA (K : PySem.W.Frag) : V → Hp → VK → Prop := fun x H Q => ∃ a xs, x = .ref a ∧ ((SqL K H a xs ∧ ∀ p, H p = none → Q (.ref p) (upd H p (.lst xs.reverse))) ∨ (SqT K H a xs ∧ NewT H xs.reverse Q))
theorem pe_revA {e : Expr} {te : TE} {k : Nat} {p1 p2 p3 pos : Pos} (he : PE X e te) : PE X (.Subscript e (.Slice none none (some (.UnaryOp .USub (.Constant (.int 1) k p1) p2)) p3) pos) (tUn (rRevA X.K) te) := by
  refine ⟨fun pins s σ H Q I h => ?_⟩
  refine Subscript_ (thn (he.run pins s σ H _ I h) fun v s1 ⟨x, H1, I1, r1, q1⟩ => ?_)
  obtain ⟨a, xs, rfl, q⟩ := q1
  cases r1
  have hst : PO X (some (.UnaryOp .USub (.Constant (.int 1) k p1) p2)) (tPart (tUn (rU fun i => .int (-i)) (tC (.int 1)))) := po_some (pe_un un_neg pe_int)
  refine wpAny_Slice (thn (po_none.run pins s1 σ H1 (fun o H2 => o = none ∧ H2 = H1) I1 ⟨rfl, rfl⟩) fun vl s2 ⟨l, H2, I2, pl, el, e2⟩ => ?_)
  subst el e2
  refine thn (po_none.run pins s2 σ H2 (fun o H3 => o = none ∧ H3 = H2) I2 ⟨rfl, rfl⟩) fun vu s3 ⟨u, H3, I3, pu, eu, e3⟩ => ?_
  subst eu e3
  refine thn (hst.run pins s3 σ H3 (fun o H4 => o = some (-1) ∧ H4 = H3) I3 ⟨1, rfl, -1, rfl, rfl, rfl⟩) fun vs s4 ⟨o, H4, I4, ps, eo, e4⟩ => ?_
  subst eo e4
  have I5 : Inv X pins σ H4 { s4 with heap := s4.heap.push { cls := .type "slice", data := .fields #[vl, vu, vs] } } := I4.kept (t' := s4.toks) fun b ob q => Heap.get?_push_of_some _ q
  show wpAny (model X.prog X.w) X.A (subscriptTail e (.Slice none none (some (.UnaryOp .USub (.Constant (.int 1) k p1) p2)) p3) (.ref a) (.ref s4.heap.objs.size)) (EP X pins σ Q) X.xe { s4 with heap := s4.heap.push { cls := .type "slice", data := .fields #[vl, vu, vs] } }
  rcases q with ⟨hx, q⟩ | ⟨hx, q⟩
  · obtain ⟨its, r, ht, hz⟩ := I5.list hx
    have hlen := r.length
    refine tail_any (ops := [.ref a, .ref s4.heap.objs.size]) ht.isList.typeIs (PySem.slot_list_getitem.lookup) ?_ (by with_unfolding_all rfl)
    refine wpAny_getItem_list_slice ht.isList (Heap.IsSliceOf.new _ vl vu vs) pl pu ps (by decide) ?_ (by rw [List.size_toArray]; omega)
    rw [PySem.W.krv_pick]
    refine ⟨.ref _, _, I5.laid (t' := s4.toks) (o := .lst xs.reverse) (fun b ob q => Heap.get?_push_of_some _ q) (Nat.le_refl _) ?_, rfl, q _ (I5.hok.fresh (Nat.le_refl _))⟩
    exact ⟨by rw [List.length_reverse]; exact hz, _, 0, r.reverse, Heap.get?_push_size _ rfl⟩
  · obtain ⟨its, r, ht, hz⟩ := I5.tuple hx
    have hlen := r.length
    refine tail_any (ops := [.ref a, .ref s4.heap.objs.size]) ht.typeIs (PyProof.Rows.slot_tuple_getitem.lookup) ?_ (by with_unfolding_all rfl)
    refine item_tuple_rev ht (Heap.IsSliceOf.new _ vl vu vs) pl pu ps ?_ (by rw [List.size_toArray]; omega)
    exact newT_ep (tk := s4.toks) I5 (by rw [List.length_reverse]; exact hz) r.reverse (fun _ _ e => e) q
theorem q_rev {K : PySem.W.Frag} : Op1 K revD (rRevA K) := by
  intro F H x dx d Q s rx e k
  cases rx <;> first | (cases e; done) | skip
  · rename_i a xs ds h1 r1
    cases e
    refine ⟨a, xs, rfl, .inr ⟨sm_tup s h1, fun p o hp hd => ?_⟩⟩
    have g := Grw.newT (xs := xs.reverse) s hp hd
    exact k _ _ _ g (.tup (sqT_new upd_same) (Reps.mono g.f r1).reverse)
  · rename_i a xs ds h1 r1
    cases e
    refine ⟨a, xs, rfl, .inl ⟨SqL.of (s _ _ h1), fun p hp => ?_⟩⟩
    have g := Grw.newF (o := .lst xs.reverse) s hp
    exact k _ _ _ g (.lst upd_same (Reps.mono g.f r1).reverse)
theorem fe_rev {e : Expr} {f : EF} {k : Nat} {p1 p2 p3 pos : Pos} (he : PE X e (tE X.K π W f)) : PE X (.Subscript e (.Slice none none (some (.UnaryOp .USub (.Constant (.int 1) k p1) p2)) p3) pos) (tE X.K π W (op1 revD f)) :=
  PE.imp (pe_revA he) fun _ _ _ => rd_op1 q_rev
end

/-! ### subscripts -/
def ixD : D → D → Option D
  | .tup xs, .int i => atI xs i
  | .lst xs, .int i => atI xs i
  | .scr ns, .int i => (atI ns i).map D.int
  | .str z, .int i => if z.length ≤ 100000 then (atI z.cps.toList i).map fun c => D.str ⟨#[c]⟩ else none
  | _, _ => none
theorem Reps.atI {K : PySem.W.Frag} {F : Hp} {vs : List V} {ds : List D} {i : Int} {d : D} (r : Reps K F vs ds) (h : L2.atI ds i = some d) : ∃ v, L2.atI vs i = some v ∧ Rep K F v d := by
  unfold L2.atI at h ⊢
  rw [Reps.length r]
  cases e : ixN ds.length i with
  | none => rw [e] at h; cases h
  | some j =>
    rw [e] at h
    exact r.get h
theorem atI_map {α β : Type} (f : α → β) (xs : List α) (i : Int) : L2.atI (xs.map f) i = (L2.atI xs i).map f := by
  unfold L2.atI
  rw [List.length_map]
  cases ixN xs.length i with
  | none => rfl
  | some j =>
    show (xs.map f)[j]? = (xs[j]?).map f
    rw [List.getElem?_map]
variable [FE] in
theorem q_ix {K : PySem.W.Frag} : Op2 K ixD (rIx K) := by
  intro F H x y dx dy d Q s rx ry e k
  cases rx <;> cases ry <;> first | (cases e; done) | skip
  · rename_i z i
    simp only [ixD] at e
    split at e
    · rename_i hz
      cases h : L2.atI z.cps.toList i with
      | none => rw [h] at e; cases e
      | some c =>
        rw [h] at e
        cases e
        exact .inr (.inr ⟨z, i, c, rfl, rfl, le_line hz, h, k _ F H (Grw.refl s) (.str _)⟩)
    · cases e
  · rename_i a xs ds h1 r1 i
    obtain ⟨v, h2, r2⟩ := r1.atI e
    exact .inr (.inl ⟨a, xs, i, v, rfl, rfl, sm_tup s h1, h2, k _ F H (Grw.refl s) r2⟩)
  · rename_i a xs ds h1 r1 i
    obtain ⟨v, h2, r2⟩ := r1.atI e
    exact .inl ⟨a, xs, i, v, rfl, rfl, SqL.of (s _ _ h1), h2, k _ F H (Grw.refl s) r2⟩
  · rename_i a ns h1 i
    simp only [ixD] at e
    cases h : L2.atI ns i with
    | none => rw [h] at e; cases e
    | some c =>
      rw [h] at e
      cases e
      exact .inl ⟨a, ns.map V.int, i, .int c, rfl, rfl, Same.seq s h1, by rw [atI_map, h]; rfl, k _ F H (Grw.refl s) (.int c)⟩
section
variable [FE]
variable {X : Cx} {π : Nat → Addr} {W : WX} {a b : Expr} {pos p2 : Pos}
theorem fe_ix {f g : EF} (ha : PE X a (tE X.K π W f)) (hb : PE X b (tE X.K π W g)) (hs : PlainIx b) : PE X (.Subscript a b pos) (tE X.K π W (op2 ixD f g)) := PE.imp (pe_ix ix_seq ha hb hs) fun _ _ _ => rd_op2 q_ix

/-! ### slices -/
def relO : Rel (Option Int) (Option Int) := fun _ _ _ _ _ b c => b = c
abbrev tO (K : PySem.W.Frag) (π : Nat → Addr) (W : WX) (f : Rho → R (Option Int)) : TO := tG K π W relO f
def noO : Rho → R (Option Int) := fun ρ => .ok none ρ
def smO (f : EF) : Rho → R (Option Int) := fun ρ => (f ρ).bind fun x ρ => match x with
  | .int i => .ok (some i) ρ
  | _ => .stuck
theorem PO.imp {o : Option Expr} {t t' : TO} (h : PO X o t) (k : ∀ σ H Q, t' σ H Q → t σ H Q) : PO X o t' := ⟨fun pins s σ H Q I q => h.run pins s σ H Q I (k σ H Q q)⟩
theorem fo_none : PO X none (tO X.K π W noO) := PO.imp po_none fun σ H Q ⟨c, F, ρ, S, P⟩ => P none F H (Same.refl _) S rfl
theorem fo_some {f : EF} (ha : PE X a (tE X.K π W f)) : PO X (some a) (tO X.K π W (smO f)) := PO.imp (po_some ha) fun σ H Q ⟨c, F, ρ, S, P⟩ => by
  refine po_bind S P fun x F1 H1 ρ1 dx s1 S1 r1 P1 => ?_
  cases r1 <;> first | (exact P1.elim) | skip
  rename_i i
  exact ⟨i, rfl, P1 (some i) F1 H1 (Same.refl _) S1 rfl⟩
def cut {α : Type} (xs : List α) (lo hi : Option Int) : List α := (xs.drop (HT.sIx xs.length 0 lo)).take (HT.sIx xs.length xs.length hi - HT.sIx xs.length 0 lo)
def cutD (d : D) (lo hi : Option Int) : Option D := match d with
  | .tup xs => some (.tup (cut xs lo hi))
  | .lst xs => some (.lst (cut xs lo hi))
  | .scr ns => some (.lst ((cut ns lo hi).map D.int))
  | .str z => if z.length ≤ 100000 then some (.str (cutS z lo hi)) else none
  | _ => none
def slF (f : EF) (g h : Rho → R (Option Int)) : EF := fun ρ => (f ρ).bind fun x ρ => (g ρ).bind fun l ρ => (h ρ).bind fun u ρ => R.of (cutD x l u) ρ
theorem Reps.cut {K : PySem.W.Frag} {F : Hp} {vs : List V} {ds : List D} (r : Reps K F vs ds) (lo hi : Option Int) : Reps K F (cutV vs lo hi) (FL.cut ds lo hi) := by
  unfold cutV FL.cut
  rw [Reps.length r]
  exact (r.drop _).take _
theorem cut_map {α β : Type} (f : α → β) (xs : List α) (lo hi : Option Int) : cut (xs.map f) lo hi = (cut xs lo hi).map f := by
  unfold cut
  rw [List.length_map, List.map_take, List.map_drop]
theorem cut_whole {α : Type} {xs : List α} {lo hi : Option Int} (h : HT.sIx xs.length 0 lo = 0 ∧ HT.sIx xs.length xs.length hi = xs.length) : cut xs lo hi = xs := by
  unfold cut
  rw [h.1, h.2, List.drop_zero, Nat.sub_zero, List.take_length]
/-- t[lo:hi]: t itself where that is all of it, else a new one -/
def rSlN (K : PySem.W.Frag) : V → Option Int → Option Int → Hp → VK → Prop := fun x lo hi H Q => ∃ (a : Addr) (xs : List V), x = .ref a ∧ SqT K H a xs ∧
  if HT.sIx xs.length 0 lo = 0 ∧ HT.sIx xs.length xs.length hi = xs.length then Q (.ref a) H else NewT H (cutV xs lo hi) Q
theorem sl_tupN {X : Cx} : SlR X (rSlN X.K) := by
  rintro pins s σ H x v vl vu lo hi sl Q I rx hs pl pu ⟨a, xs, rfl, tx, q⟩
  cases rx
  obtain ⟨its, r, ht, hz⟩ := I.tuple tx
  have same : its.toArray.size = xs.length := List.size_toArray.trans r.length.symm
  refine ⟨"tuple", _, PyProof.Rows.slot_tuple_getitem.lookup, ht.typeIs, ?_⟩
  split at q
  · rename_i all
    exact getItem_tuple_whole ht hs pl pu (by rw [same]; exact all) ⟨.ref a, H, I, rfl, q⟩
  · rename_i part
    refine HT.getItem_tuple_cut ht hs pl pu (by rw [same]; exact part) ?_ (by rw [same]; exact hz)
    have rc := (r.drop (HT.sIx xs.length 0 lo)).take (HT.sIx xs.length xs.length hi - HT.sIx xs.length 0 lo)
    rw [same]
    exact newT_ep (tk := s.toks) I (Nat.le_trans (cutV_length xs lo hi) hz) rc (fun _ _ e => e) q
def rSlAll (K : PySem.W.Frag) : V → Option Int → Option Int → Hp → VK → Prop := fun x lo hi H Q => rSlN K x lo hi H Q ∨ rSlL K x lo hi H Q ∨ rSlS x lo hi H Q
theorem q_cut {K : PySem.W.Frag} {F H : Hp} {x : V} {dx d : D} {lo hi : Option Int} {Q : VK} (s : Same F H) (rx : Rep K F x dx) (e : cutD dx lo hi = some d) (k : ∀ v F' H', Grw F H F' H' → Rep K F' v d → Q v H') : rSlAll K x lo hi H Q := by
  cases rx <;> first | (cases e; done) | skip
  · rename_i z
    simp only [cutD] at e
    split at e
    · rename_i hz
      cases e
      exact .inr (.inr ⟨z, rfl, le_line hz, k _ F H (Grw.refl s) (.str _)⟩)
    · cases e
  · rename_i a xs ds h1 r1
    cases e
    refine .inl ⟨a, xs, rfl, sm_tup s h1, ?_⟩
    split
    · rename_i hw
      rw [Reps.length r1] at hw
      rw [cut_whole hw] at k
      exact k _ F H (Grw.refl s) (.tup h1 r1)
    · intro p o hp hd
      have g := Grw.newT (xs := cutV xs lo hi) s hp hd
      exact k _ _ _ g (.tup (sqT_new upd_same) ((Reps.mono g.f r1).cut lo hi))
  · rename_i a xs ds h1 r1
    cases e
    refine .inr (.inl ⟨a, xs, rfl, SqL.of (s _ _ h1), fun p hp => ?_⟩)
    have g := Grw.newF (o := .lst (cutV xs lo hi)) s hp
    exact k _ _ _ g (.lst upd_same ((Reps.mono g.f r1).cut lo hi))
  · rename_i a ns h1
    cases e
    refine .inr (.inl ⟨a, ns.map V.int, rfl, Same.seq s h1, fun p hp => ?_⟩)
    have g := Grw.newF (o := .lst (cutV (ns.map V.int) lo hi)) s hp
    refine k _ _ _ g (.lst upd_same ?_)
    rw [show cutV (ns.map V.int) lo hi = (cut ns lo hi).map V.int from cut_map V.int ns lo hi]
    exact Reps.ints _
theorem fe_sl {f : EF} {g h : Rho → R (Option Int)} {lo hi : Option Expr} (ha : PE X a (tE X.K π W f)) (hl : PO X lo (tO X.K π W g)) (hu : PO X hi (tO X.K π W h)) : PE X (.Subscript a (.Slice lo hi none p2) pos) (tE X.K π W (slF f g h)) :=
  PE.imp (pe_slice (r := rSlAll X.K) (sl_tupN.or (sl_list.or sl_str)) ha hl hu) fun σ H Q ⟨c, F, ρ, S, P⟩ => by
    refine po_bind S P fun x F1 H1 ρ1 dx s1 S1 r1 P1 => ?_
    refine po_bind S1 P1 fun l F2 H2 ρ2 dl s2 S2 r2 P2 => ?_
    refine po_bind S2 P2 fun u F3 H3 ρ3 du s3 S3 r3 P3 => ?_
    obtain ⟨d, e, P4⟩ := po_of P3
    cases r2
    cases r3
    exact q_cut S3.f (Rep.mono (s2.trans s3) r1) e fun v F4 H4 gr rv => P4 v F4 H4 gr.f (S3.grow gr) rv
end

/-! ### calls of built-ins -/
variable [FE] in
def OpC (K : PySem.W.Frag) (o : List D → Option D) (r : List V → Hp → VK → Prop) : Prop := ∀ {F H : Hp} {vs : List V} {ds : List D} {d : D} {Q : VK}, Same F H → Reps K F vs ds → o ds = some d → (∀ v F' H', Grw F H F' H' → Rep K F' v d → Q v H') → r vs H Q
def opC (o : List D → Option D) (g : Rho → R (List D)) : EF := fun ρ => (g ρ).bind fun xs ρ => R.of (o xs) ρ
section
variable [FE]
variable {X : Cx} {π : Nat → Addr} {W : WX} {e : Expr} {es : List Expr} {pos p : Pos} {x : Str} {id T : String} {r : List V → Hp → VK → Prop} {o : List D → Option D} {g : Rho → R (List D)}
theorem rd_opC {K : PySem.W.Frag} {σ : L2.St} {H : Hp} {Q : VK} (q : OpC K o r) (t : tE K π W (opC o g) σ H Q) : tCB r (tA K π W g) σ H Q := by
  obtain ⟨c, F, ρ, S, P⟩ := t
  refine po_bind S P fun vs F1 H1 ρ1 ds s1 S1 r1 P1 => ?_
  obtain ⟨d, e, P2⟩ := po_of P1
  exact q S1.f r1 e fun v F2 H2 gr rv => P2 v F2 H2 gr.f (S1.grow gr) rv
theorem fe_callB (q : OpC X.K o r) (hc : CallR X (.builtin id) r) (hg : Gl X x) (hm : X.mg x = none) (hv : bootBuiltins x = some (.builtin id)) (ha : PA X (e :: es) (tA X.K π W g)) (hn : x ≠ "__name__" := by decide) (hdb : (x == ("__debug__" : Str)) = false := by decide)
    (he : starEach (e :: es) X.env = (false, eval e X.env) :: starEach es X.env := by rfl) (hpl : (backTo pos (starEach es X.env)).any (·.1) = false := by rfl) : PE X (.Call (.Name x p) (e :: es) [] pos) (tE X.K π W (opC o g)) :=
  PE.imp (pe_callB hc hg hm hv ha hn hdb he hpl) fun _ _ _ => rd_opC q
theorem fe_callTy (q : OpC X.K o r) (hc : CallR X (.type T) r) (hg : Gl X x) (hm : X.mg x = none) (hv : bootBuiltins x = some (.type T)) (ha : PA X (e :: es) (tA X.K π W g)) (hn : x ≠ "__name__" := by decide) (hdb : (x == ("__debug__" : Str)) = false := by decide)
    (he : starEach (e :: es) X.env = (false, eval e X.env) :: starEach es X.env := by rfl) (hpl : (backTo pos (starEach es X.env)).any (·.1) = false := by rfl) : PE X (.Call (.Name x p) (e :: es) [] pos) (tE X.K π W (opC o g)) :=
  PE.imp (pe_callTy hc hg hm hv ha hn hdb he hpl) fun _ _ _ => rd_opC q
end
/-- len -/
def lenC : List D → Option D
  | [.str z] => if z.length ≤ 100000 then some (.int z.length) else none
  | [.tup xs] => some (.int xs.length)
  | [.lst xs] => some (.int xs.length)
  | [.scr ns] => some (.int ns.length)
  | _ => none
def rLenA (K : PySem.W.Frag) : List V → Hp → VK → Prop := fun xs H Q => ∃ x n, xs = [x] ∧ LenV K x H n ∧ Q (.int n) H
theorem Reps.one {K : PySem.W.Frag} {F : Hp} {vs : List V} {d : D} (r : Reps K F vs [d]) : ∃ v, vs = [v] ∧ Rep K F v d := by
  cases r with
  | cons h t =>
    cases t
    exact ⟨_, rfl, h⟩
theorem Reps.two {K : PySem.W.Frag} {F : Hp} {vs : List V} {d e : D} (r : Reps K F vs [d, e]) : ∃ v w, vs = [v, w] ∧ Rep K F v d ∧ Rep K F w e := by
  cases r with
  | cons h t =>
    obtain ⟨w, rfl, h2⟩ := Reps.one t
    exact ⟨_, _, rfl, h, h2⟩
section
variable [FE]
variable {X : Cx} {K : PySem.W.Frag}
theorem q_len : OpC K lenC (rLenA K) := by
  intro F H vs ds d Q s r e k
  unfold lenC at e
  split at e
  · rename_i z
    split at e
    · rename_i hz
      cases e
      obtain ⟨v, rfl, h⟩ := Reps.one r
      cases h
      exact ⟨.str z, z.length, rfl, ⟨le_line hz, rfl⟩, k _ F H (Grw.refl s) (.int _)⟩
    · cases e
  · cases e
    obtain ⟨v, rfl, h⟩ := Reps.one r
    cases h with
    | tup h1 r1 => exact ⟨_, _, rfl, .inr ⟨_, sm_tup s h1, rfl⟩, by rw [Reps.length r1]; exact k _ F H (Grw.refl s) (.int _)⟩
  · cases e
    obtain ⟨v, rfl, h⟩ := Reps.one r
    cases h with
    | lst h1 r1 => exact ⟨_, _, rfl, .inl ⟨_, SqL.of (s _ _ h1), rfl⟩, by rw [Reps.length r1]; exact k _ F H (Grw.refl s) (.int _)⟩
  · cases e
    obtain ⟨v, rfl, h⟩ := Reps.one r
    cases h with
    | scr h1 => exact ⟨_, _, rfl, .inl ⟨_, Same.seq s h1, rfl⟩, by rw [List.length_map]; exact k _ F H (Grw.refl s) (.int _)⟩
  · cases e
theorem o_len : CallR X (.builtin "len") (rLenA X.K) := call_len
def absC : List D → Option D
  | [.int i] => some (.int (if i < 0 then -i else i))
  | _ => none
theorem q_abs : OpC K absC (fun xs H Q => ∃ i, xs = [V.int i] ∧ Q (.int (if i < 0 then -i else i)) H) := by
  intro F H vs ds d Q s r e k
  unfold absC at e
  split at e
  · cases e
    obtain ⟨v, rfl, h⟩ := Reps.one r
    cases h
    exact ⟨_, rfl, k _ F H (Grw.refl s) (.int _)⟩
  · cases e
def intC : List D → Option D
  | [.int i] => some (.int i)
  | [.bl b] => some (.int (if b then 1 else 0))
  | _ => none
theorem q_int : OpC K intC (fun xs H Q => (∃ i, xs = [V.int i] ∧ Q (.int i) H) ∨ ∃ k, xs = [V.bl k] ∧ Q (.int (if k then 1 else 0)) H) := by
  intro F H vs ds d Q s r e k
  unfold intC at e
  split at e
  · cases e
    obtain ⟨v, rfl, h⟩ := Reps.one r
    cases h
    exact .inl ⟨_, rfl, k _ F H (Grw.refl s) (.int _)⟩
  · cases e
    obtain ⟨v, rfl, h⟩ := Reps.one r
    cases h
    exact .inr ⟨_, rfl, k _ F H (Grw.refl s) (.int _)⟩
  · cases e
def maxC : List D → Option D
  | [.int i, .int j] => some (.int (if j > i then j else i))
  | _ => none
theorem q_max : OpC K maxC (fun xs H Q => ∃ i j, xs = [V.int i, V.int j] ∧ Q (.int (if j > i then j else i)) H) := by
  intro F H vs ds d Q s r e k
  unfold maxC at e
  split at e
  · cases e
    obtain ⟨v, w, rfl, h, h2⟩ := Reps.two r
    cases h
    cases h2
    exact ⟨_, _, rfl, k _ F H (Grw.refl s) (.int _)⟩
  · cases e
def minC : List D → Option D
  | [.int i, .int j] => some (.int (if j < i then j else i))
  | _ => none
theorem q_min : OpC K minC (fun xs H Q => ∃ i j, xs = [V.int i, V.int j] ∧ Q (.int (if j < i then j else i)) H) := by
  intro F H vs ds d Q s r e k
  unfold minC at e
  split at e
  · cases e
    obtain ⟨v, w, rfl, h, h2⟩ := Reps.two r
    cases h
    cases h2
    exact ⟨_, _, rfl, k _ F H (Grw.refl s) (.int _)⟩
  · cases e
/-- tuple(x) -/
def tupC : List D → Option D
  | [.lst xs] => some (.tup xs)
  | [.tup xs] => some (.tup xs)
  | _ => none
def rTupN (K : PySem.W.Frag) : List V → Hp → VK → Prop := fun xs H Q => ∃ (p : Addr) (ys : List V), xs = [V.ref p] ∧ ((SqL K H p ys ∧ NewT H ys Q) ∨ (SqT K H p ys ∧ Q (.ref p) H))
theorem call_tupN {X : Cx} : CallR X (.type "tuple") (rTupN X.K) := by
  rintro pins s σ H xs us Q I r ⟨p, ys, rfl, q⟩
  obtain ⟨_, rfl, rx⟩ := vals1 r
  cases rx
  rcases q with ⟨sq, n⟩ | ⟨sq, q⟩
  · obtain ⟨its, rv, pl, hz⟩ := I.list sq
    have same := rv.length
    exact call_tuple_list pl.isList (fun h' keep => newT_ep (tk := s.toks) I hz rv keep n) (by rw [List.size_toArray]; omega)
  · obtain ⟨its, _, pl, _⟩ := I.tuple sq
    exact call_tuple_same pl ⟨.ref p, H, I, rfl, q⟩
theorem q_tup : OpC K tupC (rTupN K) := by
  intro F H vs ds d Q s r e k
  unfold tupC at e
  split at e
  · cases e
    obtain ⟨v, rfl, h⟩ := Reps.one r
    cases h with
    | lst h1 r1 =>
      refine ⟨_, _, rfl, .inl ⟨SqL.of (s _ _ h1), fun p o hp hd => ?_⟩⟩
      exact k _ _ _ (Grw.newT s hp hd) (.tup (sqT_new upd_same) (Reps.mono (sm_new (Same.free s hp)) r1))
  · cases e
    obtain ⟨v, rfl, h⟩ := Reps.one r
    cases h with
    | tup h1 r1 => exact ⟨_, _, rfl, .inr ⟨sm_tup s h1, k _ F H (Grw.refl s) (.tup h1 r1)⟩⟩
  · cases e
/-- list(x), as data -/
def lstC : List D → Option D
  | [.lst xs] => some (.lst xs)
  | [.tup xs] => some (.lst xs)
  | [.scr ns] => some (.lst (ns.map D.int))
  | _ => none
theorem q_lst : OpC K lstC (fun xs H Q => ∃ p ys, xs = [V.ref p] ∧ (SqL K H p ys ∨ SqT K H p ys) ∧ ∀ l, H l = none → Q (.ref l) (upd H l (.lst ys))) := by
  intro F H vs ds d Q s r e k
  unfold lstC at e
  split at e
  · cases e
    obtain ⟨v, rfl, h⟩ := Reps.one r
    cases h with
    | lst h1 r1 =>
      refine ⟨_, _, rfl, .inl (SqL.of (s _ _ h1)), fun p hp => ?_⟩
      exact k _ _ _ (Grw.newF s hp) (.lst upd_same (Reps.mono (sm_new (Same.free s hp)) r1))
  · cases e
    obtain ⟨v, rfl, h⟩ := Reps.one r
    cases h with
    | tup h1 r1 =>
      refine ⟨_, _, rfl, .inr (sm_tup s h1), fun p hp => ?_⟩
      exact k _ _ _ (Grw.newF s hp) (.lst upd_same (Reps.mono (sm_new (Same.free s hp)) r1))
  · cases e
    obtain ⟨v, rfl, h⟩ := Reps.one r
    cases h with
    | scr h1 =>
      refine ⟨_, _, rfl, .inl (Same.seq s h1), fun p hp => ?_⟩
      exact k _ _ _ (Grw.newF s hp) (.lst upd_same (Reps.ints _))
  · cases e
/-- all, any of a list of truths -/
def bools : List D → Option (List Bool)
  | [] => some []
  | .bl b :: r => (bools r).map (b :: ·)
  | _ :: _ => none
theorem bools_rep {F : Hp} : ∀ {vs : List V} {ds : List D} {bs : List Bool}, Reps K F vs ds → bools ds = some bs → vs = bs.map V.bl
  | _, [], _, .nil, e => by cases e; rfl
  | _, .bl b :: ds, bs, .cons h r, e => by
    cases h
    simp only [bools] at e
    cases h : bools ds with
    | none => rw [h] at e; cases e
    | some l =>
      rw [h] at e
      cases e
      rw [bools_rep r h]
      rfl
  | _, .non :: _, _, _, e => by cases e
  | _, .int _ :: _, _, _, e => by cases e
  | _, .str _ :: _, _, _, e => by cases e
  | _, .tup _ :: _, _, _, e => by cases e
  | _, .lst _ :: _, _, _, e => by cases e
  | _, .scr _ :: _, _, _, e => by cases e
  | _, .fn _ :: _, _, _, e => by cases e
  | _, .dct _ :: _, _, _, e => by cases e
  | _, .exc _ _ :: _, _, _, e => by cases e
  | _, .clo _ _ :: _, _, _, e => by cases e
  | _, .dcf _ :: _, _, _, e => by cases e
  | _, .err _ _ _ :: _, _, _, e => by cases e
  | _, .dl1 _ _ _ :: _, _, _, e => by cases e
def allC : List D → Option D
  | [.lst xs] => (bools xs).map fun bs => .bl (bs.all id)
  | _ => none
theorem q_all : OpC K allC (rAll K) := by
  intro F H vs ds d Q s r e k
  unfold allC at e
  split at e
  · rename_i xs
    cases hb : bools xs with
    | none => rw [hb] at e; cases e
    | some bs =>
      rw [hb] at e
      cases e
      obtain ⟨v, rfl, h⟩ := Reps.one r
      cases h with
      | lst h1 r1 =>
        rw [bools_rep r1 hb] at h1
        exact ⟨_, bs, rfl, SqL.of (s _ _ h1), k _ F H (Grw.refl s) (.bl _)⟩
  · cases e
/-- divmod -/
def dmC : List D → Option D
  | [.int a, .int b] => if 0 < b ∧ b < 1073741824 then some (.tup [.int (a / b), .int (a % b)]) else none
  | _ => none
def rDivN : List V → Hp → VK → Prop := fun xs H Q => ∃ (i j : Int), xs = [V.int i, V.int j] ∧ CDiv i j ∧ NewT H [.int (i / j), .int (i % j)] Q
theorem call_divN {X : Cx} : CallR X (.builtin "divmod") rDivN := by
  rintro pins s σ H xs us Q I r ⟨i, j, rfl, ⟨h1, h2⟩, n⟩
  obtain ⟨_, _, rfl, ⟨t, rfl⟩, ⟨t', rfl⟩⟩ := vals2 r
  have pos : 0 ≤ j := by omega
  refine divmod_int (by omega) ?_ (.inl (PyProof.noPylong_small (by omega)))
  rw [Int.fdiv_eq_ediv_of_nonneg i pos, Int.fmod_eq_emod_of_nonneg i pos]
  exact newT_ep (tk := s.toks + 1 + 1) (xs := [.int (i / j), .int (i % j)]) (its := [.int (i / j) s.toks, .int (i % j) (s.toks + 1)]) I (show 2 ≤ sizeLine by decide) (.cons ⟨_, rfl⟩ (.cons ⟨_, rfl⟩ .nil)) (fun _ _ e => e) n
theorem q_dm : OpC K dmC rDivN := by
  intro F H vs ds d Q s r e k
  unfold dmC at e
  split at e
  · split at e
    · rename_i hz
      cases e
      obtain ⟨v, w, rfl, h, h2⟩ := Reps.two r
      cases h
      cases h2
      refine ⟨_, _, rfl, hz, fun p o hp hd => ?_⟩
      exact k _ _ _ (Grw.newT s hp hd) (.tup (sqT_new upd_same) (.cons (.int _) (.cons (.int _) .nil)))
    · cases e
  · cases e
end
end FL
/-! FL5: statements, loops. -/
namespace FL
open PySem PySem.Spec PyProof.Rows L2

inductive Res where
  | v (d : D)
  | m (m : M)
inductive Fl where
  | nx
  | rt (r : Res)
  | bk
  | ct
abbrev SF := Rho → R Fl
section
variable [FE]
variable (K : PySem.W.Frag) (π : Nat → Addr) (W : WX)
def relR (c : Cfg) (F H : Hp) (σ : L2.St) (ρ : Rho) (v : V) : Res → Prop
  | .v d => Rep K F v d
  | .m m => relM K c F H σ ρ v m
def PoS (c : Cfg) (F : Hp) (σ : L2.St) (D : Ends) : R Fl → Prop
  | .ok .nx ρ' => ∀ σ' F' H', Same F F' → Sta K π c F' H' σ' ρ' → D.nx σ' H'
  | .ok (.rt r) ρ' => ∀ v σ' F' H', Same F F' → Sta K π c F' H' σ' ρ' → relR K c F' H' σ' ρ' v r → D.rt v H'
  | .ok .bk ρ' => ∀ σ' F' H', Same F F' → Sta K π c F' H' σ' ρ' → D.bk σ' H'
  | .ok .ct ρ' => ∀ σ' F' H', Same F F' → Sta K π c F' H' σ' ρ' → D.ct σ' H'
  | .exc C fs ρ' => ∀ dd fsV σ' F' H', Same F F' → Sta K π c F' H' σ' ρ' → XD F' dd fsV → fsV.map (·.1) = fs.map (·.1) → Reps K F' (fsV.map (·.2)) (fs.map (·.2)) → W (.ref (FE.cl C)) dd σ' H'
  | .stuck => False
def tS (f : SF) : TS := fun D σ H => ∃ c F ρ, c.ow = [] ∧ Sta K π c F H σ ρ ∧ PoS K π W c F σ D (f ρ)
/-- a target -/
abbrev GF := D → Rho → Option Rho
def Off (ns : List Nat) (σ σ' : L2.St) : Prop := σ'.length = σ.length ∧ ∀ j, j ∉ ns → σ'[j]? = σ[j]?
def PoG (ns : List Nat) (c : Cfg) (F : Hp) (σ : L2.St) (Q : L2.St → Hp → Prop) : Option Rho → Prop
  | some ρ' => ∀ σ' F' H', Same F F' → Off ns σ σ' → Sta K π c F' H' σ' ρ' → Q σ' H'
  | none => False
def tGt (ns : List Nat) (g : GF) : TG := fun v σ H Q => ∃ c F ρ d, Sta K π c F H σ ρ ∧ Rep K F v d ∧ PoG K π ns c F σ Q (g d ρ)
abbrev GFs := List D → Rho → Option Rho
def tGts (ns : List Nat) (g : GFs) : TGs := fun vs σ H Q => ∃ c F ρ ds, Sta K π c F H σ ρ ∧ Reps K F vs ds ∧ PoG K π ns c F σ Q (g ds ρ)
end
section
variable [FE]
variable {K : PySem.W.Frag} {π : Nat → Addr} {W : WX} {c : Cfg} {F F' H H' : Hp} {σ σ' : L2.St} {ρ ρ' : Rho} {D : Ends}
theorem PoS.mono (s : Same F F') : ∀ {r : R Fl}, PoS K π W c F σ D r → PoS K π W c F' σ' D r
  | .ok .nx ρ', h => fun σ2 F2 H2 s2 => h σ2 F2 H2 (s.trans s2)
  | .ok (.rt r) ρ', h => fun v σ2 F2 H2 s2 => h v σ2 F2 H2 (s.trans s2)
  | .ok .bk ρ', h => fun σ2 F2 H2 s2 => h σ2 F2 H2 (s.trans s2)
  | .ok .ct ρ', h => fun σ2 F2 H2 s2 => h σ2 F2 H2 (s.trans s2)
  | .exc C fs ρ', h => fun dd fsV σ2 F2 H2 s2 => h dd fsV σ2 F2 H2 (s.trans s2)
  | .stuck, h => h
/-- an expression, then what follows -/
theorem pos_bind {α β : Type} {rel : Rel β α} {f : Rho → R α} {k : α → Rho → R Fl} {Q1 : β → Hp → Prop} (S : Sta K π c F H σ ρ) (h : PoS K π W c F σ D ((f ρ).bind k))
    (cont : ∀ v F' H' ρ' a, Same F F' → Sta K π c F' H' σ ρ' → rel c F' H' σ ρ' v a → PoS K π W c F' σ D (k a ρ') → Q1 v H') : tG K π W rel f σ H Q1 := by
  refine ⟨c, F, ρ, S, ?_⟩
  cases e : f ρ with
  | ok a ρ' =>
    rw [e] at h
    have h : PoS K π W c F σ D (k a ρ') := h
    exact fun v F2 H2 s2 S2 r => cont v F2 H2 ρ' a s2 S2 r (h.mono s2)
  | exc C fs ρ' =>
    rw [e] at h
    exact fun dd fsV F2 H2 s2 S2 => h dd fsV σ F2 H2 s2 S2
  | stuck =>
    rw [e] at h
    exact h
theorem Off.refl {ns : List Nat} (σ : L2.St) : Off ns σ σ := ⟨rfl, fun _ _ => rfl⟩
theorem Off.trans {ns ms : List Nat} {σ1 σ2 σ3 : L2.St} (a : Off ns σ1 σ2) (b : Off ms σ2 σ3) : Off (ns ++ ms) σ1 σ3 := ⟨b.1.trans a.1, fun j hj => (b.2 j fun z => hj (List.mem_append_right _ z)).trans (a.2 j fun z => hj (List.mem_append_left _ z))⟩
theorem Off.set {i : Nat} {σ : L2.St} {x : Option V} : Off [i] σ (σ.set i x) := ⟨by simp, fun j hj => List.getElem?_set_ne (fun z => hj (by simp [z]))⟩
theorem PoG.mono {ns : List Nat} {Q : L2.St → Hp → Prop} (s : Same F F') : ∀ {r : Option Rho}, PoG K π ns c F σ Q r → PoG K π ns c F' σ Q r
  | some ρ', h => fun σ2 F2 H2 s2 => h σ2 F2 H2 (s.trans s2)
  | none, h => h.elim
end

section
variable [FE]
variable {X : Cx} {π : Nat → Addr} {W : WX} {e a b : Expr} {pos : Pos} {st : Stmt} {rest : List Stmt}
theorem PS.imp {t t' : TS} (h : PS X st t) (k : ∀ D σ H, t' D σ H → t D σ H) : PS X st t' := ⟨fun pins s σ H D I q => h.run pins s σ H D I (k D σ H q)⟩
theorem PSs.imp {t t' : TS} (h : PSs X rest t) (k : ∀ D σ H, t' D σ H → t D σ H) : PSs X rest t' := ⟨fun pins s σ H D I q => h.run pins s σ H D I (k D σ H q)⟩
theorem PG.imp {t t' : TG} (h : PG X e t) (k : ∀ v σ H Q, t' v σ H Q → t v σ H Q) : PG X e t' := ⟨fun pins s σ H v u Q I r q => h.run pins s σ H v u Q I r (k v σ H Q q)⟩
theorem PGs.imp {es : List Expr} {t t' : TGs} (h : PGs X es t) (k : ∀ v σ H Q, t' v σ H Q → t v σ H Q) : PGs X es t' := ⟨fun pins s σ H v u Q I r q => h.run pins s σ H v u Q I r (k v σ H Q q)⟩

/-! ### blocks -/
def nxS : SF := fun ρ => .ok .nx ρ
def seqS (f g : SF) : SF := fun ρ => (f ρ).bind fun fl ρ => match fl with
  | .nx => g ρ
  | o => .ok o ρ
theorem fss_nil : PSs X [] (tS X.K π W nxS) := PSs.imp pss_nil fun D σ H ⟨c, F, ρ, h0, S, P⟩ => P σ F H (Same.refl _) S
theorem fss_cons {f g : SF} (h1 : PS X st (tS X.K π W f)) (h2 : PSs X rest (tS X.K π W g)) : PSs X (st :: rest) (tS X.K π W (seqS f g)) :=
  PSs.imp (pss_cons h1 h2) fun D σ H ⟨c, F, ρ, h0, S, P⟩ => by
    refine ⟨c, F, ρ, h0, S, ?_⟩
    unfold seqS at P
    cases ef : f ρ with
    | stuck => rw [ef] at P; exact P
    | exc C fs ρ' => rw [ef] at P; exact P
    | ok fl ρ' =>
      rw [ef] at P
      cases fl with
      | nx => exact fun σ2 F2 H2 s2 S2 => ⟨c, F2, ρ', h0, S2, PoS.mono s2 P⟩
      | rt r => exact P
      | bk => exact P
      | ct => exact P
theorem fss_one {f : SF} (h1 : PS X st (tS X.K π W f)) : PSs X [st] (tS X.K π W f) := pss_one h1
/-- a slot's own list becomes data -/
def frzAt (i : Nat) (ρ : Rho) : Option Rho := match ρ[i]? with
  | some (.own (.lst ds)) => some (ρ.set i (.val (.lst ds)))
  | some (.own (.dct ds)) => some (ρ.set i (.val (.dct ds)))
  | _ => none
def frzS (i : Nat) (g : SF) : SF := fun ρ => match frzAt i ρ with
  | some ρ' => g ρ'
  | none => .stuck
theorem fss_frz {i : Nat} {g : SF} (h : PSs X rest (tS X.K π W g)) : PSs X rest (tS X.K π W (frzS i g)) :=
  PSs.imp h fun D σ H ⟨c, F, ρ, h0, S, P⟩ => by
    unfold frzS frzAt at P
    cases e : ρ[i]? with
    | none => rw [e] at P; exact P.elim
    | some s =>
      rw [e] at P
      cases s with
      | lk C f jj => exact P.elim
      | own m =>
        cases m with
        | lst ds =>
          obtain ⟨F', _, sm, S'⟩ := S.freeze e h0
          exact ⟨c, F', _, h0, S', PoS.mono sm P⟩
        | dct ds =>
          obtain ⟨F', _, sm, S'⟩ := S.freezeD e h0
          exact ⟨c, F', _, h0, S', PoS.mono sm P⟩
        | ins _ _ => exact P.elim
        | dtu _ => exact P.elim
      | no => exact P.elim
      | val _ => exact P.elim
      | io _ => exact P.elim
/-- some slots are forgotten -/
def wipeR (ks : List Nat) (ρ : Rho) : Rho := ks.foldl (fun ρ i => ρ.set i .no) ρ
theorem Sta.wipe {K : PySem.W.Frag} {c : Cfg} {F H : Hp} {σ : L2.St} : ∀ {ks : List Nat} {ρ : Rho}, Sta K π c F H σ ρ → Sta K π c F H σ (wipeR ks ρ)
  | [], _, S => S
  | k :: ks, _, S => Sta.wipe (ks := ks) (S.forget k)

/-! ### small statements -/
def exS (f : EF) : SF := fun ρ => (f ρ).bind fun _ ρ => .ok .nx ρ
def retS (f : EF) : SF := fun ρ => (f ρ).bind fun d ρ => .ok (.rt (.v d)) ρ
theorem fs_ret {f : EF} (he : PE X e (tE X.K π W f)) : PS X (.Return (some e) pos) (tS X.K π W (retS f)) :=
  PS.imp (ps_ret he) fun D σ H ⟨c, F, ρ, h0, S, P⟩ => by
    refine pos_bind S P fun v F1 H1 ρ1 d s1 S1 r1 P1 => ?_
    exact P1 v σ F1 H1 (Same.refl _) S1 r1
def retM (f : Rho → R M) : SF := fun ρ => (f ρ).bind fun d ρ => .ok (.rt (.m d)) ρ
theorem fs_retM {f : Rho → R M} (he : PE X e (tM X.K π W f)) : PS X (.Return (some e) pos) (tS X.K π W (retM f)) :=
  PS.imp (ps_ret he) fun D σ H ⟨c, F, ρ, h0, S, P⟩ => by
    refine pos_bind S P fun v F1 H1 ρ1 d s1 S1 r1 P1 => ?_
    exact P1 v σ F1 H1 (Same.refl _) S1 r1
def ifS (t : TF) (f g : SF) : SF := fun ρ => (t ρ).bind fun b ρ => if b = true then f ρ else g ρ
theorem fs_if {c : Expr} {xs ys : List Stmt} {t : TF} {f g : SF} (hc : PT X c (tT X.K π W t)) (ha : PSs X xs (tS X.K π W f)) (hb : PSs X ys (tS X.K π W g)) : PS X (.If c xs ys pos) (tS X.K π W (ifS t f g)) :=
  PS.imp (ps_if hc ha hb) fun D σ H ⟨c, F, ρ, h0, S, P⟩ => by
    refine pos_bind S P fun b F1 H1 ρ1 d s1 S1 r1 P1 => ?_
    cases r1
    cases b with
    | true =>
      rw [if_pos rfl] at P1 ⊢
      exact ⟨c, F1, ρ1, h0, S1, P1⟩
    | false =>
      rw [if_neg Bool.false_ne_true] at P1 ⊢
      exact ⟨c, F1, ρ1, h0, S1, P1⟩
def bkS : SF := fun ρ => .ok .bk ρ
def ctS : SF := fun ρ => .ok .ct ρ
/-! ### names stored -/
def setR (i : Nat) (s : Slot) (ρ : Rho) : Option Rho := if i < ρ.length then some (ρ.set i s) else none
def nxO : Option Rho → R Fl
  | some ρ => .ok .nx ρ
  | none => .stuck
def setS (i : Nat) (f : EF) : SF := fun ρ => (f ρ).bind fun d ρ => nxO (setR i (.val d) ρ)
theorem fs_set {i : Nat} {x : Str} {f : EF} {pos' : Pos} (hN : X.N.Nodup) (hi : X.N[i]? = some x) (hx : Loc X.env.scope x) (he : PE X e (tE X.K π W f)) (hs : swapsWith e (some (.Name x pos')) pos.line X.env = pure false := by rfl)
    (hf : X.fn x = true ∨ X.env.scope.names.lookup x = some .local := by first | exact .inl rfl | exact .inr rfl | assumption) : PS X (.Assign [.Name x pos'] e pos) (tS X.K π W (setS i f)) :=
  PS.imp (ps_set hN hi hx he hs hf) fun D σ H ⟨c, F, ρ, h0, S, P⟩ => by
    refine pos_bind S P fun v F1 H1 ρ1 d s1 S1 r1 P1 => ?_
    unfold setR at P1
    split at P1
    · rename_i hl
      exact P1 _ F1 H1 (Same.refl _) (S1.set hl r1)
    · exact P1.elim
def setM (i : Nat) (f : Rho → R M) : SF := fun ρ => (f ρ).bind fun m ρ => nxO (setR i (.own m) ρ)
theorem fs_setM {i : Nat} {x : Str} {f : Rho → R M} {pos' : Pos} (hN : X.N.Nodup) (hi : X.N[i]? = some x) (hx : Loc X.env.scope x) (he : PE X e (tM X.K π W f)) (hs : swapsWith e (some (.Name x pos')) pos.line X.env = pure false := by rfl)
    (hf : X.fn x = true ∨ X.env.scope.names.lookup x = some .local := by first | exact .inl rfl | exact .inr rfl | assumption) : PS X (.Assign [.Name x pos'] e pos) (tS X.K π W (setM i f)) :=
  PS.imp (ps_set hN hi hx he hs hf) fun D σ H ⟨c, F, ρ, h0, S, P⟩ => by
    refine pos_bind S P fun v F1 H1 ρ1 m s1 S1 r1 P1 => ?_
    obtain ⟨p, rfl, f1, f2, f3, hm⟩ := r1
    unfold setR at P1
    split at P1
    · rename_i hl
      exact P1 _ F1 H1 (Same.refl _) (S1.setOwn hl f1 (.inl f2) hm f3)
    · exact P1.elim
/-- targets -/
def nmG (i : Nat) : GF := fun d ρ => setR i (.val d) ρ
theorem fg_name {i : Nat} {x : Str} (hN : X.N.Nodup) (hi : X.N[i]? = some x) (hx : Loc X.env.scope x) (hf : X.fn x = true ∨ X.env.scope.names.lookup x = some .local := by first | exact .inl rfl | exact .inr rfl | assumption) : PG X (.Name x pos) (tGt X.K π [i] (nmG i)) :=
  PG.imp (pg_name hN hi hx hf) fun v σ H Q ⟨c, F, ρ, d, S, r, P⟩ => by
    unfold nmG setR at P
    split at P
    · rename_i hl
      exact P _ F H (Same.refl _) Off.set (S.set hl r)
    · exact P.elim
def nilG : GFs := fun ds ρ => match ds with
  | [] => some ρ
  | _ => none
def cnsG (g : GF) (h : GFs) : GFs := fun ds ρ => match ds with
  | d :: ds => (g d ρ).bind fun ρ => h ds ρ
  | [] => none
theorem fgs_nil : PGs X [] (tGts X.K π [] nilG) := PGs.imp pgs_nil fun vs σ H Q ⟨c, F, ρ, ds, S, r, P⟩ => by
  cases r with
  | nil => exact ⟨rfl, P σ F H (Same.refl _) (Off.refl _) S⟩
  | cons _ _ => exact P.elim
theorem fgs_cons {es : List Expr} {g : GF} {h : GFs} {ns ms : List Nat} (h1 : PG X e (tGt X.K π ns g)) (h2 : PGs X es (tGts X.K π ms h)) (hs : (assignEach (e :: es) X.env).map (·.2) = assign e X.env :: (assignEach es X.env).map (·.2) := by rfl) : PGs X (e :: es) (tGts X.K π (ns ++ ms) (cnsG g h)) :=
  PGs.imp (pgs_cons h1 h2 hs) fun vs σ H Q ⟨c, F, ρ, ds, S, r, P⟩ => by
    cases r with
    | nil => exact P.elim
    | @cons v vs d ds rv rs =>
      refine ⟨v, vs, rfl, c, F, ρ, d, S, rv, ?_⟩
      have P : PoG X.K π (ns ++ ms) c F σ Q ((g d ρ).bind fun ρ => h ds ρ) := P
      cases eg : g d ρ with
      | some ρ' =>
        rw [eg] at P
        have P : PoG X.K π (ns ++ ms) c F σ Q (h ds ρ') := P
        refine fun σ2 F2 H2 s2 of2 S2 => ⟨c, F2, ρ', ds, S2, rs.mono s2, ?_⟩
        cases eh : h ds ρ' with
        | none => rw [eh] at P; exact P
        | some ρ2 =>
          rw [eh] at P
          exact fun σ3 F3 H3 s3 of3 S3 => P σ3 F3 H3 (s2.trans s3) (of2.trans of3) S3
      | none => rw [eg] at P; exact P
def tupG (n : Nat) (h : GFs) : GF := fun d ρ => match d with
  | .tup ds => if ds.length = n then h ds ρ else none
  | _ => none
theorem fg_tup {es : List Expr} {k : Nat} {h : GFs} {n : Nat} (hc : X.calm = true) {ns : List Nat} (hh : PGs X es (tGts X.K π ns h)) (hn : (assignEach es X.env).length = n := by rfl) (hst : (assignEach es X.env).findIdx? (·.1) = none := by rfl) : PG X (.Tuple es k pos) (tGt X.K π ns (tupG n h)) :=
  PG.imp (pg_tup hc hh hn hst) fun v σ H Q ⟨c, F, ρ, d, S, r, P⟩ => by
    cases r with
    | @tup a xs ds h1 r1 =>
      have P : PoG X.K π ns c F σ Q (if ds.length = n then h ds ρ else none) := P
      split at P
      · rename_i hl
        exact ⟨a, xs, rfl, sm_tup S.f h1, by rw [Reps.length r1]; exact hl, c, F, ρ, ds, S, r1, P⟩
      · exact P.elim
    | _ => exact P.elim
def asgS (f : EF) (g : GF) : SF := fun ρ => (f ρ).bind fun d ρ => nxO (g d ρ)
theorem fs_asg {tg : Expr} {f : EF} {g : GF} {ns : List Nat} (he : PE X e (tE X.K π W f)) (hg : PG X tg (tGt X.K π ns g)) (hs : swapsWithSole [tg] e pos.line X.env = pure false := by rfl) (hw : swappedStores [tg] e X.env = pure none := by rfl)
    (h1 : (assignEach [tg] X.env).map (·.2) = [assign tg X.env] := by rfl) : PS X (.Assign [tg] e pos) (tS X.K π W (asgS f g)) :=
  PS.imp (ps_asg he hg hs hw h1) fun D σ H ⟨c, F, ρ, h0, S, P⟩ => by
    refine pos_bind S P fun v F1 H1 ρ1 d s1 S1 r1 P1 => ?_
    refine ⟨c, F1, ρ1, d, S1, r1, ?_⟩
    cases eg : g d ρ1 with
    | some ρ' =>
      rw [eg] at P1
      exact fun σ2 F2 H2 s2 _ S2 => P1 σ2 F2 H2 s2 S2
    | none => rw [eg] at P1; exact P1
/-- a, b = x, y -/
def parS (i j : Nat) (g : Rho → R (List D)) : SF := fun ρ => (g ρ).bind fun ds ρ => nxO (match ds with
  | [x, y] => (setR i (.val x) ρ).bind fun ρ => setR j (.val y) ρ
  | _ => none)
theorem fs_par {i j : Nat} {x y : Str} {px py pt : Pos} {kt k2 pt2} {g : Rho → R (List D)} (hc : X.calm = true) (hN : X.N.Nodup) (hi : X.N[i]? = some x) (hj : X.N[j]? = some y) (hij : i ≠ j)
    (hx : X.env.scope.names.lookup x = some .local) (hy : X.env.scope.names.lookup y = some .local) (ha : PA X [a, b] (tA X.K π W g))
    (hw : swappedStores [.Tuple [.Name x px, .Name y py] kt pt] (.Tuple [a, b] k2 pt2) X.env = pure (some [x, y]))
    (hs : swapsWithSole [.Tuple [.Name x px, .Name y py] kt pt] (.Tuple [a, b] k2 pt2) pos.line X.env = pure false := by rfl) :
    PS X (.Assign [.Tuple [.Name x px, .Name y py] kt pt] (.Tuple [a, b] k2 pt2) pos) (tS X.K π W (parS i j g)) :=
  PS.imp (ps_par hc hN hi hj hij hx hy ha hw hs) fun D σ H ⟨c, F, ρ, h0, S, P⟩ => by
    refine pos_bind S P fun vs F1 H1 ρ1 ds s1 S1 r1 P1 => ?_
    split at P1
    · obtain ⟨v, w, rfl, r2, r3⟩ := Reps.two r1
      unfold setR at P1
      split at P1
      · rename_i hl
        have P1 : PoS X.K π W c F1 σ D (nxO (if j < (ρ1.set i (.val _)).length then some _ else none)) := P1
        split at P1
        · rename_i hl2
          exact ⟨v, w, rfl, P1 _ F1 H1 (Same.refl _) ((S1.set hl r2).set hl2 r3)⟩
        · exact P1.elim
      · exact P1.elim
    · exact P1.elim
def par3S (i j l : Nat) (g : Rho → R (List D)) : SF := fun ρ => (g ρ).bind fun ds ρ => nxO (match ds with
  | [x, y, z] => (setR i (.val x) ρ).bind fun ρ => (setR j (.val y) ρ).bind fun ρ => setR l (.val z) ρ
  | _ => none)
theorem Reps.three {K : PySem.W.Frag} {F : Hp} {vs : List V} {d e f : D} (r : Reps K F vs [d, e, f]) : ∃ v w u, vs = [v, w, u] ∧ Rep K F v d ∧ Rep K F w e ∧ Rep K F u f := by
  cases r with
  | cons h t =>
    obtain ⟨w, u, rfl, h2, h3⟩ := Reps.two t
    exact ⟨_, _, _, rfl, h, h2, h3⟩
/-! ### our own lists -/
/-- the list of slot i, put back by the way it stands -/
def getM (i : Nat) (ρ : Rho) : Option (List D × (List D → Slot)) := match ρ[i]? with
  | some (.own (.lst ds)) => some (ds, fun es => .own (.lst es))
  | some (.io (.lst ds)) => some (ds, fun es => .io (.lst es))
  | _ => none
theorem Sta.getM {K : PySem.W.Frag} {c : Cfg} {F H : Hp} {σ : L2.St} {ρ : Rho} (S : Sta K π c F H σ ρ) {i : Nat} {ds : List D} {k : List D → Slot} (h : FL.getM i ρ = some (ds, k)) :
    ∃ p vs, σ[i]? = some (some (.ref p)) ∧ H p = some (.lst vs) ∧ Reps K F vs ds ∧ ∀ es ws, Reps K F ws es → Sta K π c F (upd H p (.lst ws)) σ (ρ.set i (k es)) := by
  unfold FL.getM at h
  split at h
  · rename_i ds' e
    cases h
    obtain ⟨p, e1, n, fr, vs, ho, r⟩ := S.rep i _ e
    exact ⟨p, vs, e1, ho, r, fun es ws q => S.change (o := .lst ws) ⟨e1, _, .inl e⟩ (m := .lst es) ⟨ws, upd_same, q⟩ _ (.inl ⟨rfl, _, e⟩)⟩
  · rename_i ds' e
    cases h
    obtain ⟨e1, n, fr, vs, ho, r⟩ := S.rep i _ e
    exact ⟨_, vs, e1, ho, r, fun es ws q => S.change (o := .lst ws) ⟨e1, _, .inr e⟩ (m := .lst es) ⟨ws, upd_same, q⟩ _ (.inr ⟨rfl, _, e⟩)⟩
  · cases h
/-- x.append(e) -/
def mutS (i : Nat) (f : EF) (o : List D → D → Option (List D)) : SF := fun ρ => match getM i ρ with
  | none => .stuck
  | some _ => (f ρ).bind fun d ρ => match getM i ρ with
    | some (ds, k) => match o ds d with
      | some es => .ok .nx (ρ.set i (k es))
      | none => .stuck
    | none => .stuck
def appO (ds : List D) (d : D) : Option (List D) := if small (ds.length + 1) = true then some (ds ++ [d]) else none
/-- what a method of our own list asks -/
theorem rd_mut {K : PySem.W.Frag} {i : Nat} {f : EF} {o : List D → D → Option (List D)} {r : V → List V → Hp → VK → Prop} {σ : L2.St} {H : Hp} {D : Ends}
    (q : ∀ {F H : Hp} {p : Addr} {vs : List V} {ds es : List FL.D} {v : V} {d : FL.D} {Q : VK}, Same F H → H p = some (.lst vs) → Reps K F vs ds → Rep K F v d → o ds d = some es → (∀ ws, Reps K F ws es → Q .non (upd H p (.lst ws))) → r (.ref p) [v] H Q)
    (h : tS K π W (mutS i f o) D σ H) : tDrop (tBM K "list" r (tVar i) (tCons (tE K π W f) tNil)) D σ H := by
  obtain ⟨c, F, ρ, h0, S, P⟩ := h
  unfold mutS at P
  split at P
  · exact P.elim
  · rename_i z eg
    obtain ⟨ds0, k0⟩ := z
    obtain ⟨p, vs0, e0, ho0, _⟩ := S.getM eg
    refine ⟨.ref p, e0, .inl ⟨rfl, vs0, SqL.of ho0⟩, ?_⟩
    have key : tE K π W f σ H fun v H1 => r (.ref p) [v] H1 fun _ H2 => D.nx σ H2 := by
      refine pos_bind S P fun v F1 H1 ρ1 d s1 S1 r1 P1 => ?_
      split at P1
      · rename_i ds k eg2
        split at P1
        · rename_i es eo
          obtain ⟨p', vs, e1, ho, rr, fin⟩ := S1.getM eg2
          rw [e0] at e1
          cases e1
          exact q S1.f ho rr r1 eo fun ws hw => P1 _ F1 _ (Same.refl _) (fin _ _ hw)
        · exact P1.elim
      · exact P1.elim
    exact key
theorem fs_append {i : Nat} {x : Str} {f : EF} {p apos cpos : Pos} (hx : PE X (.Name x p) (tVar i)) (he : PE X e (tE X.K π W f)) (hs : swapsWith (.Call (.Attribute (.Name x p) "append" apos) [e] [] cpos) none pos.line X.env = pure false := by rfl)
    (hbase : attributeBase (.Name x p) "append" X.env (eval (.Name x p) X.env) = eval (.Name x p) X.env := by rfl)
    (hfew : ((backTo cpos (starEach [e] X.env)).all (fun x => !x.1) && (backToKw cpos (keywordEach [] X.env)).all (fun x => x.1.isSome) && decide ([e].length + ([] : List Keyword).length + (if ([] : List Keyword).isEmpty then 0 else 1) < 30)) = true := by rfl)
    (hline : (apos.endLine == cpos.line) = true := by rfl) (hst : starEach [e] X.env = (false, eval e X.env) :: starEach [] X.env := by rfl) :
    PS X (.Expr (.Call (.Attribute (.Name x p) "append" apos) [e] [] cpos) pos) (tS X.K π W (mutS i f appO)) :=
  PS.imp (ps_expr (pe_bm PySem.F.plainAttrs_list PySem.F.slot_list_append PySem.F.type_list_append mt_append hx (pa_cons he pa_nil hst) hbase hfew hline hst (by rfl)) hs) fun D σ H h =>
    rd_mut (r := rAppend) (fun {F H p vs ds es v d Q} s ho rr rv eo k => by
      unfold appO at eo
      split at eo
      · rename_i hz
        cases eo
        have hl := small_le hz
        exact ⟨p, vs, v, rfl, rfl, ho, lt_line (by rw [Reps.length rr]; omega), k _ (rr.snoc rv)⟩
      · cases eo) h
/-- x[j] = e, of our own list -/
def putO (ds : List D) (j : D) (d : D) : Option (List D) := match j with
  | .int z => match ixN ds.length z with
    | some n => some (ds.set n d)
    | none => none
  | _ => none
def subG (i : Nat) (g : EF) : D → Rho → R Unit := fun d ρ => match getM i ρ with
  | none => .stuck
  | some _ => (g ρ).bind fun j ρ => match getM i ρ with
    | some (ds, k) => match putO ds j d with
      | some es => .ok () (ρ.set i (k es))
      | none => .stuck
    | none => .stuck
def subS (i : Nat) (f g : EF) : SF := fun ρ => (f ρ).bind fun d ρ => (subG i g d ρ).bind fun _ ρ => .ok .nx ρ
theorem fs_sub {i : Nat} {x : Str} {j : Expr} {f g : EF} {p tpos : Pos} (hx : PE X (.Name x p) (tVar i)) (he : PE X e (tE X.K π W f)) (hj : PE X j (tE X.K π W g))
    (ha : ∀ v, assign (.Subscript (.Name x p) j tpos) X.env v = (do
      let ov ← holding [v] (eval (.Name x p) X.env)
      let iv ← holding [v, ov] (eval j X.env)
      standAt tpos
      holding [v, ov, iv] (setItem ov iv v)
      release [v, ov, iv] []) := by intro _; rfl)
    (hs : swapsWithSole [(.Subscript (.Name x p) j tpos)] e pos.line X.env = pure false := by rfl) (hw : swappedStores [(.Subscript (.Name x p) j tpos)] e X.env = pure none := by rfl)
    (h1 : (assignEach [(.Subscript (.Name x p) j tpos)] X.env).map (·.2) = [assign (.Subscript (.Name x p) j tpos) X.env] := by rfl) :
    PS X (.Assign [.Subscript (.Name x p) j tpos] e pos) (tS X.K π W (subS i f g)) :=
  PS.imp (ps_asg he (pg_sub hx hj set_list ha) hs hw h1) fun D σ H ⟨c, F, ρ, h0, S, P⟩ => by
    refine pos_bind S P fun v F1 H1 ρ1 d s1 S1 r1 P1 => ?_
    unfold subG at P1
    split at P1
    · exact P1.elim
    · rename_i z eg
      obtain ⟨ds0, k0⟩ := z
      obtain ⟨q, vs0, e0, ho0, _⟩ := S1.getM eg
      refine ⟨.ref q, e0, ?_⟩
      have P2 : PoS X.K π W c F1 σ D ((g ρ1).bind fun j ρ => (match getM i ρ with
        | some (ds, k) => match putO ds j d with
          | some es => (R.ok () (ρ.set i (k es)) : R Unit)
          | none => .stuck
        | none => .stuck).bind fun _ ρ => .ok .nx ρ) := by
        cases hg : g ρ1 with
        | ok a b => rw [hg] at P1; exact P1
        | exc C fs b => rw [hg] at P1; exact P1
        | stuck => rw [hg] at P1; exact P1
      refine pos_bind S1 P2 fun w F2 H2 ρ2 dj s2 S2 r2 P3 => ?_
      cases eg2 : getM i ρ2 with
      | none => rw [eg2] at P3; exact P3.elim
      | some z =>
        obtain ⟨ds, k⟩ := z
        rw [eg2] at P3
        obtain ⟨q', vs, e1, ho, rr, fin⟩ := S2.getM eg2
        rw [e0] at e1
        cases e1
        cases ep : putO ds dj d with
        | none =>
          have P3 : PoS X.K π W c F2 σ D ((match putO ds dj d with
            | some es => (R.ok () (ρ2.set i (k es)) : R Unit)
            | none => .stuck).bind fun _ ρ => .ok .nx ρ) := P3
          rw [ep] at P3
          exact P3.elim
        | some es =>
          have P3 : PoS X.K π W c F2 σ D ((match putO ds dj d with
            | some es => (R.ok () (ρ2.set i (k es)) : R Unit)
            | none => .stuck).bind fun _ ρ => .ok .nx ρ) := P3
          rw [ep] at P3
          have P3 : PoS X.K π W c F2 σ D (.ok .nx (ρ2.set i (k es))) := P3
          unfold putO at ep
          split at ep
          · rename_i zz
            split at ep
            · rename_i n en
              cases ep
              cases r2
              refine ⟨q, vs, zz, n, rfl, rfl, ho, by rw [Reps.length rr]; exact en, P3 _ F2 _ (Same.refl _) (fin _ _ (Reps.set (Rep.mono s2 r1) n rr))⟩
            · cases ep
          · cases ep
/-- x[j], of our own list -/
def ixM (i : Nat) (g : EF) : EF := fun ρ => match getM i ρ with
  | none => .stuck
  | some _ => (g ρ).bind fun j ρ => match getM i ρ, j with
    | some (ds, _), .int z => R.of (atI ds z) ρ
    | _, _ => .stuck
theorem fe_ixM {i : Nat} {x : Str} {g : EF} {p : Pos} (hx : PE X (.Name x p) (tVar i)) (hb : PE X b (tE X.K π W g)) (hs : PlainIx b) : PE X (.Subscript (.Name x p) b pos) (tE X.K π W (ixM i g)) :=
  PE.imp (pe_ix ix_list hx hb hs) fun σ H Q ⟨c, F, ρ, S, P⟩ => by
    unfold ixM at P
    split at P
    · exact P.elim
    · rename_i z eg
      obtain ⟨ds0, k0⟩ := z
      obtain ⟨q, vs0, e0, ho0, _⟩ := S.getM eg
      refine ⟨.ref q, e0, ?_⟩
      refine po_bind S P fun w F2 H2 ρ2 dj s2 S2 r2 P3 => ?_
      cases eg2 : getM i ρ2 with
      | none =>
        rw [eg2] at P3
        exact P3.elim
      | some z =>
        obtain ⟨ds, k⟩ := z
        rw [eg2] at P3
        obtain ⟨q', vs, e1, ho, rr, fin⟩ := S2.getM eg2
        rw [e0] at e1
        cases e1
        cases r2 <;> first | (exact P3.elim) | skip
        rename_i zz
        obtain ⟨d, ed, P4⟩ := po_of P3
        obtain ⟨v, h2, r3⟩ := rr.atI ed
        exact ⟨q, vs, zz, v, rfl, rfl, SqL.of ho, h2, P4 v F2 H2 (Same.refl _) S2 r3⟩
/-- len of our own list -/
def lenM (i : Nat) : EF := fun ρ => match getM i ρ with
  | some (ds, _) => .ok (.int ds.length) ρ
  | none => .stuck
end
end FL
/-! FL6: loops, comprehensions. -/
namespace FL
open PySem PySem.Spec PyProof.Rows L2

/-! ### while -/
def whN (ks : List Nat) (t : TF) (b : SF) : Nat → Rho → R Fl
  | 0, _ => .stuck
  | n + 1, ρ => (t ρ).bind fun c ρ => if c = true then (b ρ).bind fun fl ρ => match fl with
      | .nx => whN ks t b n (wipeR ks ρ)
      | .ct => whN ks t b n (wipeR ks ρ)
      | .bk => .ok .nx (wipeR ks ρ)
      | .rt r => .ok (.rt r) ρ
    else .ok .nx ρ
def isStuck : R Fl → Bool
  | .stuck => true
  | _ => false
open Classical in
noncomputable def whS (ks : List Nat) (t : TF) (b : SF) : SF := fun ρ => if h : ∃ n, isStuck (whN ks t b n ρ) = false then whN ks t b (Classical.choose h) ρ else .stuck
theorem whN_mono {ks : List Nat} {t : TF} {b : SF} : ∀ {n m : Nat} {ρ : Rho}, n ≤ m → isStuck (whN ks t b n ρ) = false → whN ks t b m ρ = whN ks t b n ρ
  | 0, _, _, _, h => by cases h
  | n + 1, 0, _, hl, _ => by omega
  | n + 1, m + 1, ρ, hl, h => by
    unfold whN at h ⊢
    cases et : t ρ with
    | stuck => rfl
    | exc C fs ρ' => rfl
    | ok c ρ' =>
      rw [et] at h
      simp only [R.ok_bind] at h ⊢
      cases c with
      | false => rfl
      | true =>
        rw [if_pos rfl] at h ⊢
        cases eb : b ρ' with
        | stuck => rfl
        | exc C fs ρ2 => simp only [eb, R.exc_bind]; rfl
        | ok fl ρ2 =>
          rw [eb] at h
          simp only [R.ok_bind, if_true] at h ⊢
          cases fl with
          | nx => exact whN_mono (by omega) h
          | ct => exact whN_mono (by omega) h
          | bk => rfl
          | rt r => rfl
theorem whS_eq {ks : List Nat} {t : TF} {b : SF} {n : Nat} {ρ : Rho} (h : isStuck (whN ks t b n ρ) = false) : whS ks t b ρ = whN ks t b n ρ := by
  have hx : ∃ n, isStuck (whN ks t b n ρ) = false := ⟨n, h⟩
  unfold whS
  rw [dif_pos hx]
  have h2 := Classical.choose_spec hx
  rcases Nat.le_total n (Classical.choose hx) with z | z
  · exact whN_mono z h
  · exact (whN_mono z h2).symm
section
variable [FE]
variable {X : Cx} {π : Nat → Addr} {W : WX} {pos : Pos}
theorem fs_while {cx : Expr} {body : List Stmt} {t : TF} {b : SF} {ks : List Nat} (hp : PassesOwn (model X.prog X.w) X.A X.env X.xe) (hc : PT X cx (tT X.K π W t)) (hb : PSs X body (tS X.K π W b)) : PS X (.While cx body [] pos) (tS X.K π W (whS ks t b)) :=
  PS.imp (ps_while hp hc hb) fun D σ H ⟨c, F, ρ, h0, S, P⟩ => by
    unfold whS at P
    split at P
    · rename_i hx
      generalize Classical.choose hx = n at P
      refine ⟨fun m σ H => ∃ F ρ, Sta X.K π c F H σ ρ ∧ PoS X.K π W c F σ D (whN ks t b m ρ), ⟨n, F, ρ, S, P⟩, ?_⟩
      rintro m σ1 H1 ⟨F1, ρ1, S1, P1⟩
      cases m with
      | zero => exact P1.elim
      | succ m =>
        unfold whN at P1
        refine pos_bind S1 P1 fun b' F2 H2 ρ2 d s2 S2 r2 P2 => ?_
        cases r2
        cases b' with
        | false =>
          rw [if_neg Bool.false_ne_true] at P2 ⊢
          exact P2 σ1 F2 H2 (Same.refl _) S2
        | true =>
          rw [if_pos rfl] at P2 ⊢
          refine ⟨fun σ3 H3 => ∃ F3 ρ3, Sta X.K π c F3 H3 σ3 ρ3 ∧ PoS X.K π W c F3 σ3 D (whN ks t b m ρ3), fun σ3 H3 w => ⟨m, Nat.lt_succ_self m, w⟩, c, F2, ρ2, h0, S2, ?_⟩
          cases eb : b ρ2 with
          | stuck => rw [eb] at P2; exact P2
          | exc C fs ρ3 => rw [eb] at P2; exact P2
          | ok fl ρ3 =>
            rw [eb] at P2
            cases fl with
            | nx => exact fun σ3 F3 H3 s3 S3 => ⟨F3, _, S3.wipe, PoS.mono s3 P2⟩
            | ct => exact fun σ3 F3 H3 s3 S3 => ⟨F3, _, S3.wipe, PoS.mono s3 P2⟩
            | bk => exact fun σ3 F3 H3 s3 S3 => P2 σ3 F3 H3 s3 S3.wipe
            | rt r => exact P2
    · exact P.elim
end

/-! ### what is walked -/
variable [FE] in
structure Wk (K : PySem.W.Frag) (F : Hp) (J : It) (ds : List D) : Prop where
  go : ∀ F' H', Same F F' → Same F' H' → ∀ i d, ds[i]? = some d → J.go i H' ∧ ∀ x H2, J.yld i H' x H2 → ∃ F2, Grw F' H' F2 H2 ∧ Rep K F2 x d
  stop : ∀ H', Same F H' → J.stop ds.length H'
variable [FE] in
theorem Wk.mono {K : PySem.W.Frag} {F F' : Hp} {J : It} {ds : List D} (w : Wk K F J ds) (s : Same F F') : Wk K F' J ds := ⟨fun F2 H2 s1 s2 => w.go F2 H2 (s.trans s1) s2, fun H2 s1 => w.stop H2 (s.trans s1)⟩
variable [FE] in
def relI (K : PySem.W.Frag) : Rel It (List D) := fun _ F _ _ _ J ds => Wk K F J ds
abbrev IF := Rho → R (List D)
variable [FE] in
abbrev tI (K : PySem.W.Frag) (π : Nat → Addr) (W : WX) (it : IF) : TI := tG K π W (relI K) it
section
variable [FE]
variable {X : Cx} {π : Nat → Addr} {W : WX} {tg e a b : Expr} {pos p : Pos}
theorem PI.imp {w w' : TI} (h : PI X tg e w) (k : ∀ σ H R, w' σ H R → w σ H R) : PI X tg e w' := ⟨fun pins s σ H R I q => h.run pins s σ H R I (k σ H R q)⟩
def seqD : D → Option (List D)
  | .tup xs => some xs
  | .lst xs => some xs
  | .scr ns => some (ns.map D.int)
  | _ => none
def seqI (f : EF) : IF := fun ρ => (f ρ).bind fun d ρ => R.of (seqD d) ρ
theorem wk_listL {K : PySem.W.Frag} {F : Hp} {q : Addr} {xs : List V} {ds : List D} (h : SqL K F q xs) (r : Reps K F xs ds) : Wk K F (Itl K q) ds := by
  refine ⟨fun F' H' s1 s2 i d hd => ?_, fun H' s => ⟨xs, Same.seq s h, by rw [Reps.length r]; exact Nat.le_refl _⟩⟩
  obtain ⟨v, hv, rv⟩ := r.get hd
  refine ⟨⟨xs, v, Same.seq (s1.trans s2) h, hv⟩, fun x H2 ⟨e1, e2⟩ => ?_⟩
  subst e1
  have := e2 xs (Same.seq (s1.trans s2) h)
  rw [hv] at this
  cases this
  exact ⟨F', Grw.refl s2, rv.mono s1⟩
theorem wk_tup {K : PySem.W.Frag} {F : Hp} {q : Addr} {xs : List V} {ds : List D} (h : SqT K F q xs) (r : Reps K F xs ds) : Wk K F (Itt K q) ds := by
  refine ⟨fun F' H' s1 s2 i d hd => ?_, fun H' s => ⟨xs, sm_tup s h, by rw [Reps.length r]; exact Nat.le_refl _⟩⟩
  obtain ⟨v, hv, rv⟩ := r.get hd
  refine ⟨⟨xs, v, sm_tup (s1.trans s2) h, hv⟩, fun x H2 ⟨e1, e2⟩ => ?_⟩
  subst e1
  have := e2 xs (sm_tup (s1.trans s2) h)
  rw [hv] at this
  cases this
  exact ⟨F', Grw.refl s2, rv.mono s1⟩
theorem PI.or {w w' : TI} (h : PI X tg e w) (h' : PI X tg e w') : PI X tg e (fun σ H R => w σ H R ∨ w' σ H R) := ⟨fun pins s σ H R I q => q.elim (h.run pins s σ H R I) (h'.run pins s σ H R I)⟩
theorem fi_seq {f : EF} (he : PE X e (tE X.K π W f)) : PI X tg e (tI X.K π W (seqI f)) :=
  PI.imp (PI.or (pi_list he) (pi_tup he)) fun σ H R ⟨c, F, ρ, S, P⟩ => by
    unfold seqI at P
    cases ef : f ρ with
    | stuck => rw [ef] at P; exact P.elim
    | exc C fs ρ1 =>
      rw [ef] at P
      exact .inl ⟨c, F, ρ, S, by rw [ef]; exact P⟩
    | ok d ρ1 =>
      rw [ef] at P
      have P : Po X.K π W (relI X.K) c F σ R (FL.R.of (seqD d) ρ1) := P
      cases d <;> first | (exact P.elim) | skip
      · rename_i xs
        refine .inr ⟨c, F, ρ, S, ?_⟩
        rw [ef]
        intro v F1 H1 s1 S1 r1
        cases r1 with
        | @tup q vs _ h1 r1 => exact ⟨q, rfl, ⟨vs, sm_tup S1.f h1⟩, P _ F1 H1 s1 S1 (wk_tup h1 r1)⟩
      · rename_i xs
        refine .inl ⟨c, F, ρ, S, ?_⟩
        rw [ef]
        intro v F1 H1 s1 S1 r1
        cases r1 with
        | @lst q vs _ h1 r1 => exact ⟨q, rfl, ⟨vs, SqL.of (S1.f _ _ h1)⟩, P _ F1 H1 s1 S1 (wk_listL (SqL.of h1) r1)⟩
      · rename_i ns
        refine .inl ⟨c, F, ρ, S, ?_⟩
        rw [ef]
        intro v F1 H1 s1 S1 r1
        cases r1 with
        | @scr q _ h1 => exact ⟨q, rfl, ⟨_, Same.seq S1.f h1⟩, P _ F1 H1 s1 S1 (wk_listL h1 (Reps.ints _))⟩
/-- range -/
def rangeL (lo : Int) : Nat → List D
  | 0 => []
  | n + 1 => .int lo :: rangeL (lo + 1) n
theorem rangeL_length : ∀ (n : Nat) (lo : Int), (rangeL lo n).length = n
  | 0, _ => rfl
  | n + 1, lo => by rw [rangeL, List.length_cons, rangeL_length n]
theorem rangeL_get : ∀ (n : Nat) (lo : Int) (i : Nat) (d : D), (rangeL lo n)[i]? = some d → i < n ∧ d = .int (lo + i)
  | 0, _, _, _, h => by simp [rangeL] at h
  | n + 1, lo, 0, d, h => by
    simp [rangeL] at h
    exact ⟨by omega, by rw [← h]; simp⟩
  | n + 1, lo, i + 1, d, h => by
    obtain ⟨h1, h2⟩ := rangeL_get n (lo + 1) i d (by simpa [rangeL] using h)
    refine ⟨by omega, ?_⟩
    rw [h2]
    congr 1
    omega
theorem wk_range {K : PySem.W.Frag} {F : Hp} {lo : Int} {n : Nat} : Wk K F (Itr lo n) (rangeL lo n) := by
  refine ⟨fun F' H' s1 s2 i d hd => ?_, fun H' s => ?_⟩
  · obtain ⟨h1, rfl⟩ := rangeL_get n lo i d hd
    refine ⟨h1, fun x H2 ⟨e1, e2⟩ => ?_⟩
    subst e1
    subst e2
    exact ⟨F', Grw.refl s2, .int _⟩
  · rw [rangeL_length]
    exact Nat.le_refl _
def rgOk (i : Int) : Bool := decide (i.natAbs < 2 ^ 62)
def rng1 (g : Rho → R (List D)) : IF := fun ρ => (g ρ).bind fun ds ρ => R.of (match ds with
  | [.int j] => if rgOk j = true then some (rangeL 0 j.toNat) else none
  | _ => none) ρ
def rng2 (g : Rho → R (List D)) : IF := fun ρ => (g ρ).bind fun ds ρ => R.of (match ds with
  | [.int i, .int j] => if rgOk i = true ∧ rgOk j = true then some (rangeL i (j - i).toNat) else none
  | _ => none) ρ
theorem fi_range1 {g : Rho → R (List D)} (hg : Gl X "range") (hm : X.mg "range" = none) (ha : PA X [a] (tA X.K π W g)) (hs : starEach [a] X.env = [(false, eval a X.env)] := by rfl) : PI X tg (.Call (.Name "range" p) [a] [] pos) (tI X.K π W (rng1 g)) :=
  PI.imp (pi_range1 hg hm ha hs) fun σ H R ⟨c, F, ρ, S, P⟩ => by
    refine po_bind S P fun vs F1 H1 ρ1 ds s1 S1 r1 P1 => ?_
    obtain ⟨l, e, P2⟩ := po_of P1
    split at e
    · rename_i j
      split at e
      · rename_i hz
        cases e
        obtain ⟨v, rfl, h⟩ := Reps.one r1
        cases h
        have hz : j.natAbs < 2 ^ 62 := of_decide_eq_true hz
        exact ⟨j, rfl, by omega, by omega, P2 _ F1 H1 (Same.refl _) S1 wk_range⟩
      · cases e
    · cases e
theorem fi_range2 {g : Rho → R (List D)} (hg : Gl X "range") (hm : X.mg "range" = none) (ha : PA X [a, b] (tA X.K π W g)) (hs : starEach [a, b] X.env = [(false, eval a X.env), (false, eval b X.env)] := by rfl) (hs2 : starEach [b] X.env = [(false, eval b X.env)] := by rfl) :
    PI X tg (.Call (.Name "range" p) [a, b] [] pos) (tI X.K π W (rng2 g)) :=
  PI.imp (pi_range2 hg hm ha hs hs2) fun σ H R ⟨c, F, ρ, S, P⟩ => by
    refine po_bind S P fun vs F1 H1 ρ1 ds s1 S1 r1 P1 => ?_
    obtain ⟨l, e, P2⟩ := po_of P1
    split at e
    · rename_i i j
      split at e
      · rename_i hz
        cases e
        obtain ⟨v, w, rfl, h, h2⟩ := Reps.two r1
        cases h
        cases h2
        have z1 : i.natAbs < 2 ^ 62 := of_decide_eq_true hz.1
        have z2 : j.natAbs < 2 ^ 62 := of_decide_eq_true hz.2
        exact ⟨i, j, rfl, ⟨by omega, by omega, by omega, by omega⟩, P2 _ F1 H1 (Same.refl _) S1 wk_range⟩
      · cases e
    · cases e

/-! ### for -/
/-- behind a turn -/
def aftF (ks : List Nat) (k : Rho → R Fl) : Fl → Rho → R Fl
  | .nx, ρ => k (wipeR ks ρ)
  | .ct, ρ => k (wipeR ks ρ)
  | .bk, ρ => .ok .nx (wipeR ks ρ)
  | .rt r, ρ => .ok (.rt r) ρ
def bindO {α : Type} (x : Option Rho) (k : Rho → R α) : R α := match x with
  | some ρ => k ρ
  | none => .stuck
def forL (ks : List Nat) (g : GF) (b : SF) : List D → Rho → R Fl
  | [], ρ => .ok .nx ρ
  | d :: ds, ρ => bindO (g d ρ) fun ρ => (b ρ).bind (aftF ks (forL ks g b ds))
def forS (ks : List Nat) (it : IF) (g : GF) (b : SF) : SF := fun ρ => (it ρ).bind fun ds ρ => forL ks g b ds ρ
theorem fs_for {body : List Stmt} {it : IF} {g : GF} {b : SF} {ks ns : List Nat} (hp : PassesOwn (model X.prog X.w) X.A X.env X.xe) (hc : X.calm = true) (hi : PI X tg e (tI X.K π W it)) (hg : PG X tg (tGt X.K π ns g)) (hb : PSs X body (tS X.K π W b))
    (hs : ∀ x, foldedSetIterable e X.env x = pure x := by intro _; rfl) : PS X (.For tg e body [] pos) (tS X.K π W (forS ks it g b)) :=
  PS.imp (ps_for hp hc hi hg hb hs) fun D σ H ⟨c, F, ρ, h0, S, P⟩ => by
    refine pos_bind S P fun J F1 H1 ρ1 ds s1 S1 wk P1 => ?_
    refine ⟨fun i m σ H => i + m = ds.length ∧ ∃ F ρ, Same F1 F ∧ Sta X.K π c F H σ ρ ∧ PoS X.K π W c F σ D (forL ks g b (ds.drop i) ρ), ⟨ds.length, by omega, F1, ρ1, Same.refl _, S1, P1⟩, ?_⟩
    rintro i m σ2 H2 ⟨him, F2, ρ2, s2, S2, P2⟩
    cases m with
    | zero =>
      have hi : i = ds.length := by omega
      subst hi
      rw [List.drop_length] at P2
      exact .inl ⟨wk.stop H2 (s2.trans S2.f), P2 σ2 F2 H2 (Same.refl _) S2⟩
    | succ m =>
      have hlt : i < ds.length := by omega
      obtain ⟨hgo, hy⟩ := wk.go F2 H2 s2 S2.f i ds[i] (by simp [hlt])
      rw [List.drop_eq_getElem_cons hlt] at P2
      refine .inr ⟨hgo, fun σ3 H3 => ∃ F3 ρ3, Same F1 F3 ∧ Sta X.K π c F3 H3 σ3 ρ3 ∧ PoS X.K π W c F3 σ3 D (forL ks g b (ds.drop (i + 1)) ρ3), fun σ3 H3 ⟨F3, ρ3, a1, a2, a3⟩ => ⟨m, Nat.lt_succ_self m, by omega, F3, ρ3, a1, a2, a3⟩, fun x H3 yl => ?_⟩
      obtain ⟨F3, gr, rx⟩ := hy x H3 yl
      refine ⟨c, F3, ρ2, ds[i], S2.grow gr, rx, ?_⟩
      have P2 : PoS X.K π W c F2 σ2 D (bindO (g ds[i] ρ2) fun ρ => (b ρ).bind (aftF ks (forL ks g b (ds.drop (i + 1))))) := P2
      cases eg : g ds[i] ρ2 with
      | none => rw [eg] at P2; exact P2
      | some ρ3 =>
        rw [eg] at P2
        intro σ4 F4 H4 s4 of4 S4
        refine ⟨c, F4, ρ3, h0, S4, ?_⟩
        have P2 : PoS X.K π W c F4 σ4 D ((b ρ3).bind (aftF ks (forL ks g b (ds.drop (i + 1))))) := PoS.mono (gr.f.trans s4) P2
        have s14 : Same F1 F4 := s2.trans (gr.f.trans s4)
        cases eb : b ρ3 with
        | stuck => rw [eb] at P2; exact P2
        | exc C fs ρ4 => rw [eb] at P2; exact P2
        | ok fl ρ4 =>
          rw [eb] at P2
          cases fl with
          | nx => exact fun σ5 F5 H5 s5 S5 => ⟨F5, _, s14.trans s5, S5.wipe, PoS.mono s5 P2⟩
          | ct => exact fun σ5 F5 H5 s5 S5 => ⟨F5, _, s14.trans s5, S5.wipe, PoS.mono s5 P2⟩
          | bk => exact fun σ5 F5 H5 s5 S5 => P2 σ5 F5 H5 s5 S5.wipe
          | rt r => exact P2

end

/-! ### comprehensions -/
/-- an exception: nothing is said of it -/
def noX {α : Type} (x : R α) : R α := match x with
  | .exc _ _ _ => .stuck
  | y => y
abbrev W0 : WX := fun _ _ _ _ => False
/-- the turns of a comprehension -/
def cmpL (ks : List Nat) (g : GF) (t : TF) (f : EF) : List D → List D → Rho → R M
  | acc, [], ρ => .ok (.lst acc) ρ
  | acc, d :: ds, ρ => bindO (g d ρ) fun ρ => (noX (t ρ)).bind fun b ρ => if b = true then (noX (f ρ)).bind fun x ρ => if small (acc.length + 1) = true then cmpL ks g t f (acc ++ [x]) ds (wipeR ks ρ) else .stuck else cmpL ks g t f acc ds (wipeR ks ρ)
/-- the slots of a comprehension's names as they were -/
def resR : List Nat → Rho → Rho → Option Rho
  | [], _, ρ => some ρ
  | k :: ks, ρ0, ρ => match ρ0[k]? with
    | some (.val d) => resR ks ρ0 (ρ.set k (.val d))
    | some .no => resR ks ρ0 (ρ.set k .no)
    | none => resR ks ρ0 ρ
    | _ => none
def cmpM (ks : List Nat) (it : IF) (g : GF) (t : TF) (f : EF) : Rho → R M := fun ρ => (it ρ).bind fun ds ρ0 => (cmpL ks g t f [] ds (wipeR ks ρ0)).bind fun m ρ => bindO (resR ks ρ0 ρ) fun ρ => .ok m ρ
theorem wipe_at {σ : L2.St} {j : Nat} : ∀ {vs : List Nat}, j ∈ vs → j < σ.length → (wipe σ vs)[j]? = some none
  | v :: vs, h, hl => by
    unfold wipe
    by_cases e : v = j
    · subst e
      exact List.getElem?_set_self (by rw [wipe_length]; exact hl)
    · rw [List.getElem?_set_ne e]
      exact wipe_at ((List.mem_cons.mp h).resolve_left (fun z => e z.symm)) hl
theorem wipe_off {σ σ' : L2.St} {vs : List Nat} (h : Off vs σ σ') : wipe σ' vs = wipe σ vs := by
  refine List.ext_getElem? fun j => ?_
  by_cases hj : j ∈ vs
  · by_cases hl : j < σ.length
    · rw [wipe_at hj hl, wipe_at hj (by rw [h.1]; exact hl)]
    · rw [List.getElem?_eq_none (by rw [wipe_length, h.1]; omega), List.getElem?_eq_none (by rw [wipe_length]; omega)]
  · rw [wipe_out hj, wipe_out hj, h.2 j hj]
theorem wipe_wipe {σ : L2.St} {vs : List Nat} : wipe (wipe σ vs) vs = wipe σ vs := (wipe_off (σ := σ) (σ' := wipe σ vs) ⟨wipe_length _ _, fun j hj => wipe_out hj⟩)
theorem wipeR_get {j : Nat} : ∀ {ks : List Nat} {ρ : Rho}, (wipeR ks ρ)[j]? = if j ∈ ks ∧ j < ρ.length then some .no else ρ[j]?
  | [], ρ => by simp [wipeR]
  | k :: ks, ρ => by
    show (wipeR ks (ρ.set k .no))[j]? = _
    rw [wipeR_get, List.length_set]
    by_cases hl : j < ρ.length
    · by_cases h1 : j ∈ ks
      · rw [if_pos ⟨h1, hl⟩, if_pos ⟨List.mem_cons_of_mem _ h1, hl⟩]
      · rw [if_neg (fun z => h1 z.1)]
        by_cases h2 : k = j
        · subst h2
          rw [List.getElem?_set_self hl, if_pos ⟨List.mem_cons_self, hl⟩]
        · rw [List.getElem?_set_ne h2, if_neg (fun z => (List.mem_cons.mp z.1).elim (fun q => h2 q.symm) h1)]
    · rw [if_neg (fun z => hl z.2), if_neg (fun z => hl z.2)]
      rw [List.getElem?_eq_none (by rw [List.length_set]; omega), List.getElem?_eq_none (by omega)]
section
variable [FE]
variable {K : PySem.W.Frag} {π : Nat → Addr} {c : Cfg} {F F' H H' : Hp} {σ : L2.St} {ρ ρ' : Rho}
/-- into the block: the names of the block are not seen -/
theorem Sta.into (S : Sta K π c F H σ ρ) (ks : List Nat) : Sta K π c F H (L2.wipe σ ks) (wipeR ks ρ) := by
  have S1 : Sta K π c F H σ (wipeR ks ρ) := S.wipe
  have hl : (wipeR ks ρ).length = ρ.length := by rw [← S1.len, S.len]
  have out : ∀ j, j ∉ ks → (L2.wipe σ ks)[j]? = σ[j]? := fun j hj => wipe_out hj
  have nin : ∀ j s, (wipeR ks ρ)[j]? = some s → s ≠ .no → j ∉ ks := fun j s e hs hj => by
    rw [wipeR_get] at e
    by_cases hlt : j < ρ.length
    · rw [if_pos ⟨hj, hlt⟩] at e
      cases e
      exact hs rfl
    · rw [if_neg (fun z => hlt z.2), List.getElem?_eq_none (by omega)] at e
      cases e
  refine ⟨S1.h0, S1.hio, S1.f0, S1.f, S1.nf, by rw [L2.wipe_length]; exact S1.len, fun j s hs => ?_, fun i j p h1 h2 => ?_, S1.t⟩
  · have z := S1.rep j s hs
    cases s with
    | lk C f jj => obtain ⟨a, dx, e, r⟩ := z; exact ⟨a, dx, (out j (nin j _ hs (fun q => nomatch q))).trans e, r⟩
    | no => trivial
    | val d => obtain ⟨v, e, r⟩ := z; exact ⟨v, (out j (nin j _ hs (fun q => nomatch q))).trans e, r⟩
    | own m => obtain ⟨p, e, r⟩ := z; exact ⟨p, (out j (nin j _ hs (fun q => nomatch q))).trans e, r⟩
    | io m => obtain ⟨e, r⟩ := z; exact ⟨(out j (nin j _ hs (fun q => nomatch q))).trans e, r⟩
  · have key : ∀ j, OwnAt (L2.wipe σ ks) (wipeR ks ρ) j p → OwnAt σ (wipeR ks ρ) j p := fun j ⟨e, m, h⟩ => by
      have hj : j ∉ ks := by
        rcases h with h | h
        · exact nin j _ h (fun q => nomatch q)
        · exact nin j _ h (fun q => nomatch q)
      exact ⟨(out j hj).symm.trans e, m, h⟩
    exact S1.dis i j p (key i h1) (key j h2)
/-- out of the block -/
theorem Sta.outof {ks : List Nat} (S0 : Sta K π c F H σ ρ) (g : Same F F') : ∀ {ls : List Nat} {ρ1 ρ2 : Rho}, (∀ l ∈ ls, l ∈ ks) → (∀ j s, ρ1[j]? = some s → SlotOk K π c F' H' σ j s) → (∀ i j p, OwnAt σ ρ1 i p → OwnAt σ ρ1 j p → i = j) → ρ1.length = ρ.length → resR ls ρ ρ1 = some ρ2 →
    (∀ j s, ρ2[j]? = some s → SlotOk K π c F' H' σ j s) ∧ (∀ i j p, OwnAt σ ρ2 i p → OwnAt σ ρ2 j p → i = j) ∧ ρ2.length = ρ.length ∧ ∀ j p, OwnAt σ ρ2 j p → OwnAt σ ρ1 j p
  | [], ρ1, ρ2, _, h1, h2, h3, e => by
    cases e
    exact ⟨h1, h2, h3, fun _ _ h => h⟩
  | l :: ls, ρ1, ρ2, hs, h1, h2, h3, e => by
    have step : ∀ s : Slot, SlotOk K π c F' H' σ l s → isO s = false → isI s = false → resR ls ρ (ρ1.set l s) = some ρ2 → (∀ j s, ρ2[j]? = some s → SlotOk K π c F' H' σ j s) ∧ (∀ i j p, OwnAt σ ρ2 i p → OwnAt σ ρ2 j p → i = j) ∧ ρ2.length = ρ.length ∧ ∀ j p, OwnAt σ ρ2 j p → OwnAt σ ρ1 j p := fun s ok no ni e => by
      have key : ∀ j p, OwnAt σ (ρ1.set l s) j p → OwnAt σ ρ1 j p := fun j p ⟨q, m, h⟩ => by
        by_cases hj : l = j
        · subst hj
          by_cases hlt : l < ρ1.length
          · rw [List.getElem?_set_self hlt] at h
            rcases h with h | h
            · cases h; cases no
            · cases h; cases ni
          · rw [List.getElem?_eq_none (by rw [List.length_set]; omega)] at h
            rcases h with h | h <;> cases h
        · rw [List.getElem?_set_ne hj] at h
          exact ⟨q, m, h⟩
      have q1 : ∀ j s', (ρ1.set l s)[j]? = some s' → SlotOk K π c F' H' σ j s' := fun j s' e' => by
        by_cases hj : l = j
        · subst hj
          by_cases hlt : l < ρ1.length
          · rw [List.getElem?_set_self hlt] at e'
            cases e'
            exact ok
          · rw [List.getElem?_eq_none (by rw [List.length_set]; omega)] at e'
            cases e'
        · rw [List.getElem?_set_ne hj] at e'
          exact h1 j s' e'
      obtain ⟨a1, a2, a3, a4⟩ := Sta.outof S0 g (ls := ls) (ρ1 := ρ1.set l s) (fun l hl => hs l (List.mem_cons_of_mem _ hl)) q1 (fun i j p a b => h2 i j p (key i p a) (key j p b)) (by rw [List.length_set]; exact h3) e
      exact ⟨a1, a2, a3, fun j p h => key j p (a4 j p h)⟩
    unfold resR at e
    cases eq : ρ[l]? with
    | none =>
      rw [eq] at e
      exact Sta.outof S0 g (fun l hl => hs l (List.mem_cons_of_mem _ hl)) h1 h2 h3 e
    | some s =>
      rw [eq] at e
      cases s with
      | lk C f jj => cases e
      | no => exact step .no trivial rfl rfl e
      | val d =>
        obtain ⟨v, e1, r⟩ := S0.rep l _ eq
        exact step (.val d) ⟨v, e1, r.mono g⟩ rfl rfl e
      | own m => cases e
      | io m => cases e
/-- a list that is no slot's changes -/
theorem Sta.other (S : Sta K π c F H σ ρ) {p : Addr} {o : HO} (n : F p = none) (n0 : c.H0 p = none) (nio : p ∉ c.io ∧ p ∉ c.ow) (nw : ∀ j, ¬ OwnAt σ ρ j p) {om : HO} (hom : H p = some om) (mm : Mut om) : Sta K π c F (upd H p o) σ ρ := by
  refine ⟨fun q u e h1 h2 nt => ?_, fun q hq => ?_, S.f0, sm_updR S.f n, S.nf, S.len, fun j s hs => ?_, S.dis, ⟨tabs_upd S.t.tb hom mm, fun q ps e => by
    obtain ⟨ps', e'⟩ := S.t.tk q ps e
    exact ⟨ps', by rw [upd_ne (fun z => by subst z; rw [hom] at e'; cases e'; exact mm.nt _ rfl)]; exact e'⟩, S.t.nt⟩⟩
  · rw [upd_ne (fun z => by subst z; rw [n0] at e; cases e)]
    exact S.h0 q u e h1 h2 nt
  · rw [upd_ne (fun z => by subst z; exact hq.elim nio.1 nio.2)]
    exact S.hio q hq
  · have z := S.rep j s hs
    cases s with
    | lk C f jj => exact z
    | no => trivial
    | val d => exact z
    | own m =>
      obtain ⟨q, e1, e2, e3, r⟩ := z
      have nq : q ≠ p := fun w => by subst w; exact nw j ⟨e1, m, .inl hs⟩
      exact ⟨q, e1, e2, e3, r.mono (Same.refl _) fun u hu => by rw [upd_ne nq]; exact hu⟩
    | io m =>
      obtain ⟨e1, e2, e3, r⟩ := z
      have nq : π j ≠ p := fun w => by rw [w] at e1; exact nw j ⟨e1, m, .inr hs⟩
      exact ⟨e1, e2, e3, r.mono (Same.refl _) fun u hu => by rw [upd_ne nq]; exact hu⟩
theorem Sta.notOwn (S : Sta K π c F H σ ρ) {p : Addr} {o : HO} (hH : c.H0 p = some o) (hn : p ∉ c.io ∧ p ∉ c.ow) : ∀ j, ¬ OwnAt σ ρ j p := fun j h => by
  obtain ⟨_, z, _⟩ := S.ownAt h
  rcases z with z | z | z
  · rw [hH] at z; cases z
  · exact hn.2 z
  · exact hn.1 z
end

section
variable [FE]
variable {X : Cx} {π : Nat → Addr} {W : WX}
theorem rd_lc {it : IF} {g : GF} {t : TF} {f : EF} {ns vs : List Nat} {σ : L2.St} {H : Hp} {Q : VK} (hns : ∀ j ∈ ns, j ∈ vs) (h : tM X.K π W (cmpM vs it g t f) σ H Q) : tLc (tI X.K π W it) (tGt X.K π ns g) (tT X.K π W0 t) (tE X.K π W0 f) vs σ H Q := by
  obtain ⟨c, F, ρ, S, P⟩ := h
  refine po_bind S P fun J F1 H1 ρ1 ds s1 S1 wk P1 => ?_
  intro Dd hD
  obtain ⟨fD, hD0, nD⟩ := S1.fresh hD
  have hDio : Dd ∉ c.io ∧ Dd ∉ c.ow := by
    refine ⟨fun z => ?_, fun z => ?_⟩
    · obtain ⟨o, e⟩ := S1.hio Dd (.inl z)
      rw [hD] at e
      cases e
    · obtain ⟨o, e⟩ := S1.hio Dd (.inr z)
      rw [hD] at e
      cases e
  refine ⟨fun i m H' => i + m = ds.length ∧ ∃ F2 ρ2 accV accD, Same F1 F2 ∧ Sta X.K π c F2 H' (wipe σ vs) ρ2 ∧ H' Dd = some (.lst accV) ∧ Reps X.K F2 accV accD ∧ F2 Dd = none ∧ (∀ j, ¬ OwnAt (wipe σ vs) ρ2 j Dd) ∧
      Po X.K π W (relM X.K) c F2 σ Q ((cmpL vs g t f accD (ds.drop i) ρ2).bind fun m ρ => bindO (resR vs ρ1 ρ) fun ρ => .ok m ρ), ⟨ds.length, by omega, F1, wipeR vs ρ1, [], [], Same.refl _, ?_, upd_same, .nil, fD, ?_, P1⟩, ?_⟩
  · exact (S1.into vs).grow (Grw.newO S1.f hD)
  · intro j hj
    obtain ⟨_, _, o, e⟩ := (S1.into vs).ownAt hj
    rw [hD] at e
    cases e
  · rintro i m H2 ⟨him, F2, ρ2, accV, accD, s2, S2, hacc, racc, f2D, nw2, P2⟩
    cases m with
    | zero =>
      have hi : i = ds.length := by omega
      subst hi
      rw [List.drop_length] at P2
      refine .inl ⟨wk.stop H2 (s2.trans S2.f), ?_⟩
      have P2 : Po X.K π W (relM X.K) c F2 σ Q (bindO (resR vs ρ1 ρ2) fun ρ => .ok (.lst accD) ρ) := P2
      cases er : resR vs ρ1 ρ2 with
      | none => rw [er] at P2; exact P2.elim
      | some ρ3 =>
        rw [er] at P2
        have l12 : ρ2.length = ρ1.length := by
          have h1 := S2.len
          have h2 := S1.len
          rw [wipe_length] at h1
          omega
        have q1 : ∀ j s, ρ2[j]? = some s → SlotOk X.K π c F2 H2 σ j s := fun j s hj => by
          have z := S2.rep j s hj
          cases s with
          | lk C f jj => obtain ⟨a, dx, e, r⟩ := z; exact ⟨a, dx, (wipe_some e).1, r⟩
          | no => trivial
          | val d => obtain ⟨v, e, r⟩ := z; exact ⟨v, (wipe_some e).1, r⟩
          | own m => obtain ⟨p, e, r⟩ := z; exact ⟨p, (wipe_some e).1, r⟩
          | io m => obtain ⟨e, r⟩ := z; exact ⟨(wipe_some e).1, r⟩
        have key : ∀ j p, OwnAt σ ρ2 j p → OwnAt (wipe σ vs) ρ2 j p := fun j p ⟨e, m, h⟩ => by
          refine ⟨?_, m, h⟩
          rcases h with h | h
          · obtain ⟨q, e1, _⟩ := S2.rep j _ h
            have := (wipe_some e1).1
            rw [e] at this
            cases this
            exact e1
          · obtain ⟨e1, _⟩ := S2.rep j _ h
            have := (wipe_some e1).1
            rw [e] at this
            cases this
            exact e1
        obtain ⟨a1, a2, a3, a4⟩ := S1.outof (ks := vs) (F' := F2) (H' := H2) s2 (ls := vs) (ρ1 := ρ2) (ρ2 := ρ3) (fun l hl => hl) q1 (fun i j p h1 h2 => S2.dis i j p (key i p h1) (key j p h2)) l12 er
        have S3 : Sta X.K π c F2 H2 σ ρ3 := ⟨S2.h0, S2.hio, S2.f0, S2.f, S2.nf, by rw [a3]; exact S1.len, a1, a2, S2.t⟩
        exact P2 (.ref Dd) F2 H2 (Same.refl _) S3 ⟨Dd, rfl, f2D, hD0, fun j hj => nw2 j (key j Dd (a4 j Dd hj)), accV, hacc, racc⟩
    | succ m =>
      have hlt : i < ds.length := by omega
      obtain ⟨hgo, hy⟩ := wk.go F2 H2 s2 S2.f i ds[i] (by simp [hlt])
      rw [List.drop_eq_getElem_cons hlt] at P2
      refine .inr ⟨hgo, fun H' => ∃ F2 ρ2 accV accD, Same F1 F2 ∧ Sta X.K π c F2 H' (wipe σ vs) ρ2 ∧ H' Dd = some (.lst accV) ∧ Reps X.K F2 accV accD ∧ F2 Dd = none ∧ (∀ j, ¬ OwnAt (wipe σ vs) ρ2 j Dd) ∧
        Po X.K π W (relM X.K) c F2 σ Q ((cmpL vs g t f accD (ds.drop (i + 1)) ρ2).bind fun m ρ => bindO (resR vs ρ1 ρ) fun ρ => .ok m ρ), fun H' h => ⟨m, Nat.lt_succ_self m, by omega, h⟩, fun x H3 yl => ?_⟩
      obtain ⟨F3, gr, rx⟩ := hy x H3 yl
      have T2 := S2.self
      have hT : (cfg F2 H2 (wipe σ vs) ρ2).H0 Dd = some (.lst accV) := hacc
      have hTn : Dd ∉ (cfg F2 H2 (wipe σ vs) ρ2).io ∧ Dd ∉ (cfg F2 H2 (wipe σ vs) ρ2).ow := by
        refine ⟨fun z => ?_, fun z => ?_⟩
        · obtain ⟨j, s, e, h, k⟩ := mem_adrs.mp z
          cases s with
          | lk C f jj => cases k
          | io m => exact nw2 j ⟨e, m, .inr h⟩
          | no => cases k
          | val _ => cases k
          | own _ => cases k
        · obtain ⟨j, s, e, h, k⟩ := mem_adrs.mp z
          cases s with
          | lk C f jj => cases k
          | own m => exact nw2 j ⟨e, m, .inl h⟩
          | no => cases k
          | val _ => cases k
          | io _ => cases k
      refine ⟨cfg F2 H2 (wipe σ vs) ρ2, F3, ρ2, ds[i], T2.grow gr, rx, ?_⟩
      have P2 : Po X.K π W (relM X.K) c F2 σ Q ((bindO (g ds[i] ρ2) fun ρ => (noX (t ρ)).bind fun b ρ => if b = true then (noX (f ρ)).bind fun x ρ => if small (accD.length + 1) = true then cmpL vs g t f (accD ++ [x]) (ds.drop (i + 1)) (wipeR vs ρ) else .stuck
        else cmpL vs g t f accD (ds.drop (i + 1)) (wipeR vs ρ)).bind fun m ρ => bindO (resR vs ρ1 ρ) fun ρ => .ok m ρ) := P2
      cases eg : g ds[i] ρ2 with
      | none => rw [eg] at P2; exact P2
      | some ρ3 =>
        rw [eg] at P2
        intro σ4 F4 H4 s4 of4 T4
        have of5 : Off vs (wipe σ vs) σ4 := ⟨of4.1, fun j hj => of4.2 j fun z => hj (hns j z)⟩
        have w4 : wipe σ4 vs = wipe σ vs := (wipe_off of5).trans wipe_wipe
        refine ⟨w4, cfg F2 H2 (wipe σ vs) ρ2, F4, ρ3, T4, ?_⟩
        have s24 : Same F2 F4 := gr.f.trans s4
        have P4 := Po.mono s24 P2
        cases et : t ρ3 with
        | stuck => simp only [bindO, et, noX, R.stuck_bind] at P4; exact P4.elim
        | exc C fs ρ4 => simp only [bindO, et, noX, R.stuck_bind] at P4; exact P4.elim
        | ok b ρ4 =>
          simp only [bindO, et, noX, R.ok_bind] at P4
          intro b' F5 H5 s5 T5 rb
          cases rb
          -- the turn's end
          have fin : ∀ {F6 H6 ρ6 acV acD}, Same F5 F6 → Sta X.K π (cfg F2 H2 (wipe σ vs) ρ2) F6 H6 σ4 ρ6 → Reps X.K F6 acV acD → Sta X.K π c F6 (upd H6 Dd (.lst acV)) (wipe σ vs) (wipeR vs ρ6) ∧ F6 Dd = none ∧ (∀ j, ¬ OwnAt (wipe σ vs) (wipeR vs ρ6) j Dd) := fun {F6 H6 ρ6 acV acD} s6 T6 r6 => by
            have n6 : F6 Dd = none := T6.nf Dd _ hT f2D
            have B6 := (S2.back T6).into vs
            have B6T := T6.into vs
            rw [w4] at B6 B6T
            have nw6 : ∀ j, ¬ OwnAt (wipe σ vs) (wipeR vs ρ6) j Dd := B6T.notOwn hT hTn
            exact ⟨B6.other n6 hD0 hDio nw6 (T6.h0 Dd _ hT hTn.1 hTn.2 (by intro ps z; cases z)) (.inl ⟨_, rfl⟩), n6, nw6⟩
          cases b with
          | false =>
            rw [if_neg Bool.false_ne_true] at P4 ⊢
            have hd5 : H5 Dd = some (.lst accV) := T5.h0 Dd _ hT hTn.1 hTn.2 (by intro ps z; cases z)
            obtain ⟨k1, k2, k3⟩ := fin (Same.refl _) T5 (racc.mono (s24.trans s5))
            have ee : upd H5 Dd (.lst accV) = H5 := by
              funext q
              by_cases z : q = Dd
              · subst z
                rw [upd_same, hd5]
              · rw [upd_ne z]
            rw [ee] at k1
            exact ⟨F5, _, accV, accD, s2.trans (s24.trans s5), k1, hd5, racc.mono (s24.trans s5), k2, k3, P4.mono s5⟩
          | true =>
            rw [if_pos rfl] at P4 ⊢
            refine ⟨cfg F2 H2 (wipe σ vs) ρ2, F5, ρ4, T5, ?_⟩
            cases ef : f ρ4 with
            | stuck => simp only [ef, noX, R.stuck_bind] at P4; exact P4.elim
            | exc C fs ρ5 => simp only [ef, noX, R.stuck_bind] at P4; exact P4.elim
            | ok d ρ5 =>
              simp only [ef, noX, R.ok_bind] at P4
              intro y F6 H6 s6 T6 ry
              split at P4
              · rename_i hz
                have hd6 : H6 Dd = some (.lst accV) := T6.h0 Dd _ hT hTn.1 hTn.2 (by intro ps z; cases z)
                have s26 : Same F2 F6 := s24.trans (s5.trans s6)
                have rr := (racc.mono s26).snoc ry
                obtain ⟨k1, k2, k3⟩ := fin s6 T6 rr
                have hl := small_le hz
                exact ⟨accV, hd6, lt_line (by rw [Reps.length racc]; omega), F6, _, _, _, s2.trans s26, k1, upd_same, rr, k2, k3, P4.mono (s5.trans s6)⟩
              · exact P4.elim
theorem fm_lc {elt tg iter : Expr} {ifs : List Expr} {scope : Scope} {own : List (Str × Nat)} {pos : Pos} {it : IF} {g : GF} {t : TF} {f : EF} {ns : List Nat} (hc : X.calm = true) (hN : X.N.Nodup) (hi : PI X tg iter (tI X.K π W it)) (ok : BlkOk X.N X.env.scope scope own)
    (hg : ∀ (s : Shared) (H : Hp) (C : Addr) (cl : List (Str × Addr)) (fp : List Addr), PG (X.blk s H scope (compEnvC scope cl C X.env) fp) tg (tGt X.K π ns g))
    (ht : ∀ (s : Shared) (H : Hp) (C : Addr) (cl : List (Str × Addr)) (fp : List Addr), PTs (X.blk s H scope (compEnvC scope cl C X.env) fp) ifs (tT X.K π W0 t))
    (he : ∀ (s : Shared) (H : Hp) (C : Addr) (cl : List (Str × Addr)) (fp : List Addr), PE (X.blk s H scope (compEnvC scope cl C X.env) fp) elt (tE X.K π W0 f))
    (hns : ∀ j ∈ ns, j ∈ own.map (·.2)) (hs : ∀ x, foldedSetIterable iter X.env x = pure x := by intro _; rfl) : PE X (.ListComp elt [⟨tg, iter, ifs, 0⟩] scope pos) (tM X.K π W (cmpM (own.map (·.2)) it g t f)) := by
  exact PE.imp (pe_lc hc hN hi ok hg ht he (hs := hs)) fun _ _ _ h => rd_lc hns h
end
end FL
/-! FL7: defs and their calls. -/
namespace FL
open PySem PySem.Spec PyProof.Rows L2

/-! ### what a def promises -/
structure RoomG (k : Nat) (A : Around) : Prop where
  r : Room k A
  g : A.guards = some []
theorem RoomG.mono {j k : Nat} {A : Around} (r : RoomG k A) (h : j ≤ k) : RoomG j A := ⟨r.r.mono h, r.g⟩
theorem RoomG.deeper {k : Nat} {A : Around} (r : RoomG (k + 1) A) (env : Env) : RoomG k (A.deeper env) := ⟨r.r.deeper env, r.g⟩
structure FnG (P : Program) (w : World) (K : PySem.W.Frag) (mg : Str → Option Value) (base : Heap) (k : Nat) (f : Addr) (fd : FuncData) (ps : List Str) (sp : Sp) : Prop where
  len : ∀ vs H Q E, sp vs H Q E → vs.length = ps.length
  run : ∀ (A : Around) (outer : List Env) (s : Shared) (H : Hp) (args : Args) (us : List Value) (vs : List V) (Q : VK) (E : XK), RoomG k A → Env0 P w K mg base A outer s H → BindsTo s fd args (ps.zip us) → Vals vs us → sp vs H Q E →
    codeAny (model P w) A (.call (.ref f) args) (CR (L2N.CX P w) outer P w H s Q E) s
theorem FnG.mono {P : Program} {w : World} {K : PySem.W.Frag} {mg : Str → Option Value} {base : Heap} {j k : Nat} {f : Addr} {fd : FuncData} {ps : List Str} {sp : Sp} (F : FnG P w K mg base j f fd ps sp) (h : j ≤ k) : FnG P w K mg base k f fd ps sp :=
  ⟨F.len, fun A outer s H args us vs Q E hr => F.run A outer s H args us vs Q E (hr.mono h)⟩

inductive Arg where
  | val (d : D)
  | io (m : M)
  /-- an instance of the class at C, its one field f is the thing that is handed in at j -/
  | lk (C : Addr) (f : Str) (j : Nat)
inductive RG where
  | ok (r : Res) (outs : List M)
  | exc (C : Str) (fs : List (Str × D)) (outs : List M)
  | stuck
inductive ArgsR (K : PySem.W.Frag) (F H : Hp) : List V → List Arg → Prop
  | nil : ArgsR K F H [] []
  | val {v : V} {d : D} {vs : List V} {as : List Arg} : Rep K F v d → ArgsR K F H vs as → ArgsR K F H (v :: vs) (.val d :: as)
  | io {p : Addr} {m : M} {vs : List V} {as : List Arg} : F p = none → MRep K F H p m → ArgsR K F H vs as → ArgsR K F H (.ref p :: vs) (.io m :: as)
  | lk {a : Addr} {C : Addr} {f : Str} {j : Nat} {vs : List V} {as : List Arg} : ArgsR K F H vs as → ArgsR K F H (.ref a :: vs) (.lk C f j :: as)
def ioA : List V → List Arg → List Addr
  | v :: vs, .io _ :: as => (match v with | .ref p => [p] | _ => []) ++ ioA vs as
  | _ :: vs, .val _ :: as => ioA vs as
  | _ :: vs, .lk _ _ _ :: as => ioA vs as
  | _, _ => []
theorem ioA_io {p : Addr} {m : M} {vs : List V} {as : List Arg} : ioA (.ref p :: vs) (.io m :: as) = p :: ioA vs as := rfl
variable [FE] in
structure PostG (K : PySem.W.Frag) (F H : Hp) (A : List Addr) (outs : List M) (F' H' : Hp) : Prop where
  f : Same F F'
  fh : Same F' H'
  keep : ∀ q o, H q = some o → q ∉ A → NT o → H' q = some o
  nf : ∀ q o, H q = some o → F q = none → F' q = none
  outs : Paired (fun p m => MRep K F' H' p m) A outs
  t : StT ⟨H, F, A, []⟩ F' H'
def ResR (K : PySem.W.Frag) (H F' H' : Hp) (v : V) : Res → Prop
  | .v d => Rep K F' v d
  | .m m => ∃ p, v = .ref p ∧ H p = none ∧ F' p = none ∧ MRep K F' H' p m
variable [FE] in
def PoR (K : PySem.W.Frag) (F H : Hp) (A : List Addr) (Q : VK) (E : XK) : RG → Prop
  | .ok r outs => ∀ v F' H', PostG K F H A outs F' H' → ResR K H F' H' v r → Q v H'
  | .exc C fs outs => ∀ dd fsV F' H', PostG K F H A outs F' H' → XD F' dd fsV → fsV.map (·.1) = fs.map (·.1) → Reps K F' (fsV.map (·.2)) (fs.map (·.2)) → E (.ref (FE.cl C)) dd H'
  | .stuck => False
variable [FE] in
def spG (K : PySem.W.Frag) (n : Nat) (G : List Arg → RG) : Sp := fun vs H Q E => ∃ F as, (Same F H ∧ LamX.Tabs FE.tabs H ∧ NoT F) ∧ ArgsR K F H vs as ∧ vs.length = n ∧ (ioA vs as).Nodup ∧ PoR K F H (ioA vs as) Q E (G as)
theorem ArgsR.length {K : PySem.W.Frag} {F H : Hp} : ∀ {vs : List V} {as : List Arg}, ArgsR K F H vs as → vs.length = as.length
  | _, _, .nil => rfl
  | _, _, .lk r => congrArg (· + 1) (ArgsR.length r)
  | _, _, .val _ r => congrArg (· + 1) (ArgsR.length r)
  | _, _, .io _ _ r => congrArg (· + 1) (ArgsR.length r)

/-- where a def's body runs -/
abbrev cxF (P : Program) (w : World) (K : PySem.W.Frag) (mg : Str → Option Value) (base : Heap) (N : List Str) (qual : Str) (scope : Scope) (f : Addr) (cd : Value) (A : Around) (outer : List Env) (s : Shared) (H : Hp) (E : XK) : Cx := cxOf (L2N.CX P w) P w K mg base N qual scope f cd A outer s H E
theorem RoomG.u64 {k : Nat} {A : Around} (r : RoomG k A) : A.units + 64 < cLine := by have := r.r.un; omega
theorem RoomG.u65 {k : Nat} {A : Around} (r : RoomG k A) : A.units + 65 < cLine := by have := r.r.un; omega
/-! ### a def's body -/
def toS : Arg → Slot
  | .val d => .val d
  | .io m => .io m
  | .lk _ _ _ => .no
def collect : List Arg → Nat → Rho → Option (List M)
  | [], _, _ => some []
  | .val _ :: as, i, ρ => collect as (i + 1) ρ
  | .lk _ _ _ :: as, i, ρ => collect as (i + 1) ρ
  | .io _ :: as, i, ρ => match ρ[i]? with
    | some (.io m) => (collect as (i + 1) ρ).map (m :: ·)
    | _ => none
def endG (as : List Arg) (k : List M → RG) (ρ : Rho) : RG := match collect as 0 ρ with
  | some outs => k outs
  | none => .stuck
def rho0 (l : Nat) (as : List Arg) : Rho := as.map toS ++ List.replicate (l - as.length) .no
/-- the def by its body: l names -/
def bodyG (l : Nat) (g : SF) (as : List Arg) : RG := match g (rho0 l as) with
  | .ok .nx ρ => endG as (.ok (.v .non)) ρ
  | .ok (.rt r) ρ => endG as (.ok r) ρ
  | .exc C fs ρ => endG as (.exc C fs) ρ
  | _ => .stuck
def adrV : Option V → Addr
  | some (.ref p) => p
  | _ => 0
section
variable {K : PySem.W.Frag} {F H : Hp} {vs : List V} {as : List Arg}
theorem ArgsR.at : ∀ {vs : List V} {as : List Arg} {i : Nat} {a : Arg}, ArgsR K F H vs as → as[i]? = some a → ∃ v, vs[i]? = some v ∧ match a with
    | .val d => Rep K F v d
    | .io m => ∃ p, v = .ref p ∧ F p = none ∧ MRep K F H p m ∧ p ∈ ioA vs as
    | .lk _ _ _ => True
  | _, _, _, _, .nil, e => by simp at e
  | _, _, 0, _, .lk r, e => by
    simp at e
    subst e
    exact ⟨_, rfl, trivial⟩
  | _, _, i + 1, a, .lk r, e => by
    obtain ⟨v, h1, h2⟩ := ArgsR.at (i := i) (a := a) r (by simpa using e)
    exact ⟨v, by simpa using h1, h2⟩
  | _, _, 0, _, .val h r, e => by
    simp at e
    subst e
    exact ⟨_, rfl, h⟩
  | _, _, 0, _, .io n h r, e => by
    simp at e
    subst e
    exact ⟨_, rfl, _, rfl, n, h, by simp [ioA]⟩
  | _, _, i + 1, a, .val h r, e => by
    obtain ⟨v, h1, h2⟩ := ArgsR.at (i := i) (a := a) r (by simpa using e)
    exact ⟨v, by simpa using h1, h2⟩
  | _, _, i + 1, a, .io n h r, e => by
    obtain ⟨v, h1, h2⟩ := ArgsR.at (i := i) (a := a) r (by simpa using e)
    refine ⟨v, by simpa using h1, ?_⟩
    cases a with
    | val d => exact h2
    | io m =>
      obtain ⟨p, e1, e2, e3, e4⟩ := h2
      exact ⟨p, e1, e2, e3, by simp [ioA, e4]⟩
    | lk _ _ _ => trivial
theorem ArgsR.here : ∀ {vs : List V} {as : List Arg}, ArgsR K F H vs as → ∀ q ∈ ioA vs as, ∃ o, H q = some o
  | _, _, .nil, q, h => by simp [ioA] at h
  | _, _, .lk r, q, h => ArgsR.here r q (by simpa [ioA] using h)
  | _, _, .val _ r, q, h => ArgsR.here r q (by simpa [ioA] using h)
  | _, _, .io n m r, q, h => by
    rw [ioA_io] at h
    rcases List.mem_cons.mp h with h | h
    · rw [h]; exact m.here
    · exact ArgsR.here r q h
/-- two places of one thing -/
theorem ArgsR.uniq : ∀ {vs : List V} {as : List Arg} {i j : Nat} {p : Addr} {m m' : M}, ArgsR K F H vs as → (ioA vs as).Nodup → as[i]? = some (.io m) → as[j]? = some (.io m') → vs[i]? = some (.ref p) → vs[j]? = some (.ref p) → i = j
  | _, _, _, _, _, _, _, .nil, _, e, _, _, _ => by simp at e
  | _, _, 0, 0, _, _, _, _, _, _, _, _, _ => rfl
  | _, _, i + 1, j + 1, p, m, m', .lk r, nd, e1, e2, e3, e4 => by
    rw [ArgsR.uniq (i := i) (j := j) (p := p) (m := m) (m' := m') r (by simpa [ioA] using nd) (by simpa using e1) (by simpa using e2) (by simpa using e3) (by simpa using e4)]
  | _, _, 0, j + 1, p, m, m', .lk r, nd, e1, e2, e3, e4 => by simp at e1
  | _, _, i + 1, 0, p, m, m', .lk r, nd, e1, e2, e3, e4 => by simp at e2
  | _, _, i + 1, j + 1, p, m, m', .val _ r, nd, e1, e2, e3, e4 => by
    rw [ArgsR.uniq (i := i) (j := j) (p := p) (m := m) (m' := m') r (by simpa [ioA] using nd) (by simpa using e1) (by simpa using e2) (by simpa using e3) (by simpa using e4)]
  | _, _, i + 1, j + 1, p, m, m', .io _ _ r, nd, e1, e2, e3, e4 => by
    rw [ioA_io] at nd
    have nd := List.nodup_cons.mp nd
    rw [ArgsR.uniq (i := i) (j := j) (p := p) (m := m) (m' := m') r nd.2 (by simpa using e1) (by simpa using e2) (by simpa using e3) (by simpa using e4)]
  | _, _, 0, j + 1, p, m, m', .val _ r, nd, e1, e2, e3, e4 => by simp at e1
  | _, _, i + 1, 0, p, m, m', .val _ r, nd, e1, e2, e3, e4 => by simp at e2
  | _, _, 0, j + 1, p, m, m', .io _ _ r, nd, e1, e2, e3, e4 => by
    rw [ioA_io] at nd
    have nd := List.nodup_cons.mp nd
    obtain ⟨v, h1, q, h2, _, _, h3⟩ := r.at (i := j) (a := .io m') (by simpa using e2)
    rw [List.getElem?_cons_succ, h1] at e4
    cases e4
    cases h2
    simp at e3
    subst e3
    exact absurd h3 nd.1
  | _, _, i + 1, 0, p, m, m', .io _ _ r, nd, e1, e2, e3, e4 => by
    rw [ioA_io] at nd
    have nd := List.nodup_cons.mp nd
    obtain ⟨v, h1, q, h2, _, _, h3⟩ := r.at (i := i) (a := .io m) (by simpa using e1)
    rw [List.getElem?_cons_succ, h1] at e3
    cases e3
    cases h2
    simp at e4
    subst e4
    exact absurd h3 nd.1
theorem start_get {N : List Str} {vs : List V} {i : Nat} {v : V} (h : vs[i]? = some v) : (L2.start N vs)[i]? = some (some v) := by
  unfold L2.start
  have hl : i < vs.length := (List.getElem?_eq_some_iff.mp h).1
  rw [List.getElem?_append_left (by simpa using hl), List.getElem?_map, h]
  rfl
theorem rho0_get {l i : Nat} {as : List Arg} {s : Slot} (h : (rho0 l as)[i]? = some s) : s = .no ∨ ∃ a, as[i]? = some a ∧ s = toS a := by
  unfold rho0 at h
  by_cases hl : i < as.length
  · rw [List.getElem?_append_left (by simpa using hl), List.getElem?_map] at h
    cases e : as[i]? with
    | none => rw [e] at h; cases h
    | some a =>
      rw [e] at h
      cases h
      exact .inr ⟨a, rfl, rfl⟩
  · rw [List.getElem?_append_right (by simpa using hl), List.getElem?_replicate] at h
    split at h
    · cases h
      exact .inl rfl
    · cases h
variable [FE] in
theorem Sta.start {N : List Str} (s : Same F H ∧ LamX.Tabs FE.tabs H ∧ NoT F) (r : ArgsR K F H vs as) (nd : (ioA vs as).Nodup) (hl : vs.length ≤ N.length) :
    Sta K (fun i => adrV vs[i]?) ⟨H, F, ioA vs as, []⟩ F H (L2.start N vs) (rho0 N.length as) := by
  have hlen := r.length
  refine ⟨fun q o e _ _ _ => e, fun q hq => ?_, Same.refl _, s.1, fun q o _ n => n, ?_, fun i sl hs => ?_, fun i j p h1 h2 => ?_, ⟨s.2.1, fun q ps e => ⟨ps, e⟩, s.2.2⟩⟩
  · rcases hq with hq | hq
    · exact r.here q hq
    · cases hq
  · unfold L2.start rho0
    rw [List.length_append, List.length_append, List.length_map, List.length_map, List.length_replicate, List.length_replicate]
    omega
  · rcases rho0_get hs with rfl | ⟨a, ha, rfl⟩
    · trivial
    · obtain ⟨v, hv, z⟩ := r.at ha
      cases a with
      | lk C f jj => trivial
      | val d => exact ⟨v, start_get hv, z⟩
      | io m =>
        obtain ⟨p, rfl, n, hm, hp⟩ := z
        have e : adrV vs[i]? = p := by rw [hv]; rfl
        refine ⟨?_, ?_, ?_, ?_⟩
        · show _ = some (some (V.ref (adrV vs[i]?)))
          rw [e]
          exact start_get hv
        · show F (adrV vs[i]?) = none
          rw [e]
          exact n
        · show adrV vs[i]? ∈ ioA vs as
          rw [e]
          exact hp
        · show MRep K F H (adrV vs[i]?) m
          rw [e]
          exact hm
  · have key : ∀ j, OwnAt (L2.start N vs) (rho0 N.length as) j p → ∃ m, as[j]? = some (.io m) ∧ vs[j]? = some (.ref p) := fun j ⟨e, m, h⟩ => by
      have z : ∃ m, as[j]? = some (.io m) := by
        rcases h with h | h
        · rcases rho0_get h with h | ⟨a, _, h⟩
          · cases h
          · cases a <;> cases h
        · rcases rho0_get h with h | ⟨a, ha, h⟩
          · cases h
          · cases a with
            | lk C f jj => cases h
            | val d => cases h
            | io m' => exact ⟨m', ha⟩
      obtain ⟨m', ha⟩ := z
      obtain ⟨v, hv, _⟩ := r.at ha
      have := start_get (N := N) hv
      rw [e] at this
      cases this
      exact ⟨m', ha, hv⟩
    obtain ⟨m1, a1, b1⟩ := key i h1
    obtain ⟨m2, a2, b2⟩ := key j h2
    exact r.uniq nd a1 a2 b1 b2
variable [FE] in
/-- what the handed things hold at the end -/
theorem collect_ok {F' H' : Hp} {σ : L2.St} {c : Cfg} {π : Nat → Addr} {ρ : Rho} (S : Sta K π c F' H' σ ρ) : ∀ {vs : List V} {as : List Arg} {i : Nat} {outs : List M}, ArgsR K F H vs as → (∀ j v, vs[j]? = some v → π (i + j) = adrV (some v)) → collect as i ρ = some outs → Paired (fun p m => MRep K F' H' p m) (ioA vs as) outs
  | _, _, _, _, .nil, _, e => by
    cases e
    exact .nil
  | _, _, i, outs, .lk r, h, e => by
    have := collect_ok S (i := i + 1) r (fun j v hv => by rw [← h (j + 1) v (by simpa using hv)]; congr 1; omega) (by simpa [collect] using e)
    simpa [ioA] using this
  | _, _, i, outs, .val _ r, h, e => by
    have := collect_ok S (i := i + 1) r (fun j v hv => by rw [← h (j + 1) v (by simpa using hv)]; congr 1; omega) (by simpa [collect] using e)
    simpa [ioA] using this
  | _, _, i, outs, .io (p := p) n m r, h, e => by
    unfold collect at e
    split at e
    · rename_i m1 e1
      cases e2 : collect _ (i + 1) ρ with
      | none => rw [e2] at e; cases e
      | some l =>
        rw [e2] at e
        cases e
        have := collect_ok S (i := i + 1) r (fun j v hv => by rw [← h (j + 1) v (by simpa using hv)]; congr 1; omega) e2
        obtain ⟨_, _, _, q⟩ := S.rep i _ e1
        have hp : π i = p := by
          have z := h 0 (.ref p) (by simp)
          simpa [adrV] using z
        rw [hp] at q
        have z : Paired (fun p m => MRep K F' H' p m) (p :: ioA _ _) (m1 :: l) := .cons q this
        simpa [ioA] using z
    · cases e
end
section
variable {P : Program} {w : World} {K : PySem.W.Frag} {mg : Str → Option Value} {base : Heap}
variable [FE] in
/-- from a body: what follows it in the def's caller -/
theorem body_end {N : List Str} {F H : Hp} {vs : List V} {as : List Arg} {Q : VK} {E : XK} {g : SF} (s : Same F H ∧ LamX.Tabs FE.tabs H ∧ NoT F) (r : ArgsR K F H vs as) (nd : (ioA vs as).Nodup) (hl : vs.length ≤ N.length) (h : PoR K F H (ioA vs as) Q E (bodyG N.length g as)) :
    tS K (fun i => adrV vs[i]?) (fun cls d _ H => E cls d H) g { nx := fun _ H' => Q .non H', rt := Q } (L2.start N vs) H := by
  refine ⟨⟨H, F, ioA vs as, []⟩, F, rho0 N.length as, rfl, Sta.start s r nd hl, ?_⟩
  unfold bodyG at h
  have post : ∀ {σ' : L2.St} {F' H' : Hp} {ρ' : Rho} {outs : List M}, Sta K (fun i => adrV vs[i]?) ⟨H, F, ioA vs as, []⟩ F' H' σ' ρ' → collect as 0 ρ' = some outs → PostG K F H (ioA vs as) outs F' H' := fun {σ' F' H' ρ' outs} S e =>
    ⟨S.f0, S.f, fun q o eq n nt => S.h0 q o eq n (fun z => by cases z) nt, fun q o eq n => S.nf q o eq n, collect_ok S r (fun j v hv => by simp [hv]) e, ⟨S.t.tb, S.t.tk, S.t.nt⟩⟩
  cases eg : g (rho0 N.length as) with
  | stuck => rw [eg] at h; exact h
  | exc C fs ρ' =>
    rw [eg] at h
    have h : PoR K F H (ioA vs as) Q E (endG as (.exc C fs) ρ') := h
    unfold endG at h
    cases ec : collect as 0 ρ' with
    | none => rw [ec] at h; exact h.elim
    | some outs =>
      rw [ec] at h
      exact fun dd fsV σ' F' H' s' S' => h dd fsV F' H' (post S' ec)
  | ok fl ρ' =>
    rw [eg] at h
    cases fl with
    | bk => exact h.elim
    | ct => exact h.elim
    | nx =>
      have h : PoR K F H (ioA vs as) Q E (endG as (.ok (.v .non)) ρ') := h
      unfold endG at h
      cases ec : collect as 0 ρ' with
      | none => rw [ec] at h; exact h.elim
      | some outs =>
        rw [ec] at h
        exact fun σ' F' H' s' S' => h .non F' H' (post S' ec) .non
    | rt rr =>
      have h : PoR K F H (ioA vs as) Q E (endG as (.ok rr) ρ') := h
      unfold endG at h
      cases ec : collect as 0 ρ' with
      | none => rw [ec] at h; exact h.elim
      | some outs =>
        rw [ec] at h
        refine fun v σ' F' H' s' S' rv => h v F' H' (post S' ec) ?_
        cases rr with
        | v d => exact rv
        | m m =>
          obtain ⟨p, e, n, n0, _, hm⟩ := rv
          exact ⟨p, e, n0, n, hm⟩
variable [FE] in
/-- THE RULE for a def -/
theorem fnG {x qual : Str} {st : Stmt} {f : Addr} {fd : FuncData} {N ps : List Str} {k : Nat} {g : SF} (Fd : Fun K x qual st f fd) (Sc : FnScope N ps (defScope st))
    (hbody : ∀ (cdv : Value) (A : Around) (outer : List Env) (s : Shared) (H : Hp) (E : XK) (π : Nat → Addr) (W : WX), RoomG k (cxF P w K mg base N qual (defScope st) f cdv A outer s H E).A → L2N.Takes (cxF P w K mg base N qual (defScope st) f cdv A outer s H E) W →
      PassesOwn (model P w) (cxF P w K mg base N qual (defScope st) f cdv A outer s H E).A (cxF P w K mg base N qual (defScope st) f cdv A outer s H E).env (cxF P w K mg base N qual (defScope st) f cdv A outer s H E).xe →
      PSs (cxF P w K mg base N qual (defScope st) f cdv A outer s H E) (defBody st) (tS K π W g)) : FnG P w K mg base (k + 1) f fd ps (spG K ps.length (bodyG N.length g)) := by
  obtain ⟨oc, od, kV, doc, pm, an, cdv, ct, osl, rfl, lk, hcd⟩ := Fd.ex
  refine ⟨fun vs H Q E ⟨_, _, _, _, h, _⟩ => h, fun A outer s H args us vs Q E hr e0 hb r hsp => ?_⟩
  obtain ⟨F, as, sm, ra, hl, nd, hP⟩ := hsp
  have KX : K.In s.heap := e0.mod.kin.keeps fun b o e => (e0.bs b o e).1
  have lim : s.heap.NoLimit := e0.mod.nolimit.keeps fun b o e => (e0.bs b o e).1
  have hps : ps.length ≤ N.length := by
    have := congrArg List.length Sc.pre
    rw [List.length_take] at this
    omega
  refine codeAny_call_function hr.r.depth (KX _ _ lk) rfl Sc.co Sc.gen rfl (PySem.W.codeRec_of KX hcd) (hb _ _ _ _ ?_)
  refine wpAny_newFunctionEnv_cells Sc.kind (fun ⟨n, v⟩ hy => ?_) fun env he s1 x => ?_
  · rcases Sc.par n (List.of_mem_zip hy).1 with q | q
    · exact .inl q
    · exact .inr ⟨q, PySem.W.cellsFrom_some _ _ _ (.inl q)⟩
  · subst he
    refine ⟨lim.keeps x.toInCall.keep, codeAny_func ?_⟩
    have hx := hbody cdv A outer s H E (fun i => adrV vs[i]?) (fun cls d _ H => E cls d H) (hr.deeper _) (L2N.takes_of rfl rfl rfl rfl) (passes_of rfl)
    have I : Inv (cxOf (L2N.CX P w) P w K mg base N qual (defScope st) f cdv A outer s H E) [] (L2.start N vs) H s1 := inv_start Sc hr.r.hd e0 hl r x
    have run := hx.run [] s1 (L2.start N vs) H { nx := fun _ H' => Q .non H', rt := Q } I (body_end sm ra nd (by omega) hP)
    refine wpAny_mono run (fun fl s' hs => ?_) fun e s' hs => hs
    cases fl with
    | ret u =>
      obtain ⟨v, σ', H', J, rv, q⟩ := hs
      exact ⟨v, H', J.os, J.bare, J.base, J.hok, rv, q⟩
    | next =>
      obtain ⟨σ', H', J, q⟩ := hs
      exact ⟨V.non, H', J.os, J.bare, J.base, J.hok, rfl, q⟩
    | brk =>
      obtain ⟨_, _, _, q⟩ := hs
      exact q.elim
    | cont =>
      obtain ⟨_, _, _, q⟩ := hs
      exact q.elim
end
end FL
/-! FL8: calls of defs. -/
namespace FL
open PySem PySem.Spec PyProof.Rows L2

/-! ### arguments -/
inductive AA where
  | val (d : D)
  | sl (i : Nat)
  | lk (i j : Nat)
inductive AAs (K : PySem.W.Frag) (F : Hp) (σ : L2.St) : List V → List AA → Prop
  | nil : AAs K F σ [] []
  | val {v : V} {d : D} {vs : List V} {as : List AA} : Rep K F v d → AAs K F σ vs as → AAs K F σ (v :: vs) (.val d :: as)
  | sl {v : V} {i : Nat} {vs : List V} {as : List AA} : σ[i]? = some (some v) → AAs K F σ vs as → AAs K F σ (v :: vs) (.sl i :: as)
  | lk {v : V} {i j : Nat} {vs : List V} {as : List AA} : σ[i]? = some (some v) → AAs K F σ vs as → AAs K F σ (v :: vs) (.lk i j :: as)
def relB (K : PySem.W.Frag) : Rel (List V) (List AA) := fun _ F _ σ _ vs as => AAs K F σ vs as
abbrev BF := Rho → R (List AA)
section
variable {K : PySem.W.Frag} {F F' H H' : Hp} {σ : L2.St} {vs : List V} {as : List AA}
theorem AAs.mono (e : Same F F') : ∀ {vs : List V} {as : List AA}, AAs K F σ vs as → AAs K F' σ vs as
  | _, _, .nil => .nil
  | _, _, .val h r => .val (h.mono e) (AAs.mono e r)
  | _, _, .sl h r => .sl h (AAs.mono e r)
  | _, _, .lk h r => .lk h (AAs.mono e r)
theorem AAs.length : ∀ {vs : List V} {as : List AA}, AAs K F σ vs as → vs.length = as.length
  | _, _, .nil => rfl
  | _, _, .val _ r => congrArg (· + 1) (AAs.length r)
  | _, _, .sl _ r => congrArg (· + 1) (AAs.length r)
  | _, _, .lk _ r => congrArg (· + 1) (AAs.length r)
theorem AAs.append : ∀ {vs ws : List V} {as bs : List AA}, AAs K F σ vs as → AAs K F σ ws bs → AAs K F σ (vs ++ ws) (as ++ bs)
  | _, _, _, _, .nil, r => r
  | _, _, _, _, .val h q, r => .val h (AAs.append q r)
  | _, _, _, _, .sl h q, r => .sl h (AAs.append q r)
  | _, _, _, _, .lk h q, r => .lk h (AAs.append q r)
theorem AAs.get : ∀ {vs : List V} {as : List AA} (i : Nat), AAs K F σ vs as → (∃ v a, vs[i]? = some v ∧ as[i]? = some a ∧ AAs K F σ [v] [a]) ∨ (vs[i]? = none ∧ as[i]? = none)
  | _, _, _, .nil => .inr ⟨by simp, by simp⟩
  | _, _, 0, .val h _ => .inl ⟨_, _, rfl, rfl, .val h .nil⟩
  | _, _, 0, .sl h _ => .inl ⟨_, _, rfl, rfl, .sl h .nil⟩
  | _, _, 0, .lk h _ => .inl ⟨_, _, rfl, rfl, .lk h .nil⟩
  | _, _, i + 1, .val _ r => by simpa using AAs.get i r
  | _, _, i + 1, .sl _ r => by simpa using AAs.get i r
  | _, _, i + 1, .lk _ r => by simpa using AAs.get i r
def pick {α : Type} (ord : List Nat) (l : List α) : List α := ord.filterMap fun i => l[i]?
theorem AAs.pick (r : AAs K F σ vs as) : ∀ ord : List Nat, AAs K F σ (FL.pick ord vs) (FL.pick ord as)
  | [] => .nil
  | i :: ord => by
    have z := AAs.pick r ord
    unfold FL.pick at z ⊢
    rcases r.get i with ⟨v, a, e1, e2, h⟩ | ⟨e1, e2⟩
    · rw [List.filterMap_cons, List.filterMap_cons, e1, e2]
      exact h.append z
    · rw [List.filterMap_cons, List.filterMap_cons, e1, e2]
      exact z
end
def ioM (ρ : Rho) (i : Nat) : Option M := match ρ[i]? with
  | some (.own m) => some m
  | some (.io m) => some m
  | _ => none
def lnkC (ρ : Rho) (i : Nat) : Option (Addr × Str × Nat) := match ρ[i]? with
  | some (.lk C f j) => some (C, f, j)
  | _ => none
def toArgs (ρ : Rho) : List AA → Option (List Arg)
  | [] => some []
  | .lk i j :: as => (lnkC ρ i).bind fun p => (toArgs ρ as).map (.lk p.1 p.2.1 j :: ·)
  | .val d :: as => (toArgs ρ as).map (.val d :: ·)
  | .sl i :: as => (ioM ρ i).bind fun m => (toArgs ρ as).map (.io m :: ·)
def slsA : List AA → List Nat
  | [] => []
  | .lk _ _ :: as => slsA as
  | .val _ :: as => slsA as
  | .sl i :: as => i :: slsA as
def newM : List AA → List M → Nat → Option M
  | .sl j :: as, m :: ms, i => if i = j then some m else newM as ms i
  | .val _ :: as, ms, i => newM as ms i
  | .lk _ _ :: as, ms, i => newM as ms i
  | _, _, _ => none
def putM (m : M) : Slot → Slot
  | .own _ => .own m
  | .io _ => .io m
  | s => s
def putA (as : List AA) (outs : List M) (ρ : Rho) : Rho := ρ.mapIdx fun i s => match newM as outs i with
  | some m => putM m s
  | none => s
def nodN : List Nat → Bool
  | [] => true
  | a :: l => !(l.contains a) && nodN l
theorem nodN_of : ∀ {l : List Nat}, nodN l = true → l.Nodup
  | [], _ => List.nodup_nil
  | a :: l, h => by
    unfold nodN at h
    rw [Bool.and_eq_true] at h
    refine List.nodup_cons.mpr ⟨fun z => ?_, nodN_of h.2⟩
    have := h.1
    rw [List.contains_iff_mem.mpr z] at this
    cases this
section
variable [FE]
variable {K : PySem.W.Frag} {π : Nat → Addr} {c : Cfg} {F F' H H' : Hp} {σ : L2.St} {ρ : Rho} {vs : List V} {as : List AA} {gs : List Arg} {outs : List M}
theorem Sta.ioM (S : Sta K π c F H σ ρ) {i : Nat} {m : M} (h : FL.ioM ρ i = some m) : ∃ p, σ[i]? = some (some (.ref p)) ∧ F p = none ∧ MRep K F H p m ∧ OwnAt σ ρ i p := by
  unfold FL.ioM at h
  split at h
  · rename_i m' e
    cases h
    obtain ⟨p, e1, e2, _, e4⟩ := S.rep i _ e
    exact ⟨p, e1, e2, e4, e1, m, .inl e⟩
  · rename_i m' e
    cases h
    obtain ⟨e1, e2, _, e4⟩ := S.rep i _ e
    exact ⟨π i, e1, e2, e4, e1, m, .inr e⟩
  · cases h
theorem Sta.lnkC (S : Sta K π c F H σ ρ) {i : Nat} {p : Addr × Str × Nat} (h : FL.lnkC ρ i = some p) : ∃ a dx, σ[i]? = some (some (.ref a)) ∧ F a = some (.ins p.1 dx [(p.2.1, .ref (π p.2.2))]) := by
  unfold FL.lnkC at h
  split at h
  · rename_i C f j e
    cases h
    exact S.rep i _ e
  · cases h
theorem lk_inv {i j : Nat} {as : List AA} (e : toArgs ρ (.lk i j :: as) = some gs) : ∃ p l, FL.lnkC ρ i = some p ∧ toArgs ρ as = some l ∧ gs = .lk p.1 p.2.1 j :: l := by
  unfold toArgs at e
  cases e0 : FL.lnkC ρ i with
  | none => rw [e0] at e; cases e
  | some p =>
    rw [e0] at e
    cases e1 : toArgs ρ as with
    | none => rw [e1] at e; cases e
    | some l =>
      rw [e1] at e
      cases e
      exact ⟨p, l, rfl, rfl, rfl⟩
theorem AAs.args (S : Sta K π c F H σ ρ) : ∀ {vs : List V} {as : List AA} {gs : List Arg}, AAs K F σ vs as → toArgs ρ as = some gs → ArgsR K F H vs gs
  | _, _, _, .nil, e => by
    cases e
    exact .nil
  | _, _, gs, .lk h r, e => by
    obtain ⟨p, l, e0, e1, rfl⟩ := lk_inv e
    obtain ⟨a, dx, a1, _⟩ := S.lnkC e0
    rw [h] at a1
    cases a1
    exact .lk (AAs.args S r e1)
  | _, _, gs, .val (as := as) h r, e => by
    unfold toArgs at e
    cases e1 : toArgs ρ as with
    | none => rw [e1] at e; cases e
    | some l =>
      rw [e1] at e
      cases e
      exact .val h (AAs.args S r e1)
  | _, _, gs, .sl (i := i) (as := as) h r, e => by
    unfold toArgs at e
    cases e0 : FL.ioM ρ i with
    | none => rw [e0] at e; cases e
    | some m =>
      rw [e0] at e
      cases e1 : toArgs ρ as with
      | none => rw [e1] at e; cases e
      | some l =>
        rw [e1] at e
        cases e
        obtain ⟨p, a1, a2, a3, a4⟩ := S.ioM e0
        rw [h] at a1
        cases a1
        exact .io a2 a3 (AAs.args S r e1)
theorem AAs.own (S : Sta K π c F H σ ρ) {q : Addr} : ∀ {vs : List V} {as : List AA} {gs : List Arg}, AAs K F σ vs as → toArgs ρ as = some gs → q ∈ ioA vs gs → ∃ i ∈ slsA as, OwnAt σ ρ i q
  | _, _, _, .nil, e, h => by
    cases e
    simp [ioA] at h
  | _, _, gs, .lk h r, e, hq => by
    obtain ⟨p, l, e0, e1, rfl⟩ := lk_inv e
    obtain ⟨i, hi, o⟩ := AAs.own S r e1 (by simpa [ioA] using hq)
    exact ⟨i, by simpa [slsA] using hi, o⟩
  | _, _, gs, .val (as := as) h r, e, hq => by
    unfold toArgs at e
    cases e1 : toArgs ρ as with
    | none => rw [e1] at e; cases e
    | some l =>
      rw [e1] at e
      cases e
      obtain ⟨i, hi, o⟩ := AAs.own S r e1 (by simpa [ioA] using hq)
      exact ⟨i, by simpa [slsA] using hi, o⟩
  | _, _, gs, .sl (i := i) (as := as) h r, e, hq => by
    unfold toArgs at e
    cases e0 : FL.ioM ρ i with
    | none => rw [e0] at e; cases e
    | some m =>
      rw [e0] at e
      cases e1 : toArgs ρ as with
      | none => rw [e1] at e; cases e
      | some l =>
        rw [e1] at e
        cases e
        obtain ⟨p, a1, a2, a3, a4⟩ := S.ioM e0
        rw [h] at a1
        cases a1
        rw [ioA_io] at hq
        rcases List.mem_cons.mp hq with z | z
        · subst z
          exact ⟨i, by simp [slsA], a4⟩
        · obtain ⟨j, hj, o⟩ := AAs.own S r e1 z
          exact ⟨j, by simp [slsA, hj], o⟩
theorem AAs.nod (S : Sta K π c F H σ ρ) : ∀ {vs : List V} {as : List AA} {gs : List Arg}, AAs K F σ vs as → toArgs ρ as = some gs → (slsA as).Nodup → (ioA vs gs).Nodup
  | _, _, _, .nil, e, _ => by
    cases e
    exact List.nodup_nil
  | _, _, gs, .lk h r, e, nd => by
    obtain ⟨p, l, e0, e1, rfl⟩ := lk_inv e
    simpa [ioA] using AAs.nod S r e1 (by simpa [slsA] using nd)
  | _, _, gs, .val (as := as) h r, e, nd => by
    unfold toArgs at e
    cases e1 : toArgs ρ as with
    | none => rw [e1] at e; cases e
    | some l =>
      rw [e1] at e
      cases e
      simpa [ioA] using AAs.nod S r e1 (by simpa [slsA] using nd)
  | _, _, gs, .sl (i := i) (as := as) h r, e, nd => by
    unfold toArgs at e
    cases e0 : FL.ioM ρ i with
    | none => rw [e0] at e; cases e
    | some m =>
      rw [e0] at e
      cases e1 : toArgs ρ as with
      | none => rw [e1] at e; cases e
      | some l =>
        rw [e1] at e
        cases e
        obtain ⟨p, a1, a2, a3, a4⟩ := S.ioM e0
        rw [h] at a1
        cases a1
        have nd := List.nodup_cons.mp (show (i :: slsA as).Nodup from nd)
        rw [ioA_io]
        refine List.nodup_cons.mpr ⟨fun z => ?_, AAs.nod S r e1 nd.2⟩
        obtain ⟨j, hj, o⟩ := AAs.own S r e1 z
        have := S.dis i j _ a4 o
        subst this
        exact nd.1 hj
theorem AAs.new (S : Sta K π c F H σ ρ) {rr : Addr → M → Prop} {i : Nat} {q : Addr} (ow : OwnAt σ ρ i q) : ∀ {vs : List V} {as : List AA} {gs : List Arg} {outs : List M}, AAs K F σ vs as → toArgs ρ as = some gs → Paired rr (ioA vs gs) outs →
    (∃ m, newM as outs i = some m ∧ rr q m) ∨ (newM as outs i = none ∧ q ∉ ioA vs gs)
  | _, _, _, _, .nil, e, pr => by
    cases e
    exact .inr ⟨rfl, by simp [ioA]⟩
  | _, _, gs, outs, .lk h r, e, pr => by
    obtain ⟨p, l, e0, e1, rfl⟩ := lk_inv e
    have z := AAs.new S ow r e1 (rr := rr) (outs := outs) (by simpa [ioA] using pr)
    simpa [newM, ioA] using z
  | _, _, gs, outs, .val (as := as) h r, e, pr => by
    unfold toArgs at e
    cases e1 : toArgs ρ as with
    | none => rw [e1] at e; cases e
    | some l =>
      rw [e1] at e
      cases e
      have z := AAs.new S ow r e1 (rr := rr) (outs := outs) (by simpa [ioA] using pr)
      simpa [newM, ioA] using z
  | _, _, gs, outs, .sl (i := j) (as := as) h r, e, pr => by
    unfold toArgs at e
    cases e0 : FL.ioM ρ j with
    | none => rw [e0] at e; cases e
    | some m =>
      rw [e0] at e
      cases e1 : toArgs ρ as with
      | none => rw [e1] at e; cases e
      | some l =>
        rw [e1] at e
        cases e
        obtain ⟨p, a1, a2, a3, a4⟩ := S.ioM e0
        rw [h] at a1
        cases a1
        rw [ioA_io] at pr ⊢
        cases pr with
        | @cons _ m1 _ ms h1 h2 =>
          by_cases z : i = j
          · subst z
            have : q = p := by
              have := ow.1
              rw [h] at this
              cases this
              rfl
            subst this
            exact .inl ⟨m1, by show (if i = i then _ else _) = _; rw [if_pos rfl], h1⟩
          · have e3 : newM (.sl j :: as) (m1 :: ms) i = newM as ms i := by show (if i = j then _ else _) = _; rw [if_neg z]
            rw [e3]
            rcases AAs.new S ow r e1 h2 with ⟨m2, y1, y2⟩ | ⟨y1, y2⟩
            · exact .inl ⟨m2, y1, y2⟩
            · refine .inr ⟨y1, fun w => ?_⟩
              rcases List.mem_cons.mp w with w | w
              · subst w
                exact z (S.dis i j _ ow a4)
              · exact y2 w
theorem paired_mem {α β : Type} {r : α → β → Prop} : ∀ {xs : List α} {ys : List β} {x : α}, Paired r xs ys → x ∈ xs → ∃ y, r x y
  | _, _, _, .nil, h => by cases h
  | _, _, _, .cons h t, m => by
    rcases List.mem_cons.mp m with e | m
    · subst e
      exact ⟨_, h⟩
    · exact paired_mem t m
/-- behind a call -/
theorem Sta.post (S : Sta K π c F H σ ρ) (r : AAs K F σ vs as) (e : toArgs ρ as = some gs) (P : PostG K F H (ioA vs gs) outs F' H') : Sta K π c F' H' σ (putA as outs ρ) := by
  have own : ∀ {q}, q ∈ ioA vs gs → ∃ i, OwnAt σ ρ i q := fun hq => by
    obtain ⟨i, _, o⟩ := r.own S e hq
    exact ⟨i, o⟩
  have lk : ∀ {i s}, (putA as outs ρ)[i]? = some s → ∃ s0, ρ[i]? = some s0 ∧ s = (match newM as outs i with | some m => putM m s0 | none => s0) := fun {i s} h => by
    unfold putA at h
    rw [List.getElem?_mapIdx] at h
    cases e : ρ[i]? with
    | none => rw [e] at h; cases h
    | some s0 =>
      rw [e] at h
      cases h
      exact ⟨s0, rfl, rfl⟩
  have any : ∀ {q o}, H q = some o → ∃ o', H' q = some o' := fun {q o} ho => by
    by_cases z : q ∈ ioA vs gs
    · obtain ⟨m, hm⟩ := paired_mem P.outs z
      exact hm.here
    · by_cases zt : ∃ ps, o = .tbl ps
      · obtain ⟨ps, rfl⟩ := zt
        obtain ⟨ps', e'⟩ := P.t.tk q ps ho
        exact ⟨_, e'⟩
      · exact ⟨o, P.keep q o ho z fun ps y => zt ⟨ps, y⟩⟩
  refine ⟨fun q o eq n1 n2 nt => ?_, fun q hq => ?_, S.f0.trans P.f, P.fh, fun q o e1 e2 => ?_, by unfold putA; rw [List.length_mapIdx]; exact S.len, fun i s hs => ?_, fun i j p h1 h2 => ?_, ⟨P.t.tb, fun q ps e => by
    obtain ⟨ps', e'⟩ := S.t.tk q ps e
    exact P.t.tk q ps' e', P.t.nt⟩⟩
  · refine P.keep q o (S.h0 q o eq n1 n2 nt) (fun z => ?_) nt
    obtain ⟨i, o'⟩ := own z
    rcases (S.ownAt o').2.1 with y | y | y
    · rw [eq] at y; cases y
    · exact n2 y
    · exact n1 y
  · obtain ⟨o, ho⟩ := S.hio q hq
    exact any ho
  · obtain ⟨o', e'⟩ := S.any e1
    exact P.nf q o' e' (S.nf q o e1 e2)
  · obtain ⟨s0, h0, rfl⟩ := lk hs
    have z := S.rep i s0 h0
    cases s0 with
    | lk C f jj =>
      obtain ⟨a, dx, e1, h1⟩ := z
      cases newM as outs i with
      | none => exact ⟨a, dx, e1, P.f _ _ h1⟩
      | some m => exact ⟨a, dx, e1, P.f _ _ h1⟩
    | no =>
      cases newM as outs i <;> trivial
    | val d =>
      obtain ⟨v, e1, r1⟩ := z
      cases newM as outs i with
      | none => exact ⟨v, e1, r1.mono P.f⟩
      | some m => exact ⟨v, e1, r1.mono P.f⟩
    | own m0 =>
      obtain ⟨p, e1, e2, e3, e4⟩ := z
      obtain ⟨o, ho, hmu⟩ := e4.mut
      rcases r.new S (i := i) (q := p) ⟨e1, m0, .inl h0⟩ e P.outs with ⟨m, y1, y2⟩ | ⟨y1, y2⟩
      · rw [y1]
        exact ⟨p, e1, P.nf p o ho e2, e3, y2⟩
      · rw [y1]
        exact ⟨p, e1, P.nf p o ho e2, e3, e4.mono P.f fun o' ho' => P.keep p o' ho' y2 (by rw [ho] at ho'; cases ho'; exact hmu.nt)⟩
    | io m0 =>
      obtain ⟨e1, e2, e3, e4⟩ := z
      obtain ⟨o, ho, hmu⟩ := e4.mut
      rcases r.new S (i := i) (q := π i) ⟨e1, m0, .inr h0⟩ e P.outs with ⟨m, y1, y2⟩ | ⟨y1, y2⟩
      · rw [y1]
        exact ⟨e1, P.nf _ o ho e2, e3, y2⟩
      · rw [y1]
        exact ⟨e1, P.nf _ o ho e2, e3, e4.mono P.f fun o' ho' => P.keep _ o' ho' y2 (by rw [ho] at ho'; cases ho'; exact hmu.nt)⟩
  · have key : ∀ j, OwnAt σ (putA as outs ρ) j p → OwnAt σ ρ j p := fun j h => by
      obtain ⟨e, m, h⟩ := h
      rcases h with h | h
      · obtain ⟨s0, h0, e0⟩ := lk h
        cases s0 with
        | own m0 => exact ⟨e, m0, .inl h0⟩
        | io m0 => exact ⟨e, m0, .inr h0⟩
        | no => cases hn : newM as outs j <;> rw [hn] at e0 <;> cases e0
        | val d => cases hn : newM as outs j <;> rw [hn] at e0 <;> cases e0
        | lk C f jj => cases hn : newM as outs j <;> rw [hn] at e0 <;> cases e0
      · obtain ⟨s0, h0, e0⟩ := lk h
        cases s0 with
        | own m0 => exact ⟨e, m0, .inl h0⟩
        | io m0 => exact ⟨e, m0, .inr h0⟩
        | no => cases hn : newM as outs j <;> rw [hn] at e0 <;> cases e0
        | val d => cases hn : newM as outs j <;> rw [hn] at e0 <;> cases e0
        | lk C f jj => cases hn : newM as outs j <;> rw [hn] at e0 <;> cases e0
    exact S.dis i j p (key i h1) (key j h2)
end

/-! ### the reading of a call -/
def okA (n : Nat) (as : List AA) : Bool := as.length == n && nodN (slsA as)
def callG {α : Type} (n : Nat) (G : List Arg → RG) (f : BF) (k : Res → Rho → R α) : Rho → R α := fun ρ => (f ρ).bind fun as ρ => if okA n as = true then match toArgs ρ as with
    | some gs => match G gs with
      | .ok r outs => k r (putA as outs ρ)
      | .exc C fs outs => .exc C fs (putA as outs ρ)
      | .stuck => .stuck
    | none => .stuck
  else .stuck
def asE : Res → Rho → R D
  | .v d, ρ => .ok d ρ
  | .m (.lst ds), ρ => .ok (.lst ds) ρ
  | .m (.dct ds), ρ => .ok (.dct ds) ρ
  | .m _, _ => .stuck
def asM : Res → Rho → R M
  | .m m, ρ => .ok m ρ
  | .v _, _ => .stuck
abbrev callE (n : Nat) (G : List Arg → RG) (f : BF) : EF := callG n G f asE
abbrev callM (n : Nat) (G : List Arg → RG) (f : BF) : Rho → R M := callG n G f asM
section
variable [FE]
variable {X : Cx} {π : Nat → Addr} {W : WX} {e : Expr} {es : List Expr} {pos p : Pos} {k : Nat} {f : Addr} {fd : FuncData} {ps ks : List Str} {G : List Arg → RG} {x : Str} {kws : List Keyword} {nm : Option Str} {kpos : Pos}
abbrev tB (K : PySem.W.Frag) (π : Nat → Addr) (W : WX) (f : BF) : TA := tG K π W (relB K) f
def nilB : BF := fun ρ => .ok [] ρ
def cnsB (f : EF) (g : BF) : BF := fun ρ => (f ρ).bind fun x ρ => (g ρ).bind fun xs ρ => .ok (.val x :: xs) ρ
def slB (i : Nat) (g : BF) : BF := fun ρ => match ioM ρ i with
  | some _ => (g ρ).bind fun xs ρ => .ok (.sl i :: xs) ρ
  | none => .stuck
theorem rd_nilB {K : PySem.W.Frag} {σ : L2.St} {H : Hp} {Q : List V → Hp → Prop} : tB K π W nilB σ H Q → tNil σ H Q := fun ⟨c, F, ρ, S, P⟩ => P [] F H (Same.refl _) S .nil
theorem rd_cnsB {K : PySem.W.Frag} {σ : L2.St} {H : Hp} {Q : List V → Hp → Prop} {f : EF} {g : BF} : tB K π W (cnsB f g) σ H Q → tCons (tE K π W f) (tB K π W g) σ H Q := fun ⟨c, F, ρ, S, P⟩ => by
  refine po_bind S P fun x F1 H1 ρ1 dx s1 S1 r1 P1 => ?_
  refine po_bind S1 P1 fun xs F2 H2 ρ2 ds s2 S2 r2 P2 => ?_
  exact P2 (x :: xs) F2 H2 (Same.refl _) S2 (.val (Rep.mono s2 r1) r2)
theorem rd_slB {K : PySem.W.Frag} {σ : L2.St} {H : Hp} {Q : List V → Hp → Prop} {i : Nat} {g : BF} : tB K π W (slB i g) σ H Q → tCons (tVar i) (tB K π W g) σ H Q := fun ⟨c, F, ρ, S, P⟩ => by
  unfold slB at P
  cases e : ioM ρ i with
  | none => rw [e] at P; exact P.elim
  | some m =>
    rw [e] at P
    obtain ⟨p, e1, _⟩ := S.ioM e
    refine ⟨_, e1, ?_⟩
    refine po_bind S P fun xs F2 H2 ρ2 ds s2 S2 r2 P2 => ?_
    exact P2 (_ :: xs) F2 H2 (Same.refl _) S2 (.sl e1 r2)
theorem fb_nil : PA X [] (tB X.K π W nilB) := PA.imp pa_nil fun σ H Q => rd_nilB
theorem fb_cons {f : EF} {g : BF} (ha : PE X e (tE X.K π W f)) (hr : PA X es (tB X.K π W g)) (hs : starEach (e :: es) X.env = (false, eval e X.env) :: starEach es X.env := by rfl) : PA X (e :: es) (tB X.K π W (cnsB f g)) :=
  PA.imp (pa_cons ha hr hs) fun σ H Q => rd_cnsB
theorem fb_sl {i : Nat} {g : BF} (ha : PE X e (tVar i)) (hr : PA X es (tB X.K π W g)) (hs : starEach (e :: es) X.env = (false, eval e X.env) :: starEach es X.env := by rfl) : PA X (e :: es) (tB X.K π W (slB i g)) :=
  PA.imp (pa_cons ha hr hs) fun σ H Q => rd_slB
theorem PK.imp {t t' : TA} (h : PK X kws t) (k : ∀ σ H Q, t' σ H Q → t σ H Q) : PK X kws t' := ⟨fun pos pins s σ H Q I q => h.run pos pins s σ H Q I (k σ H Q q)⟩
/-- the callee runs -/
theorem run_fnG {pins : List (Addr × Obj)} {σ : L2.St} {H : Hp} {s : Shared} {Q : VK} {us : List Value} {vs : List V} {sp : Sp} {args : Args} (F : FnG X.prog X.w X.K X.mg X.base k f fd ps sp) (hr : RoomG k X.A) (tk : L2N.Takes X W)
    (hb : BindsTo s fd args (ps.zip us)) (I : Inv X pins σ H s) (r : Vals vs us) (h : sp vs H Q fun cls d H' => W cls d σ H') : codeAny (model X.prog X.w) X.A (.call (.ref f) args) (fun r s' => match r with
      | .ok (.ret u) => EP X pins σ Q u s'
      | .ok _ => False
      | .error e => X.xe e s') s := by
  refine codeAny_mono (F.run X.A X.stack s H args us vs Q _ hr I.env0 hb r h) fun r s' hq => ?_
  cases r with
  | error e => exact L2N.passAt tk σ pins H s e s' I hq
  | ok fl =>
    cases fl with
    | ret u => exact I.after hq
    | next => exact False.elim hq
    | brk => exact False.elim hq
    | cont => exact False.elim hq
/-- from the reading of the arguments, with what they are -/
theorem rd_callP {α : Type} {rel : Rel V α} {σ : L2.St} {H : Hp} {Q : VK} {vs : List V} {as : List AA} {c : Cfg} {F : Hp} {ρ : Rho} {n : Nat} {kk : Res → Rho → R α}
    (hk : ∀ {r : Res} {ρ' : Rho} {v : V} {F' H' : Hp}, ResR X.K H F' H' v r → Sta X.K π c F' H' σ ρ' → c.H0 = c.H0 → (∀ q, H q = none → c.H0 q = none ∧ ∀ j, ¬ OwnAt σ ρ' j q) → Po X.K π W rel c F' σ Q (kk r ρ') → Q v H')
    (S : Sta X.K π c F H σ ρ) (ra : AAs X.K F σ vs as) (P : Po X.K π W rel c F σ Q (if okA n as = true then match toArgs ρ as with
      | some gs => match G gs with
        | .ok r outs => kk r (putA as outs ρ)
        | .exc C fs outs => .exc C fs (putA as outs ρ)
        | .stuck => .stuck
      | none => .stuck
    else .stuck)) : ∃ gs, toArgs ρ as = some gs ∧ (Same F H ∧ LamX.Tabs FE.tabs H ∧ NoT F) ∧ ArgsR X.K F H vs gs ∧ vs.length = n ∧ (ioA vs gs).Nodup ∧ PoR X.K F H (ioA vs gs) Q (fun cls d H' => W cls d σ H') (G gs) := by
  split at P
  · rename_i hok
    unfold okA at hok
    rw [Bool.and_eq_true] at hok
    have hl := beq_iff_eq.mp hok.1
    have hn := nodN_of hok.2
    cases e : toArgs ρ as with
    | none => rw [e] at P; exact P.elim
    | some gs =>
      rw [e] at P
      refine ⟨gs, rfl, ⟨S.f, S.t.tb, S.t.nt⟩, ra.args S e, ra.length.trans hl, ra.nod S e hn, ?_⟩
      have P : Po X.K π W rel c F σ Q (match G gs with
        | .ok r outs => kk r (putA as outs ρ)
        | .exc C fs outs => .exc C fs (putA as outs ρ)
        | .stuck => .stuck) := P
      cases eg : G gs with
      | stuck => rw [eg] at P; exact P
      | exc C fs outs =>
        rw [eg] at P
        exact fun dd fsV F' H' po hd hf hr => P dd fsV F' H' po.f (S.post ra e po) hd hf hr
      | ok r outs =>
        rw [eg] at P
        refine fun v F' H' po rv => hk rv (S.post ra e po) rfl (fun q hq => ?_) (Po.mono po.f P)
        refine ⟨?_, fun j hj => ?_⟩
        · cases z : c.H0 q with
          | none => rfl
          | some o =>
            obtain ⟨o', e'⟩ := S.any z
            rw [hq] at e'
            cases e'
        · have S' := S.post ra e po
          have z : ∃ m, ρ[j]? = some (.own m) ∨ ρ[j]? = some (.io m) := by
            obtain ⟨_, m, h⟩ := hj
            have lk : ∃ s0, ρ[j]? = some s0 ∧ ((∃ m, s0 = .own m) ∨ ∃ m, s0 = .io m) := by
              rcases h with h | h
              · unfold putA at h
                rw [List.getElem?_mapIdx] at h
                cases e0 : ρ[j]? with
                | none => rw [e0] at h; cases h
                | some s0 =>
                  rw [e0] at h
                  cases s0 with
                  | own m0 => exact ⟨_, rfl, .inl ⟨m0, rfl⟩⟩
                  | io m0 => exact ⟨_, rfl, .inr ⟨m0, rfl⟩⟩
                  | no => cases hn : newM as outs j <;> simp [hn, putM] at h
                  | val d => cases hn : newM as outs j <;> simp [hn, putM] at h
                  | lk C f jj => cases hn : newM as outs j <;> simp [hn, putM] at h
              · unfold putA at h
                rw [List.getElem?_mapIdx] at h
                cases e0 : ρ[j]? with
                | none => rw [e0] at h; cases h
                | some s0 =>
                  rw [e0] at h
                  cases s0 with
                  | own m0 => exact ⟨_, rfl, .inl ⟨m0, rfl⟩⟩
                  | io m0 => exact ⟨_, rfl, .inr ⟨m0, rfl⟩⟩
                  | no => cases hn : newM as outs j <;> simp [hn, putM] at h
                  | val d => cases hn : newM as outs j <;> simp [hn, putM] at h
                  | lk C f jj => cases hn : newM as outs j <;> simp [hn, putM] at h
            obtain ⟨s0, h0, ⟨m, rfl⟩ | ⟨m, rfl⟩⟩ := lk
            · exact ⟨m, .inl h0⟩
            · exact ⟨m, .inr h0⟩
          obtain ⟨o, ho⟩ := (S.ownAt ⟨hj.1, z⟩).2.2
          rw [hq] at ho
          cases ho
  · exact P.elim
/-- from the reading of the arguments -/
theorem rd_call {α : Type} {rel : Rel V α} {σ : L2.St} {H : Hp} {Q : VK} {vs : List V} {as : List AA} {c : Cfg} {F : Hp} {ρ : Rho} {n : Nat} {kk : Res → Rho → R α}
    (hk : ∀ {r : Res} {ρ' : Rho} {v : V} {F' H' : Hp}, ResR X.K H F' H' v r → Sta X.K π c F' H' σ ρ' → c.H0 = c.H0 → (∀ q, H q = none → c.H0 q = none ∧ ∀ j, ¬ OwnAt σ ρ' j q) → Po X.K π W rel c F' σ Q (kk r ρ') → Q v H')
    (S : Sta X.K π c F H σ ρ) (ra : AAs X.K F σ vs as) (P : Po X.K π W rel c F σ Q (if okA n as = true then match toArgs ρ as with
      | some gs => match G gs with
        | .ok r outs => kk r (putA as outs ρ)
        | .exc C fs outs => .exc C fs (putA as outs ρ)
        | .stuck => .stuck
      | none => .stuck
    else .stuck)) : spG X.K n G vs H Q fun cls d H' => W cls d σ H' := by
  obtain ⟨gs, _, z⟩ := rd_callP (kk := kk) hk S ra P
  exact ⟨F, gs, z⟩
theorem frz_new {K : PySem.W.Frag} {c : Cfg} {F H : Hp} {σ : L2.St} {ρ : Rho} (S : Sta K π c F H σ ρ) {p : Addr} {vs : List V} (ho : H p = some (.lst vs)) (f1 : F p = none) (f2 : c.H0 p = none) (f3 : ∀ j, ¬ OwnAt σ ρ j p) : Same F (upd F p (.lst vs)) ∧ Sta K π c (upd F p (.lst vs)) H σ ρ := by
  have sm : Same F (upd F p (.lst vs)) := sm_new f1
  refine ⟨sm, S.h0, S.hio, S.f0.trans sm, fun a u q => ?_, fun q o e n => ?_, S.len, fun i s hs => ?_, S.dis, ⟨S.t.tb, S.t.tk, S.t.nt.upd ⟨(by intro ps z; cases z), fun _ z => (nomatch z), fun _ _ z => (nomatch z)⟩⟩⟩
  · by_cases z : a = p
    · subst z
      rw [upd_same] at q
      cases q
      exact ho
    · rw [upd_ne z] at q
      exact S.f _ _ q
  · rw [upd_ne (fun z => by subst z; rw [f2] at e; cases e)]
    exact S.nf q o e n
  · have z := S.rep i s hs
    cases s with
    | lk C f jj => obtain ⟨a, dx, e1, h1⟩ := z; exact ⟨a, dx, e1, sm _ _ h1⟩
    | no => trivial
    | val d => obtain ⟨w, e1, q⟩ := z; exact ⟨w, e1, q.mono sm⟩
    | own m' =>
      obtain ⟨q, e1, e2, e3, q1⟩ := z
      have nq : q ≠ p := fun w => by subst w; exact f3 i ⟨e1, m', .inl hs⟩
      exact ⟨q, e1, by rw [upd_ne nq]; exact e2, e3, q1.mono sm fun _ hu => hu⟩
    | io m' =>
      obtain ⟨e1, e2, e3, q1⟩ := z
      have nq : π i ≠ p := fun w => by rw [w] at e1; exact f3 i ⟨e1, m', .inr hs⟩
      exact ⟨e1, by rw [upd_ne nq]; exact e2, e3, q1.mono sm fun _ hu => hu⟩
theorem k_asE {σ : L2.St} {H : Hp} {Q : VK} {c : Cfg} {r : Res} {ρ' : Rho} {v : V} {F' H' : Hp} (rv : ResR X.K H F' H' v r) (S : Sta X.K π c F' H' σ ρ') (nw : ∀ q, H q = none → c.H0 q = none ∧ ∀ j, ¬ OwnAt σ ρ' j q) (P : Po X.K π W (relE X.K) c F' σ Q (asE r ρ')) : Q v H' := by
  cases r with
  | v d => exact P v F' H' (Same.refl _) S rv
  | m m =>
    cases m with
    | ins _ _ => exact P.elim
    | dtu _ => exact P.elim
    | lst ds =>
      obtain ⟨p, rfl, n, nF, vs, ho, r⟩ := rv
      obtain ⟨sm, S'⟩ := frz_new S ho nF (nw p n).1 (nw p n).2
      exact P _ _ H' sm S' (.lst upd_same (r.mono sm))
    | dct ds =>
      obtain ⟨p, rfl, n, nF, kvs, ho, hk, r⟩ := rv
      obtain ⟨sm, S'⟩ := frz_newG S (by intro ps z; cases z) ho nF (nw p n).1 (nw p n).2
      exact P _ _ H' sm S' (.dct upd_same hk (r.mono sm))
theorem k_asM {σ : L2.St} {H : Hp} {Q : VK} {c : Cfg} {r : Res} {ρ' : Rho} {v : V} {F' H' : Hp} (rv : ResR X.K H F' H' v r) (S : Sta X.K π c F' H' σ ρ') (nw : ∀ q, H q = none → c.H0 q = none ∧ ∀ j, ¬ OwnAt σ ρ' j q) (P : Po X.K π W (relM X.K) c F' σ Q (asM r ρ')) : Q v H' := by
  cases r with
  | v d => exact P.elim
  | m m =>
    obtain ⟨p, rfl, n, nF, hm⟩ := rv
    exact P _ F' H' (Same.refl _) S ⟨p, rfl, nF, (nw p n).1, (nw p n).2, hm⟩
/-- how a def's arguments bind: n positional ones, keywords ks; the parameters in the order ord -/
def KB (K : PySem.W.Frag) (fd : FuncData) (ps ks : List Str) (n : Nat) (ord : List Nat) : Prop :=
  ∀ (s : Shared) (us ws : List Value), K.In s.heap → us.length = n → ws.length = ks.length → BindsTo s fd ⟨us, ks.zip ws⟩ (ps.zip (pick ord (us ++ ws)))
/-- f(e, ..) -/
theorem rd_bind1 {α : Type} {rel : Rel V α} {f : BF} {σ : L2.St} {H : Hp} {Q : VK} {n : Nat} {kk : Res → Rho → R α}
    (hk : ∀ {c : Cfg} {σ : L2.St} {H : Hp} {r : Res} {ρ' : Rho} {v : V} {F' H' : Hp}, ResR X.K H F' H' v r → Sta X.K π c F' H' σ ρ' → c.H0 = c.H0 → (∀ q, H q = none → c.H0 q = none ∧ ∀ j, ¬ OwnAt σ ρ' j q) → Po X.K π W rel c F' σ Q (kk r ρ') → Q v H')
    (t : tG X.K π W rel (callG n G f kk) σ H Q) : tB X.K π W f σ H fun vs H1 => spG X.K n G vs H1 Q fun cls d H' => W cls d σ H' := by
  obtain ⟨c, F, ρ, S, P⟩ := t
  refine po_bind S P fun vs F1 H1 ρ1 as s1 S1 r1 P1 => ?_
  exact rd_call hk S1 r1 P1
theorem fc_call {α : Type} {rel : Rel V α} {g : BF} {kk : Res → Rho → R α}
    (hk : ∀ {Q : VK} {c : Cfg} {σ : L2.St} {H : Hp} {r : Res} {ρ' : Rho} {v : V} {F' H' : Hp}, ResR X.K H F' H' v r → Sta X.K π c F' H' σ ρ' → c.H0 = c.H0 → (∀ q, H q = none → c.H0 q = none ∧ ∀ j, ¬ OwnAt σ ρ' j q) → Po X.K π W rel c F' σ Q (kk r ρ') → Q v H')
    (Fn : FnG X.prog X.w X.K X.mg X.base k f fd ps (spG X.K ps.length G)) (hr : RoomG k X.A) (tk : L2N.Takes X W) (hg : Gl X x) (hm : X.mg x = some (.ref f)) (hkp : PySem.W.keepIn X.K (.ref f) = true) (hb : Binds X.K fd ps [])
    (ha : PA X (e :: es) (tB X.K π W g)) (hdb : (x == ("__debug__" : Str)) = false := by decide) (he : starEach (e :: es) X.env = (false, eval e X.env) :: starEach es X.env := by rfl) (hpl : (backTo pos (starEach es X.env)).any (·.1) = false := by rfl) :
    PE X (.Call (.Name x p) (e :: es) [] pos) (tG X.K π W rel (callG ps.length G g kk)) := by
  refine ⟨fun pins s σ H Q I h => ?_⟩
  refine wpAny_Call_Name_kw (ld_glob I hg hm ?_ hdb)
  refine PySem.W.callWith_K (h₀ := X.base) I.ok.mod.kin hkp (thn (ha.run pos pins s σ H _ I (rd_bind1 hk h)) fun us s1 ⟨vs, H1, I1, r, q⟩ => ⟨I1.kIn, ?_⟩) he hpl
  have b := hb s1 us I1.kIn (by rw [List.append_nil, ← r.length]; exact Fn.len _ _ _ _ q)
  rw [List.append_nil] at b
  refine wpAny_call (codeAny_mono (run_fnG Fn hr tk b I1 r q) fun r s' hq => ?_)
  cases r with
  | error e => exact hq
  | ok fl =>
    cases fl with
    | ret u => exact hq
    | next => exact False.elim hq
    | brk => exact False.elim hq
    | cont => exact False.elim hq
theorem fc_call0 {α : Type} {rel : Rel V α} {kk : Res → Rho → R α}
    (hk : ∀ {Q : VK} {c : Cfg} {σ : L2.St} {H : Hp} {r : Res} {ρ' : Rho} {v : V} {F' H' : Hp}, ResR X.K H F' H' v r → Sta X.K π c F' H' σ ρ' → c.H0 = c.H0 → (∀ q, H q = none → c.H0 q = none ∧ ∀ j, ¬ OwnAt σ ρ' j q) → Po X.K π W rel c F' σ Q (kk r ρ') → Q v H')
    (Fn : FnG X.prog X.w X.K X.mg X.base k f fd ps (spG X.K ps.length G)) (hr : RoomG k X.A) (tk : L2N.Takes X W) (hg : Gl X x) (hm : X.mg x = some (.ref f)) (hkp : PySem.W.keepIn X.K (.ref f) = true) (hb : Binds X.K fd ps [])
    (hdb : (x == ("__debug__" : Str)) = false := by decide) : PE X (.Call (.Name x p) [] [] pos) (tG X.K π W rel (callG ps.length G nilB kk)) := by
  refine ⟨fun pins s σ H Q I h => ?_⟩
  refine wpAny_Call_Name_kw (ld_glob I hg hm ?_ hdb)
  have q := rd_nilB (rd_bind1 hk h)
  refine PySem.W.callWith_K0 I.kIn hkp ?_
  have b := hb s [] I.kIn (by rw [List.append_nil]; exact Fn.len _ _ _ _ q)
  rw [List.append_nil] at b
  refine wpAny_call (codeAny_mono (run_fnG (us := []) Fn hr tk b I .nil q) fun r s' hq => ?_)
  cases r with
  | error e => exact hq
  | ok fl =>
    cases fl with
    | ret u => exact hq
    | next => exact False.elim hq
    | brk => exact False.elim hq
    | cont => exact False.elim hq
/-- both lists of a call with keywords, in the parameters' order -/
def kwB (n m : Nat) (ord : List Nat) (f g : BF) : BF := fun ρ => (f ρ).bind fun as ρ => (g ρ).bind fun bs ρ => if as.length = n ∧ bs.length = m then .ok (pick ord (as ++ bs)) ρ else .stuck
end
end FL
/-! FL9: isinstance, repr, truth, displays with a star, x[j] as a target, texts compared. -/
namespace FL
open PySem PySem.Spec PyProof.Rows L2

/-! ### isinstance -/
inductive Ty where
  | non | bl | int | str | tup | lst | dct
def tyN : Ty → String
  | .non => "NoneType"
  | .bl => "bool"
  | .int => "int"
  | .str => "str"
  | .tup => "tuple"
  | .lst => "list"
  | .dct => "dict"
def isTy : Ty → Ty → Bool
  | .non, .non => true
  | .bl, .bl => true
  | .bl, .int => true
  | .int, .int => true
  | .str, .str => true
  | .tup, .tup => true
  | .lst, .lst => true
  | .dct, .dct => true
  | _, _ => false
def typD : D → Option Ty
  | .non => some .non
  | .bl _ => some .bl
  | .int _ => some .int
  | .str _ => some .str
  | .tup _ => some .tup
  | .lst _ => some .lst
  | .scr _ => some .lst
  | .dct _ => some .dct
  | .dl1 _ _ _ => some .dct
  | _ => none
def isiD (T : Ty) (d : D) : Option D := (typD d).map fun t => .bl (isTy t T)
theorem kitB_ty (T : Ty) (hT : T ≠ .non) : ∀ t : Ty, kitB (tyN t) (tyN T) = some (isTy t T) := by
  intro t
  cases T <;> first | exact absurd rfl hT | (cases t <;> decide +kernel)
section
variable {K : PySem.W.Frag} {F H : Hp}
theorem tyx_of0 (s : Same F H) {v : V} {d : D} {t : Ty} (r : Rep K F v d) (h : typD d = some t) (n1 : ∀ pw k e, d ≠ .dl1 pw k e) : TyX K H v (.type (tyN t)) := by
  cases r with
  | non => cases h; exact .base .non
  | bl b => cases h; exact .base (.bl b)
  | int i => cases h; exact .base (.int i)
  | str x => cases h; exact .base (.str x)
  | fn a => cases h
  | exc _ _ _ => cases h
  | clo _ _ => cases h
  | dcf _ _ _ => cases h
  | err _ _ _ _ => cases h
  | tup h1 _ =>
    cases h
    rcases sm_tup s h1 with z | ⟨o, us, n, h2, h3, _⟩
    · rcases z with z | ⟨o, z⟩
      · exact .base (.tup z)
      · exact .fTuple z
    · exact .kTuple h2 h3
  | lst h1 _ => cases h; exact .base (.lst (s _ _ h1))
  | scr h1 =>
    cases h
    rcases Same.seq s h1 with z | ⟨o, us, n, h2, h3, _⟩
    · rcases z with z | ⟨o, z⟩
      · exact .base (.lst z)
      · exact .base (.frz z)
    · exact .kList h2 h3
  | dct h1 _ _ => cases h; exact .base (.dK (s _ _ h1))
  | dl1 _ _ _ => exact (n1 _ _ _ rfl).elim
/-- a value's kind, a dict of one entry included -/
def TyW (K : PySem.W.Frag) (H : Hp) (v : V) (t : Value) : Prop := TyX K H v t ∨ (t = .type "dict" ∧ ∃ (a : Addr) (n : Int) (k : Option Key) (u : Value), v = .ref a ∧ H a = some (LfO n a k u))
theorem tyw_of (s : Same F H) {v : V} {d : D} {t : Ty} (r : Rep K F v d) (h : typD d = some t) : TyW K H v (.type (tyN t)) := by
  by_cases z : ∃ pw k e, d = .dl1 pw k e
  · obtain ⟨pw, k, e, rfl⟩ := z
    cases h
    cases r with
    | dl1 h1 _ _ => exact .inr ⟨rfl, _, _, _, _, rfl, s _ _ h1⟩
  · exact .inl (tyx_of0 s r h fun pw k e q => z ⟨pw, k, e, q⟩)
end
section
variable {X : Cx}
def rIsW (K : PySem.W.Frag) : List V → Hp → VK → Prop := fun xs H Q => ∃ (x c : V) (t u : Value) (b : Bool), xs = [x, c] ∧ ClsV c u ∧ TyW K H x t ∧ PySem.W.kitOne K t u = some b ∧ Q (.bl b) H
theorem call_isW : CallR X (.builtin "isinstance") (rIsW X.K) := fun pins s σ H xs us Q I r h => by
  obtain ⟨x, c, t, u, b, e0, k, ty, e, q⟩ := h
  rcases ty with ty | ⟨et, a, n, key, val, ex, ha⟩
  · exact call_isi pins s σ H xs us Q I r ⟨x, c, t, u, b, e0, k, ty, e, q⟩
  · subst e0 et ex
    obtain ⟨y1, y2, eu, r1, r2⟩ := vals2 r
    subst eu
    obtain rfl := k.eq r2
    obtain rfl : y1 = Value.ref a := r1
    obtain ⟨⟨_, o, es, ep, _, ho, hc, _⟩, _⟩ := I.hok a _ ha
    exact PySem.W.kia_one PySem.W.kitx_dict I.kIn ⟨o, ho, hc.1⟩ e (fun z => nomatch z) fun tk => ⟨.bl b, H, I.tok tk, rfl, q⟩
end
section
variable [FE]
variable {X : Cx} {π : Nat → Addr} {W : WX} {a : Expr} {pos p p2 : Pos} {x y : Str}
theorem pe_ty {T : String} {p : Pos} (hg : Gl X y) (hm : X.mg y = none) (hv : bootBuiltins y = some (.type T)) (hn : y ≠ "__name__" := by decide) (hdb : (y == ("__debug__" : Str)) = false := by decide) : PE X (.Name y p) (tC (.ty T)) :=
  ⟨fun pins s σ H Q I h => ld_blt I hg hm hv ⟨.ty T, H, I, rfl, h⟩ hn hdb⟩
theorem fe_isi {f : EF} {T : Ty} (hT : T ≠ .non) (hg : Gl X x) (hm : X.mg x = none) (hx : x = "isinstance") (hgy : Gl X y) (hmy : X.mg y = none) (hy : bootBuiltins y = some (.type (tyN T))) (ha : PE X a (tE X.K π W f)) (hn : y ≠ "__name__" := by decide) (hdb : (y == ("__debug__" : Str)) = false := by decide)
    (h1 : starEach [a, .Name y p2] X.env = (false, eval a X.env) :: starEach [.Name y p2] X.env := by rfl) (h2 : starEach [.Name y p2] X.env = (false, eval (.Name y p2) X.env) :: starEach [] X.env := by rfl) (hpl : (backTo pos (starEach [.Name y p2] X.env)).any (·.1) = false := by rfl) :
    PE X (.Call (.Name x p) [a, .Name y p2] [] pos) (tE X.K π W (op1 (isiD T) f)) := by
  subst hx
  refine PE.imp (pe_callB call_isW hg hm boot_isinstance (pa_cons ha (pa_cons (pe_ty hgy hmy hy hn hdb) pa_nil h2) h1) (by decide) (by decide) h1 hpl) fun σ H Q ⟨c, F, ρ, S, P⟩ => ?_
  refine po_bind S P fun v F1 H1 ρ1 d s1 S1 r1 P1 => ?_
  obtain ⟨d', e, P2⟩ := po_of P1
  unfold isiD at e
  cases et : typD d with
  | none => rw [et] at e; cases e
  | some t =>
    rw [et] at e
    cases e
    exact ⟨v, .ty (tyN T), .type (tyN t), .type (tyN T), _, rfl, .ty _, tyw_of S1.f r1 et, kit_ty (kitB_ty T hT t), P2 _ F1 H1 (Same.refl _) S1 (.bl _)⟩

/-! ### truth -/
/-! ### texts compared -/
def twoS : D → D → Option Bool
  | .str a, .str b => some (decide (a = b))
  | _, _ => none
/-- lists of unlike lengths -/
def difL : D → D → Bool
  | .lst xs, .lst ys => xs.length != ys.length
  | _, _ => false
def eqA (x y : D) : Option D := match twoS x y with
  | some b => some (.bl b)
  | none => if difL x y = true then some (.bl false) else eqD x y
def neA (x y : D) : Option D := match twoS x y with
  | some b => some (.bl (!b))
  | none => if difL x y = true then some (.bl true) else neD x y
/-- the comparison of two lists of unlike lengths -/
def rDif (K : PySem.W.Frag) (b : Bool) : R2 := fun x y H Q => ∃ (p q : Addr) (xs ys : List V), x = .ref p ∧ y = .ref q ∧ SqL K H p xs ∧ SqL K H q ys ∧ xs.length ≠ ys.length ∧ Q (.bl b) H
theorem difL_rep {K : PySem.W.Frag} {F H : Hp} (s : Same F H) {x y : V} {dx dy : D} (rx : Rep K F x dx) (ry : Rep K F y dy) (h : difL dx dy = true) : ∃ (p q : Addr) (xs ys : List V), x = .ref p ∧ y = .ref q ∧ SqL K H p xs ∧ SqL K H q ys ∧ xs.length ≠ ys.length := by
  unfold difL at h
  split at h
  · cases rx with
    | lst h1 r1 =>
      cases ry with
      | lst h2 r2 =>
        refine ⟨_, _, _, _, rfl, rfl, SqL.of (s _ _ h1), SqL.of (s _ _ h2), ?_⟩
        rw [Reps.length r1, Reps.length r2]
        simpa using h
  · cases h
theorem op_eq_dif (hu : X.A.units + 64 < cLine) : OpR X (compareOp .Eq) (rDif X.K false) := by
  intro pins s σ H x y v u Q I rx ry h
  obtain ⟨p, q, xs, ys, rfl, rfl, h1, h2, hn, hq⟩ := h
  cases rx
  cases ry
  obtain ⟨its, r1, p1, _⟩ := I.list h1
  obtain ⟨jts, r2, p2, _⟩ := I.list h2
  refine PySem.SeqAt.eq_list_lengthsAt p1.isList p2.isList ?_ (by omega) ⟨.bl false, H, I, rfl, hq⟩
  have e1 := r1.length
  have e2 := r2.length
  simp
  omega
theorem op_ne_dif (hu : X.A.units + 64 < cLine) : OpR X (compareOp .NotEq) (rDif X.K true) := by
  intro pins s σ H x y v u Q I rx ry h
  obtain ⟨p, q, xs, ys, rfl, rfl, h1, h2, hn, hq⟩ := h
  cases rx
  cases ry
  obtain ⟨its, r1, p1, _⟩ := I.list h1
  obtain ⟨jts, r2, p2, _⟩ := I.list h2
  refine PySem.SeqAt.RcNeAt.lists_lengths p1.isList p2.isList ?_ (by omega) _ _ _ _ ⟨.bl true, H, I, rfl, hq⟩
  have e1 := r1.length
  have e2 := r2.length
  simp
  omega
theorem twoS_rep {K : PySem.W.Frag} {F : Hp} {x y : V} {dx dy : D} {b : Bool} (rx : Rep K F x dx) (ry : Rep K F y dy) (h : twoS dx dy = some b) : scal x y = true ∧ decide (x = y) = b := by
  unfold twoS at h
  split at h
  · cases rx
    cases ry
    cases h
    refine ⟨rfl, ?_⟩
    rw [decide_eq_decide]
    exact ⟨fun e => by cases e; rfl, fun e => by rw [e]⟩
  · cases h
theorem q_eqA {K : PySem.W.Frag} : Op2 K eqA (fun x y H Q => rEq x y H Q ∨ rDif K false x y H Q ∨ rEqD K x y H Q) := by
  intro F H x y dx dy d Q s rx ry e k
  unfold eqA at e
  cases es : twoS dx dy with
  | none =>
    rw [es] at e
    have e : (if difL dx dy = true then some (D.bl false) else eqD dx dy) = some d := e
    split at e
    · rename_i hz
      cases e
      obtain ⟨p, q, xs, ys, h1, h2, h3, h4, h5⟩ := difL_rep s rx ry hz
      exact .inr (.inl ⟨p, q, xs, ys, h1, h2, h3, h4, h5, k _ F H (Grw.refl s) (.bl _)⟩)
    · exact .inr (.inr (q_eq s rx ry e k))
  | some b =>
    rw [es] at e
    cases e
    obtain ⟨h1, h2⟩ := twoS_rep rx ry es
    refine .inl ⟨h1, ?_⟩
    rw [h2]
    exact k _ F H (Grw.refl s) (.bl _)
theorem q_neA {K : PySem.W.Frag} : Op2 K neA (fun x y H Q => rNe x y H Q ∨ rDif K true x y H Q ∨ rNeD K x y H Q) := by
  intro F H x y dx dy d Q s rx ry e k
  unfold neA at e
  cases es : twoS dx dy with
  | none =>
    rw [es] at e
    have e : (if difL dx dy = true then some (D.bl true) else neD dx dy) = some d := e
    split at e
    · rename_i hz
      cases e
      obtain ⟨p, q, xs, ys, h1, h2, h3, h4, h5⟩ := difL_rep s rx ry hz
      exact .inr (.inl ⟨p, q, xs, ys, h1, h2, h3, h4, h5, k _ F H (Grw.refl s) (.bl _)⟩)
    · exact .inr (.inr (q_ne s rx ry e k))
  | some b =>
    rw [es] at e
    cases e
    obtain ⟨h1, h2⟩ := twoS_rep rx ry es
    refine .inl ⟨h1, ?_⟩
    rw [h2]
    exact k _ F H (Grw.refl s) (.bl _)
theorem o_eqA (hu : X.A.units + 64 < cLine) : OpR X (compareOp .Eq) (fun x y H Q => rEq x y H Q ∨ rDif X.K false x y H Q ∨ rEqD X.K x y H Q) := op_eq.or ((op_eq_dif hu).or (op_eqD hu))
theorem o_neA (hu : X.A.units + 64 < cLine) : OpR X (compareOp .NotEq) (fun x y H Q => rNe x y H Q ∨ rDif X.K true x y H Q ∨ rNeD X.K x y H Q) := op_ne.or ((op_ne_dif hu).or (op_neD hu))

/-! ### repr -/
end

/-! ### displays with a star -/
section
variable [FE]
variable {X : Cx} {π : Nat → Addr} {W : WX} {e : Expr} {es : List Expr} {pos p : Pos}
def starA (f : EF) (g : Rho → R (List D)) : Rho → R (List D) := fun ρ => (f ρ).bind fun x ρ => (R.of (seqD x) ρ).bind fun xs ρ => (g ρ).bind fun ys ρ => .ok (xs ++ ys) ρ
theorem seq_rep {K : PySem.W.Frag} {F H : Hp} (s : Same F H) {v : V} {d : D} {ds : List D} (r : Rep K F v d) (h : seqD d = some ds) : ∃ p xs, v = .ref p ∧ (SqT K H p xs ∨ SqL K H p xs) ∧ Reps K F xs ds := by
  cases r with
  | tup h1 r1 => cases h; exact ⟨_, _, rfl, .inl (sm_tup s h1), r1⟩
  | lst h1 r1 => cases h; exact ⟨_, _, rfl, .inr (SqL.of (s _ _ h1)), r1⟩
  | scr h1 => cases h; exact ⟨_, _, rfl, .inr (Same.seq s h1), Reps.ints _⟩
  | _ => cases h
theorem fa_star {f : EF} {g : Rho → R (List D)} (ha : PE X e (tE X.K π W f)) (hr : PA X es (tA X.K π W g)) (hs : starEach (.Starred e p :: es) X.env = (true, eval e X.env) :: starEach es X.env := by rfl) : PA X (.Starred e p :: es) (tA X.K π W (starA f g)) :=
  PA.imp (StX.pa_star ha hr hs) fun σ H Q ⟨c, F, ρ, S, P⟩ => by
    refine po_bind S P fun x F1 H1 ρ1 dx s1 S1 r1 P1 => ?_
    cases ed : seqD dx with
    | none => rw [ed] at P1; exact P1.elim
    | some ds =>
      rw [ed] at P1
      obtain ⟨q, xs, rfl, hx, rs⟩ := seq_rep S1.f r1 ed
      refine ⟨q, xs, rfl, hx, ?_⟩
      have P2 : Po X.K π W (relA X.K) c F1 σ Q ((g ρ1).bind fun ys ρ => .ok (ds ++ ys) ρ) := P1
      refine po_bind S1 P2 fun ys F2 H2 ρ2 es s2 S2 r2 P3 => ?_
      exact P3 _ F2 H2 (Same.refl _) S2 ((rs.mono s2).append r2)

/-! ### x[j] as a target -/
def subGO (i : Nat) (g : EF) : GF := fun d ρ => match subG i g d ρ with
  | .ok _ ρ => some ρ
  | _ => none
theorem fg_sub {i : Nat} {x : Str} {j : Expr} {g : EF} {tpos : Pos} (hx : PE X (.Name x p) (tVar i)) (hj : PE X j (tE X.K π W g))
    (ha : ∀ v, assign (.Subscript (.Name x p) j tpos) X.env v = (do
      let ov ← holding [v] (eval (.Name x p) X.env)
      let iv ← holding [v, ov] (eval j X.env)
      standAt tpos
      holding [v, ov, iv] (setItem ov iv v)
      release [v, ov, iv] []) := by intro _; rfl) : PG X (.Subscript (.Name x p) j tpos) (tGt X.K π [] (subGO i g)) :=
  PG.imp (pg_sub hx hj set_list ha) fun v σ H Q ⟨c, F, ρ, d, S, rv, P⟩ => by
    unfold subGO subG at P
    cases eg : getM i ρ with
    | none => rw [eg] at P; exact P.elim
    | some z =>
      obtain ⟨ds0, k0⟩ := z
      rw [eg] at P
      obtain ⟨q, vs0, e0, ho0, _⟩ := S.getM eg
      refine ⟨.ref q, e0, ?_⟩
      cases hg : g ρ with
      | stuck => rw [hg] at P; exact P.elim
      | exc C fs b => rw [hg] at P; exact P.elim
      | ok dj ρ2 =>
        rw [hg] at P
        refine ⟨c, F, ρ, S, ?_⟩
        rw [hg]
        intro w F2 H2 s2 S2 r2
        cases eg2 : getM i ρ2 with
        | none =>
          simp only [R.ok_bind, eg2] at P
          exact P.elim
        | some z =>
          obtain ⟨ds, k⟩ := z
          simp only [R.ok_bind, eg2] at P
          obtain ⟨q', vs, e1, ho, rr, fin⟩ := S2.getM eg2
          rw [e0] at e1
          cases e1
          cases ep : putO ds dj d with
          | none =>
            rw [ep] at P
            exact P.elim
          | some es =>
            rw [ep] at P
            unfold putO at ep
            split at ep
            · rename_i zz
              split at ep
              · rename_i n en
                cases ep
                cases r2
                refine ⟨q, vs, zz, n, rfl, rfl, ho, by rw [Reps.length rr]; exact en, P _ F2 _ s2 (Off.refl _) (fin _ _ (Reps.set (Rep.mono s2 rv) n rr))⟩
              · cases ep
            · cases ep
/-! ### {} -/
theorem fe_dict0 : PE X (.Dict [] [] pos) (tE X.K π W (cst (.dct []))) := PE.imp pe_dnewK fun σ H Q ⟨c, F, ρ, S, P⟩ => fun q hq => by
  have g := Grw.newF (o := .dK []) S.f hq
  exact P (.ref q) _ _ g.f (S.grow g) (.dct (kvs := []) (ds := []) upd_same rfl .nil)
end
end FL
/-! FL10: a dict in a row of numbers. -/
namespace FL
open PySem PySem.Spec PyProof.Rows PySem.SeqAt PySem.MeetsSeq L2
section
variable {A : Around} {s : Shared}
theorem int_eq_dict (b : Int) (u : Tok) (l : Addr) (c : Value) (es : Array DictEntry) (n : Nat) (dd : Option Addr) (sl : Array (Option Value)) :
    Meets (Builtin.«int.__eq__» ⟨[.int b u, .ref l], []⟩) (fun _ R s => s.heap.get? l = some { cls := c, dict := dd, data := .dict es n, slots := sl } ∧ R (.ok (.ret .notImplemented)) s) :=
  .of_wp fun prog w A R s h => by obtain ⟨hp, g, d, tk, os⟩ := s; obtain ⟨hl, h⟩ := h; wp_walk using wpAny_loadPart' hl, wpAny_load hl; exact ⟨_, rfl, h⟩
theorem dict_eq_int (l : Addr) (es : Array DictEntry) (n : Nat) (dd : Option Addr) (sl : Array (Option Value)) (b : Int) (u : Tok) :
    Meets (Builtin.«dict.__eq__» ⟨[.ref l, .int b u], []⟩) (fun _ R s => s.heap.get? l = some { cls := .type "dict", dict := dd, data := .dict es n, slots := sl } ∧ R (.ok (.ret .notImplemented)) s) :=
  .of_wp fun prog w A R s h => by obtain ⟨hp, g, d, tk, os⟩ := s; obtain ⟨hl, h⟩ := h; have f1 := F.sub_int_dict; wp_walk using wpAny_loadPart' hl; exact ⟨_, rfl, h⟩
theorem rc_int_dict {l : Addr} {es : Array DictEntry} {n : Nat} {dd : Option Addr} {sl : Array (Option Value)} (b : Int) (u : Tok) (ho : s.heap.get? l = some { cls := .type "dict", dict := dd, data := .dict es n, slots := sl }) (hu : A.units < cLine) : RcAt A s (.int b u) (.ref l) false := fun prog w E Q h =>
  rc_eq_decline_or (k := false) (typeIs_int s b u) ⟨_, ho, rfl⟩ (by decide) F.sub_dict_int F.slot_int_eq F.slot_dict_eq_refl
    (fun _ hq => call_meets F.slot_int_eq (typeIs_int s b u) F.entry_int_eq (F.args_int_eq_2 _ _) (int_eq_dict b u l (.type "dict") es n dd sl) ⟨ho, hq⟩)
    (fun _ hq => call_meets F.slot_dict_eq_refl ⟨_, ho, rfl⟩ F.entry_dict_eq (F.args_dict_eq_2 _ _) (dict_eq_int l es n dd sl b u) ⟨ho, hq⟩)
    (fun _ hq => wpAny_of_eq (rfl : isSame (.int b u) (.ref l) = pure false) hq) (.inr hu) h
theorem eq_int_dict {l : Addr} {es : Array DictEntry} {n : Nat} {dd : Option Addr} {sl : Array (Option Value)} (b : Int) (u : Tok) (ho : s.heap.get? l = some { cls := .type "dict", dict := dd, data := .dict es n, slots := sl }) (hu : A.units < cLine) : EqAt A s (.int b u) (.ref l) false := fun prog w E Q h => by
  unfold eqBool
  refine wpAny_holding ?_
  refine wpAny_ite_split (fun hab => absurd (eq_of_beq hab) nofun) (fun _ => ?_)
  exact wpAny_bind (rc_int_dict b u ho hu prog w E _ (wpAny_truthy_bool h))
end

open L2
/-- a dict, in a list or tuple of numbers -/
def rInK (K : PySem.W.Frag) (neg : Bool) : R2 := fun x y H Q => ∃ (a : Addr) (kvs : List (Key × V)) (p : Addr) (ns : List Int), x = .ref a ∧ H a = some (.dK kvs) ∧ y = .ref p ∧ (SqL K H p (ns.map V.int) ∨ SqT K H p (ns.map V.int)) ∧ Q (.bl neg) H
section
variable [FE]
variable {X : Cx}
theorem ints_at {ns : List Int} {its : List Value} (r : Vals (ns.map V.int) its) : ∀ y ∈ its, ∃ i t, y = .int i t := by
  induction ns generalizing its with
  | nil => cases r; intro y hy; cases hy
  | cons n ns ih =>
    cases r with
    | cons a b =>
      intro y hy
      rcases List.mem_cons.mp hy with e | e
      · obtain ⟨t, ht⟩ := a
        exact ⟨n, t, by rw [e, ht]⟩
      · exact ih b y e
theorem op_in_k (hu : X.A.units + 64 < cLine) : OpR X (compareOp .In) (rInK X.K false) := by
  intro pins s σ H x y v u Q I rx ry h
  obtain ⟨a, kvs, p, ns, rfl, ha, rfl, hq, q⟩ := h
  cases rx
  cases ry
  obtain ⟨_, _, vs, _, o, es, ep, h1, h2, h4, _⟩ := (show ObjOk X.prog X.w H s.heap a (.dK kvs) from I.hok a _ ha)
  obtain ⟨oc, od, dt, sl⟩ := o
  have h3 : oc = .type "dict" ∧ dt = .dict es ep := ⟨h2.1, h4⟩
  obtain ⟨rfl, rfl⟩ := h3
  have key : ∀ its : List Value, Vals (ns.map V.int) its → ∀ w, w ∈ its.toArray → EqAt X.A.in1 s w (.ref a) false := fun its r w hw => by
    obtain ⟨i, t, rfl⟩ := ints_at r w (by simpa using hw)
    exact eq_int_dict i t h1 (by show X.A.units + 1 < cLine; omega)
  rcases hq with hq | hq
  · obtain ⟨its, r, pl, hz⟩ := I.list hq
    refine SeqAt.in_listAt (fun _ => false) pl.isList (key its r) ⟨.bl _, H, I, rfl, ?_⟩
    rw [show its.toArray.any (fun _ => false) = false by simp]
    exact q
  · obtain ⟨its, r, pl, hz⟩ := I.tuple hq
    refine SeqAt.in_tupleAt (fun _ => false) pl (key its r) ⟨.bl _, H, I, rfl, ?_⟩
    rw [show its.toArray.any (fun _ => false) = false by simp]
    exact q
end
def intsD : List D → Option (List Int)
  | [] => some []
  | .int i :: ds => (intsD ds).map (i :: ·)
  | _ :: _ => none
theorem intsD_of : ∀ {ds : List D} {ns : List Int}, intsD ds = some ns → ds = ns.map D.int
  | [], _, e => by cases e; rfl
  | .int i :: ds, ns, e => by
    unfold intsD at e
    cases e1 : intsD ds with
    | none => rw [e1] at e; cases e
    | some l =>
      rw [e1] at e
      cases e
      rw [intsD_of e1]
      rfl
/-- is it a dict in a row of numbers -/
def dctIn : D → D → Bool
  | .dct _, .lst ds => (intsD ds).isSome
  | .dct _, .tup ds => (intsD ds).isSome
  | _, _ => false
def inA (x y : D) : Option D := if dctIn x y = true then some (.bl false) else inD x y
theorem dctIn_rep {K : PySem.W.Frag} {F H : Hp} (s : Same F H) {x y : V} {dx dy : D} (rx : Rep K F x dx) (ry : Rep K F y dy) (h : dctIn dx dy = true) : ∃ (a : Addr) (kvs : List (Key × V)) (p : Addr) (ns : List Int), x = .ref a ∧ H a = some (.dK kvs) ∧ y = .ref p ∧ (SqL K H p (ns.map V.int) ∨ SqT K H p (ns.map V.int)) := by
  unfold dctIn at h
  split at h
  · cases rx with
    | dct h1 _ _ =>
      cases ry with
      | lst h2 r2 =>
        cases e : intsD _ with
        | none => rw [e] at h; cases h
        | some ns =>
          rw [intsD_of e] at r2
          have := Reps.of_ints r2
          subst this
          exact ⟨_, _, _, ns, rfl, s _ _ h1, rfl, .inl (SqL.of (s _ _ h2))⟩
  · cases rx with
    | dct h1 _ _ =>
      cases ry with
      | tup h2 r2 =>
        cases e : intsD _ with
        | none => rw [e] at h; cases h
        | some ns =>
          rw [intsD_of e] at r2
          have := Reps.of_ints r2
          subst this
          exact ⟨_, _, _, ns, rfl, s _ _ h1, rfl, .inr (sm_tup s h2)⟩
  · cases h
variable [FE] in
theorem q_inA {K : PySem.W.Frag} : Op2 K inA (fun x y H Q => rInK K false x y H Q ∨ rInA K x y H Q) := by
  intro F H x y dx dy d Q s rx ry e k
  unfold inA at e
  split at e
  · rename_i hz
    cases e
    obtain ⟨a, kvs, p, ns, h1, h2, h3, h4⟩ := dctIn_rep s rx ry hz
    exact .inl ⟨a, kvs, p, ns, h1, h2, h3, h4, k _ F H (Grw.refl s) (.bl _)⟩
  · exact .inr (q_in s rx ry e k)
variable [FE] in
theorem o_inA {X : Cx} (hu : X.A.units + 65 < cLine) : OpR X (compareOp .In) (fun x y H Q => rInK X.K false x y H Q ∨ rInA X.K x y H Q) := (op_in_k (by omega)).or (o_in hu)
end FL
/-! FL11: from the law's def to the row. -/
namespace FL
open PySem PySem.Spec PyProof.Rows L2

abbrev scrO (vs : List Value) : Obj := { cls := .type "list", data := .seq vs.toArray }
abbrev tab0 : Obj := { cls := .none, data := .fields #[] }
/-- nothing is tracked but the script and the empty tables ts -/
structure Start (K : PySem.W.Frag) (h : Heap) (a : Addr) (vs : List Value) (ts : List Addr) (H : Hp) : Prop where
  only : ∀ b, H b = none ∨ (b = a ∧ ∃ xs, H b = some (.frz (scrO vs) (.lst xs))) ∨ (b ∈ ts ∧ H b = some (.tbl #[]))
  kn : H a ≠ none → K.lookup a = none
  tabs : ∀ b ∈ ts, H b = some (.tbl #[])
/-- the code objects cs with their empty tables -/
structure Codes (K : PySem.W.Frag) (h : Heap) (cs : List (Addr × Addr)) : Prop where
  t : ∀ p ∈ cs, h.get? p.2 = some tab0
  n : ∀ p ∈ cs, K.lookup p.2 = none
  c : ∀ p ∈ cs, PySem.W.CodeHd h p.1 p.2
abbrev Bm (mg : Str → Option Value) (h : Heap) : Prop := ∃ (bm : Addr) (ob : Obj), mg "__builtins__" = some (.ref bm) ∧ bm ≠ builtinsNs ∧ h.get? bm = some ob ∧ ob.cls = .type "module" ∧ ob.dict = some builtinsNs ∧ ob.data = .plain
section
variable {P : Program} {w : World} {K : PySem.W.Frag} {mg mb : Str → Option Value} {k : Nat} {fa a : Addr} {fd : FuncData} {x : Str} {G : List Arg → RG} {s1 : Shared} {vs : List Value} {ns : List Int} {cs : List (Addr × Addr)}
theorem Codes.at (C : Codes K s1.heap cs) {b : Addr} (h : b ∈ cs.map (·.2)) : s1.heap.get? b = some tab0 ∧ K.lookup b = none := by
  obtain ⟨p, hp, rfl⟩ := List.mem_map.mp h
  exact ⟨C.t p hp, C.n p hp⟩
theorem Start.other {H : Hp} (T : Start K s1.heap a vs (cs.map (·.2)) H) (C : Codes K s1.heap cs) (ha : s1.heap.get? a = some (scrO vs)) {b : Addr} {o : Obj} (e : s1.heap.get? b = some o) (hd : ∀ (us : Array Value) (n : Nat), o.data ≠ .seq us n) (hf : o.data ≠ .fields #[]) : H b = none := by
  rcases T.only b with z | ⟨rfl, _⟩ | ⟨z, _⟩
  · exact z
  · rw [ha] at e
    cases e
    exact absurd rfl (hd _ _)
  · rw [(C.at z).1] at e
    cases e
    exact absurd rfl hf
variable [FE] in
/-- one run of the law's def, at an abstract heap -/
theorem top_run (hr : RoomG k callerA) (KX : K.In s1.heap) (hns : s1.heap.Ns mainGlobals mg) (hb : s1.heap.Ns builtinsNs mb) (hbb : ∀ y : Str, y ≠ "__name__" → mb y = bootBuiltins y) (hlim : s1.heap.NoLimit) (hgen : s1.gens = #[])
    (C : Codes K s1.heap cs) (hbm : Bm mg s1.heap) (hFE : ∀ p ∈ FE.tabs, p.1 ∈ cs.map (·.2))
    (ha : s1.heap.get? a = some (scrO vs)) (Fn : ∀ base : Heap, K.In base → base.Ns mainGlobals mg → (∀ p ∈ cs, LamX.TabB base mg p.1 p.2) → FnG P w K mg base k fa fd [x] (spG K 1 G)) (hbind : ∀ (s : Shared) (u : Value), BindsTo s fd ⟨[u], []⟩ [(x, u)])
    (hG : G [.val (.scr ns)] = .ok (.v (.bl true)) []) {H : Hp} (T : Start K s1.heap a vs (cs.map (·.2)) H) (hS : SqL K (fun b => if b ∈ cs.map (·.2) then none else H b) a (ns.map V.int)) (hok : HOk P w H s1.heap) :
    codeAny (model P w) callerA (.call (.ref fa) ⟨[.ref a], []⟩) (fun r s' => (r = .ok (.ret (.bool true)) ∧ OldK s1.heap s'.heap) ∧ s'.os = s1.os ∧ AllBare s'.gens) s1 := by
  have lift : ∀ {b : Addr} {o : Obj}, s1.heap.get? b = some o → H b = none → (hidT s1.heap H).get? b = some o := hidT_get
  have nsUp : ∀ {b : Addr} {m : Str → Option Value}, s1.heap.Ns b m → (hidT s1.heap H).Ns b m := by
    rintro b m ⟨o, es, ep, e, d, r⟩
    refine ⟨o, es, ep, lift e (T.other C ha e (fun us n z => ?_) fun z => ?_), d, r⟩
    · rw [d] at z
      cases z
    · rw [d] at z
      cases z
  have kUp : K.In (hidT s1.heap H) := fun b o e => lift (KX b o e) (by
    rcases T.only b with z | ⟨rfl, xs, z⟩ | ⟨z, _⟩
    · exact z
    · have := T.kn (by rw [z]; simp)
      rw [this] at e
      cases e
    · rw [(C.at z).2] at e
      cases e)
  have limUp : (hidT s1.heap H).NoLimit := by
    obtain ⟨mc, l1, l2⟩ := hlim
    exact ⟨mc, nsUp l1, l2⟩
  have tbUp : ∀ p ∈ cs, LamX.TabB (hidT s1.heap H) mg p.1 p.2 := fun p hp => by
    obtain ⟨oc, us, file, tf, fl, tg, inF, txt, tt, g1, g2, g3, g4, g5, g6, g7, g8, g9, g10⟩ := C.c p hp
    obtain ⟨bm, ob, m1, m2, m3, m4, m5, m6⟩ := hbm
    obtain ⟨om, es, ep, q1, q2, q3⟩ := id hns
    have hp2 := C.t p hp
    refine ⟨⟨oc, us, file, tf, fl, tg, inF, txt, tt, lift g1 (T.other C ha g1 (fun ws n z => ?_) fun z => ?_), g2, g3, g4, g5, g6, g7, g8, g9, g10⟩, ⟨bm, ob, m1, m2, fun z => ?_, fun z => ?_, lift m3 (T.other C ha m3 (fun ws n z => ?_) fun z => ?_), m4, m5, m6⟩, fun z => ?_⟩
    · rw [g3] at z
      cases z
    · rw [g3] at z
      cases z
      simp at g4
    · subst z
      rw [q1] at m3
      cases m3
      rw [q2] at m6
      cases m6
    · subst z
      rw [hp2] at m3
      cases m3
      cases m6
    · rw [m6] at z
      cases z
    · rw [m6] at z
      cases z
    · rw [z, hp2] at q1
      cases q1
      cases q2
  have E0 : Env0 P w K mg (hidT s1.heap H) callerA [] s1 H :=
    ⟨rfl, ⟨kUp, nsUp hns, ⟨mb, nsUp hb, hbb⟩, limUp⟩, fun b o e => of_hidT e, Nat.le_of_eq (hidT_size _ _), trivial, (fun b hb => by cases hb), hok, .of_eq hgen⟩
  have want : spG K 1 G [.ref a] H (fun v _ => v = .bl true) (fun _ _ _ => False) := by
    refine ⟨fun b => if b ∈ cs.map (·.2) then none else H b, [.val (.scr ns)], ⟨fun b o e => ?_, fun p hp => LamX.TabS.nil (T.tabs _ (hFE p hp)), fun b o e => ?_⟩, .val (.scr hS) .nil, rfl, List.nodup_nil, ?_⟩
    · have e : (if b ∈ cs.map (·.2) then none else H b) = some o := e
      by_cases z : b ∈ cs.map (·.2)
      · rw [if_pos z] at e
        cases e
      · rw [if_neg z] at e
        exact e
    · have e : (if b ∈ cs.map (·.2) then none else H b) = some o := e
      by_cases z : b ∈ cs.map (·.2)
      · rw [if_pos z] at e
        cases e
      · rw [if_neg z] at e
        rcases T.only b with y | ⟨_, xs, y⟩ | ⟨y, _⟩
        · rw [y] at e
          cases e
        · rw [y] at e
          cases e
          exact ⟨fun ps q => (nomatch q), fun _ q => (nomatch q), fun _ _ q => (nomatch q)⟩
        · exact absurd y z
    · rw [hG]
      intro v F' H' _ rv
      cases rv
      rfl
  refine codeAny_mono ((Fn _ kUp (nsUp hns) tbUp).run callerA [] s1 H ⟨[.ref a], []⟩ [.ref a] [.ref a] (fun v _ => v = .bl true) (fun _ _ _ => False) hr E0 (hbind s1 (.ref a)) (.cons rfl .nil) want) fun r s' hq => ?_
  match r, hq with
  | .error e, hq =>
    obtain ⟨_, _, _, _, _, _, _, _, _, _, _, _, z⟩ := hq
    exact z.elim
  | .ok .next, hq => exact False.elim hq
  | .ok .brk, hq => exact False.elim hq
  | .ok .cont, hq => exact False.elim hq
  | .ok (.ret u), hq =>
    obtain ⟨v, H', os, bare, un, hok2, rv, e⟩ := hq
    have e : v = .bl true := e
    subst e
    cases (show u = Value.bool true from rv)
    have plain : ∀ b o, b ∉ cs.map (·.2) → s1.heap.get? b = some o → s'.heap.get? b = some o := fun b o nb eo => by
      rcases T.only b with z | ⟨rfl, xs, z⟩ | ⟨z, _⟩
      · exact un.keep b o eo z (fun y => by cases y) (fun y => by cases y)
      · obtain ⟨e1, _⟩ := hok b _ z
        obtain ⟨e2, _⟩ := hok2 b _ (un.frzs b _ _ z)
        rw [eo] at e1
        cases e1
        exact e2
      · exact absurd z nb
    have more : ∀ p ∈ cs, ∃ us : Array Value, s'.heap.get? p.2 = some { cls := .none, data := .fields us } := fun p hp => by
      obtain ⟨us, z⟩ := un.tbls p.2 #[] (T.tabs _ (List.mem_map.mpr ⟨p, hp, rfl⟩))
      exact ⟨_, hok2 p.2 _ z⟩
    refine ⟨⟨rfl, ⟨fun b o eo => ?_, fun b o eo => ?_⟩⟩, os, bare⟩
    · by_cases nb : b ∈ cs.map (·.2)
      · obtain ⟨p, hp, rfl⟩ := List.mem_map.mp nb
        obtain ⟨us, hu⟩ := more p hp
        rw [C.t p hp] at eo
        cases eo
        exact .inr (.inl ⟨((C.c p hp).tab (C.t p hp)).isCodeTable, rfl, #[], us, rfl, by rw [Array.empty_append]; exact hu⟩)
      · exact .inl (plain b o nb eo)
    · by_cases nb : b ∈ cs.map (·.2)
      · obtain ⟨p, hp, rfl⟩ := List.mem_map.mp nb
        obtain ⟨us, hu⟩ := more p hp
        exact ⟨_, hu⟩
      · exact ⟨o, plain b o nb eo⟩
variable [FE] in
theorem top_law (hr : RoomG k callerA) (KX : K.In s1.heap) (hns : s1.heap.Ns mainGlobals mg) (hb : s1.heap.Ns builtinsNs mb) (hbb : ∀ y : Str, y ≠ "__name__" → mb y = bootBuiltins y) (hlim : s1.heap.NoLimit) (hgen : s1.gens = #[])
    (C : Codes K s1.heap cs) (hbm : Bm mg s1.heap) (hFE : ∀ p ∈ FE.tabs, p.1 ∈ cs.map (·.2))
    (ha : s1.heap.get? a = some (scrO vs)) (hi : IntsAre vs ns) (hl : ns.length ≤ sizeLine) (Fn : ∀ base : Heap, K.In base → base.Ns mainGlobals mg → (∀ p ∈ cs, LamX.TabB base mg p.1 p.2) → FnG P w K mg base k fa fd [x] (spG K 1 G)) (hbind : ∀ (s : Shared) (u : Value), BindsTo s fd ⟨[u], []⟩ [(x, u)])
    (hG : G [.val (.scr ns)] = .ok (.v (.bl true)) []) : codeAny (model P w) callerA (.call (.ref fa) ⟨[.ref a], []⟩) (fun r s' => (r = .ok (.ret (.bool true)) ∧ OldK s1.heap s'.heap) ∧ s'.os = s1.os ∧ AllBare s'.gens) s1 := by
  have rv := vals_ints hi
  have hlen := hi.length
  have na : a ∉ cs.map (·.2) := fun z => by
    have y := (C.at z).1
    rw [ha] at y
    have y' : Data.seq vs.toArray _ = Data.fields #[] := congrArg Obj.data (Option.some.inj y)
    cases y'
  cases hk : K.lookup a with
  | some o =>
    have e := KX a o hk
    rw [ha] at e
    cases e
    refine top_run hr KX hns hb hbb hlim hgen C hbm hFE ha Fn hbind hG (H := fun b => if b ∈ cs.map (·.2) then some (.tbl #[]) else none) ⟨fun b => ?_, fun z => absurd (if_neg na) z, fun b hb => if_pos hb⟩ (.inr ⟨_, vs.toArray, 0, hk, rfl, rfl, rfl, ?_, ?_⟩) (fun b u z => ?_)
    · by_cases nb : b ∈ cs.map (·.2)
      · exact .inr (.inr ⟨nb, if_pos nb⟩)
      · exact .inl (if_neg nb)
    · rw [List.size_toArray, hlen]
      exact hl
    · simpa using rv
    · by_cases nb : b ∈ cs.map (·.2)
      · have z := (if_pos nb).symm.trans z
        cases z
        exact (C.at nb).1
      · have z := (if_neg nb).symm.trans z
        cases z
  | none =>
    refine top_run hr KX hns hb hbb hlim hgen C hbm hFE ha Fn hbind hG (H := upd (fun b => if b ∈ cs.map (·.2) then some (.tbl #[]) else none) a (.frz (scrO vs) (.lst (ns.map V.int)))) ⟨fun b => ?_, fun _ => hk, fun b hb => ?_⟩ (.inl (.inr ⟨scrO vs, ?_⟩)) (fun b u z => ?_)
    · by_cases q : b = a
      · subst q
        exact .inr (.inl ⟨rfl, _, upd_same⟩)
      · by_cases nb : b ∈ cs.map (·.2)
        · exact .inr (.inr ⟨nb, (upd_ne q).trans (if_pos nb)⟩)
        · exact .inl ((upd_ne q).trans (if_neg nb))
    · exact (upd_ne (show b ≠ a from fun z => na (by rw [← z]; exact hb))).trans (if_pos hb)
    · exact (if_neg na).trans upd_same
    · by_cases q : b = a
      · subst q
        rw [upd_same] at z
        cases z
        exact ⟨ha, by rw [List.length_map]; exact hl, vs, _, rv, ha⟩
      · rw [upd_ne q] at z
        by_cases nb : b ∈ cs.map (·.2)
        · have z := (if_pos nb).symm.trans z
          cases z
          exact (C.at nb).1
        · have z := (if_neg nb).symm.trans z
          cases z
end
theorem room_top {k : Nat} (h : k ≤ 200) : RoomG k callerA := by
  refine ⟨⟨rfl, ?_, ?_⟩, rfl⟩
  · have y : callerA.depth ≤ 310 := by decide +kernel
    have z : 1000 ≤ recursionLimit := by decide +kernel
    omega
  · have y : callerA.units ≤ 100 := by decide +kernel
    have z : 3700 ≤ cLine := by decide +kernel
    omega
/-- what is known of the law's def at the head's heap: without tables -/
def LawG (l : PySem.W.OpenLaw) (w : World) (K : PySem.W.Frag) (k n : Nat) (x : Str) (mg : Str → Option Value) (fa : Addr) (h : Heap) (G : List Arg → RG) : Prop :=
  ∃ (fe : FE) (fd : FuncData) (cs : List (Addr × Addr)), Codes K h cs ∧ (∀ p ∈ fe.tabs, p.1 ∈ cs.map (·.2)) ∧ (∀ (s : Shared) (u : Value), BindsTo s fd ⟨[u], []⟩ [(x, u)]) ∧
    (∀ base : Heap, K.In base → base.Ns mainGlobals mg → (∀ p ∈ cs, LamX.TabB base mg p.1 p.2) → FnG l.prog w K mg base k fa fd [x] (spG K 1 G)) ∧ ∀ ns : List Int, ns.length ≤ n → (∀ z ∈ ns, Builtin.Int.intBits z ≤ 1048576) → G [.val (.scr ns)] = .ok (.v (.bl true)) []
/-- the goal that the head leaves -/
theorem walkG {l : PySem.W.OpenLaw} {n k : Nat} {q : Program} {loose : List Str} {XP : (Str → Option Value) → Heap → Prop} {YP : World → Heap → Prop} {d : DefRec} {K : Params → PySem.W.Frag} {G : World → (Str → Option Value) → List Arg → RG} {x : Str}
    (hn : l.most = some n) (hn2 : n ≤ sizeLine) (hdf : d.params.defaults = []) (hk : k ≤ 200) (hY : ∀ (w : World) (h : Heap), YP w h → (K w.params).In h)
    (Fn : ∀ (w : World) (mg : Str → Option Value) (fa : Addr) (h : Heap), YP w h → (K w.params).In h → h.Ns mainGlobals mg → XP mg h → mg d.name = some (.ref fa) → LawG l w (K w.params) k n x mg fa h (G w mg)) :
    PySem.W.WalkO q loose XP YP l.row.toRowW d [] (fun f vs => PySem.call f vs) := by
  refine Att.attach_callB hn hdf fun w s₀ s₁ mg mb fa o pm cd doc a vs ns Gr Y ho hd hcd hmg hobj hints hlen hbits hg => ?_
  obtain ⟨fe, fd, cs, hC, hFE, hb, hF, hq⟩ := Fn w mg fa _ Y (hY w _ Y) Gr.T.g Gr.X hmg
  exact codeAny_mono (@top_law _ _ _ _ _ _ _ _ _ _ _ _ _ _ _ fe (room_top hk) (hY w _ Y) Gr.T.g Gr.T.b Gr.T.builtins Gr.T.nolimit hg hC Gr.T.bmain hFE hobj hints (Nat.le_trans hlen hn2) hF hb (hq ns hlen hbits)) fun r s' z => ⟨z.1.1, z.1.2, z.2⟩
end FL
/-! FL12: calls, as the printed terms write them. -/
namespace FL
open PySem PySem.Spec PyProof.Rows L2
section
variable [FE]
variable {X : Cx} {π : Nat → Addr} {W : WX} {e a b : Expr} {es : List Expr} {pos p : Pos} {k : Nat} {f : Addr} {fd : FuncData} {ps ks : List Str} {G : List Arg → RG} {x : Str} {kws : List Keyword} {g h : BF} {n : Nat} {ord : List Nat}
theorem fe_call {nn : Nat} (Fn : FnG X.prog X.w X.K X.mg X.base k f fd ps (spG X.K ps.length G)) (hr : RoomG k X.A) (tk : L2N.Takes X W) (hg : Gl X x) (hm : X.mg x = some (.ref f)) (hkp : PySem.W.keepIn X.K (.ref f) = true) (hb : Binds X.K fd ps [])
    (ha : PA X (e :: es) (tB X.K π W g)) (hdb : (x == ("__debug__" : Str)) = false := by decide) (he : starEach (e :: es) X.env = (false, eval e X.env) :: starEach es X.env := by rfl) (hpl : (backTo pos (starEach es X.env)).any (·.1) = false := by rfl) (hnn : ps.length = nn := by rfl) :
    PE X (.Call (.Name x p) (e :: es) [] pos) (tE X.K π W (callE nn G g)) := by
  subst hnn
  exact fc_call (fun rv S _ nw P => k_asE rv S nw P) Fn hr tk hg hm hkp hb ha hdb he hpl
theorem fm_call {nn : Nat} (Fn : FnG X.prog X.w X.K X.mg X.base k f fd ps (spG X.K ps.length G)) (hr : RoomG k X.A) (tk : L2N.Takes X W) (hg : Gl X x) (hm : X.mg x = some (.ref f)) (hkp : PySem.W.keepIn X.K (.ref f) = true) (hb : Binds X.K fd ps [])
    (ha : PA X (e :: es) (tB X.K π W g)) (hdb : (x == ("__debug__" : Str)) = false := by decide) (he : starEach (e :: es) X.env = (false, eval e X.env) :: starEach es X.env := by rfl) (hpl : (backTo pos (starEach es X.env)).any (·.1) = false := by rfl) (hnn : ps.length = nn := by rfl) :
    PE X (.Call (.Name x p) (e :: es) [] pos) (tM X.K π W (callM nn G g)) := by
  subst hnn
  exact fc_call (fun rv S _ nw P => k_asM rv S nw P) Fn hr tk hg hm hkp hb ha hdb he hpl
theorem fe_call0 {nn : Nat} (Fn : FnG X.prog X.w X.K X.mg X.base k f fd ps (spG X.K ps.length G)) (hr : RoomG k X.A) (tk : L2N.Takes X W) (hg : Gl X x) (hm : X.mg x = some (.ref f)) (hkp : PySem.W.keepIn X.K (.ref f) = true) (hb : Binds X.K fd ps [])
    (hdb : (x == ("__debug__" : Str)) = false := by decide) (hnn : ps.length = nn := by rfl) : PE X (.Call (.Name x p) [] [] pos) (tE X.K π W (callE nn G nilB)) := by
  subst hnn
  exact fc_call0 (fun rv S _ nw P => k_asE rv S nw P) Fn hr tk hg hm hkp hb hdb
/-! ### f(g(..)), the argument a new thing -/
def callF {α : Type} (G : List Arg → RG) (f : Rho → R M) (kk : Res → Rho → R α) : Rho → R α := fun ρ => (f ρ).bind fun m ρ => match G [.io m] with
  | .ok r _ => kk r ρ
  | .exc C fs _ => .exc C fs ρ
  | .stuck => .stuck
abbrev callFE (G : List Arg → RG) (f : Rho → R M) : EF := callF G f asE
theorem Sta.postF {c : Cfg} {F F' H H' : Hp} {K : PySem.W.Frag} {σ : L2.St} {ρ : Rho} {q : Addr} {outs : List M} (S : Sta K π c F H σ ρ) (f0 : c.H0 q = none) (nw : ∀ j, ¬ OwnAt σ ρ j q) (P : PostG K F H [q] outs F' H') : Sta K π c F' H' σ ρ := by
  have ne : ∀ {b : Addr}, b ≠ q → b ∉ [q] := fun h => by simpa using h
  refine ⟨fun b o e n1 n2 nt => ?_, fun b hb => ?_, S.f0.trans P.f, P.fh, fun b o e1 e2 => ?_, S.len, fun i s hs => ?_, S.dis, ⟨P.t.tb, fun q ps e => by
    obtain ⟨ps', e'⟩ := S.t.tk q ps e
    exact P.t.tk q ps' e', P.t.nt⟩⟩
  · exact P.keep b o (S.h0 b o e n1 n2 nt) (ne fun z => by subst z; rw [f0] at e; cases e) nt
  · obtain ⟨o, ho⟩ := S.hio b hb
    by_cases z : b = q
    · subst z
      obtain ⟨m, hm⟩ := paired_mem P.outs (List.mem_singleton.mpr rfl)
      exact hm.here
    · by_cases zt : ∃ ps, o = .tbl ps
      · obtain ⟨ps, rfl⟩ := zt
        obtain ⟨ps', e'⟩ := P.t.tk b ps ho
        exact ⟨_, e'⟩
      · exact ⟨o, P.keep b o ho (ne z) fun ps y => zt ⟨ps, y⟩⟩
  · obtain ⟨o', e'⟩ := S.any e1
    exact P.nf b o' e' (S.nf b o e1 e2)
  · have z := S.rep i s hs
    cases s with
    | lk C f jj => obtain ⟨a, dx, e1, h1⟩ := z; exact ⟨a, dx, e1, P.f _ _ h1⟩
    | no => trivial
    | val d => obtain ⟨v, e1, r1⟩ := z; exact ⟨v, e1, r1.mono P.f⟩
    | own m =>
      obtain ⟨p, e1, e2, e3, e4⟩ := z
      obtain ⟨o, ho, hmu⟩ := e4.mut
      have nq : p ≠ q := fun z => by subst z; exact nw i ⟨e1, m, .inl hs⟩
      exact ⟨p, e1, P.nf p o ho e2, e3, e4.mono P.f fun o' ho' => P.keep p o' ho' (ne nq) (by rw [ho] at ho'; cases ho'; exact hmu.nt)⟩
    | io m =>
      obtain ⟨e1, e2, e3, e4⟩ := z
      obtain ⟨o, ho, hmu⟩ := e4.mut
      have nq : π i ≠ q := fun z => by rw [z] at e1; exact nw i ⟨e1, m, .inr hs⟩
      exact ⟨e1, P.nf _ o ho e2, e3, e4.mono P.f fun o' ho' => P.keep _ o' ho' (ne nq) (by rw [ho] at ho'; cases ho'; exact hmu.nt)⟩
theorem rd_callF {f : Rho → R M} {σ : L2.St} {H : Hp} {Q : VK} (t : tE X.K π W (callFE G f) σ H Q) : tCons (tM X.K π W f) tNil σ H fun vs H1 => spG X.K 1 G vs H1 Q fun cls d H' => W cls d σ H' := by
  obtain ⟨c, F, ρ, S, P⟩ := t
  refine po_bind S P fun v F1 H1 ρ1 m s1 S1 r1 P1 => ?_
  obtain ⟨q, rfl, n1, n2, n3, hm⟩ := r1
  refine ⟨F1, [.io m], ⟨S1.f, S1.t.tb, S1.t.nt⟩, .io n1 hm .nil, rfl, by rw [ioA_io]; simp [ioA], ?_⟩
  have e : ioA [V.ref q] [Arg.io m] = [q] := rfl
  rw [e]
  cases eg : G [.io m] with
  | stuck => rw [eg] at P1; exact P1
  | exc C fs outs =>
    rw [eg] at P1
    exact fun dd fsV F' H' po hd hf hr => P1 dd fsV F' H' po.f (S1.postF n2 n3 po) hd hf hr
  | ok r outs =>
    rw [eg] at P1
    refine fun v F' H' po rv => k_asE rv (S1.postF n2 n3 po) (fun b hb => ?_) (Po.mono po.f P1)
    refine ⟨?_, fun j hj => ?_⟩
    · cases z : c.H0 b with
      | none => rfl
      | some o =>
        obtain ⟨o', e'⟩ := S1.any z
        rw [hb] at e'
        cases e'
    · obtain ⟨o, ho⟩ := (S1.ownAt hj).2.2
      rw [hb] at ho
      cases ho
theorem fe_callF {f' : Rho → R M} (Fn : FnG X.prog X.w X.K X.mg X.base k f fd ps (spG X.K ps.length G)) (hl : ps.length = 1) (hr : RoomG k X.A) (tk : L2N.Takes X W) (hg : Gl X x) (hm : X.mg x = some (.ref f)) (hkp : PySem.W.keepIn X.K (.ref f) = true) (hb : Binds X.K fd ps [])
    (ha : PE X e (tM X.K π W f')) (hdb : (x == ("__debug__" : Str)) = false := by decide) (he : starEach [e] X.env = (false, eval e X.env) :: starEach [] X.env := by rfl) (hpl : (backTo pos (starEach [] X.env)).any (·.1) = false := by rfl) :
    PE X (.Call (.Name x p) [e] [] pos) (tE X.K π W (callFE G f')) := by
  refine ⟨fun pins s σ H Q I h => ?_⟩
  refine wpAny_Call_Name_kw (ld_glob I hg hm ?_ hdb)
  refine PySem.W.callWith_K (h₀ := X.base) I.ok.mod.kin hkp (thn ((pa_cons ha pa_nil he).run pos pins s σ H _ I (rd_callF h)) fun us s1 ⟨vs, H1, I1, r, q⟩ => ⟨I1.kIn, ?_⟩) he hpl
  rw [← hl] at q
  have b := hb s1 us I1.kIn (by rw [List.append_nil, ← r.length]; exact Fn.len _ _ _ _ q)
  rw [List.append_nil] at b
  refine wpAny_call (codeAny_mono (run_fnG Fn hr tk b I1 r q) fun r s' hq => ?_)
  cases r with
  | error e => exact hq
  | ok fl =>
    cases fl with
    | ret u => exact hq
    | next => exact False.elim hq
    | brk => exact False.elim hq
    | cont => exact False.elim hq
end
variable [FE] in
/-- a def of the module that may be called by its name -/
structure Cal (P : Program) (w : World) (K : PySem.W.Frag) (mg : Str → Option Value) (base : Heap) (k : Nat) (x : Str) (ps : List Str) (kbs : List (List Str × Nat × List Nat)) (G : List Arg → RG) : Prop where
  ex : ∃ (f : Addr) (fd : FuncData), FnG P w K mg base k f fd ps (spG K ps.length G) ∧ mg x = some (.ref f) ∧ PySem.W.keepIn K (.ref f) = true ∧ Binds K fd ps [] ∧ ∀ q ∈ kbs, KB K fd ps q.1 q.2.1 q.2.2
variable [FE] in
theorem cal_of {P : Program} {w : World} {K : PySem.W.Frag} {mg : Str → Option Value} {base : Heap} {k : Nat} {x qual : Str} {st : Stmt} {f : Addr} {fd : FuncData} {ps : List Str} {kbs : List (List Str × Nat × List Nat)} {G : List Arg → RG} (Fd : Fun K x qual st f fd) (hm : mg x = some (.ref f))
    (h : FnG P w K mg base k f fd ps (spG K ps.length G))
    (hb : ∀ (kV doc pm : Value) (an : Option Addr) (cdv ct : Value) (us : List Value), us.length = ps.length → bindArgs (PySem.W.fnOf x qual (defArgs st) (defBody st) (defScope st) .none kV doc pm an cdv ct) ⟨us, []⟩ = pure (ps.zip us))
    (hk : ∀ q ∈ kbs, ∀ (kV doc pm : Value) (an : Option Addr) (cdv ct : Value) (us ws : List Value), us.length = q.2.1 → ws.length = q.1.length → bindArgs (PySem.W.fnOf x qual (defArgs st) (defBody st) (defScope st) .none kV doc pm an cdv ct) ⟨us, q.1.zip ws⟩ = pure (ps.zip (pick q.2.2 (us ++ ws)))) :
    Cal P w K mg base k x ps kbs G := by
  refine ⟨f, fd, h, hm, Fd.kp, Fd.binds hb, fun q hq => ?_⟩
  obtain ⟨oc, od, kV, doc, pm, an, cdv, ct, osl, rfl, lk, hcd⟩ := Fd.ex
  exact fun s us ws _ h1 h2 => .of_eq (hk q hq kV doc pm an cdv ct us ws h1 h2)
theorem kb_nil {P : List Str × Nat × List Nat → Prop} : ∀ q ∈ ([] : List (List Str × Nat × List Nat)), P q := fun q h => by cases h
theorem rm_mono {j k : Nat} {A : Around} (r : RoomG k A) (h : Nat.ble j k = true) : RoomG j A := r.mono (Nat.le_of_ble_eq_true h)
/-! ### the tests of a comprehension that has none; what the top has read -/
def yesT : TF := fun ρ => .ok true ρ
variable [FE] in
theorem pts_non {X : Cx} {π : Nat → Addr} {W : WX} : PTs X [] (tT X.K π W yesT) := ⟨fun pins s σ H Q I ⟨c, F, ρ, S, P⟩ => pts_nil.run pins s σ H Q I (P true F H (Same.refl _) S rfl)⟩
theorem loose_int {q : Program} {lv : List (Str × PySem.W.WData)} {mg : Str → Option Value} {h : Heap} {x : Str} {i : Int} (X : PySem.W.XL q lv mg h) (hm : (x, PySem.W.WData.int i) ∈ lv) : ∃ t : Tok, mg x = some (.int i t) := by
  obtain ⟨v, h1, h2⟩ := X.2.val _ hm
  cases h2
  exact ⟨_, h1⟩
theorem takes_0 {X : Cx} : L2N.Takes X W0 := fun _ _ x => by
  obtain ⟨_, _, _, _, _, _, _, _, _, _, _, _, _, _, _, _, z⟩ := x
  exact z.elim
end FL
/-! FL13: how readings are worked out. -/
namespace FL
open PySem PySem.Spec PyProof.Rows L2

/-- what follows a part, not looked into -/
inductive Hold {α β : Type} (k : α → Rho → R β) : Type where
  | mk : Hold k
def R.bd {α β : Type} (k : α → Rho → R β) (_ : Hold k) (x : R α) : R β := x.bind k
theorem R.bind_bd {α β : Type} (x : R α) (k : α → Rho → R β) : x.bind k = R.bd k .mk x := rfl
theorem R.bd_ok {α β : Type} (k : α → Rho → R β) (h : Hold k) (a : α) (ρ : Rho) : R.bd k h (.ok a ρ) = k a ρ := rfl
def goG {α : Type} (x : RG) (as : List AA) (k : Res → Rho → R α) (ρ : Rho) : R α := match x with
  | .ok r outs => k r (putA as outs ρ)
  | .exc C fs outs => .exc C fs (putA as outs ρ)
  | .stuck => .stuck
theorem goG_ok {α : Type} (r : Res) (outs : List M) (as : List AA) (k : Res → Rho → R α) (ρ : Rho) : goG (.ok r outs) as k ρ = k r (putA as outs ρ) := rfl
def argG {α : Type} (x : Option (List FL.Arg)) (G : List FL.Arg → RG) (as : List AA) (k : Res → Rho → R α) (ρ : Rho) : R α := match x with
  | some gs => goG (G gs) as k ρ
  | none => .stuck
theorem argG_some {α : Type} (gs : List FL.Arg) (G : List FL.Arg → RG) (as : List AA) (k : Res → Rho → R α) (ρ : Rho) : argG (some gs) G as k ρ = goG (G gs) as k ρ := rfl
theorem callG_eq {α : Type} (n : Nat) (G : List FL.Arg → RG) (f : BF) (k : Res → Rho → R α) (ρ : Rho) : callG n G f k ρ = (f ρ).bind fun as ρ => if okA n as = true then argG (toArgs ρ as) G as k ρ else .stuck := by
  unfold callG argG goG
  congr 1
def endR (as : List FL.Arg) (x : R Fl) : RG := match x with
  | .ok .nx ρ => endG as (.ok (.v .non)) ρ
  | .ok (.rt r) ρ => endG as (.ok r) ρ
  | .exc C fs ρ => endG as (.exc C fs) ρ
  | _ => .stuck
theorem bodyG_eq (l : Nat) (g : SF) (as : List FL.Arg) : bodyG l g as = endR as (g (rho0 l as)) := by
  unfold bodyG endR
  rfl
theorem endR_rt (as : List FL.Arg) (r : Res) (ρ : Rho) : endR as (.ok (.rt r) ρ) = endG as (.ok r) ρ := rfl
theorem endR_nx (as : List FL.Arg) (ρ : Rho) : endR as (.ok .nx ρ) = endG as (.ok (.v .non)) ρ := rfl
/-- behind a statement -/
def nxt (g : SF) (fl : Fl) (ρ : Rho) : R Fl := match fl with
  | .nx => g ρ
  | o => .ok o ρ
theorem seqS_eq (f g : SF) (ρ : Rho) : seqS f g ρ = (f ρ).bind (nxt g) := rfl
theorem nxt_nx (g : SF) (ρ : Rho) : nxt g .nx ρ = g ρ := rfl
theorem nxt_rt (g : SF) (r : Res) (ρ : Rho) : nxt g (.rt r) ρ = .ok (.rt r) ρ := rfl
theorem nxt_bk (g : SF) (ρ : Rho) : nxt g .bk ρ = .ok .bk ρ := rfl
theorem nxt_ct (g : SF) (ρ : Rho) : nxt g .ct ρ = .ok .ct ρ := rfl
/-- a branch -/
def brR {α : Type} (f g : Rho → R α) (b : Bool) (ρ : Rho) : R α := if b = true then f ρ else g ρ
theorem ifS_eq (t : TF) (f g : SF) (ρ : Rho) : ifS t f g ρ = (t ρ).bind (brR f g) := rfl
theorem ifE_eq (t : TF) (f g : EF) (ρ : Rho) : ifE t f g ρ = (t ρ).bind (brR f g) := rfl
theorem brR_t {α : Type} (f g : Rho → R α) (ρ : Rho) : brR f g true ρ = f ρ := rfl
theorem brR_f {α : Type} (f g : Rho → R α) (ρ : Rho) : brR f g false ρ = g ρ := rfl
theorem anT_eq (f g : TF) (ρ : Rho) : anT f g ρ = (f ρ).bind (brR g fun ρ => .ok false ρ) := rfl
theorem orT_eq (f g : TF) (ρ : Rho) : orT f g ρ = (f ρ).bind (brR (fun ρ => .ok true ρ) g) := rfl
theorem anE_eq (f g : EF) (ρ : Rho) : anE f g ρ = (tst f ρ).bind (brR g fun ρ => .ok (.bl false) ρ) := rfl
theorem orE_eq (f g : EF) (ρ : Rho) : orE f g ρ = (tst f ρ).bind (brR (fun ρ => .ok (.bl true) ρ) g) := rfl
theorem brR_dec {α : Type} (f g : Rho → R α) (p : Prop) [Decidable p] (ρ : Rho) : brR f g (decide p) ρ = if p then f ρ else g ρ := by
  unfold brR
  by_cases h : p <;> simp [h]
def isB : D → Option Bool
  | .bl b => some b
  | _ => none
theorem tst_eq (f : EF) (ρ : Rho) : tst f ρ = (f ρ).bind fun x ρ => R.of (isB x) ρ := by
  unfold tst isB
  rfl
theorem isB_bl (b : Bool) : isB (.bl b) = some b := rfl
theorem eqA_int (a b : Int) : eqA (.int a) (.int b) = some (.bl (decide (a = b))) := by
  have e : (a == b) = decide (a = b) := by
    by_cases h : a = b <;> simp [h]
  rw [← e]
  rfl
theorem neA_int (a b : Int) : neA (.int a) (.int b) = some (.bl (!decide (a = b))) := by
  have e : (a == b) = decide (a = b) := by
    by_cases h : a = b <;> simp [h]
  rw [← e]
  rfl
theorem eqA_str (a b : Str) : eqA (.str a) (.str b) = some (.bl (decide (a = b))) := rfl
theorem neA_str (a b : Str) : neA (.str a) (.str b) = some (.bl (!decide (a = b))) := rfl
theorem ltD_int (a b : Int) : ltD (.int a) (.int b) = some (.bl (decide (a < b))) := rfl
theorem leD_int (a b : Int) : leD (.int a) (.int b) = some (.bl (decide (a ≤ b))) := rfl
theorem gtD_int (a b : Int) : gtD (.int a) (.int b) = some (.bl (decide (b < a))) := rfl
theorem geD_int (a b : Int) : geD (.int a) (.int b) = some (.bl (decide (b ≤ a))) := rfl
theorem addD_int (a b : Int) : addD (.int a) (.int b) = some (.int (a + b)) := rfl
theorem subD_int (a b : Int) : subD (.int a) (.int b) = some (.int (a - b)) := rfl
theorem negD_int (a : Int) : negD (.int a) = some (.int (-a)) := rfl
theorem absC_int (a : Int) : absC [.int a] = some (.int (a.natAbs : Int)) := by
  show some (D.int (if a < 0 then -a else a)) = _
  congr 2
  split <;> omega
theorem intC_int (a : Int) : intC [.int a] = some (.int a) := rfl
theorem maxC_int (a b : Int) : maxC [.int a, .int b] = some (.int (max a b)) := by
  show some (D.int (if b > a then b else a)) = _
  congr 2
  split <;> omega
theorem minC_int (a b : Int) : minC [.int a, .int b] = some (.int (min a b)) := by
  show some (D.int (if b < a then b else a)) = _
  congr 2
  split <;> omega
theorem mulOk_l {a b : Int} (h : a.natAbs < 18446744073709551616) : mulOk a b = true := by
  unfold mulOk
  rw [decide_eq_true (show a.natAbs < 2 ^ 64 from h)]
  rfl
theorem mulOk_r {a b : Int} (h : b.natAbs < 18446744073709551616) : mulOk a b = true := by
  unfold mulOk
  rw [decide_eq_true (show b.natAbs < 2 ^ 64 from h), Bool.or_true]
  rfl
theorem mulD_l {a b : Int} (h : a.natAbs < 18446744073709551616) : mulD (.int a) (.int b) = some (.int (a * b)) := by
  simp only [mulD, mulOk_l h, if_true]
theorem mulD_r {a b : Int} (h : b.natAbs < 18446744073709551616) : mulD (.int a) (.int b) = some (.int (a * b)) := by
  simp only [mulD, mulOk_r h, if_true]
theorem modD_pos {a b : Int} (h : 0 < b) : modD (.int a) (.int b) = some (.int (a % b)) := by
  have h0 : b ≠ 0 := by omega
  simp only [modD, if_pos h0, Int.fmod_eq_emod_of_nonneg a (Int.le_of_lt h)]
theorem fdivD_pos {a b : Int} (h : 0 < b) (h2 : b < 1073741824) : fdivD (.int a) (.int b) = some (.int (a / b)) := by
  have h0 : (b ≠ 0 ∧ b.natAbs < 1073741824) ∨ (b ≠ 0 ∧ b.natAbs.log2 < 9000) := .inl ⟨by omega, by omega⟩
  simp only [fdivD, if_pos h0, Int.fdiv_eq_ediv_of_nonneg a (Int.le_of_lt h)]
theorem dmC_pos {a b : Int} (h : 0 < b) (h2 : b < 1073741824) : dmC [.int a, .int b] = some (.tup [.int (a / b), .int (a % b)]) := if_pos ⟨h, h2⟩
theorem lenC_lst (xs : List D) : lenC [.lst xs] = some (.int xs.length) := rfl
theorem lenC_tup (xs : List D) : lenC [.tup xs] = some (.int xs.length) := rfl
theorem lenC_scr (xs : List Int) : lenC [.scr xs] = some (.int xs.length) := rfl
theorem atI_nat {α : Type} {xs : List α} {i : Int} {a : α} (h0 : 0 ≤ i) (h : xs[i.toNat]? = some a) : atI xs i = some a := by
  unfold atI ixN
  have hl := (List.getElem?_eq_some_iff.mp h).1
  rw [if_pos h0, if_pos (by omega)]
  exact h
/-- one of a list -/
theorem ixD_lst {xs : List D} {i : Int} (h0 : 0 ≤ i) (h1 : i < xs.length) : ∃ d ∈ xs, ixD (.lst xs) (.int i) = some d := by
  have hl : i.toNat < xs.length := by omega
  refine ⟨xs[i.toNat], List.getElem_mem hl, ?_⟩
  show atI xs i = _
  exact atI_nat h0 (List.getElem?_eq_getElem hl)

/-! ### loops -/
theorem forL_cons (ks : List Nat) (g : GF) (b : SF) (d : D) (ds : List D) (ρ : Rho) : forL ks g b (d :: ds) ρ = bindO (g d ρ) fun ρ => (b ρ).bind (aftF ks (forL ks g b ds)) := rfl
/-- a loop that keeps an invariant, or returns -/
theorem forL_inv {ks : List Nat} {g : GF} {b : SF} (I : Nat → Rho → Prop) (Z : Res → Rho → Prop) : ∀ (ds : List D) (n : Nat) (ρ : Rho), I n ρ →
    (∀ (i : Nat) (d : D) (ρ : Rho), I (n + i) ρ → ds[i]? = some d → ∃ ρ1, g d ρ = some ρ1 ∧ ((∃ ρ2, (b ρ1 = .ok .nx ρ2 ∨ b ρ1 = .ok .ct ρ2) ∧ I (n + i + 1) (wipeR ks ρ2)) ∨ ∃ r ρ2, b ρ1 = .ok (.rt r) ρ2 ∧ Z r ρ2)) →
    (∃ ρ', forL ks g b ds ρ = .ok .nx ρ' ∧ I (n + ds.length) ρ') ∨ ∃ r ρ', forL ks g b ds ρ = .ok (.rt r) ρ' ∧ Z r ρ'
  | [], n, ρ, h, _ => .inl ⟨ρ, rfl, h⟩
  | d :: ds, n, ρ, h, st => by
    obtain ⟨ρ1, e1, z⟩ := st 0 d ρ h rfl
    rw [forL_cons, e1]
    show (∃ ρ', (b ρ1).bind _ = _ ∧ _) ∨ ∃ r ρ', (b ρ1).bind _ = _ ∧ _
    rcases z with ⟨ρ2, e2, hi⟩ | ⟨r, ρ2, e2, hz⟩
    · have key := forL_inv I Z ds (n + 1) (wipeR ks ρ2) hi fun i d' ρ' h1 h2 => by
        have := st (i + 1) d' ρ' (by rw [show n + (i + 1) = n + 1 + i by omega]; exact h1) (by simpa using h2)
        rw [show n + (i + 1) + 1 = n + 1 + i + 1 by omega] at this
        exact this
      rw [show n + (d :: ds).length = n + 1 + ds.length by rw [List.length_cons]; omega]
      rcases e2 with e2 | e2 <;> (rw [e2]; exact key)
    · rw [e2]
      exact .inr ⟨r, ρ2, rfl, hz⟩
/-- a loop without a return -/
theorem forL_nx {ks : List Nat} {g : GF} {b : SF} (I : Nat → Rho → Prop) (ds : List D) (ρ : Rho) (h : I 0 ρ)
    (st : ∀ (i : Nat) (d : D) (ρ : Rho), I i ρ → ds[i]? = some d → ∃ ρ1, g d ρ = some ρ1 ∧ ∃ ρ2, b ρ1 = .ok .nx ρ2 ∧ I (i + 1) (wipeR ks ρ2)) : ∃ ρ', forL ks g b ds ρ = .ok .nx ρ' ∧ I ds.length ρ' := by
  rcases forL_inv (ks := ks) (g := g) (b := b) I (fun _ _ => False) ds 0 ρ h fun i d ρ h1 h2 => by
    rw [Nat.zero_add] at h1 ⊢
    obtain ⟨ρ1, e1, ρ2, e2, hi⟩ := st i d ρ h1 h2
    exact ⟨ρ1, e1, .inl ⟨ρ2, .inl e2, hi⟩⟩ with ⟨ρ', e, hi⟩ | ⟨_, _, _, z⟩
  · rw [Nat.zero_add] at hi
    exact ⟨ρ', e, hi⟩
  · exact z.elim
theorem forS_eq (ks : List Nat) (it : IF) (g : GF) (b : SF) (ρ : Rho) : forS ks it g b ρ = (it ρ).bind fun ds ρ => forL ks g b ds ρ := rfl
/-- a comprehension whose turns keep the state (but for its own names) -/
theorem cmpL_of {ks : List Nat} {g : GF} {t : TF} {f : EF} (I : Nat → Rho → Prop) (X : D → D → Prop) : ∀ (ds : List D) (n : Nat) (acc : List D) (ρ : Rho), acc.length + ds.length ≤ 100000 → I n ρ →
    (∀ (i : Nat) (d : D) (ρ : Rho), I (n + i) ρ → ds[i]? = some d → ∃ ρ1, g d ρ = some ρ1 ∧ ((∃ ρ2, t ρ1 = .ok false ρ2 ∧ I (n + i + 1) (wipeR ks ρ2)) ∨ ∃ ρ2 x ρ3, t ρ1 = .ok true ρ2 ∧ f ρ2 = .ok x ρ3 ∧ X d x ∧ I (n + i + 1) (wipeR ks ρ3))) →
    ∃ ys ρ', cmpL ks g t f acc ds ρ = .ok (.lst (acc ++ ys)) ρ' ∧ (∀ y ∈ ys, ∃ d ∈ ds, X d y) ∧ I (n + ds.length) ρ'
  | [], n, acc, ρ, hl, h, _ => ⟨[], ρ, by rw [List.append_nil]; rfl, (fun y hy => by simp at hy), h⟩
  | d :: ds, n, acc, ρ, hl, h, st => by
    rw [List.length_cons] at hl
    obtain ⟨ρ1, e1, z⟩ := st 0 d ρ h rfl
    have next : ∀ (acc' : List D) (ρ' : Rho), acc'.length + ds.length ≤ 100000 → I (n + 1) ρ' → ∃ ys ρ2, cmpL ks g t f acc' ds ρ' = .ok (.lst (acc' ++ ys)) ρ2 ∧ (∀ y ∈ ys, ∃ d ∈ ds, X d y) ∧ I (n + 1 + ds.length) ρ2 := fun acc' ρ' h1 h2 =>
      cmpL_of I X ds (n + 1) acc' ρ' h1 h2 fun i d' ρ' h3 h4 => by
        have := st (i + 1) d' ρ' (by rw [show n + (i + 1) = n + 1 + i by omega]; exact h3) (by simpa using h4)
        rw [show n + (i + 1) + 1 = n + 1 + i + 1 by omega] at this
        exact this
    rw [show n + (d :: ds).length = n + 1 + ds.length by rw [List.length_cons]; omega]
    unfold cmpL
    rw [e1]
    rcases z with ⟨ρ2, e2, hi⟩ | ⟨ρ2, x, ρ3, e2, e3, hx, hi⟩
    · obtain ⟨ys, ρ', e, hy, h'⟩ := next acc _ (by omega) hi
      refine ⟨ys, ρ', ?_, fun y hy' => ?_, h'⟩
      · show (noX (t ρ1)).bind _ = _
        rw [e2]
        exact e
      · obtain ⟨d', hd, hx⟩ := hy y hy'
        exact ⟨d', List.mem_cons_of_mem _ hd, hx⟩
    · obtain ⟨ys, ρ', e, hy, h'⟩ := next (acc ++ [x]) _ (by rw [List.length_append, List.length_singleton]; omega) hi
      refine ⟨x :: ys, ρ', ?_, fun y hy' => ?_, h'⟩
      · show (noX (t ρ1)).bind _ = _
        rw [e2]
        show (noX (f ρ2)).bind _ = _
        rw [e3]
        show (if small (acc.length + 1) = true then _ else _) = _
        rw [if_pos (show small (acc.length + 1) = true from decide_eq_true (by omega)), e]
        simp
      · rcases List.mem_cons.mp hy' with e | hy'
        · subst e
          exact ⟨d, List.mem_cons_self, hx⟩
        · obtain ⟨d', hd, hx⟩ := hy y hy'
          exact ⟨d', List.mem_cons_of_mem _ hd, hx⟩
/-- a comprehension whose turns keep the state: filter and map -/
theorem cmpL_pure {ks : List Nat} {g : GF} {t : TF} {f : EF} (I : Rho → Prop) (tb : D → Bool) (fx : D → D) : ∀ (ds acc : List D) (ρ : Rho), acc.length + ds.length ≤ 100000 → I ρ →
    (∀ d ∈ ds, ∀ ρ, I ρ → ∃ ρ1 ρ2, g d ρ = some ρ1 ∧ t ρ1 = .ok (tb d) ρ2 ∧ (tb d = false → I (wipeR ks ρ2)) ∧ (tb d = true → ∃ ρ3, f ρ2 = .ok (fx d) ρ3 ∧ I (wipeR ks ρ3))) →
    ∃ ρ', cmpL ks g t f acc ds ρ = .ok (.lst (acc ++ (ds.filter tb).map fx)) ρ' ∧ I ρ'
  | [], acc, ρ, hl, h, _ => ⟨ρ, by rw [List.filter_nil, List.map_nil, List.append_nil]; rfl, h⟩
  | d :: ds, acc, ρ, hl, h, st => by
    rw [List.length_cons] at hl
    obtain ⟨ρ1, ρ2, e1, e2, h1, h2⟩ := st d List.mem_cons_self ρ h
    unfold cmpL
    rw [e1]
    cases hb : tb d with
    | false =>
      obtain ⟨ρ', e, h'⟩ := cmpL_pure I tb fx ds acc _ (by omega) (h1 hb) fun d' hd => st d' (List.mem_cons_of_mem _ hd)
      refine ⟨ρ', ?_, h'⟩
      show (noX (t ρ1)).bind _ = _
      rw [e2, hb, List.filter_cons, hb, if_neg Bool.false_ne_true]
      exact e
    | true =>
      obtain ⟨ρ3, e3, h3⟩ := h2 hb
      obtain ⟨ρ', e, h'⟩ := cmpL_pure I tb fx ds (acc ++ [fx d]) _ (by rw [List.length_append, List.length_singleton]; omega) h3 fun d' hd => st d' (List.mem_cons_of_mem _ hd)
      refine ⟨ρ', ?_, h'⟩
      show (noX (t ρ1)).bind _ = _
      rw [e2, hb, List.filter_cons, hb, if_pos rfl, List.map_cons]
      show (noX (f ρ2)).bind _ = _
      rw [e3]
      show (if small (acc.length + 1) = true then _ else _) = _
      rw [if_pos (show small (acc.length + 1) = true from decide_eq_true (by omega)), e]
      simp
theorem rgOk_of {i : Int} (h : -4000000000000000000 ≤ i) (h' : i ≤ 4000000000000000000) : rgOk i = true := by
  exact decide_eq_true (by omega)
theorem mulD_w {a b : Int} (ha : a.natAbs < 2 ^ 200) (hb : b.natAbs < 2 ^ 200) : mulD (.int a) (.int b) = some (.int (a * b)) := by
  have l : ∀ x : Nat, x < 2 ^ 200 → x.log2 < 200 := fun x h => by
    by_cases h0 : x = 0
    · subst h0
      decide
    · exact (Nat.log2_lt h0).mpr h
  have h : mulOk a b = true := by
    unfold mulOk
    have h1 := l _ ha
    have h2 := l _ hb
    rw [decide_eq_true (show a.natAbs.log2 + b.natAbs.log2 < 1000000 by omega), Bool.or_true]
  simp only [mulD, h, if_true]
theorem inA_int2 (i a b : Int) : inA (.int i) (.tup [.int a, .int b]) = some (.bl (decide (i = a) || decide (i = b))) := by
  have e : ∀ x y : Int, (y == x) = decide (x = y) := fun x y => by
    rw [Bool.eq_iff_iff, beq_iff_eq, decide_eq_true_eq]
    exact eq_comm
  show some (D.bl ((a == i) || ((b == i) || false))) = _
  rw [e, e, Bool.or_false]
end FL
/-! FL14: enumerate, of lists and of tuples. -/
namespace FL
open PySem PySem.Spec PyProof.Rows L2 AutoSeq1
section
variable {prog : Program} {w : World} {A : Around} {E : Value → Shared → Prop} {s : Shared}
theorem nextOf_tup_item {it t : Addr} {i : Nat} {items : Array Value} {x : Value} {Q : Value → Shared → Prop} (hit : s.heap.IsTupleIter it t i) (ht : s.heap.IsTuple t items) (hx : items[i]? = some x)
    (hQ : ∀ h', h'.IsTupleIter it t (i + 1) → Heap.SameBut it s.heap h' → Q x { s with heap := h' }) : wpAny (model prog w) A (Builtin.SmallTypes.nextOf (.ref it)) Q E s := by
  obtain ⟨oi, hoi, ci, di⟩ := id hit
  obtain ⟨ot, hot, _, nt, dt⟩ := ht
  unfold Builtin.SmallTypes.nextOf
  refine wpAny_bind (wpAny_callSpecial?_slot (name := Str.ofString "__next__") hit.typeIs F.slot_tuple_iterator_next (wpAny_call_entry F.slot_tuple_iterator_next hit.typeIs F.entry_tuple_iterator_next ?_ (F.args_tuple_iterator_next_1 _)))
  show wpAny _ _ (field (.ref it) 0 >>= _) _ _ s
  refine wpAny_bind (wpAny_field hoi di (x := .ref t) rfl ?_)
  show wpAny _ _ (if (Value.ref t == Value.none) = true then _ else _) _ _ s
  rw [if_neg (show ¬ ((Value.ref t == Value.none) = true) by exact Bool.false_ne_true)]
  show wpAny _ _ (field (.ref it) 1 >>= _) _ _ s
  refine wpAny_bind (wpAny_field hoi di (x := .int i 0) rfl ?_)
  show wpAny _ _ (seqItems? (.ref t) >>= _) _ _ s
  refine wpAny_bind (wpAny_seqItems hot dt ?_)
  simp only [Int.toNat_natCast, hx]
  refine wpAny_bind (wpAny_setField hoi di (by simp) (wpAny_pure ⟨x, rfl, wpAny_pure (hQ _ ⟨_, Heap.get?_update_self _ hoi (Obj.isFreed_of_fields (Obj.data_mapFields di _)), (Obj.cls_mapFields ..).trans ci, ?_⟩ (Heap.SameBut.update ..))⟩))
  rw [Obj.data_mapFields di]
  simp [rawInt]
theorem nextOf_tup_end {it t : Addr} {i : Nat} {items : Array Value} {Q : Value → Shared → Prop} (hh : A.handled = none) (hit : s.heap.IsTupleIter it t i) (ht : s.heap.IsTuple t items) (hx : items[i]? = none)
    (hE : ∀ h' e, Heap.ExtBut it s.heap h' → (∃ o, h'.get? e = some o ∧ o.cls = .type "StopIteration") → E (.ref e) { s with heap := h' }) : wpAny (model prog w) A (Builtin.SmallTypes.nextOf (.ref it)) Q E s := by
  obtain ⟨oi, hoi, ci, di⟩ := id hit
  obtain ⟨ot, hot, _, nt, dt⟩ := ht
  unfold Builtin.SmallTypes.nextOf
  refine wpAny_bind (wpAny_callSpecial?_slot (name := Str.ofString "__next__") hit.typeIs F.slot_tuple_iterator_next (wpAny_call_entry F.slot_tuple_iterator_next hit.typeIs F.entry_tuple_iterator_next ?_ (F.args_tuple_iterator_next_1 _)))
  show wpAny _ _ (field (.ref it) 0 >>= _) _ _ s
  refine wpAny_bind (wpAny_field hoi di (x := .ref t) rfl ?_)
  show wpAny _ _ (if (Value.ref t == Value.none) = true then _ else _) _ _ s
  rw [if_neg (show ¬ ((Value.ref t == Value.none) = true) by exact Bool.false_ne_true)]
  show wpAny _ _ (field (.ref it) 1 >>= _) _ _ s
  refine wpAny_bind (wpAny_field hoi di (x := .int i 0) rfl ?_)
  show wpAny _ _ (seqItems? (.ref t) >>= _) _ _ s
  refine wpAny_bind (wpAny_seqItems hot dt ?_)
  simp only [Int.toNat_natCast, hx]
  refine wpAny_bind (wpAny_rule (wpAny_bind (wpAny_setField hoi di (by simp) ?_)))
  show wpAny _ _ (newExc (.type "StopIteration") [] >>= _) _ _ _
  refine wpAny_bind ?_
  simp only [newExc, newTuple]
  refine wpAny_bind (wpAny_newObj_type ?_ (by size_fits))
  refine wpAny_bind (m := firstArgMember _ _) (wpAny_of_eq (a := Value.none) (by first | rfl | (simp only [firstArgMember]; rfl)) ?_)
  refine wpAny_newObj_type ?_ (by size_fits)
  simp only [raiseNew]
  refine wpAny_bind (wpAny_handled ?_)
  first | rw [show A.in1.handled = none from hh] | rw [hh]
  exact wpAny_bind (wpAny_pure (wpAny_throw (hE _ _ (((Heap.SameBut.update ..).extBut.push _).push _) ⟨_, Heap.get?_push_size _ rfl, rfl⟩)))
end
theorem draws_tup {prog : Program} {w : World} {A : Around} (hh : A.handled = none) (it t : Addr) (hne : t ≠ it) (items : Array Value) :
    Draws prog w A it [it, t] items.size (fun i v => items[i]? = some v) (fun i h => h.IsTupleIter it t i ∧ h.IsTuple t items) where
  live := fun _ _ st => let ⟨o, ho, _⟩ := st.1; ⟨o, ho⟩
  frame := fun _ _ _ st hk => ⟨st.1.at fun o e => hk it (by simp) o e, let ⟨o, ho, r⟩ := st.2; ⟨o, hk t (by simp) o ho, r⟩⟩
  item := fun i s Q E hi st hQ => nextOf_tup_item st.1 st.2 (x := items[i]) (by simp [hi]) fun h' hit' hs' => hQ _ h' s.toks (by simp [hi]) ⟨hit', st.2.extBut hs'.extBut hne⟩ hs'
  done := fun s Q E st hE => nextOf_tup_end hh st.1 st.2 (by simp) hE
theorem enum_new_tup (l : Addr) (items : Array Value) (n : Nat) (dct : Option Addr) (sl : Array (Option Value)) :
    Meets (Builtin.«enumerate.__new__» ⟨[.type "enumerate", .ref l], []⟩) (fun _ R s => s.heap.get? l = some { cls := .type "tuple", dict := dct, data := .seq items n, slots := sl } ∧
      R (.ok (.ret (.ref (s.heap.push { cls := .type "tuple_iterator", data := .fields #[.ref l, .int 0 0] }).objs.size)))
        { s with heap := (s.heap.push { cls := .type "tuple_iterator", data := .fields #[.ref l, .int 0 0] }).push { cls := .type "enumerate", data := .fields #[.none, .bool false, .ref s.heap.objs.size, rawInt 0, .none, .none] } }) :=
  .of_wp fun prog w A R s h => by
    obtain ⟨hp, g, d, tk, os⟩ := s
    obtain ⟨hl, h⟩ := h
    have hsub := sub_enumerate
    have hT : Heap.IsTuple (Shared.heap ⟨hp, g, d, tk, os⟩) l items := ⟨_, hl, rfl, n, rfl⟩
    wp_walk using wpAny_loadPart' hl
    refine wpAny_stack_any fun st => wpAny_pure ?_
    split
    · rename_i c _ _ _ _ _
      cases (c == Value.type "enumerate")
      · wp_walk using wpAny_loadPart' hl, wpAny_pyIter_tuple hT
        exact ⟨_, rfl, h⟩
      · wp_walk using wpAny_loadPart' hl, wpAny_pyIter_tuple hT
        exact ⟨_, rfl, h⟩
    · wp_walk using wpAny_loadPart' hl, wpAny_pyIter_tuple hT
      exact ⟨_, rfl, h⟩
theorem call_enum_tup {prog : Program} {w : World} {A : Around} {E : Value → Shared → Prop} {s : Shared} {l : Addr} {items : Array Value} {Q : Value → Shared → Prop} (hL : s.heap.IsTuple l items)
    (h : ∀ h', IsEnum h' (s.heap.objs.size + 1) s.heap.objs.size 0 .none → h'.IsTupleIter s.heap.objs.size l 0 → h'.objs.size = s.heap.objs.size + 2 → (∀ b o, s.heap.get? b = some o → h'.get? b = some o) → Q (.ref (s.heap.objs.size + 1)) { s with heap := h' }) :
    wpAny (model prog w) A (call (.type "enumerate") [.ref l]) Q E s := by
  obtain ⟨⟨c, dct, dt, sl⟩, hl, hc, n, hd⟩ := hL
  have hc : c = .type "tuple" := hc
  have hd : dt = .seq items n := hd
  subst hc hd
  refine callType_new F.called_enumerate (by decide) (F.typeCall_enumerate_1 _) (F.newCall_enumerate_1 _) (fun obj => F.args_object_init_2 obj _) F.entry_enumerate_new (enum_new_tup l items n dct sl) ⟨hl, ?_⟩
  generalize hi : ({ cls := .type "tuple_iterator", data := .fields #[.ref l, .int 0 0] } : Obj) = oi
  have hz : (s.heap.push oi).objs.size = s.heap.objs.size + 1 := Heap.size_push ..
  have key : ((s.heap.push oi).push { cls := .type "enumerate", data := .fields #[.none, .bool false, .ref s.heap.objs.size, rawInt 0, .none, .none] }).get? (s.heap.objs.size + 1) = some { cls := .type "enumerate", data := .fields #[.none, .bool false, .ref s.heap.objs.size, rawInt 0, .none, .none] } := by
    have z := Heap.get?_push_size (s.heap.push oi) (o := { cls := .type "enumerate", data := .fields #[.none, .bool false, .ref s.heap.objs.size, rawInt 0, .none, .none] }) rfl
    rw [hz] at z
    exact z
  show _ ∧ _
  rw [hz]
  refine ⟨⟨_, key, rfl⟩, h _ key ⟨oi, Heap.get?_push_of_some _ (Heap.get?_push_size _ (by rw [← hi]; rfl)), by rw [← hi], by rw [← hi]; rfl⟩ (by rw [Heap.size_push, hz]) fun b o x => Heap.get?_push_of_some _ (Heap.get?_push_of_some _ x)⟩
/-- the tuple at a, each item in a new pair -/
def IteT (K : PySem.W.Frag) (a : Addr) : It :=
  ⟨fun i H => ∃ (xs : List V) (x : V), SqT K H a xs ∧ xs[i]? = some x, fun i H v H' => ∃ T x, v = .ref T ∧ H T = none ∧ (∃ ob : Obj, ob.dict = none ∧ H' = upd H T (.frz ob (.tup [.int (i : Nat), x]))) ∧ ∀ xs, SqT K H a xs → xs[i]? = some x, fun i H => ∃ xs : List V, SqT K H a xs ∧ xs.length ≤ i⟩
theorem turn_enumT {P : Program} {w : World} {K : PySem.W.Frag} {elts : List Expr} {kk : Nat} {tpos : Pos} (a e it : Addr) :
    Turn P w K (.Tuple elts kk tpos) (IteT K a) [e, it] e (fun i h => (∃ old, IsEnum h e it ((i : Nat) : Int) old) ∧ h.IsTupleIter it a i ∧ e ≠ it) where
  mem := by simp
  obj := fun i h st b hb => by
    obtain ⟨⟨old, he⟩, ⟨o, ho, hc, hd⟩, _⟩ := st
    rcases (show b = e ∨ b = it by simpa using hb) with z | z
    · subst z
      exact ⟨_, he, fun v q => nomatch q⟩
    · subst z
      exact ⟨o, ho, fun v q => by rw [hd] at q; cases q⟩
  keep := fun i h h' st k => let ⟨⟨old, he⟩, hi, hne⟩ := st; ⟨⟨old, k e (by simp) _ he⟩, hi.at fun o q => k it (by simp) o q, hne⟩
  item := by
    intro X hP hw hK hc i pins s σ H E I hf st hg
    subst hP hw hK
    obtain ⟨⟨old, he⟩, hit, hne⟩ := st
    obtain ⟨xs, x, hq, hx⟩ := hg
    obtain ⟨its, rv, p, hz⟩ := I.tuple hq
    have p : s.heap.IsTuple a its.toArray := p
    obtain ⟨u, hu, ru⟩ := rv.get hx
    have hel : e < s.heap.objs.size := Heap.lt_size he
    have hil : it < s.heap.objs.size := by obtain ⟨_, q, _⟩ := hit; exact Heap.lt_size q
    have ne1 : a ≠ it := fun z => by
      subst z
      obtain ⟨o, q, c, d⟩ := hit
      obtain ⟨o', q', c', _⟩ := p
      rw [q] at q'
      cases q'
      exact absurd (c.symm.trans c') (by decide +kernel)
    have ne2 : e ∉ [it, a] := fun z => by
      rcases (show e = it ∨ e = a by simpa using z) with z | z
      · exact hne z
      · subst z
        obtain ⟨o', q', c', _⟩ := p
        rw [he] at q'
        cases q'
        exact absurd (show Value.type "enumerate" = .type "tuple" from c') (by decide +kernel)
    have hii : i < its.length := (List.getElem?_eq_some_iff.mp hu).1
    have hh : X.A.in1.handled = none := I.ok.hd hc
    refine wpAny_pyNext_enum_itemD (draws_tup (prog := X.prog) (w := X.w) hh it a ne1 its.toArray) he ⟨hit, p⟩ (by simpa using hii) hne ne2 fun y h' tk hy ho hst' hT hsz hk => ?_
    have ey : y = u := by
      have hy : its.toArray[i]? = some y := hy
      rw [List.getElem?_toArray, hu] at hy
      exact (Option.some.inj hy).symm
    subst ey
    refine ⟨_, rfl, wpAny_letOwnedTupleGo_enum (s := { s with heap := h', toks := tk + 1 }) ho fun h'' he' sb => ?_⟩
    have hT2 : h''.get? s.heap.objs.size = some { cls := .type "tuple", data := .seq #[.int i tk, y] } := (sb.2 _ (Nat.ne_of_gt hel)).trans hT
    let ob : Obj := { cls := .type "tuple", data := .seq #[.int i tk, y] }
    have new : ObjOk X.prog X.w (upd H s.heap.objs.size (.frz ob (.tup [.int (i : Nat), x]))) h'' s.heap.objs.size (.frz ob (.tup [.int (i : Nat), x])) :=
      ⟨hT2, show 2 ≤ sizeLine by decide, [.int i tk, y], .cons ⟨_, rfl⟩ (.cons ru .nil), ob, hT2, rfl, _, rfl⟩
    have I1 : Inv X pins σ (upd H s.heap.objs.size (.frz ob (.tup [.int (i : Nat), x]))) { s with heap := h'', toks := tk + 1 } :=
      I.turnedNew (ch := [e, it]) (fun b ob hb q => (sb.2 b (fun z => hb (by simp [z]))).trans (hk b ob (fun z => hb (by simp [z])) (fun z => hb (by simp [z])) q)) hf (Nat.le_refl _) new
    refine ⟨.ref s.heap.objs.size, _, I1, rfl, ⟨_, x, rfl, I.hok.fresh (Nat.le_refl _), ⟨ob, rfl, rfl⟩, fun ys hy => by rw [I.tuple_inj hy hq]; exact hx⟩, ⟨⟨y, ?_⟩, hst'.1.at fun o q => (sb.2 it (Ne.symm hne)).trans q, hne⟩, fun b hb => ?_⟩
    · have e1 : ((i + 1 : Nat) : Int) = (i : Int) + 1 := by omega
      rw [e1]
      exact he'
    · have hb' : b < s.heap.objs.size := by
        rcases (show b = e ∨ b = it by simpa using hb) with z | z
        · rw [z]; exact hel
        · rw [z]; exact hil
      rw [upd_ne (Nat.ne_of_lt hb')]
      exact (hf b hb).1
  done := by
    intro X hP hw hK hc i pins s σ H E I hf st hg
    subst hP hw hK
    obtain ⟨⟨old, he⟩, hit, hne⟩ := st
    obtain ⟨xs, hq, hx⟩ := hg
    obtain ⟨its, rv, p, hz⟩ := I.tuple hq
    have p : s.heap.IsTuple a its.toArray := p
    obtain ⟨f0, f1, f2, f3, f4, f5⟩ := hf it (by simp)
    have hl := rv.length
    have hh : X.A.in1.handled = none := I.ok.hd hc
    have ne1 : a ≠ it := fun z => by
      subst z
      obtain ⟨o, q, c, d⟩ := hit
      obtain ⟨o', q', c', _⟩ := p
      rw [q] at q'
      cases q'
      exact absurd (c.symm.trans c') (by decide +kernel)
    have D : Draws X.prog X.w X.A.in1 it [it, a] i (fun _ _ => True) (fun j h => h.IsTupleIter it a j ∧ h.IsTuple a its.toArray ∧ j = i) :=
      { live := fun _ _ st => let ⟨o, ho, _⟩ := st.1; ⟨o, ho⟩
        frame := fun _ _ _ st hk => ⟨st.1.at fun o e => hk it (by simp) o e, (let ⟨o, ho, r⟩ := st.2.1; ⟨o, hk a (by simp) o ho, r⟩), st.2.2⟩
        item := fun j s Q E hj st hQ => absurd st.2.2 (Nat.ne_of_lt hj)
        done := fun s Q E st hE => nextOf_tup_end hh st.1 st.2.1 (by simp; omega) hE }
    exact wpAny_pyNext_enum_endD D he ⟨hit, p, rfl⟩ fun h' eb => ⟨rfl, I.turned (t' := s.toks) (fun b o hb q => eb b o hb q) f0 f1 f3 f4 f5⟩
  self := fun A i s Q E st h => let ⟨⟨_, he⟩, _⟩ := st; wpAny_pyIter_enum he h
/-! ### the reading -/
def enumL : Nat → List D → List D
  | _, [] => []
  | n, d :: ds => .tup [.int (n : Int), d] :: enumL (n + 1) ds
theorem enumL_len : ∀ (ds : List D) (n : Nat), (enumL n ds).length = ds.length
  | [], _ => rfl
  | d :: ds, n => by rw [enumL, List.length_cons, List.length_cons, enumL_len ds]
theorem enumL_get : ∀ (ds : List D) (n i : Nat) (d : D), (enumL n ds)[i]? = some d → ∃ e, ds[i]? = some e ∧ d = .tup [.int ((n + i : Nat) : Int), e]
  | [], _, _, _, h => by simp [enumL] at h
  | e :: ds, n, 0, d, h => by
    simp [enumL] at h
    exact ⟨e, rfl, h.symm⟩
  | e :: ds, n, i + 1, d, h => by
    obtain ⟨e', h1, h2⟩ := enumL_get ds (n + 1) i d (by simpa [enumL] using h)
    refine ⟨e', by simpa using h1, ?_⟩
    rw [h2, show n + 1 + i = n + (i + 1) by omega]
def seqT : D → Option (List D)
  | .tup ds => some ds
  | _ => none
def enmI (f : EF) : IF := fun ρ => (f ρ).bind fun d ρ => (R.of (seqT d) ρ).bind fun ds ρ => .ok (enumL 0 ds) ρ
section
variable {K : PySem.W.Frag} {F : Hp} {q : Addr} {xs : List V} {ds : List D}
variable [FE] in
theorem wk_enumT (h : SqT K F q xs) (r : Reps K F xs ds) : Wk K F (IteT K q) (enumL 0 ds) := by
  refine ⟨fun F' H' s1 s2 i d hd => ?_, fun H' s => ⟨xs, sm_tup s h, by rw [enumL_len, Reps.length r]; exact Nat.le_refl _⟩⟩
  obtain ⟨e, he, rfl⟩ := enumL_get _ _ _ _ hd
  obtain ⟨v, hv, rv⟩ := r.get he
  refine ⟨⟨xs, v, sm_tup (s1.trans s2) h, hv⟩, fun x H2 ⟨T, y, e1, hT, ⟨ob, od, e2⟩, e3⟩ => ?_⟩
  have ey := e3 xs (sm_tup (s1.trans s2) h)
  rw [hv] at ey
  cases ey
  subst e1 e2
  have g := Grw.newT (xs := [.int (i : Nat), v]) s2 hT od
  refine ⟨_, g, .tup (sqT_new upd_same) (.cons ?_ (.cons ((rv.mono s1).mono g.f) .nil))⟩
  rw [Nat.zero_add]
  exact .int _
end
section
variable [FE]
variable {X : Cx} {π : Nat → Addr} {W : WX} {e : Expr} {pos p tpos : Pos} {elts : List Expr} {kk : Nat} {x : Str}
def iEnumT (K : PySem.W.Frag) (ta : TA) : TI := fun σ H R => ta σ H fun vs H1 => ∃ a xs, vs = [.ref a] ∧ SqT K H1 a xs ∧ R (IteT K a) H1
theorem pi_enumT {ta : TA} (hg : Gl X "enumerate") (hm : X.mg "enumerate" = none) (ha : PA X [e] ta) (hs : starEach [e] X.env = [(false, eval e X.env)] := by rfl) :
    PI X (.Tuple elts kk tpos) (.Call (.Name "enumerate" p) [e] [] pos) (iEnumT X.K ta) := by
  refine ⟨fun pins s σ H R I h => ?_⟩
  refine Call_ (ld_blt I hg hm boot_enumerate (PyProof.Rows.callWith_type1 (thn (ha.run pos pins s σ H _ I h) fun us s1 ⟨vs, H1, I1, r1, q1⟩ => ?_) hs rfl))
  obtain ⟨a, xs, rfl, hq, q⟩ := q1
  cases r1 with
  | cons r rr =>
    cases rr
    cases r
    obtain ⟨its, rv, pt, hz⟩ := I1.tuple hq
    refine call_enum_tup (show s1.heap.IsTuple a its.toArray from pt) fun h' he hit hsz hk => wpAny_pyIter_enum he ?_
    have I2 : Inv X pins σ H1 { s1 with heap := h' } := I1.kept (t' := s1.toks) hk
    refine ⟨s1.heap.objs.size + 1, [s1.heap.objs.size + 1, s1.heap.objs.size], _, _, H1, rfl, I2, turn_enumT a (s1.heap.objs.size + 1) s1.heap.objs.size, ⟨⟨.none, he⟩, hit, Nat.succ_ne_self _⟩, fun b hb => ?_, q⟩
    have hle : s1.heap.objs.size ≤ b := by
      rcases (show b = s1.heap.objs.size + 1 ∨ b = s1.heap.objs.size by simpa using hb) with z | z
      · rw [z]; exact Nat.le_add_right _ _
      · rw [z]; exact Nat.le_refl _
    exact I1.fpOk hle (I1.hok.fresh hle)
theorem fi_enum {f : EF} (hg : Gl X "enumerate") (hm : X.mg "enumerate" = none) (he : PE X e (tE X.K π W f)) (hs : starEach [e] X.env = [(false, eval e X.env)] := by rfl) (hs2 : starEach [e] X.env = (false, eval e X.env) :: starEach [] X.env := by rfl) :
    PI X (.Tuple elts kk tpos) (.Call (.Name "enumerate" p) [e] [] pos) (tI X.K π W (enmI f)) :=
  PI.imp (pi_enumT hg hm (pa_cons he pa_nil hs2) hs) fun σ H R ⟨c, F, ρ, S, P⟩ => by
    unfold enmI at P
    cases ef : f ρ with
    | stuck => rw [ef] at P; exact P.elim
    | exc C fs ρ1 =>
      rw [ef] at P
      exact ⟨c, F, ρ, S, by rw [ef]; exact P⟩
    | ok d ρ1 =>
      rw [ef] at P
      cases ed : seqT d with
      | none =>
        simp only [FL.R.ok_bind, ed] at P
        exact P.elim
      | some ds =>
        simp only [FL.R.ok_bind, ed] at P
        have P : Po X.K π W (relI X.K) c F σ R (.ok (enumL 0 ds) ρ1) := P
        cases d with
        | tup es =>
          cases ed
          refine ⟨c, F, ρ, S, ?_⟩
          rw [ef]
          intro v F1 H1 s1 S1 r1
          cases r1 with
          | tup h1 rs => exact ⟨_, _, rfl, sm_tup S1.f h1, P _ F1 H1 s1 S1 (wk_enumT h1 rs)⟩
        | _ => cases ed
end
end FL
/-! FL15: new lists of our own, comprehensions stored on one line. -/
namespace FL
open PySem PySem.Spec PyProof.Rows L2
section
variable [FE]
variable {X : Cx} {π : Nat → Addr} {W : WX}
theorem rd_frz {K : PySem.W.Frag} {f : Rho → R M} {σ : L2.St} {H : Hp} {Q : VK} (t : tE K π W (frz f) σ H Q) : tM K π W f σ H Q := by
  obtain ⟨c, F, ρ, S, P⟩ := t
  refine po_bind S P fun v F1 H1 ρ1 m s1 S1 r1 P1 => ?_
  obtain ⟨p, rfl, f1, f2, f3, hm⟩ := r1
  cases m with
  | ins C fs => exact P1.elim
  | dtu _ => exact P1.elim
  | lst ds =>
    obtain ⟨vs, ho, r⟩ := hm
    obtain ⟨sm, S'⟩ := frz_new S1 ho f1 f2 f3
    exact P1 _ _ H1 sm S' (.lst upd_same (r.mono sm))
  | dct ds =>
    obtain ⟨kvs, ho, hk, r⟩ := hm
    obtain ⟨sm, S'⟩ := frz_newG S1 (by intro ps z; cases z) ho f1 f2 f3
    exact P1 _ _ H1 sm S' (.dct upd_same hk (r.mono sm))
/-- name = [.. for ..] on one line, as data -/
theorem fs_setLc {i : Nat} {y : Str} {py : Pos} {elt tg iter : Expr} {ifs : List Expr} {scope : Scope} {own : List (Str × Nat)} {pos spos : Pos} {it : IF} {g : GF} {t : TF} {f : EF} {ns : List Nat} (hc : X.calm = true) (hN : X.N.Nodup) (hy : X.N[i]? = some y) (hyl : X.env.scope.names.lookup y = some .local)
    (hsw : swapsWith (.ListComp elt [⟨tg, iter, ifs, 0⟩] scope pos) (some (.Name y py)) spos.line X.env = pure true) (hi : PI X tg iter (tI X.K π W it)) (ok : BlkOk X.N X.env.scope scope own)
    (hg : ∀ (s : Shared) (H : Hp) (C : Addr) (cl : List (Str × Addr)) (fp : List Addr), PG (X.blk s H scope (compEnvC scope cl C X.env) fp) tg (tGt X.K π ns g))
    (ht : ∀ (s : Shared) (H : Hp) (C : Addr) (cl : List (Str × Addr)) (fp : List Addr), PTs (X.blk s H scope (compEnvC scope cl C X.env) fp) ifs (tT X.K π W0 t))
    (he : ∀ (s : Shared) (H : Hp) (C : Addr) (cl : List (Str × Addr)) (fp : List Addr), PE (X.blk s H scope (compEnvC scope cl C X.env) fp) elt (tE X.K π W0 f))
    (hns : ∀ j ∈ ns, j ∈ own.map (·.2)) (hs : ∀ x, foldedSetIterable iter X.env x = pure x := by intro _; rfl) : PS X (.Assign [.Name y py] (.ListComp elt [⟨tg, iter, ifs, 0⟩] scope pos) spos) (tS X.K π W (setS i (frz (cmpM (own.map (·.2)) it g t f)))) :=
  PS.imp (ps_setLc hc hN hy hyl hsw hi ok hg ht he (hs := hs)) fun D σ H ⟨c, F, ρ, h0, S, P⟩ => by
    refine rd_lc hns (rd_frz (pos_bind S P fun v F1 H1 ρ1 d s1 S1 r1 P1 => ?_))
    unfold setR at P1
    split at P1
    · rename_i hl
      exact P1 _ F1 H1 (Same.refl _) (S1.set hl r1)
    · exact P1.elim
end
section
variable [FE]
variable {X : Cx} {π : Nat → Addr} {W : WX} {a b e : Expr} {es : List Expr} {pos p p2 : Pos} {x : Str}
/-- a new list at p that is ours alone -/
theorem new_lst {K : PySem.W.Frag} {c : Cfg} {F H : Hp} {σ : L2.St} {ρ : Rho} (S : Sta K π c F H σ ρ) {q : Addr} (hq : H q = none) {vs : List V} {ds : List D} (r : Reps K F vs ds) : Sta K π c F (upd H q (.lst vs)) σ ρ ∧ relM K c F (upd H q (.lst vs)) σ ρ (.ref q) (.lst ds) := by
  obtain ⟨f1, f2, f3⟩ := S.fresh hq
  exact ⟨S.grow (Grw.newO (o := .lst vs) S.f hq), q, rfl, f1, f2, f3, vs, upd_same, r⟩
def litM (f : Rho → R (List D)) : Rho → R M := fun ρ => (f ρ).bind fun ds ρ => match ds with
  | [d] => (R.of (seqD d) ρ).bind fun xs ρ => .ok (.lst xs) ρ
  | _ => .stuck
/-- list(x), a new list of our own -/
theorem fm_list {g : Rho → R (List D)} (hg : Gl X x) (hm : X.mg x = none) (hv : bootBuiltins x = some (.type "list")) (ha : PA X (e :: es) (tA X.K π W g)) (hn : x ≠ "__name__" := by decide) (hdb : (x == ("__debug__" : Str)) = false := by decide)
    (he : starEach (e :: es) X.env = (false, eval e X.env) :: starEach es X.env := by rfl) (hpl : (backTo pos (starEach es X.env)).any (·.1) = false := by rfl) : PE X (.Call (.Name x p) (e :: es) [] pos) (tM X.K π W (litM g)) :=
  PE.imp (pe_callTy call_list_of hg hm hv ha hn hdb he hpl) fun σ H Q ⟨c, F, ρ, S, P⟩ => by
    refine po_bind S P fun vs F1 H1 ρ1 ds s1 S1 r1 P1 => ?_
    split at P1
    · rename_i d
      obtain ⟨v, rfl, rv⟩ := Reps.one r1
      cases ed : seqD d with
      | none => rw [ed] at P1; exact P1.elim
      | some xs =>
        rw [ed] at P1
        obtain ⟨q, ys, rfl, hx, rs⟩ := seq_rep S1.f rv ed
        refine ⟨q, ys, rfl, hx.symm, fun l hl => ?_⟩
        obtain ⟨S2, rm⟩ := new_lst S1 hl rs
        exact P1 _ F1 _ (Same.refl _) S2 rm
    · exact P1.elim
/-- x + e, both lists, x our own -/
def catO (i : Nat) (f : EF) : Rho → R M := fun ρ => match getM i ρ with
  | none => .stuck
  | some _ => (f ρ).bind fun d ρ => match getM i ρ, d with
    | some (ds, _), .lst es => if small (ds.length + es.length) = true then .ok (.lst (ds ++ es)) ρ else .stuck
    | _, _ => .stuck
/-- a + b, both lists, a new list of our own -/
def catM (f g : EF) : Rho → R M := fun ρ => (f ρ).bind fun d ρ => (g ρ).bind fun e ρ => match d, e with
  | .lst ds, .lst es => if small (ds.length + es.length) = true then .ok (.lst (ds ++ es)) ρ else .stuck
  | _, _ => .stuck
/-- x[a:b] of our own list, as data -/
def slM (i : Nat) (g h : Rho → R (Option Int)) : EF := fun ρ => match getM i ρ with
  | none => .stuck
  | some _ => (g ρ).bind fun l ρ => (h ρ).bind fun u ρ => match getM i ρ with
    | some (ds, _) => .ok (.lst (cut ds l u)) ρ
    | none => .stuck
end
end FL
/-! FL16: sorted of whole numbers. -/
namespace FL
open PySem PySem.Spec PyProof.Rows L2
def asInts : List D → Option (List Int)
  | [] => some []
  | .int i :: ds => (asInts ds).map (i :: ·)
  | _ :: _ => none
end FL
/-! FL17: set of a list of whole numbers, and sorted of such a set. -/
namespace FL
open PySem PySem.Spec PyProof.Rows L2
section
variable {P : Program} {w : World} {A : Around} {E : Value → Shared → Prop} {s : Shared}
end
end FL
/-! FL18: sorted(set(x)), x a list of fewer than 64 whole numbers. -/
namespace FL
open PySem PySem.Spec PyProof.Rows L2
section
variable [FE]
variable {X : Cx} {π : Nat → Addr} {W : WX}
end
end FL
/-! FL19: index and count of a list of flat things. -/
namespace FL
open PySem PySem.Spec PyProof.Rows L2

section
variable [FE]
variable {K : PySem.W.Frag} {F : Hp}
end
section
variable [FE]
variable {X : Cx} {π : Nat → Addr} {W : WX} {a b : Expr} {p apos cpos : Pos} {x : Str} {r : V → List V → Hp → VK → Prop} {o : List D → D → Option D}
end
end FL
/-! FL20: the program's own exception classes: made, raised. -/
namespace FL
open PySem PySem.Spec PyProof.Rows L2 PySem.W PySem.HandSPX

section
variable {prog : Program} {w : World} {A : Around} {E : Value → Shared → Prop} {R : Result → Shared → Prop} {K : Frag} {C fI x t0 dx : Addr} {B nw ini : String} {tl : List Value} {fs : List Str} {name : Str} {tk : Tok} {v : Value} {hp : Heap} {g : Array GenState} {dr : Drawn} {tn : Nat} {os : OsState}
end
/-! ### __init__ -/
section
variable {K : Frag} {C fI : Addr} {B nw ini : String} {tl : List Value} {f g q0 : Str} {oc : Value} {od : Option Addr} {doc pm : Value} {an : Option Addr} {cdv ct : Value} {osl : Array (Option Value)} {p1 p2 p3 q1 q2 q3 q4 q5 q6 q7 q8 : Pos}
end
section
variable {prog : Program} {w : World} {A : Around} {E : Value → Shared → Prop} {R : Result → Shared → Prop} {s : Shared} {K : Frag} {C fI : Addr} {B nw ini : String} {tl : List Value} {fs : List Str}
end
section
variable {X : Cx} {C fI : Addr} {B nw ini : String} {tl : List Value} {fs : List Str} {a : Expr} {as : List Expr} {ta : TA} {x : Str} {p pos pos2 : Pos} {k : Nat}
end
/-! ### raise -/
section
variable [FE]
variable {X : Cx} {π : Nat → Addr} {W : WX} {C fI : Addr} {B nw ini : String} {tl : List Value} {fs : List Str} {a : Expr} {as : List Expr} {x : Str} {p pos pos2 : Pos} {k : Nat}
end
end FL
/-! FL21: where an exception is handled: defs, isinstance, fields. -/
namespace FL
open PySem PySem.Spec PyProof.Rows L2

/-! ### classes -/
/-- the classes: each with its bases (itself among them) and its fields -/
abbrev CT := List (Str × List Str × List Str)
/-! ### where x is handled -/
structure HotX [FE] (X : Cx) (x : EId) : Prop where
  ex : ∃ oe : Obj, X.A.handled = some (.ref x.a) ∧ (x.a, oe) ∈ X.pn ∧ L2N.Zn (.ref (FE.cl x.C)) x.d oe ∧ ∃ vs, oe.data = .fields vs
section
variable [FE]
variable {X : Cx} {x0 : EId} {π : Nat → Addr} {W : WX}
/-! ### isinstance -/
/-! ### a field -/
theorem Reps.look {K : PySem.W.Frag} {F : Hp} {n : Str} {d : D} : ∀ {fsV : List (Str × V)} {fs : List (Str × D)}, fsV.map (·.1) = fs.map (·.1) → Reps K F (fsV.map (·.2)) (fs.map (·.2)) → fs.lookup n = some d → ∃ v, fsV.lookup n = some v ∧ Rep K F v d
  | [], [], _, _, h => by cases h
  | (a, v) :: fsV, (b, e) :: fs, hk, .cons r rs, h => by
    have hk1 : a = b ∧ fsV.map (·.1) = fs.map (·.1) := by simpa using hk
    obtain ⟨rfl, hk2⟩ := hk1
    by_cases c : (n == a) = true
    · rw [List.lookup_cons, c] at h ⊢
      cases h
      exact ⟨v, rfl, r⟩
    · have c : (n == a) = false := by simpa using c
      rw [List.lookup_cons, c] at h ⊢
      exact Reps.look hk2 rs h
end
end FL
/-! FL22: defs called where an exception is handled. -/
namespace FL
open PySem PySem.Spec PyProof.Rows L2

section
variable [FE]
/-- what a def promises where x is handled -/
structure FnH (P : Program) (w : World) (K : PySem.W.Frag) (mg : Str → Option Value) (base : Heap) (ct : CT) (k : Nat) (f : Addr) (fd : FuncData) (ps : List Str) (sp : EId → Sp) : Prop where
  len : ∀ x vs H Q E, sp x vs H Q E → vs.length = ps.length
  run : ∀ (x : EId) (A : Around) (outer : List Env) (s : Shared) (H : Hp) (args : Args) (us : List Value) (vs : List V) (Q : VK) (E : XK) (oe : Obj), (∃ v, ct.lookup x.C = some v) → L2H.RoomH k A → A.handled = some (.ref x.a) → L2H.PinOk outer H s (x.a, oe) → L2N.Zn (.ref (FE.cl x.C)) x.d oe → (∃ vs, oe.data = .fields vs) →
    Env0 P w K mg base A outer s H → BindsTo s fd args (ps.zip us) → Vals vs us → sp x vs H Q E → codeAny (model P w) A (.call (.ref f) args) (CR (L2N.CX P w) outer P w H s Q E) s
theorem FnH.mono {P : Program} {w : World} {K : PySem.W.Frag} {mg : Str → Option Value} {base : Heap} {ct : CT} {j k : Nat} {f : Addr} {fd : FuncData} {ps : List Str} {sp : EId → Sp} (F : FnH P w K mg base ct j f fd ps sp) (h : j ≤ k) : FnH P w K mg base ct k f fd ps sp :=
  ⟨F.len, fun x A outer s H args us vs Q E oe hk hr => F.run x A outer s H args us vs Q E oe hk (hr.mono h)⟩
section
variable {P : Program} {w : World} {K : PySem.W.Frag} {mg : Str → Option Value} {base : Heap} {ct : CT}
end
section
variable {X : Cx} {x0 : EId} {ct : CT} {π : Nat → Addr} {k : Nat} {f : Addr} {fd : FuncData} {ps : List Str} {G : EId → List Arg → RG} {x : Str} {e : Expr} {es : List Expr} {p pos : Pos} {g : BF}
end
end
end FL
/-! FL23: a lambda without parameters, made; its call in the def that got it. -/
namespace FL
open PySem PySem.Spec PyProof.Rows L2

section
variable {X : Cx} {pins : List (Addr × Obj)} {σ : L2.St} {H : Hp} {s : Shared}
end
/-! ### the lambda's body -/
section
variable {X : Cx} {pins : List (Addr × Obj)} {σ : L2.St} {H : Hp} {s : Shared}
end
end FL
/-! FL24: try: back = act() / except (A, B, C) as e: suite / rest; a lambda handed to such a def. -/
namespace FL
open PySem PySem.Spec PyProof.Rows L2

section
variable {K : PySem.W.Frag}
theorem flying_push {base h : Heap} {l : List Env} {e : Addr} {Z : Obj → Prop} {o : Obj} (x : HandSPX.FlyingZ base l e Z h) : HandSPX.FlyingZ base l e Z (h.push o) := by
  obtain ⟨k1, k2, k3, oe, vs, T, oT, ts, he, hz, hd, h1, hn, hne, hT, hdT, h3⟩ := x
  have k : ∀ b u, h.get? b = some u → (h.push o).get? b = some u := fun b u q => Heap.get?_push_of_some _ q
  exact ⟨fun b u q => k b u (k1 b u q), k2, k3.of_keeps fun b u q _ => ⟨u, k b u q, rfl⟩, oe, vs, T, oT, ts, k _ _ he, hz, hd, h1, hn, hne, k _ _ hT, hdT, h3⟩
end
section
variable {X : Cx} {x1 x2 x3 n : Str} {C1 C2 C3 : Addr} {i : Nat} {body suite : List Stmt} {b₀ : Stmt} {q1 q2 q3 tp pos pos' : Pos} {kk : Nat} {tb : WX → TS} {ts : Addr → Value → Option Addr → TS} {Wout : WX}
end
end FL
/-! FL25: caught(lambda: e). -/
namespace FL
open PySem PySem.Spec PyProof.Rows L2

/-! ### the reading -/
open Classical in
/-- what the suite gives, whatever the object -/
noncomputable def sutR (l ie : Nat) (gs : EId → SF) (C : Str) (fs : List (Str × D)) : Option Res :=
  if h : ∃ r : Res, ∀ x : EId, x.C = C → ∃ ρ : Rho, gs x ((List.replicate l Slot.no).set ie (.val (.exc x fs))) = .ok (.rt r) ρ then some h.choose else none
def caught (ct : CT) (cs : List Str) (C : Str) : Bool := match ct.lookup C with
  | some v => cs.any fun m => v.1.contains m
  | none => false
/-- how a def that catches is made: its slots, that of what came back and of the exception; the classes; the suite; the rest -/
structure CG where
  l : Nat
  ib : Nat
  ie : Nat
  ct : CT
  cs : List Str
  gs : EId → SF
  ge : SF
noncomputable def CG.cau (c : CG) : R D → R D
  | .ok d ρ => match c.ge ((List.replicate c.l Slot.no).set c.ib (.val d)) with
    | .ok (.rt r) _ => asE r ρ
    | _ => .stuck
  | .exc C fs ρ => if caught c.ct c.cs C = true then match sutR c.l c.ie c.gs C fs with
      | some r => asE r ρ
      | none => .stuck
    else .stuck
  | .stuck => .stuck
noncomputable def cauE (c : CG) (f : EF) : EF := fun ρ => c.cau (f ρ)
/-! ### a def's slots, all unknown -/
section
variable [FE]
variable {K : PySem.W.Frag} {π : Nat → Addr} {F H : Hp}
/-- behind it the caller's state -/
theorem Sta.behind {c : Cfg} {σ σ' : L2.St} {ρ ρ' : Rho} {F' H' : Hp} (S : Sta K π c F H σ ρ) {π' : Nat → Addr} (T : Sta K π' ⟨H, F, [], []⟩ F' H' σ' ρ') : Sta K π c F' H' σ ρ :=
  S.grow ⟨T.f0, fun b o e n => T.h0 b o e (fun z => by cases z) (fun z => by cases z) n, T.f, fun q o e n => T.nf q o e n, ⟨fun _ => T.t.tb, T.t.tk, fun _ => T.t.nt⟩⟩
end
section
variable [FE]
structure CauT (K : PySem.W.Frag) (ct : CT) (cs : List Str) : Prop where
  e : ∀ n v, ct.lookup n = some v → ∀ m ∈ cs, PySem.W.exmOne K (.ref (FE.cl n)) (.ref (FE.cl m)) = some (v.1.contains m)
theorem CauT.any {K : PySem.W.Frag} {ct : CT} {cs : List Str} (T : CauT K ct cs) {C : Str} {v : List Str × List Str} (h : ct.lookup C = some v) : ∀ {ms : List Str}, (∀ m ∈ ms, m ∈ cs) → PySem.W.exmAny K (.ref (FE.cl C)) (ms.map fun m => .ref (FE.cl m)) = some (ms.any fun m => v.1.contains m)
  | [], _ => rfl
  | m :: ms, hm => by
    have ih := CauT.any T h (ms := ms) fun m' h' => hm m' (List.mem_cons_of_mem _ h')
    have e := T.e C v h m (hm m List.mem_cons_self)
    rw [List.map_cons, List.any_cons]
    unfold PySem.W.exmAny
    rw [e, ih]
section
variable {P : Program} {w : World} {K : PySem.W.Frag} {mg : Str → Option Value} {base : Heap}
end
end
end FL
/-! FL26: caught(lambda: e), the rule. -/
namespace FL
open PySem PySem.Spec PyProof.Rows L2
section
variable [FE]
variable {X : Cx} {π : Nat → Addr} {W : WX}
end
end FL
/-! FL27: from what the head finds: classes, tables. -/
namespace FL
open PySem PySem.Spec PyProof.Rows L2

theorem _root_.L2H.RoomH.u64 {k : Nat} {A : Around} (r : L2H.RoomH k A) : A.units + 64 < cLine := by have := r.un; omega
theorem _root_.L2H.RoomH.u65 {k : Nat} {A : Around} (r : L2H.RoomH k A) : A.units + 65 < cLine := by have := r.un; omega
/-! ### tables -/
theorem codes0 {K : PySem.W.Frag} {h : Heap} : Codes K h [] := ⟨fun p hp => (by cases hp), fun p hp => (by cases hp), fun p hp => (by cases hp)⟩
/-! ### classes -/
/-! ### a def whose code object is known -/
section
variable [FE]
variable {P : Program} {w : World} {K : PySem.W.Frag} {mg : Str → Option Value} {base : Heap}
end
end FL
/-! FL28: dict comprehensions; sorted(d) of a dict with keys that are ints. -/
namespace FL
open PySem PySem.Spec PyProof.Rows L2

def putD (kvs : List (Key × D)) (k : Key) (v : D) : List (Key × D) :=
  if (kvs.any fun kv => decide (kv.1 = k)) = true then kvs.map (fun kv => if kv.1 = k then (kv.1, v) else kv) else kvs ++ [(k, v)]
def getD' (kvs : List (Key × D)) (k : Key) : Option D := (kvs.find? fun kv => decide (kv.1 = k)).map (·.2)
/-- a dict's entries as data -/
def KvR (K : PySem.W.Frag) (F : Hp) (vs : List (Key × V)) (ds : List (Key × D)) : Prop := vs.map (·.1) = ds.map (·.1) ∧ Reps K F (vs.map (·.2)) (ds.map (·.2))
section
variable {K : PySem.W.Frag} {F F' : Hp}
theorem KvR.nil : KvR K F [] [] := ⟨rfl, .nil⟩
theorem KvR.mono {vs : List (Key × V)} {ds : List (Key × D)} (h : KvR K F vs ds) (s : Same F F') : KvR K F' vs ds := ⟨h.1, h.2.mono s⟩
theorem KvR.ind {vs : List (Key × V)} {ds : List (Key × D)} (h : KvR K F vs ds) : Paired (fun a b => a.1 = b.1 ∧ Rep K F a.2 b.2) vs ds := by
  induction vs generalizing ds with
  | nil =>
    cases ds with
    | nil => exact .nil
    | cons d ds => obtain ⟨h1, _⟩ := h; simp at h1
  | cons v vs ih =>
    cases ds with
    | nil => obtain ⟨h1, _⟩ := h; simp at h1
    | cons d ds =>
      obtain ⟨h1, h2⟩ := h
      rw [List.map_cons, List.map_cons] at h1
      injection h1 with h1 h3
      cases h2 with
      | cons r rs => exact .cons ⟨h1, r⟩ (ih ⟨h3, rs⟩)
theorem KvR.of {vs : List (Key × V)} {ds : List (Key × D)} (h : Paired (fun a b => a.1 = b.1 ∧ Rep K F a.2 b.2) vs ds) : KvR K F vs ds := by
  induction h with
  | nil => exact ⟨rfl, .nil⟩
  | cons h _ ih => exact ⟨by rw [List.map_cons, List.map_cons, h.1, ih.1], .cons h.2 ih.2⟩
theorem KvR.any {vs : List (Key × V)} {ds : List (Key × D)} (h : KvR K F vs ds) (k : Key) : (vs.any fun kv => decide (kv.1 = k)) = ds.any fun kv => decide (kv.1 = k) := by
  have p := h.ind
  clear h
  induction p with
  | nil => rfl
  | cons h _ ih => rw [List.any_cons, List.any_cons, ih, h.1]
theorem paired_upd {vs : List (Key × V)} {ds : List (Key × D)} (p : Paired (fun a b => a.1 = b.1 ∧ Rep K F a.2 b.2) vs ds) (k : Key) {v : V} {d : D} (r : Rep K F v d) :
    Paired (fun a b => a.1 = b.1 ∧ Rep K F a.2 b.2) (vs.map fun kv => if kv.1 = k then (kv.1, v) else kv) (ds.map fun kv => if kv.1 = k then (kv.1, d) else kv) := by
  induction p with
  | nil => exact .nil
  | @cons a b as bs h _ ih =>
    rw [List.map_cons, List.map_cons]
    refine .cons ?_ ih
    by_cases c : a.1 = k
    · rw [if_pos c, if_pos (h.1.symm.trans c)]
      exact ⟨h.1, r⟩
    · rw [if_neg c, if_neg (fun z => c (h.1.trans z))]
      exact h
theorem KvR.put {vs : List (Key × V)} {ds : List (Key × D)} (h : KvR K F vs ds) (k : Key) {v : V} {d : D} (r : Rep K F v d) : KvR K F (putK vs k v) (putD ds k d) := by
  unfold putK putD
  rw [h.any k]
  split
  · exact .of (paired_upd h.ind k r)
  · refine ⟨?_, ?_⟩
    · rw [List.map_append, List.map_append, h.1]
      rfl
    · rw [List.map_append, List.map_append]
      exact h.2.append (.cons r .nil)
end
section
variable [FE]
variable {X : Cx} {π : Nat → Addr} {W : WX}
end
end FL
/-! FL29: name = {k: v for ..} on one line; sorted(d) of a dict whose keys are whole numbers. -/
namespace L2
open PySem PySem.Spec PyProof.Rows
section
variable {X : Cx}
end
end L2
namespace FL
open PySem PySem.Spec PyProof.Rows L2
section
variable [FE]
variable {X : Cx} {π : Nat → Addr} {W : WX}
end
end FL
/-! FL30: min, max, sum of a list of whole numbers. -/
namespace FL
open PySem PySem.Spec PyProof.Rows L2
section
variable [FE]
variable {K : PySem.W.Frag}
end
end FL
/-! FL31: how readings with exceptions are worked out. -/
namespace FL
open PySem PySem.Spec PyProof.Rows L2
theorem R.bd_exc {α β : Type} (k : α → Rho → R β) (h : Hold k) (C : Str) (fs : List (Str × D)) (ρ : Rho) : R.bd k h (.exc C fs ρ) = .exc C fs ρ := rfl
theorem goG_exc {α : Type} (C : Str) (fs : List (Str × D)) (outs : List M) (as : List AA) (k : Res → Rho → R α) (ρ : Rho) : goG (.exc C fs outs) as k ρ = .exc C fs (putA as outs ρ) := rfl
theorem endR_exc (as : List FL.Arg) (C : Str) (fs : List (Str × D)) (ρ : Rho) : endR as (.exc C fs ρ) = endG as (.exc C fs) ρ := rfl
/-- a comprehension whose turns change no more than its own names -/
theorem cmpM_p {ks : List Nat} {it : IF} {g : GF} {t : TF} {f : EF} {ρ : Rho} {ds : List D} (tb : D → Bool) (fx : D → D) (h1 : it ρ = .ok ds ρ) (hw : wipeR ks ρ = ρ) (hr : resR ks ρ ρ = some ρ) (hl : ds.length ≤ 100000)
    (st : ∀ d ∈ ds, ∃ ρ1, g d ρ = some ρ1 ∧ t ρ1 = .ok (tb d) ρ1 ∧ wipeR ks ρ1 = ρ ∧ (tb d = true → f ρ1 = .ok (fx d) ρ1)) : cmpM ks it g t f ρ = .ok (.lst ((ds.filter tb).map fx)) ρ := by
  obtain ⟨ρ', e, rfl⟩ := cmpL_pure (ks := ks) (g := g) (t := t) (f := f) (fun r => r = ρ) tb fx ds [] ρ (by simpa using hl) rfl (by
    rintro d hd ρ0 rfl
    obtain ⟨ρ1, e1, e2, e3, e4⟩ := st d hd
    exact ⟨ρ1, ρ1, e1, e2, fun _ => e3, fun h => ⟨ρ1, e4 h, e3⟩⟩)
  show (it ρ').bind _ = _
  rw [h1]
  show (cmpL ks g t f [] ds (wipeR ks ρ')).bind _ = _
  rw [hw, e]
  show bindO (resR ks ρ' ρ') _ = _
  rw [hr]
  rfl
theorem cmpM_m {ks : List Nat} {it : IF} {g : GF} {f : EF} {ρ : Rho} {ds : List D} (fx : D → D) (h1 : it ρ = .ok ds ρ) (hw : wipeR ks ρ = ρ) (hr : resR ks ρ ρ = some ρ) (hl : ds.length ≤ 100000)
    (st : ∀ d ∈ ds, ∃ ρ1, g d ρ = some ρ1 ∧ wipeR ks ρ1 = ρ ∧ f ρ1 = .ok (fx d) ρ1) : cmpM ks it g yesT f ρ = .ok (.lst (ds.map fx)) ρ := by
  have := cmpM_p (t := yesT) (fun _ => true) fx h1 hw hr hl fun d hd => by
    obtain ⟨ρ1, a, b, c⟩ := st d hd
    exact ⟨ρ1, a, rfl, b, fun _ => c⟩
  rw [List.filter_eq_self.mpr (fun _ _ => rfl)] at this
  exact this
theorem enumL_mem : ∀ {ds : List D} {n : Nat} {d : D}, d ∈ enumL n ds → ∃ (i : Int) (x : D), d = .tup [.int i, x] ∧ x ∈ ds
  | [], _, _, h => by cases h
  | x :: xs, n, d, h => by
    unfold enumL at h
    rcases List.mem_cons.mp h with rfl | h
    · exact ⟨_, _, rfl, List.mem_cons_self⟩
    · obtain ⟨i, y, e, hy⟩ := enumL_mem h
      exact ⟨i, y, e, List.mem_cons_of_mem _ hy⟩
theorem enumL_ln : ∀ (ds : List D) (n : Nat), (enumL n ds).length = ds.length
  | [], _ => rfl
  | _ :: ds, n => by
    show (enumL (n + 1) ds).length + 1 = ds.length + 1
    rw [enumL_ln ds]
theorem ix0_cons (x : D) (xs : List D) : ixD (.lst (x :: xs)) (.int 0) = some x := by
  show atI (x :: xs) 0 = _
  rw [atI_nat (by decide) (show (x :: xs)[(0 : Int).toNat]? = some x from rfl)]
def fstD : D → D
  | .tup (x :: _) => x
  | _ => .non
def sndD : D → D
  | .tup [_, y] => y
  | _ => .non
/-- the first index, at least n, with p -/
def firstI (p : D → Bool) : Nat → List D → Option Nat
  | _, [] => none
  | n, x :: xs => if p x = true then some n else firstI p (n + 1) xs
theorem enum_first (p : D → Bool) : ∀ (ds : List D) (n : Nat), match firstI p n ds with
    | some i => ∃ ys, ((enumL n ds).filter fun d => p (sndD d)).map fstD = .int (i : Int) :: ys
    | none => ((enumL n ds).filter fun d => p (sndD d)).map fstD = []
  | [], n => rfl
  | x :: xs, n => by
    unfold firstI enumL
    by_cases h : p x = true
    · rw [if_pos h]
      refine ⟨((enumL (n + 1) xs).filter fun d => p (sndD d)).map fstD, ?_⟩
      rw [List.filter_cons, if_pos (show p (sndD (.tup [.int (n : Int), x])) = true from h)]
      rfl
    · rw [if_neg h]
      have ih := enum_first p xs (n + 1)
      rw [List.filter_cons, if_neg (show ¬ p (sndD (.tup [.int (n : Int), x])) = true from h)]
      exact ih
end FL
/-! FL32: slices, dict comprehensions worked out. -/
namespace FL
open PySem PySem.Spec PyProof.Rows L2
theorem sIx_none (n d : Nat) : HT.sIx n d none = d := rfl
theorem sIx_some {n d : Nat} {i : Int} (h : 0 ≤ i) : HT.sIx n d (some i) = min i.toNat n := by
  unfold HT.sIx
  simp only
  first
    | omega
    | (split <;> omega)
theorem cut_take {α : Type} (xs : List α) {i : Int} (h : 0 ≤ i) : FL.cut xs none (some i) = xs.take i.toNat := by
  unfold FL.cut
  rw [sIx_none, sIx_some h, List.drop_zero, Nat.sub_zero]
  rcases Nat.le_total i.toNat xs.length with c | c
  · rw [Nat.min_eq_left c]
  · rw [Nat.min_eq_right c, List.take_length, List.take_of_length_le c]
theorem cut_drop {α : Type} (xs : List α) {i : Int} (h : 0 ≤ i) : FL.cut xs (some i) none = xs.drop i.toNat := by
  unfold FL.cut
  rw [sIx_none, sIx_some h]
  rcases Nat.le_total i.toNat xs.length with c | c
  · rw [Nat.min_eq_left c, List.take_of_length_le (by rw [List.length_drop]; omega)]
  · rw [Nat.min_eq_right c, List.drop_length, List.drop_of_length_le c]
    simp
end FL
/-! FL33: a comprehension without a test, turn by turn. -/
namespace FL
open PySem PySem.Spec PyProof.Rows L2
theorem cmpL_ycons (ks : List Nat) (g : GF) (f : EF) (acc : List D) (d : D) (ds : List D) (ρ : Rho) : cmpL ks g yesT f acc (d :: ds) ρ = bindO (g d ρ) fun ρ => (noX (f ρ)).bind fun x ρ => if small (acc.length + 1) = true then cmpL ks g yesT f (acc ++ [x]) ds (wipeR ks ρ) else .stuck := rfl
theorem cmpL_y {ks : List Nat} {g : GF} {f : EF} (I : Nat → Rho → Prop) (X : D → D → Prop) : ∀ (ds : List D) (n : Nat) (acc : List D) (ρ : Rho), acc.length + ds.length ≤ 100000 → I n ρ →
    (∀ (i : Nat) (d : D) (ρ : Rho), I (n + i) ρ → ds[i]? = some d → ∃ ρ1, g d ρ = some ρ1 ∧ ∃ x ρ3, f ρ1 = .ok x ρ3 ∧ X d x ∧ I (n + i + 1) (wipeR ks ρ3)) →
    ∃ ys ρ', cmpL ks g yesT f acc ds ρ = .ok (.lst (acc ++ ys)) ρ' ∧ Paired X ds ys ∧ I (n + ds.length) ρ'
  | [], n, acc, ρ, hl, h, _ => ⟨[], ρ, by rw [List.append_nil]; rfl, .nil, h⟩
  | d :: ds, n, acc, ρ, hl, h, st => by
    rw [List.length_cons] at hl
    obtain ⟨ρ1, e1, x, ρ3, e2, hx, h3⟩ := st 0 d ρ h rfl
    obtain ⟨ys, ρ', e, hp, h'⟩ := cmpL_y I X ds (n + 1) (acc ++ [x]) (wipeR ks ρ3) (by rw [List.length_append, List.length_singleton]; omega) h3 fun i d' ρ' h3 h4 => by
      have := st (i + 1) d' ρ' (by rw [show n + (i + 1) = n + 1 + i by omega]; exact h3) (by simpa using h4)
      rw [show n + (i + 1) + 1 = n + 1 + i + 1 by omega] at this
      exact this
    refine ⟨x :: ys, ρ', ?_, .cons hx hp, ?_⟩
    · rw [cmpL_ycons, e1]
      show (noX (f ρ1)).bind _ = _
      rw [e2]
      show (if small (acc.length + 1) = true then _ else _) = _
      rw [if_pos (show small (acc.length + 1) = true from decide_eq_true (by omega)), e, List.append_assoc]
      rfl
    · rw [show n + (d :: ds).length = n + 1 + ds.length by rw [List.length_cons]; omega]
      exact h'
theorem paired_len {α β : Type} {X : α → β → Prop} {as : List α} {bs : List β} (h : Paired X as bs) : bs.length = as.length := by
  induction h with
  | nil => rfl
  | cons _ _ ih => rw [List.length_cons, List.length_cons, ih]
theorem paired_back {α β : Type} {X : α → β → Prop} {as : List α} {bs : List β} (h : Paired X as bs) : ∀ b ∈ bs, ∃ a ∈ as, X a b := by
  induction h with
  | nil => intro b hb; cases hb
  | cons hx _ ih =>
    intro b hb
    rcases List.mem_cons.mp hb with rfl | hb
    · exact ⟨_, List.mem_cons_self, hx⟩
    · obtain ⟨a, ha, h⟩ := ih b hb
      exact ⟨a, List.mem_cons_of_mem _ ha, h⟩
theorem cauE_eq (c : CG) (f : EF) (ρ : Rho) : cauE c f ρ = c.cau (f ρ) := rfl
theorem firstI_none (p : D → Bool) : ∀ (xs : List D) (n : Nat), (∀ x ∈ xs, p x = false) → firstI p n xs = none
  | [], n, _ => rfl
  | x :: xs, n, h => by
    show (if p x = true then some n else firstI p (n + 1) xs) = _
    rw [if_neg (by rw [h x List.mem_cons_self]; exact Bool.false_ne_true)]
    exact firstI_none p xs (n + 1) fun z hz => h z (List.mem_cons_of_mem _ hz)
end FL
/-! FL34: repr of a list that may hold empty dicts. -/
namespace FL
open PySem PySem.Spec PyProof.Rows L2
section
variable {X : Cx} {pins : List (Addr × Obj)} {σ : L2.St} {H F : Hp} {s : Shared}
end
end FL
/-! FL35: what is shown is not too long; equal data. -/
namespace FL
open PySem PySem.Spec PyProof.Rows L2
theorem shp_ints (n : Nat) : ∀ ns : List Int, (ns.map D.int).all (shp n) = true
  | [] => rfl
  | i :: ns => by
    rw [List.map_cons, List.all_cons, shp_ints n ns]
    cases n <;> rfl
end FL
/-! FL36: sorted(x) of a tuple of whole numbers, fewer than 64. -/
namespace FL
open PySem PySem.Spec PyProof.Rows L2
end FL
/-! FL37: a tuple many times over. -/
namespace FL
open PySem PySem.Spec PyProof.Rows L2
end FL
/-! FL38: isinstance(e, (A, B)) of a caught error. -/
namespace FL
open PySem PySem.Spec PyProof.Rows L2
section
variable [FE]
variable {X : Cx} {x0 : EId}
end
end FL
/-! FL39: repr of great numbers, up to 4,300 figures. -/
namespace FL
open PySem PySem.Spec PyProof.Rows L2
section
variable {P : Program} {w : World}
end
section
variable {X : Cx} {pins : List (Addr × Obj)} {σ : L2.St} {H F : Hp} {s : Shared}
end
end FL
/-! FL40: a tuple or a list taken apart into names. -/
namespace FL
open PySem PySem.Spec PyProof.Rows L2
end FL
/-! FL41: a local name that holds one of two defs, called. -/
namespace FL
open PySem PySem.Spec PyProof.Rows L2
section
variable [FE]
variable {X : Cx} {π : Nat → Addr} {W : WX}
end
end FL
/-! FL43: instances of own classes in slots: fields, methods, properties, constructors. -/
namespace FL
open PySem PySem.Spec PyProof.Rows L2

/-- slot i's thing anew -/
def setMs (i : Nat) (m : M) (ρ : Rho) : Rho := match ρ[i]? with
  | some (.own _) => ρ.set i (.own m)
  | some (.io _) => ρ.set i (.io m)
  | _ => ρ
section
variable [FE]
theorem Sta.setMs {K : PySem.W.Frag} {π : Nat → Addr} {c : Cfg} {F H : Hp} {σ : L2.St} {ρ : Rho} {i : Nat} {p : Addr} {m : M} {o : HO} (S : Sta K π c F H σ ρ) (ow : OwnAt σ ρ i p) (r : MRep K F (upd H p o) p m) :
    Sta K π c F (upd H p o) σ (FL.setMs i m ρ) := by
  unfold FL.setMs
  obtain ⟨e, m0, h | h⟩ := ow
  · rw [h]
    exact S.change ⟨e, m0, .inl h⟩ r _ (.inl ⟨rfl, _, h⟩)
  · rw [h]
    exact S.change ⟨e, m0, .inr h⟩ r _ (.inr ⟨rfl, _, h⟩)

/-! ### fields -/
section
variable {X : Cx} {π : Nat → Addr} {W : WX} {i : Nat} {x n f : Str} {fl : List Str} {p pos pos' : Pos} {value : Expr}
end

/-! ### methods -/
section
variable {X : Cx} {π : Nat → Addr} {W : WX} {i k : Nat} {x n m : Str} {fl : List Str} {f : Addr} {fd : FuncData} {ps ks : List Str} {G : List Arg → RG} {p pos apos : Pos} {e : Expr} {es : List Expr} {kws : List Keyword} {α : Type} {rel : Rel V α} {kk : Res → Rho → R α}
/-! ### properties -/
theorem RoomG.in1 {A : Around} (r : RoomG (k + 1) A) : RoomG k A.in1 := ⟨r.r.in1, r.g⟩
end
end
end FL
/-! FL44: a new instance of an own class. -/
namespace FL
open PySem PySem.Spec PyProof.Rows L2
section
variable [FE]
section
variable {X : Cx} {π : Nat → Addr} {W : WX} {k a : Nat} {x n : Str} {C f : Addr} {fd : FuncData} {ps ks : List Str} {G : List Arg → RG} {p pos : Pos} {e : Expr} {es : List Expr} {kws : List Keyword}
end
end
end FL
/-! FL45: a, b, .. = x, y, .., values and new things of our own. -/
namespace FL
open PySem PySem.Spec PyProof.Rows L2
inductive NA where
  | val (d : D)
  | new (m : M)
def newA : List V → List NA → List Addr
  | v :: vs, .new _ :: as => (match v with | .ref p => [p] | _ => []) ++ newA vs as
  | _ :: vs, .val _ :: as => newA vs as
  | _, _ => []
inductive NAs (K : PySem.W.Frag) (c : Cfg) (F H : Hp) (σ : L2.St) (ρ : Rho) : List V → List NA → Prop
  | nil : NAs K c F H σ ρ [] []
  | val {v : V} {d : D} {vs : List V} {as : List NA} : Rep K F v d → NAs K c F H σ ρ vs as → NAs K c F H σ ρ (v :: vs) (.val d :: as)
  | new {p : Addr} {m : M} {vs : List V} {as : List NA} : F p = none → c.H0 p = none → (∀ j, ¬ OwnAt σ ρ j p) → MRep K F H p m → p ∉ newA vs as → NAs K c F H σ ρ vs as → NAs K c F H σ ρ (.ref p :: vs) (.new m :: as)
section
variable [FE]
variable {K : PySem.W.Frag} {π : Nat → Addr} {W : WX} {c : Cfg} {F F' H H' : Hp} {σ σ' : L2.St} {ρ ρ' : Rho} {vs : List V} {as : List NA}
theorem NAs.length {c : Cfg} {F H : Hp} {σ : L2.St} {ρ : Rho} : ∀ {vs : List V} {as : List NA}, NAs K c F H σ ρ vs as → vs.length = as.length
  | _, _, .nil => rfl
  | _, _, .val _ r => congrArg (· + 1) (NAs.length r)
  | _, _, .new _ _ _ _ _ r => congrArg (· + 1) (NAs.length r)
/-- the things of the rest, seen from before it -/
theorem NAs.back (S : Sta K π c F H σ ρ) : ∀ {vs : List V} {as : List NA}, NAs K (cfg F H σ ρ) F' H' σ' ρ' vs as → NAs K c F' H' σ' ρ' vs as ∧ ∀ p ∈ newA vs as, H p = none
  | _, _, .nil => ⟨.nil, fun p h => by cases h⟩
  | _, _, .val h r => ⟨.val h (NAs.back S r).1, (NAs.back S r).2⟩
  | _, _, .new (p := p) h1 h2 h3 h4 h5 r => by
    have z := NAs.back S r
    have h2 : H p = none := h2
    refine ⟨.new h1 ?_ h3 h4 h5 z.1, fun q hq => ?_⟩
    · cases e : c.H0 p with
      | none => rfl
      | some o =>
        obtain ⟨o', e'⟩ := S.any e
        rw [h2] at e'
        cases e'
    · rcases List.mem_cons.mp (show q ∈ p :: newA _ _ from hq) with e | e
      · rw [e]; exact h2
      · exact z.2 q e
theorem NAs.grow (g : Grw F H F' H') (r : NAs K c F H σ ρ vs as) : NAs K c F' H' σ ρ vs as := by
  induction r with
  | nil => exact .nil
  | val h _ ih => exact .val (h.mono g.f) ih
  | new h1 h2 h3 h4 h5 _ ih =>
    obtain ⟨o, ho, hmu⟩ := h4.mut
    exact .new (g.nf _ o ho h1) h2 h3 (h4.mono g.f fun o' ho' => g.h _ _ ho' (by rw [ho] at ho'; cases ho'; exact hmu.nt)) h5 ih
theorem NAs.set {i : Nat} {x : V} {s : Slot} (hi : i < ρ.length) (hl : σ.length = ρ.length) (r : NAs K c F H σ ρ vs as) (hs : ∀ m, s = .own m ∨ s = .io m → ∀ p ∈ newA vs as, x ≠ .ref p) : NAs K c F H (σ.set i (some x)) (ρ.set i s) vs as := by
  induction r with
  | nil => exact .nil
  | val h _ ih => exact .val h (ih hs)
  | @new p m' vs as h1 h2 h3 h4 h5 _ ih =>
    refine .new h1 h2 (fun j hj => ?_) h4 h5 (ih fun m hm q hq => hs m hm q (List.mem_cons_of_mem _ hq))
    obtain ⟨e, m, h⟩ := hj
    by_cases z : j = i
    · subst z
      rw [List.getElem?_set_self (by omega)] at e
      rw [List.getElem?_set_self hi] at h
      cases e
      refine hs m ?_ p (List.mem_cons_self) rfl
      rcases h with h | h
      · cases h; exact .inl rfl
      · cases h; exact .inr rfl
    · rw [List.getElem?_set_ne (Ne.symm z)] at e h
      exact h3 j ⟨e, m, h⟩
end
section
variable [FE]
variable {X : Cx} {π : Nat → Addr} {W : WX} {e a b d : Expr} {es : List Expr} {pos : Pos}
end
end FL
/-! FL46: methods, properties, constructors, as the printed terms write them. -/
namespace FL
open PySem PySem.Spec PyProof.Rows L2
section
variable [FE]
section
variable {X : Cx} {π : Nat → Addr} {W : WX} {i k nn a : Nat} {x n m : Str} {fl : List Str} {f : Addr} {fd : FuncData} {ps ks : List Str} {G : List Arg → RG} {p pos apos : Pos} {e : Expr} {es : List Expr} {kws : List Keyword}
end
end
end FL
/-! FL47: a method of a thing that was just made. -/
namespace FL
open PySem PySem.Spec PyProof.Rows L2
section
variable [FE]
section
variable {X : Cx} {π : Nat → Addr} {W : WX} {i k nn a : Nat} {n m : Str} {fl : List Str} {f : Addr} {fd : FuncData} {ps ks : List Str} {G : List Arg → RG} {p pos apos : Pos} {e o : Expr} {es : List Expr}
end

/-! ### a law's def that needs to know where the classes stand -/
def trueG (n : Nat) : List Arg → RG
  | [.val (.scr ns)] => if ns.length ≤ n then .ok (.v (.bl true)) [] else .stuck
  | _ => .stuck
theorem trueG_eq {n : Nat} {ns : List Int} (h : ns.length ≤ n) : trueG n [.val (.scr ns)] = .ok (.v (.bl true)) [] := if_pos h
theorem fn_trueG {P : Program} {w : World} {K : PySem.W.Frag} {mg : Str → Option Value} {base : Heap} {k n m : Nat} {f : Addr} {fd : FuncData} {ps : List Str} {G : List Arg → RG} (hq : ∀ ns : List Int, ns.length ≤ n → G [.val (.scr ns)] = .ok (.v (.bl true)) []) (Fn : FnG P w K mg base k f fd ps (spG K m G)) :
    FnG P w K mg base k f fd ps (spG K m (trueG n)) := by
  have key : ∀ vs H Q E, spG K m (trueG n) vs H Q E → spG K m G vs H Q E := fun vs H Q E ⟨F, as, h1, h2, h3, h4, P⟩ => by
    refine ⟨F, as, h1, h2, h3, h4, ?_⟩
    unfold trueG at P
    split at P
    · split at P
      · rename_i hl
        rw [hq _ hl]
        exact P
      · exact P.elim
    · exact P.elim
  exact ⟨fun vs H Q E h => Fn.len vs H Q E (key _ _ _ _ h), fun A outer s H args us vs Q E hr e0 hb r h => Fn.run A outer s H args us vs Q E hr e0 hb r (key _ _ _ _ h)⟩
end
end FL
/-! FL48: a lambda that is handed on to another def, which hands it to the one that catches. -/
namespace FL
open PySem PySem.Spec PyProof.Rows L2
section
variable {K : PySem.W.Frag}
variable [FE]
end
section
variable [FE]
variable {P : Program} {w : World} {K : PySem.W.Frag} {mg : Str → Option Value} {base : Heap}
end
end FL
/-! FL49: f(x, e, lambda: .., e): the lambda works on x. -/
namespace FL
open PySem PySem.Spec PyProof.Rows L2
section
variable {X : Cx} {pins : List (Addr × Obj)} {σ : L2.St} {H : Hp} {s : Shared}
end
section
variable [FE]
variable {X : Cx} {π : Nat → Addr} {W : WX}
end
end FL
namespace FL
open PySem PySem.Spec PyProof.Rows L2
section
variable [FE]
end
end FL
/-! FL50: own instances compared, asked for their truth. -/
namespace FL
open PySem PySem.Spec PyProof.Rows L2
section
variable {prog : Program} {w : World} {A : Around} {E : Value → Shared → Prop} {s : Shared} {K : PySem.W.Frag} {x y C : Addr} {ox oy : Obj} {od od' : Option Obj}
end
end FL
/-! FL51: x == y, truth of own instances; v in x, x with a __contains__ of its own. -/
namespace FL
open PySem PySem.Spec PyProof.Rows L2
section
variable {prog : Program} {w : World} {A : Around} {E : Value → Shared → Prop} {s : Shared} {K : PySem.W.Frag} {x y C : Addr} {ox oy : Obj} {od od' : Option Obj}
end
section
variable [FE]
variable {X : Cx} {π : Nat → Addr} {W : WX} {i j k : Nat} {x y n : Str} {p q pos : Pos} {a : Expr}
section
variable {f : Addr} {fd : FuncData} {ps : List Str} {G : List Arg → RG} {g : EF}
end
end
end FL
/-! FL52: a tuple once, or many times over. -/
namespace FL
open PySem PySem.Spec PyProof.Rows L2
section
variable [FE]
variable {X : Cx} {π : Nat → Addr} {W : WX} {k a mm : Nat} {x n : Str} {f : Addr} {fd : FuncData} {ps ks : List Str} {G : List Arg → RG} {p pos : Pos} {kws : List Keyword}
end
end FL
/-! FL53: dicts: our own, frozen ones, their keys and entries walked. -/
namespace FL
open PySem PySem.Spec PyProof.Rows L2
section
variable {K : PySem.W.Frag} {F H : Hp}
theorem KvR.get {vs : List (Key × V)} {ds : List (Key × D)} (h : KvR K F vs ds) (k : Key) : (getD' ds k = none ∧ valV vs k = none) ∨ ∃ d v, getD' ds k = some d ∧ valV vs k = some v ∧ Rep K F v d := by
  have p := h.ind
  clear h
  induction p with
  | nil => exact .inl ⟨rfl, rfl⟩
  | @cons a b as bs h _ ih =>
    unfold getD' valV at ih ⊢
    rw [List.find?_cons, List.find?_cons]
    by_cases c : a.1 = k
    · rw [decide_eq_true c, decide_eq_true (h.1.symm.trans c)]
      exact .inr ⟨_, _, rfl, rfl, h.2⟩
    · rw [decide_eq_false c, decide_eq_false (fun z => c (h.1.trans z))]
      exact ih
theorem KvR.at {vs : List (Key × V)} {ds : List (Key × D)} (h : KvR K F vs ds) {i : Nat} {k : Key} {d : D} (e : ds[i]? = some (k, d)) : ∃ v, vs[i]? = some (k, v) ∧ Rep K F v d := by
  have p := h.ind
  clear h
  induction p generalizing i with
  | nil => simp at e
  | @cons a b as bs h _ ih =>
    cases i with
    | zero =>
      simp at e
      subst e
      obtain ⟨x, y⟩ := a
      obtain ⟨h1, h2⟩ := h
      dsimp only at h1
      subst h1
      exact ⟨y, rfl, h2⟩
    | succ i =>
      obtain ⟨v, h1, h2⟩ := ih (i := i) (by simpa using e)
      exact ⟨v, by simpa using h1, h2⟩
theorem KvR.length {vs : List (Key × V)} {ds : List (Key × D)} (h : KvR K F vs ds) : vs.length = ds.length := by
  have := congrArg List.length h.1
  simpa using this
end
section
variable [FE]
variable {K : PySem.W.Frag} {π : Nat → Addr} {c : Cfg} {F H : Hp} {σ : L2.St} {ρ : Rho}
end
section
variable [FE]
variable {X : Cx} {π : Nat → Addr} {W : WX} {e a b : Expr} {es : List Expr} {pos pos' p apos cpos : Pos} {i : Nat} {x : Str} {rest : List Stmt}
/-! ### look-ups -/
/-! ### d[k] = v -/
/-! ### walks -/
end
end FL
/-! FL54: {**d, k: v}. -/
namespace FL
open PySem PySem.Spec PyProof.Rows L2
section
variable {prog : Program} {w : World} {A : Around} {E : Value → Shared → Prop} {s : Shared} {K : Type} [DecidableEq K] {knd : KeyKind prog w K}
end
section
variable {X : Cx} {pins : List (Addr × Obj)} {σ : L2.St} {H : Hp} {s : Shared}
/-- a new thing that we pinned is tracked from here on -/
theorem Inv.track {d : Addr} {o : HO} (I : L2.Inv X pins σ H s) (hn : H d = none) (hL : d ≠ X.env.locals) (h1 : X.s_0.heap.objs.size ≤ d) (h2 : ∀ x c, X.env.cells.lookup x = some c → c ≠ d) (h3 : ∀ p ∈ X.pn ++ pins, p.1 ≠ d)
    (new : ObjOk X.prog X.w (upd H d o) s.heap d o) : L2.Inv X pins σ (upd H d o) s where
  ok := I.ok
  os := I.os
  bare := I.bare
  base := {
    keep := I.base.keep
    slot := I.base.slot
    free := fun b ob q n hx => by
      rw [upd_ne (Nat.ne_of_lt (Nat.lt_of_lt_of_le (Heap.lt_size q) h1))]
      exact I.base.free b ob q n hx
    there := I.base.there
    tups := fun b xs q => by
      have q2 := I.base.tups b xs q
      rw [upd_ne (ne_of_none q2 hn)]; exact q2
    frzs := fun b ob y q => by
      have q2 := I.base.frzs b ob y q
      rw [upd_ne (ne_of_none q2 hn)]; exact q2
    tbls := fun b qs q => by
      obtain ⟨more, q2⟩ := I.base.tbls b qs q
      exact ⟨more, by rw [upd_ne (ne_of_none q2 hn)]; exact q2⟩ }
  loc := I.loc
  cell := I.cell
  free := by rw [upd_ne (Ne.symm hL)]; exact I.free
  freeC := fun x c e => by rw [upd_ne (h2 x c e)]; exact I.freeC x c e
  pin := fun p hp => by
    obtain ⟨a1, a2, a3⟩ := I.pin p hp
    exact ⟨a1, by rw [upd_ne (h3 p hp)]; exact a2, a3⟩
  hok := L2.HOk.laidN I.hok (fun _ _ q => q) hn new
  len := I.len
/-- what is so of a new thing of ours, that no one else knows of -/
structure Lone (X : Cx) (pins : List (Addr × Obj)) (d : Addr) : Prop where
  l : d ≠ X.env.locals
  z : X.s_0.heap.objs.size ≤ d
  c : ∀ x c, X.env.cells.lookup x = some c → c ≠ d
  p : ∀ p ∈ X.pn ++ pins, p.1 ≠ d
  f : d ∉ X.fs
theorem Inv.lone (I : L2.Inv X pins σ H s) {d : Addr} (h : s.heap.objs.size ≤ d) : Lone X pins d where
  l := Ne.symm (Nat.ne_of_lt (Nat.lt_of_lt_of_le I.lt h))
  z := Nat.le_trans I.sz h
  c := fun x c e => by
    obtain ⟨v, o, ho, _⟩ := I.cell x c e
    exact Nat.ne_of_lt (Nat.lt_of_lt_of_le (Heap.lt_size ho) h)
  p := fun p hp => Nat.ne_of_lt (Nat.lt_of_lt_of_le (Heap.lt_size (I.pin p hp).1) h)
  f := I.nofs h
theorem Inv.pinOne (I : L2.Inv X pins σ H s) {d : Addr} {o : Obj} (L : Lone X pins d) (e : s.heap.get? d = some o) (n : H d = none) (nc : ∀ v, o.data ≠ .cell v) : L2.Inv X ((d, o) :: pins) σ H s :=
  I.pins_of fun p hp => by
    rcases List.mem_cons.mp hp with z | z
    · subst z
      exact ⟨e, n, L.l, L.f, nc⟩
    · exact I.pin p (List.mem_append_right _ z)
theorem Inv.unpinOne {d : Addr} {o : Obj} (I : L2.Inv X ((d, o) :: pins) σ H s) : L2.Inv X pins σ H s ∧ s.heap.get? d = some o ∧ H d = none :=
  ⟨I.pins_of fun p hp => I.pin p (List.mem_append_right _ (List.mem_cons_of_mem _ hp)), (I.pin (d, o) (List.mem_append_right _ List.mem_cons_self)).1, (I.pin (d, o) (List.mem_append_right _ List.mem_cons_self)).2.1⟩
theorem Inv.turnOne {t' : Nat} {h' : Heap} (I : L2.Inv X pins σ H s) {d : Addr} (L : Lone X pins d) (n : H d = none) (sb : Heap.SameBut d s.heap h') : L2.Inv X pins σ H { s with heap := h', toks := t' } :=
  I.turned (it := d) (fun b o hb q => (sb.2 b hb).trans q) n L.l (.inr L.z) L.c L.p
theorem Lone.cons {d e : Addr} {o : Obj} (L : Lone X pins d) (h : e ≠ d) : Lone X ((e, o) :: pins) d :=
  ⟨L.l, L.z, L.c, fun p hp => by
    rcases List.mem_append.mp hp with z | z
    · exact L.p p (List.mem_append_left _ z)
    · rcases List.mem_cons.mp z with z | z
      · subst z; exact h
      · exact L.p p (List.mem_append_right _ z), L.f⟩
end
section
variable {K : PySem.W.Frag} {F H : Hp}
end
section
variable [FE]
variable {X : Cx} {π : Nat → Addr} {W : WX} {e a b : Expr} {pos : Pos}
end
end FL
/-! FL55: texts: their order, sorted(d), join, walks, list(x); x.pop(i); d == {}. -/
namespace FL
open PySem PySem.Spec PyProof.Rows L2

/-! ### order of texts -/
/-! ### sorted(d) -/
section
variable {K : PySem.W.Frag} {F : Hp}
end
section
variable [FE]
variable {X : Cx} {π : Nat → Addr} {W : WX} {tg e a b : Expr} {es : List Expr} {pos p apos cpos : Pos} {i : Nat} {x : Str}
/-! ### join -/
def asStrs : List D → Option (List Str)
  | [] => some []
  | .str x :: r => (asStrs r).map (x :: ·)
  | _ :: _ => none
/-! ### a text walked -/
/-! ### x.pop(i) of our own list -/
/-! ### list(x) of a text -/
/-! ### d == {} -/
end
end FL
/-! FL56: a dict comprehension as our own dict; a def that returns its own thing. -/
namespace FL
open PySem PySem.Spec PyProof.Rows L2
section
variable [FE]
variable {X : Cx} {π : Nat → Addr} {W : WX}
end
end FL
/-! FL57: x.upper() of a text. -/
namespace FL
open PySem PySem.Spec PyProof.Rows L2
section
variable [FE]
variable {X : Cx} {π : Nat → Addr} {W : WX} {a : Expr} {pos apos : Pos}
end
end FL
/-! FL58: repr of a tuple with numbers of up to 4,300 figures. -/
namespace FL
open PySem PySem.Spec PyProof.Rows L2
end FL
namespace FL
open PySem PySem.Spec PyProof.Rows L2
/-! ### ({}, ()) == ({}, ()) -/
section
variable {X : Cx}
end
end FL
namespace FL
open PySem PySem.Spec PyProof.Rows L2
/-! ### d[k] as a target among others, d our own dict -/
section
variable [FE]
variable {X : Cx} {π : Nat → Addr} {W : WX}
end
end FL
namespace FL
open PySem PySem.Spec PyProof.Rows L2
/-! ### for a, b in zip(x, y): two lists -/
end FL
namespace FL
open PySem PySem.Spec PyProof.Rows L2
/-! ### str(i) -/
def strC : List D → Option D
  | [.int i] => if i.natAbs.log2 < 1920 then some (.str (toString i)) else none
  | _ => none
theorem q_str {K : PySem.W.Frag} [FE] : OpC K strC (fun xs H Q => ∃ i : Int, xs = [V.int i] ∧ i.natAbs.log2 < 1920 ∧ Q (.str (toString i)) H) := by
  intro F H vs ds d Q s r e k
  unfold strC at e
  split at e
  · split at e
    · rename_i h
      cases e
      obtain ⟨v, rfl, hr⟩ := Reps.one r
      cases hr
      exact ⟨_, rfl, h, k _ F H (Grw.refl s) (.str _)⟩
    · cases e
  · cases e
end FL
/-! FL63: a, (b, c), .. = x, y, .., values and new things of our own, names and tuples of names. -/
namespace FL
open PySem PySem.Spec PyProof.Rows L2
section
variable [FE]
variable {K : PySem.W.Frag} {π : Nat → Addr} {W : WX} {c : Cfg} {F F' H H' : Hp} {σ σ' : L2.St} {ρ ρ' : Rho} {vs : List V} {as : List NA}
end
section
variable [FE]
variable {X : Cx} {π : Nat → Addr} {W : WX} {e a b d : Expr} {es : List Expr} {pos : Pos}
end
end FL
/-! FL64: where an error is handled, a list comes to its end. -/
namespace FL
open PySem PySem.Spec PyProof.Rows L2 _root_.HotX
section
variable {prog : Program} {w : World} {A : Around} {E : Value → Shared → Prop} {s : Shared}
end
end FL
/-! FL65: comprehensions in general (the block entered, one turn, the block left), whatever is pinned; lists where an error is handled. -/
namespace FL
open PySem PySem.Spec PyProof.Rows L2
/-- the tests of a clause, as the model runs them -/
abbrev asked (ifs : List Expr) (env : Env) : Sem Bool := forIn ifs true fun t so => if so = true then (do let z ← isTrue t env (eval t env); pure (ForInStep.yield z)) else pure (ForInStep.yield so)
section
variable {X : Cx} {pins : List (Addr × Obj)} {σ : L2.St} {H : Hp} {s : Shared}
end
end FL
namespace FL
open PySem PySem.Spec PyProof.Rows L2
section
variable {X : Cx} {pins : List (Addr × Obj)} {σ : L2.St} {H : Hp} {s : Shared}
end
end FL
namespace FL
open PySem PySem.Spec PyProof.Rows L2 L2H _root_.HotX
section
variable {prog : Program} {w : World} {A : Around} {E : Value → Shared → Prop} {s : Shared}
end
section
variable {X : Cx} {pos : Pos}
end
end FL
/-! FL66: where an error is handled: name = [.. for .. in a list], on one line; a list taken apart. -/
namespace FL
open PySem PySem.Spec PyProof.Rows L2
section
variable [FE]
variable {X : Cx} {x0 : EId} {π : Nat → Addr} {W : WX} {tg e : Expr} {pos : Pos}
end
end FL
/-! FL67: isinstance(e, (A, B)) of a caught error, told without classes. -/
namespace FL
open PySem PySem.Spec PyProof.Rows L2
section
variable [FE]
variable {X : Cx} {x0 : EId} {π : Nat → Addr} {W : WX}
end
end FL
/-! FL68: isinstance(e, (A, B)) worked out. -/
namespace FL
open PySem PySem.Spec PyProof.Rows L2
end FL
/-! FL69: for .. in d.values(), d data. -/
namespace FL
open PySem PySem.Spec PyProof.Rows L2
section
variable [FE]
variable {X : Cx} {π : Nat → Addr} {W : WX} {e tg : Expr} {apos cpos : Pos}
end
end FL
/-! FL70: dict([(k, v), ..]), a new dict. -/
namespace FL
open PySem PySem.Spec PyProof.Rows L2
section
variable {K : PySem.W.Frag} {F : Hp}
end
section
variable [FE]
variable {X : Cx} {π : Nat → Addr} {W : WX} {e : Expr} {es : List Expr} {pos p : Pos} {x : Str}
end
end FL
/-! FL71: {x: .. for ..} with tuples as keys, wherever they stand (written ones too): a thing of our own, told by its entries. -/
namespace FL
open PySem PySem.Spec PyProof.Rows L2
section
variable {X : Cx} {pins : List (Addr × Obj)} {σ : L2.St} {H : Hp} {s : Shared}
end
end FL
/-! FL72: sorted of a dict whose keys are pairs of whole numbers. -/
namespace FL
open PySem PySem.Spec PyProof.Rows L2
abbrev PI2 := Int × Int
abbrev P2V (K : PySem.W.Frag) (H : Hp) (b : Addr) (p : PI2) : Prop := SqT K H b [.int p.1, .int p.2]
section
variable {X : Cx} {pins : List (Addr × Obj)} {σ : L2.St} {H : Hp} {s : Shared}
end
end FL
/-! FL73: sorted({x: .. for ..}), the keys pairs of whole numbers, as data. -/
namespace FL
open PySem PySem.Spec PyProof.Rows L2
theorem P2V.grown {K : PySem.W.Frag} {F F' : Hp} {b : Addr} {p : PI2} (h : P2V K F b p) {s2' : Same F F'} : P2V K F' b p := sm_tup s2' h
section
variable [FE]
variable {X : Cx} {π : Nat → Addr} {W : WX}
end
end FL
/-! FL74: x in t, t a tuple of tuples. -/
namespace FL
open PySem PySem.Spec PyProof.Rows L2
section
variable {X : Cx}
end
section
variable [FE]
variable {K : PySem.W.Frag}
end
end FL
/-! FL75: {y: True for x in xs for y in x}, the keys tuples: a block with one walk within another. -/
namespace FL
open PySem PySem.Spec PyProof.Rows L2
section
variable {prog : Program} {w : World} {A : Around} {R : Result → Shared → Prop} {s : Shared} {e tg : Expr} {d : Nat} {it acc : Value} {env : Env} {place : Pos} {ifs : List Expr} {todo : Sem Fin → Sem Fin}
variable {kx vx t0 t1 i0 i1 : Expr} {f0 f1 : List Expr} {scope : Scope} {pos : Pos} {D : Addr}
abbrev dc2 (kx vx t0 i0 : Expr) (f0 : List Expr) (t1 i1 : Expr) (f1 : List Expr) (scope : Scope) (pos : Pos) : Expr := .DictComp kx vx [⟨t0, i0, f0, 0⟩, ⟨t1, i1, f1, 0⟩] scope pos
end
section
variable {X : Cx}
end
end FL
/-! FL76: walks that fill a new thing, one within another: [e for x in xs for y in ys], {k: v for x in xs for y in ys}. -/
namespace FL
open PySem PySem.Spec PyProof.Rows L2
section
variable [FE]
variable {K : PySem.W.Frag} {π : Nat → Addr} {A B : Type}
/-- a state, and a new thing at p that no slot holds, which tells b -/
structure Full (K : PySem.W.Frag) (π : Nat → Addr) (ho : A → HO) (rel : Hp → A → B → Prop) (p : Addr) (c : Cfg) (F H : Hp) (σ : L2.St) (ρ : Rho) (b : B) : Prop where
  st : Sta K π c F H σ ρ
  acc : ∃ a, H p = some (ho a) ∧ rel F a b
  fn : F p = none
  h0 : c.H0 p = none
  nio : p ∉ c.io ∧ p ∉ c.ow
  nw : ∀ j, ¬ OwnAt σ ρ j p
/-- a thing that grows -/
structure Grows (K : PySem.W.Frag) (ho : A → HO) (rel : Hp → A → B → Prop) : Prop where
  nt : ∀ a, NT (ho a)
  mono : ∀ {F F' a b}, Same F F' → rel F a b → rel F' a b
variable {ho : A → HO} {rel : Hp → A → B → Prop} {p : Addr} {c : Cfg} {F F' H H' : Hp} {σ σ' : L2.St} {ρ ρ' : Rho} {b : B}
theorem own_unwiped {vs : List Nat} {j : Nat} {q : Addr} (h : OwnAt (wipe σ vs) (wipeR vs ρ) j q) : OwnAt σ ρ j q := by
  obtain ⟨e, m, h⟩ := h
  have e1 := wipe_some e
  have z : (wipeR vs ρ)[j]? = ρ[j]? := by
    rw [wipeR_get, if_neg fun y => e1.2 y.1]
  rw [z] at h
  exact ⟨e1.1, m, h⟩
theorem Full.into (S : Full K π ho rel p c F H σ ρ b) (vs : List Nat) : Full K π ho rel p c F H (wipe σ vs) (wipeR vs ρ) b :=
  ⟨S.st.into vs, S.acc, S.fn, S.h0, S.nio, fun j z => S.nw j (own_unwiped z)⟩
theorem slot_unwiped {vs : List Nat} {j : Nat} {s : Slot} (h : SlotOk K π c F H (wipe σ vs) j s) : SlotOk K π c F H σ j s := by
  cases s with
  | lk C f jj => exact h.elim fun a z => z.elim fun dx y => ⟨a, dx, (wipe_some y.1).1, y.2⟩
  | no => trivial
  | val d => exact h.elim fun v z => ⟨v, (wipe_some z.1).1, z.2⟩
  | own m => exact h.elim fun q z => ⟨q, (wipe_some z.1).1, z.2⟩
  | io m => exact ⟨(wipe_some h.1).1, h.2⟩
theorem own_wiped {vs : List Nat} {j : Nat} {q : Addr} (S : ∀ j s, ρ[j]? = some s → SlotOk K π c F H (wipe σ vs) j s) (h : OwnAt σ ρ j q) : OwnAt (wipe σ vs) ρ j q := by
  obtain ⟨e, m, h⟩ := h
  refine ⟨?_, m, h⟩
  have key : ∀ r, (wipe σ vs)[j]? = some (some (V.ref r)) → (wipe σ vs)[j]? = some (some (V.ref q)) := fun r z => by
    have y := (wipe_some z).1
    rw [e] at y
    rw [z, y]
  rcases h with h | h
  · exact (S j _ h).elim fun r z => key r z.1
  · exact key _ (S j _ h).1
theorem Full.unwiped {vs : List Nat} (S : Full K π ho rel p c F H (wipe σ vs) ρ b) : Full K π ho rel p c F H σ ρ b :=
  ⟨⟨S.st.h0, S.st.hio, S.st.f0, S.st.f, S.st.nf, (wipe_length σ vs).symm.trans S.st.len, fun j s e => slot_unwiped (S.st.rep j s e), fun i j q h k => S.st.dis i j q (own_wiped S.st.rep h) (own_wiped S.st.rep k), S.st.t⟩,
    S.acc, S.fn, S.h0, S.nio, fun j z => S.nw j (own_wiped S.st.rep z)⟩
/-- in the state as its own beginning, the thing is none of those that may be changed -/
theorem Full.kept (S : Full K π ho rel p c F H σ ρ b) : p ∉ (cfg F H σ ρ).io ∧ p ∉ (cfg F H σ ρ).ow := by
  constructor
  · intro z
    obtain ⟨j, s, e, h, k⟩ := mem_adrs.mp z
    cases s <;> first | (exact S.nw j ⟨e, _, .inr h⟩) | cases k
  · intro z
    obtain ⟨j, s, e, h, k⟩ := mem_adrs.mp z
    cases s <;> first | (exact S.nw j ⟨e, _, .inl h⟩) | cases k
/-- from a part's end -/
theorem Full.back (G : Grows K ho rel) (S : Full K π ho rel p c F H σ ρ b) (T : Sta K π (cfg F H σ ρ) F' H' σ' ρ') (s : Same F F') : Full K π ho rel p c F' H' σ' ρ' b := by
  obtain ⟨a, e, r⟩ := S.acc
  have k := S.kept
  have e0 : (cfg F H σ ρ).H0 p = some (ho a) := e
  exact ⟨S.st.back T, ⟨a, T.h0 p _ e0 k.1 k.2 (G.nt a), G.mono s r⟩, T.nf p _ e0 S.fn, S.h0, S.nio, T.notOwn e0 k⟩
/-- out of the block -/
theorem Full.out {vs : List Nat} {F1 H1 : Hp} {ρ1 ρ3 : Rho} (S : Full K π ho rel p c F H (wipe σ vs) ρ b) (S1 : Sta K π c F1 H1 σ ρ1) (s : Same F1 F) (er : resR vs ρ1 ρ = some ρ3) : Full K π ho rel p c F H σ ρ3 b := by
  have U := S.unwiped
  have len : ρ.length = ρ1.length := U.st.len.symm.trans S1.len
  obtain ⟨a1, a2, a3, a4⟩ := S1.outof (ks := vs) (F' := F) (H' := H) s (ls := vs) (ρ1 := ρ) (ρ2 := ρ3) (fun l hl => hl) U.st.rep U.st.dis len er
  exact ⟨⟨U.st.h0, U.st.hio, U.st.f0, U.st.f, U.st.nf, S1.len.trans a3.symm, a1, a2, U.st.t⟩, U.acc, U.fn, U.h0, U.nio, fun j z => U.nw j (a4 j p z)⟩
/-! ### lists -/
variable {X : Cx} {W : WX}
end
end FL
/-! FL77: sorted({k: v for x in xs for y in ys}), the keys pairs of whole numbers, as data. -/
namespace FL
open PySem PySem.Spec PyProof.Rows L2
section
variable [FE]
variable {X : Cx} {π : Nat → Addr} {W : WX} {p : Addr} {c : Cfg} {F F' H H' : Hp} {σ : L2.St} {ρ ρ' : Rho}
end
end FL
/-! FL78: sorted of a list or a tuple of pairs of whole numbers. -/
namespace FL
open PySem PySem.Spec PyProof.Rows L2
section
variable {X : Cx} {pins : List (Addr × Obj)} {σ : L2.St} {H : Hp} {s : Shared}
end
end FL
/-! FL79: min of a tuple of whole numbers. -/
namespace FL
open PySem PySem.Spec PyProof.Rows L2
end FL
/-! FL80: x.split(y) of texts; int(x) of a text. -/
namespace FL
open PySem PySem.Spec PyProof.Rows L2
section
variable [FE]
variable {X : Cx} {π : Nat → Addr} {W : WX} {a e : Expr} {pos apos : Pos}
end
end FL
/-! FL81: a text many times over. -/
namespace FL
open PySem PySem.Spec PyProof.Rows L2
end FL
/-! FL82: t.index(x), t a tuple of whole numbers, told with its object (which has no dict). -/
namespace FL
open PySem PySem.Spec PyProof.Rows L2
section
variable [FE]
variable {X : Cx} {π : Nat → Addr} {W : WX} {a b : Expr} {apos cpos : Pos}
end
end FL
/-! our own list, compared with a new empty one -/
namespace FL
open PySem PySem.Spec PyProof.Rows L2
section
variable [FE]
variable {X : Cx} {π : Nat → Addr} {W : WX}
end
/-! ### a def that the module knows by another name as well -/
end FL
/-! FL84: tuples of whole numbers in order, whatever their lengths. -/
namespace FL
open PySem PySem.Spec PyProof.Rows L2
/-- a tuple of these whole numbers -/
def TupV (h : Heap) (v : Value) (ns : List Int) : Prop := ∃ (a : Addr) (its : Array Value), v = .ref a ∧ IsTup h a its ∧ IntsAre its.toList ns
theorem TupV.keeps {h h' : Heap} {v : Value} {ns : List Int} (x : TupV h v ns) (k : ∀ b o, h.get? b = some o → o.cls = .type "tuple" → h'.get? b = some o) : TupV h' v ns := by
  obtain ⟨a, its, e, ⟨o, g, c, n, d⟩, i⟩ := x
  exact ⟨a, its, e, ⟨o, k a o g c, c, n, d⟩, i⟩
section
variable {prog : Program} {w : World} {A : Around} {E : Value → Shared → Prop} {s : Shared}
end
end FL
/-! FL85: dicts of our own with tuples of whole numbers as keys: made, put into, their keys sorted. -/
namespace FL
open PySem PySem.Spec PyProof.Rows L2
def putU (kvs : List (List Int × D)) (k : List Int) (d : D) : List (List Int × D) := if k ∈ kvs.map (fun p => p.1) then kvs.map fun p => if p.1 = k then (k, d) else p else kvs ++ [(k, d)]
section
variable {K : PySem.W.Frag} {F F' H : Hp}
/-- the tuple of whole numbers that is a key -/
def keyU : D → Option (List Int)
  | .tup ds => asInts ds
  | _ => none
end
section
variable {X : Cx} {pins : List (Addr × Obj)} {σ : L2.St} {H : Hp} {s : Shared}
end
section
variable {X : Cx} {o i value : Expr} {td ty tv : TE} {pos pos' : Pos}
end
section
variable [FE]
variable {X : Cx} {π : Nat → Addr} {W : WX} {e a b : Expr} {pos pos' p q : Pos} {i : Nat} {x : Str}
/-- a new one -/
def newU : Rho → R M := fun ρ => .ok (.dtu []) ρ
/-- d[k] = v -/
def dputU (i : Nat) (f g : EF) : SF := fun ρ => (g ρ).bind fun v ρ => match ioM ρ i with
  | some (.dtu _) => (f ρ).bind fun y ρ => match ioM ρ i with
    | some (.dtu kvs) => match keyU y with
      | some k => if small (kvs.length + 1) = true then .ok .nx (setMs i (.dtu (putU kvs k v)) ρ) else .stuck
      | none => .stuck
    | _ => .stuck
  | _ => .stuck
end
end FL
/-! FL86: sorted of a dict of our own whose keys are tuples of whole numbers. -/
namespace FL
open PySem PySem.Spec PyProof.Rows L2
def insT (x : List Int) : List (List Int) → List (List Int)
  | [] => [x]
  | y :: ys => if HT.lexLt y x = true then y :: insT x ys else x :: y :: ys
def srtT : List (List Int) → List (List Int)
  | [] => []
  | x :: xs => insT x (srtT xs)
def tupD (ns : List Int) : D := .tup (ns.map D.int)
abbrev TI (K : PySem.W.Frag) (H : Hp) (b : Addr) (ns : List Int) : Prop := SqT K H b (ns.map V.int)
section
variable {X : Cx} {pins : List (Addr × Obj)} {σ : L2.St} {H : Hp} {s : Shared}
end
def sortU (i : Nat) : EF := fun ρ => match ioM ρ i with
  | some (.dtu kvs) => .ok (.lst ((srtT (kvs.map fun p => p.1)).map tupD)) ρ
  | _ => .stuck
section
variable [FE]
variable {X : Cx} {π : Nat → Addr} {W : WX} {pos p q : Pos} {i : Nat} {x y : Str}
end
end FL
/-! FL87: sorted(dict([(t, v), ..])), the keys tuples of whole numbers. -/
namespace FL
open PySem PySem.Spec PyProof.Rows L2
section
variable {K : PySem.W.Frag} {F : Hp}
end
section
variable {X : Cx} {pins : List (Addr × Obj)} {σ : L2.St} {H : Hp} {s : Shared}
end
section
variable [FE]
variable {X : Cx} {π : Nat → Addr} {W : WX} {e : Expr} {es : List Expr} {pos p q : Pos} {x y : Str}
end
end FL
/-! FL88: sorted(set(xs)), xs a list of tuples of whole numbers (of any lengths). -/
namespace FL
open PySem PySem.Spec PyProof.Rows L2
section
variable [FE]
variable {X : Cx} {π : Nat → Addr} {W : WX}
end
end FL
/-! FL89: {t: v} with a tuple of whole numbers as its key, a new dict of our own, and d.get(t, v) of such a dict. -/
namespace FL
open PySem PySem.Spec PyProof.Rows L2
section
variable {X : Cx} {k v o e f : Expr} {tk tv td ty tx : TE} {pos apos cpos : Pos}
end
section
variable {K : PySem.W.Frag} {F : Hp}
end
section
variable [FE]
variable {X : Cx} {π : Nat → Addr} {W : WX} {a b o : Expr} {pos apos cpos : Pos} {i : Nat}
end
end FL
/-! FL90: a def that catches one class: try: return act() except A as e: .. -/
namespace FL
open PySem PySem.Spec PyProof.Rows L2

section
variable [FE]
section
variable {P : Program} {w : World} {K : PySem.W.Frag} {mg : Str → Option Value} {base : Heap}
end
end
end FL
/-! FL91: a copy of a dict of our own, dict(list(d.items())); x = y if t else x with dicts of our own. -/
namespace FL
open PySem PySem.Spec PyProof.Rows L2
section
variable [FE]
variable {X : Cx} {π : Nat → Addr} {W : WX}
end
end FL
/-! FL92: an exception that is made and kept: made by position, asked for its class, for what it keeps. -/
namespace FL
open PySem PySem.Spec PyProof.Rows L2 PySem.W PySem.HandSPX

section
variable {X : Cx} {C fI : Addr} {B nw ini : String} {tl : List Value} {fs : List Str} {a : Expr} {as : List Expr} {ta : TA} {x : Str} {p pos pos2 : Pos} {k : Nat}
end
/-! ### as data -/
section
variable [FE]
variable {X : Cx} {π : Nat → Addr} {W : WX} {C fI : Addr} {B nw ini : String} {tl : List Value} {fs : List Str} {a : Expr} {as : List Expr} {x : Str} {p pos pos2 : Pos} {k : Nat}
/-! ### what is asked of it -/
end
end FL
/-! FL93: an exception made by a call with keywords. -/
namespace FL
open PySem PySem.Spec PyProof.Rows L2 PySem.W PySem.HandSPX
section
variable {M : Model} {A : Around} {E : Value → Shared → Prop} {h : Heap} {g : Array GenState} {d : Drawn} {t : Nat} {os : OsState}
variable {nm q : Str} {C N : Addr} {bs bm tl : List Value} {hdct : Bool} {sn : List Str} {sub : List Value} {ab : Bool} {col : Option Bool} {dd : Option Addr} {k0 k1 k2 k3 k5 : Option Value} {B nw ini : String} {kw : List (Str × Value)}
end
section
variable {prog : Program} {w : World} {A : Around} {E : Value → Shared → Prop} {R : Result → Shared → Prop} {h : Heap} {g : Array GenState} {d : Drawn} {t : Nat} {os : OsState}
variable {nm q : Str} {C N fI : Addr} {bs bm tl : List Value} {hdct : Bool} {sn : List Str} {sub : List Value} {ab : Bool} {col : Option Bool} {dd : Option Addr} {k0 k1 k2 k3 k5 : Option Value} {B nw ini : String} {kw : List (Str × Value)}
end
section
variable {K : Frag} {C fI : Addr} {B nw ini : String} {tl : List Value} {f g q0 : Str} {oc : Value} {od : Option Addr} {doc pm : Value} {an : Option Addr} {cdv ct : Value} {osl : Array (Option Value)} {p1 p2 p3 q1 q2 q3 q4 q5 q6 q7 q8 : Pos}
end
section
variable {prog : Program} {w : World} {A : Around} {E : Value → Shared → Prop} {R : Result → Shared → Prop} {s : Shared} {K : Frag} {C fI : Addr} {B nw ini : String} {tl : List Value} {fs : List Str} {b : Bool}
end
section
variable {X : Cx} {C fI : Addr} {B nw ini : String} {tl : List Value} {fs : List Str} {b : Bool} {kws : List Keyword} {tk : TA} {x : Str} {p pos : Pos} {k : Nat}
end
section
variable [FE]
variable {X : Cx} {π : Nat → Addr} {W : WX} {C fI : Addr} {B nw ini : String} {tl : List Value} {fs : List Str} {b : Bool} {kws : List Keyword} {x : Str} {p pos : Pos} {k : Nat}
end
end FL
/-! FL94: try: .. except A as e: .. among a def's statements. -/
namespace FL
open PySem PySem.Spec PyProof.Rows L2
section
variable [FE]
variable {K : PySem.W.Frag} {π : Nat → Addr} {W : WX} {c : Cfg} {F F' H H' : Hp} {σ σ' : L2.St} {ρ ρ' : Rho} {D : Ends}
/-- a name is gone -/
theorem Sta.drop (S : Sta K π c F H σ ρ) (i : Nat) : Sta K π c F H (σ.set i none) (ρ.set i .no) := by
  refine ⟨S.h0, S.hio, S.f0, S.f, S.nf, by rw [List.length_set, List.length_set]; exact S.len, fun j s hs => ?_, fun j k p h1 h2 => ?_, S.t⟩
  · by_cases e : j = i
    · subst e
      by_cases hi : j < ρ.length
      · rw [List.getElem?_set_self hi] at hs
        cases hs
        trivial
      · rw [List.getElem?_eq_none (by rw [List.length_set]; omega)] at hs
        cases hs
    · rw [List.getElem?_set_ne (Ne.symm e)] at hs
      have z := S.rep j s hs
      have g : (σ.set i none)[j]? = σ[j]? := List.getElem?_set_ne (Ne.symm e)
      cases s with
      | lk C f jj => obtain ⟨a, dx, e1, h1⟩ := z; exact ⟨a, dx, g.trans e1, h1⟩
      | no => trivial
      | val d => obtain ⟨w, e1, r1⟩ := z; exact ⟨w, g.trans e1, r1⟩
      | own m => obtain ⟨p, e1, r1⟩ := z; exact ⟨p, g.trans e1, r1⟩
      | io m => obtain ⟨e1, r1⟩ := z; exact ⟨g.trans e1, r1⟩
  · have key : ∀ j, OwnAt (σ.set i none) (ρ.set i .no) j p → OwnAt σ ρ j p := fun j h => by
      obtain ⟨e, m, h⟩ := h
      by_cases q : j = i
      · subst q
        by_cases hi : j < ρ.length
        · rw [List.getElem?_set_self hi] at h
          rcases h with h | h <;> cases h
        · rw [List.getElem?_eq_none (by rw [List.length_set]; omega)] at h
          rcases h with h | h <;> cases h
      · rw [List.getElem?_set_ne (Ne.symm q)] at e h
        exact ⟨e, m, h⟩
    exact S.dis j k p (key j h1) (key k h2)
end
section
variable [FE]
variable {X : Cx} {π : Nat → Addr} {W : WX} {x n : Str} {i : Nat} {body suite : List Stmt} {b₀ : Stmt} {np pos pos' : Pos} {sb : SF} {gs : EId → SF} {ct : CT}
end
end FL
/-! FL95: an instance that holds one thing of ours, never another: defs that get such a one. -/
namespace FL
open PySem PySem.Spec PyProof.Rows L2

def toSB : Arg → Slot
  | .val d => .val d
  | .io m => .io m
  | .lk C f j => .lk C f j
def rhoB (l : Nat) (as : List Arg) : Rho := as.map toSB ++ List.replicate (l - as.length) .no
/-- the def by its body: l names, the last argument is the thing that is held -/
def bodyB (l : Nat) (g : SF) (as : List Arg) : RG := match g (rhoB l as) with
  | .ok .nx ρ => endG as (.ok (.v .non)) ρ
  | .ok (.rt r) ρ => endG as (.ok r) ρ
  | .exc C fs ρ => endG as (.exc C fs) ρ
  | _ => .stuck
section
variable {P : Program} {w : World} {K : PySem.W.Frag} {mg : Str → Option Value} {base : Heap}
variable [FE]
end
end FL
/-! FL96: calls of defs that get a holder; what it holds, by the way through it. -/
namespace FL
open PySem PySem.Spec PyProof.Rows L2

/-- all holders that are handed on hold the thing in slot j -/
def lkAll (n j : Nat) (ρ : Rho) : List AA → Bool
  | [] => true
  | .lk i j' :: as => (j' == n && (match lnkC ρ i with | some p => p.2.2 == j | none => false)) && lkAll n j ρ as
  | _ :: as => lkAll n j ρ as
def isIo (ρ : Rho) (j : Nat) : Bool := match ρ[j]? with
  | some (.io _) => true
  | _ => false
/-- a call of a def that gets a holder; the thing that it holds is in slot j -/
def callB {α : Type} (n : Nat) (G : List Arg → RG) (j : Nat) (f : BF) (k : Res → Rho → R α) : Rho → R α := fun ρ => (f ρ).bind fun as ρ => if (isIo ρ j && lkAll n j ρ as) = true then (if okA (n + 1) (as ++ [.sl j]) = true then match toArgs ρ (as ++ [.sl j]) with
    | some gs => match G gs with
      | .ok r outs => k r (putA (as ++ [.sl j]) outs ρ)
      | .exc C fs outs => .exc C fs (putA (as ++ [.sl j]) outs ρ)
      | .stuck => .stuck
    | none => .stuck
  else .stuck) else .stuck
section
variable [FE]
variable {K : PySem.W.Frag} {π : Nat → Addr} {c : Cfg} {F F' H H' : Hp} {σ : L2.St} {ρ : Rho}
theorem Sta.isIo (S : Sta K π c F H σ ρ) {j : Nat} (h : FL.isIo ρ j = true) : σ[j]? = some (some (.ref (π j))) := by
  unfold FL.isIo at h
  split at h
  · rename_i m e
    exact (S.rep j _ e).1
  · cases h
end
section
variable [FE]
variable {X : Cx} {π : Nat → Addr} {W : WX} {e : Expr} {es : List Expr} {pos p apos : Pos} {k i j : Nat} {f : Addr} {fd : FuncData} {ps ks : List Str} {G : List Arg → RG} {x n m : Str} {kws : List Keyword} {α : Type} {rel : Rel V α} {kk : Res → Rho → R α}
/-! ### methods of a holder -/
/-- slot i's holder of the class n, and the other arguments: for its method m, which has nn parameters -/
def objL (n : Str) (i : Nat) (m : Str) (nn : Nat) (g : BF) : BF := fun ρ => match lnkC ρ i with
  | some q => if q.1 = FE.cl n ∧ q.2.1 ≠ m then (g ρ).bind fun as ρ => .ok (.lk i nn :: as) ρ else .stuck
  | none => .stuck
/-! ### the way through a holder -/
/-- slot i's one field f: what it holds -/
def tPa (i : Nat) (C : Addr) (f : Str) : TE := fun σ H Q => ∃ a dx v, σ[i]? = some (some (V.ref a)) ∧ H a = some (.ins C dx [(f, v)]) ∧ Q v H
/-- slot i holds the thing in slot j -/
def lnkR {α : Type} (n f : Str) (i j : Nat) (g : Rho → R α) : Rho → R α := fun ρ => if lnkC ρ i = some (FE.cl n, f, j) ∧ isIo ρ j = true then g ρ else .stuck
theorem Sta.pa {c : Cfg} {F H : Hp} {σ : L2.St} {ρ : Rho} {Q : VK} {fd : Str} (S : Sta X.K π c F H σ ρ) (h : FL.lnkC ρ i = some (FE.cl n, fd, j) ∧ FL.isIo ρ j = true) (t : tVar j σ H Q) : tPa i (FE.cl n) fd σ H Q := by
  obtain ⟨a, dx, a1, a2⟩ := S.lnkC h.1
  obtain ⟨v, e, q⟩ := t
  rw [S.isIo h.2] at e
  cases e
  exact ⟨a, dx, _, a1, S.f _ _ a2, q⟩
end
end FL
/-! FL97: what is done with the thing that a holder holds; holders handed on; the getter. -/
namespace FL
open PySem PySem.Spec PyProof.Rows L2
section
variable [FE]
variable {X : Cx} {π : Nat → Addr} {W : WX} {e o : Expr} {es : List Expr} {pos p apos : Pos} {k i j nn : Nat} {f : Addr} {fd : FuncData} {ps ks : List Str} {G : List Arg → RG} {x n m nh nf : Str} {fl : List Str} {kws : List Keyword} {α : Type} {rel : Rel V α} {kk : Res → Rho → R α}
/-- the holder in slot i as an argument; the thing that it holds is handed in at nn -/
def lkB (i nn : Nat) (g : BF) : BF := fun ρ => match lnkC ρ i with
  | some _ => (g ρ).bind fun as ρ => .ok (.lk i nn :: as) ρ
  | none => .stuck
end
/-! ### the getter -/
section
variable [FE]
variable {P : Program} {w : World} {K : PySem.W.Frag} {mg : Str → Option Value} {base : Heap}
end
section
variable [FE]
variable {X : Cx} {π : Nat → Addr} {W : WX} {e o : Expr} {es : List Expr} {pos p apos : Pos} {k i j nn : Nat} {f : Addr} {fd : FuncData} {ps ks : List Str} {G : List Arg → RG} {x n m nh nf : Str} {fl : List Str} {kws : List Keyword}
/-! ### as the printed terms write them -/
end
end FL
/-! FL98: a new holder: its constructor, and the names that get it. -/
namespace FL
open PySem PySem.Spec PyProof.Rows L2
section
variable [FE]
section
variable {P : Program} {w : World} {K : PySem.W.Frag} {mg : Str → Option Value} {base : Heap}
end
section
variable {X : Cx} {π : Nat → Addr} {W : WX} {k : Nat} {x nh nf : Str} {f : Addr} {fd : FuncData} {ps : List Str} {m0 : M} {p pos : Pos}
end
/-! ### the holder gets a name -/
def noLk (ρ : Rho) : Bool := ρ.all fun s => match s with
  | .lk _ _ _ => false
  | _ => true
/-- the thing in slot j is held by the holder that slot i gets -/
def holdR (nh nf : Str) (i j : Nat) (ρ : Rho) : Option Rho := match ρ[j]? with
  | some (.own m) => if i < ρ.length ∧ i ≠ j ∧ noLk ρ = true then some ((ρ.set i (.lk (FE.cl nh) nf j)).set j (.io m)) else none
  | _ => none
def shift (π : Nat → Addr) (j : Nat) (q : Addr) : Nat → Addr := fun k => if k = j then q else π k
section
variable {K : PySem.W.Frag} {π : Nat → Addr} {W : WX} {c : Cfg} {F F' H H' : Hp} {σ σ' : L2.St} {ρ ρ' : Rho} {i j : Nat} {q y dx : Addr} {nh nf : Str}
theorem Sta.hold {ρ2 : Rho} (S : Sta K π c F H σ ρ) (h0 : c.ow = []) (hq : σ[j]? = some (some (.ref q))) (hy : F y = some (.ins (FE.cl nh) dx [(nf, .ref q)])) (e : holdR nh nf i j ρ = some ρ2) :
    Sta K (shift π j q) ⟨c.H0, c.F0, q :: c.io, c.ow⟩ F H (σ.set i (some (.ref y))) ρ2 ∧ c.H0 q = none ∧ ∀ k m, ρ[k]? = some (.io m) → k ≠ j ∧ π k ≠ q := by
  unfold holdR at e
  split at e
  · rename_i m ej
    split at e
    · rename_i hh
      obtain ⟨hi, hij, hnl⟩ := hh
      cases e
      obtain ⟨q', e1, e2, e3, e4⟩ := S.rep j _ ej
      rw [hq] at e1
      cases e1
      have e3 : c.H0 q = none := by
        rcases e3 with z | z
        · exact z
        · rw [h0] at z; cases z
      have hj : j < ρ.length := (List.getElem?_eq_some_iff.mp ej).1
      have own : OwnAt σ ρ j q := ⟨hq, m, .inl ej⟩
      have iok : ∀ k m, ρ[k]? = some (.io m) → k ≠ j ∧ π k ≠ q := fun k m1 ek => by
        have nk : k ≠ j := fun z => by
          subst z
          rw [ej] at ek
          cases ek
        refine ⟨nk, fun z => nk (S.dis k j q ⟨?_, m1, .inr ek⟩ own)⟩
        have := (S.rep k _ ek).1
        rw [z] at this
        exact this
      have at_j : ((ρ.set i (.lk (FE.cl nh) nf j)).set j (.io m))[j]? = some (.io m) := List.getElem?_set_self (by simpa using hj)
      have at_i : ((ρ.set i (.lk (FE.cl nh) nf j)).set j (.io m))[i]? = some (.lk (FE.cl nh) nf j) := by
        rw [List.getElem?_set_ne (Ne.symm hij), List.getElem?_set_self hi]
      have at_k : ∀ {k}, k ≠ i → k ≠ j → ((ρ.set i (.lk (FE.cl nh) nf j)).set j (.io m))[k]? = ρ[k]? := fun {k} a b => by
        rw [List.getElem?_set_ne (Ne.symm b), List.getElem?_set_ne (Ne.symm a)]
      have sg : ∀ {k}, k ≠ i → (σ.set i (some (V.ref y)))[k]? = σ[k]? := fun {k} a => List.getElem?_set_ne (Ne.symm a)
      have si : (σ.set i (some (V.ref y)))[i]? = some (some (.ref y)) := List.getElem?_set_self (by rw [S.len]; exact hi)
      have pk : ∀ {k}, k ≠ j → shift π j q k = π k := fun {k} a => if_neg a
      have pj : shift π j q j = q := if_pos rfl
      refine ⟨⟨fun b o eb n1 n2 nt => S.h0 b o eb (fun z => n1 (List.mem_cons_of_mem _ z)) n2 nt, fun b hb => ?_, S.f0, S.f, S.nf, ?_, fun k s hs => ?_, fun k1 k2 p h1 h2 => ?_, ⟨S.t.tb, S.t.tk, S.t.nt⟩⟩, e3, iok⟩
      · rcases hb with hb | hb
        · rcases List.mem_cons.mp hb with z | z
          · rw [z]; exact e4.here
          · exact S.hio b (.inl z)
        · exact S.hio b (.inr hb)
      · rw [List.length_set, List.length_set, List.length_set]
        exact S.len
      · by_cases zj : k = j
        · subst zj
          rw [at_j] at hs
          cases hs
          refine ⟨?_, ?_, ?_, ?_⟩
          · rw [pj, sg (Ne.symm hij)]; exact hq
          · rw [pj]; exact e2
          · rw [pj]; exact List.mem_cons_self
          · rw [pj]; exact e4
        · by_cases zi : k = i
          · subst zi
            rw [at_i] at hs
            cases hs
            exact ⟨y, dx, si, by rw [pj]; exact hy⟩
          · rw [at_k zi zj] at hs
            have z := S.rep k s hs
            cases s with
            | no => trivial
            | val d =>
              obtain ⟨v, a1, a2⟩ := z
              exact ⟨v, (sg zi).trans a1, a2⟩
            | own m1 =>
              obtain ⟨p, a1, a2⟩ := z
              exact ⟨p, (sg zi).trans a1, a2⟩
            | io m1 =>
              obtain ⟨a1, a2, a3, a4⟩ := z
              refine ⟨?_, ?_, ?_, ?_⟩
              · rw [pk zj]; exact (sg zi).trans a1
              · rw [pk zj]; exact a2
              · rw [pk zj]; exact List.mem_cons_of_mem _ a3
              · rw [pk zj]; exact a4
            | lk C f jj =>
              have := List.all_eq_true.mp hnl _ (List.mem_of_getElem? hs)
              cases this
      · have key : ∀ k, OwnAt (σ.set i (some (.ref y))) ((ρ.set i (.lk (FE.cl nh) nf j)).set j (.io m)) k p → OwnAt σ ρ k p := fun k ⟨a1, m1, a2⟩ => by
          by_cases zj : k = j
          · subst zj
            rw [sg (Ne.symm hij), hq] at a1
            cases a1
            exact own
          · by_cases zi : k = i
            · subst zi
              rw [at_i] at a2
              rcases a2 with a2 | a2 <;> cases a2
            · rw [at_k zi zj] at a2
              rw [sg zi] at a1
              exact ⟨a1, m1, a2⟩
        exact S.dis k1 k2 p (key k1 h1) (key k2 h2)
    · cases e
  · cases e
end
end
end FL
/-! FL99: statements by which a name gets a new holder. -/
namespace FL
open PySem PySem.Spec PyProof.Rows L2
section
variable [FE]
/-! ### argument lists with a new holder in them -/
section
variable {X : Cx} {π : Nat → Addr} {W : WX} {e a b : Expr} {es : List Expr} {pos : Pos} {nh nf : Str} {m0 : M} {t : Nat}
end
/-! ### stored -/
section
variable {X : Cx} {π : Nat → Addr} {W : WX} {e a b : Expr} {es : List Expr} {rest : List Stmt} {pos : Pos} {nh nf : Str} {m0 : M} {i j t : Nat} {g : SF}
end
end
end FL
/-! FL100: holders where lambdas are made; join of a tuple, str of a text, f-strings. -/
namespace FL
open PySem PySem.Spec PyProof.Rows L2
section
variable {P : Program} {w : World} {K : PySem.W.Frag} {mg : Str → Option Value} {base : Heap}
variable [FE]
end
section
variable [FE]
variable {X : Cx} {π : Nat → Addr} {W : WX} {e a b : Expr} {es : List Expr} {pos p apos : Pos}
/-! ### join of a tuple -/
def joinTD : D → D → Option D
  | .str a, .tup ds => (asStrs ds).bind fun ys => if (ys.map (·.length)).sum + ys.length * a.length ≤ 100000 then some (.str (Txt.join a ys)) else none
  | _, _ => none
def joinTE (f g : EF) : EF := fun ρ => (f ρ).bind fun x ρ => match x with
  | .str a => (g ρ).bind fun y ρ => R.of (joinTD (.str a) y) ρ
  | _ => .stuck
/-! ### str of a number or a text -/
/-! ### f-strings -/
/-- the parts' readings -/
inductive PJE (X : Cx) (π : Nat → Addr) (W : WX) : List Expr → List EF → Prop where
  | nil : PJE X π W [] []
  | cons {e : Expr} {f : EF} {es : List Expr} {fs : List EF} (h : PE X e (tE X.K π W f)) (r : PJE X π W es fs) : PJE X π W (e :: es) (f :: fs)
theorem PJE.pj {es : List Expr} {fs : List EF} (h : PJE X π W es fs) : PJ X es (fs.map fun f => tE X.K π W f) := by
  induction h with
  | nil => exact .nil
  | cons h _ ih => exact .cons h ih
end
end FL
namespace FL
open PySem PySem.Spec PyProof.Rows L2
end FL
/-! FL101: x.items() of a dict that is data, its pairs plain tuples. -/
namespace FL
open PySem PySem.Spec PyProof.Rows L2
section
variable {P : Program} {w : World} {K : PySem.W.Frag} {q it : Addr} {od : Obj} {rows : Array DictEntry} {ep : Nat} {kvs : List (Key × V)} {elts : List Expr} {kk : Nat} {tpos : Pos}
end
section
variable {X : Cx} {e : Expr} {td : TE} {apos cpos : Pos} {elts : List Expr} {kk : Nat} {tpos : Pos}
end
section
variable [FE]
variable {X : Cx} {π : Nat → Addr} {W : WX} {e : Expr} {apos cpos : Pos} {elts : List Expr} {kk : Nat} {tpos : Pos}
end
end FL
/-! FL102: how calls of defs that get a holder are computed. -/
namespace FL
open PySem PySem.Spec PyProof.Rows L2
theorem callB_eq {α : Type} (n : Nat) (G : List FL.Arg → RG) (j : Nat) (f : BF) (k : Res → Rho → R α) (ρ : Rho) : callB n G j f k ρ = (f ρ).bind fun as ρ => if (isIo ρ j && lkAll n j ρ as) = true then (if okA (n + 1) (as ++ [.sl j]) = true then argG (toArgs ρ (as ++ [.sl j])) G (as ++ [.sl j]) k ρ else .stuck) else .stuck := by
  unfold callB argG goG
  congr 1
theorem bodyB_eq (l : Nat) (g : SF) (as : List FL.Arg) : bodyB l g as = endR as (g (rhoB l as)) := by
  unfold bodyB endR
  rfl
theorem bn_1 : (("base" : Str) ≠ "run") = True := eq_true (by decide +kernel)
theorem bn_2 : (("base" : Str) ≠ "done") = True := eq_true (by decide +kernel)
theorem bn_3 : (("base" : Str) ≠ "told") = True := eq_true (by decide +kernel)
theorem bn_4 : (("base" : Str) ≠ "claimed") = True := eq_true (by decide +kernel)
theorem bn_5 : (("base" : Str) ≠ "lifted") = True := eq_true (by decide +kernel)
theorem bn_6 : (("base" : Str) ≠ "put_in") = True := eq_true (by decide +kernel)
theorem bn_7 : (("base" : Str) ≠ "asked") = True := eq_true (by decide +kernel)
theorem bn_8 : (("base" : Str) ≠ "told_of") = True := eq_true (by decide +kernel)
end FL
/-! FL103: for a, b in zip(x, y), the pairs plain -/
namespace FL
open PySem PySem.Spec PyProof.Rows L2
section
variable {P : Program} {w : World} {K : PySem.W.Frag} {z ti to r1 r2 p q : Addr} {elts : List Expr} {kk : Nat} {tpos : Pos}
end
section
variable [FE]
variable {X : Cx} {π : Nat → Addr} {W : WX} {e e2 : Expr} {pos ps tpos : Pos} {elts : List Expr} {kk : Nat}
end
end FL
/-! FL104: sorted(xs) of a list of texts -/
namespace FL
open PySem PySem.Spec PyProof.Rows L2
end FL
/-! FL105: an exception that leaves a list comprehension. -/
namespace FL
open PySem PySem.Spec PyProof.Rows L2
section
variable {X : Cx} {pins : List (Addr × Obj)} {σ : L2.St} {H : Hp} {s : Shared}
end
end FL
/-! FL106: name = [..] whose element may raise. -/
namespace FL
open PySem PySem.Spec PyProof.Rows L2
section
variable {X : Cx} {pins : List (Addr × Obj)} {σ : L2.St} {H : Hp} {s : Shared}
end
end FL
/-! FL107: [f for x in xs], where f may raise. -/
namespace FL
open PySem PySem.Spec PyProof.Rows L2
section
variable [FE]
variable {X : Cx} {π : Nat → Addr} {W : WX}
end
end FL
/-! FL108: xs[:0:-1] of a list. -/
namespace FL
open PySem PySem.Spec PyProof.Rows L2
section
variable [FE]
variable {X : Cx} {π : Nat → Addr} {W : WX}
end
end FL
/-! FL109: a try with several except clauses, each of one class or of three, each with a name. -/
namespace FL
open PySem PySem.Spec PyProof.Rows L2
/-- an exception of ours has come down: J is the state without it -/
structure Down (X : Cx) (pins : List (Addr × Obj)) (σ : L2.St) (H : Hp) (a : Addr) (cls : Value) (d : Option Addr) (s : Shared) : Prop where
  ex : ∃ (B : Heap) (sI : Shared), Inv X pins σ H sI ∧ (∀ b o, sI.heap.get? b = some o → b ∉ frs X.stack → B.get? b = some o) ∧ sI.heap.UpToSlots s.heap ∧ HandSPX.FlyingZ B (X.env :: X.outer) a (L2N.Zn cls d) s.heap ∧ H a = none ∧ s.os = sI.os ∧ AllBare s.gens
abbrev TH := Addr → Value → Option Addr → Ends → L2.St → Hp → Prop
/-- these clauses do what t wishes of an exception that has come down -/
def Clauses (X : Cx) (hs : List ExceptHandler) (t : TH) : Prop := ∀ (pins : List (Addr × Obj)) (σ : L2.St) (H : Hp) (a : Addr) (cls : Value) (d : Option Addr) (s : Shared) (D : Ends), Down X pins σ H a cls d s → t a cls d D σ H → wpAny (model X.prog X.w) X.A (handleBy (.ref a) X.env hs) (SP X pins D) X.xe s
section
variable {X : Cx} {n : Str} {i : Nat} {suite : List Stmt} {b₀ : Stmt} {pos pos' : Pos} {rest : List ExceptHandler} {t : TH} {ts : Addr → Value → Option Addr → TS}
/-- more objects, the exception as it was -/
theorem Down.more {pins : List (Addr × Obj)} {σ : L2.St} {H : Hp} {a : Addr} {cls : Value} {d : Option Addr} {s : Shared} (h : Down X pins σ H a cls d s) (o : Obj) : Down X pins σ H a cls d { s with heap := s.heap.push o } := by
  obtain ⟨B, sI, J, nb, up, fl, na, os, ag⟩ := h.ex
  exact ⟨B, sI, J, nb, up.trans (Heap.UpToSlots.of_keeps fun b u q => Heap.get?_push_of_some _ q), flying_push fl, na, os, ag⟩
end
end FL
/-! FL110: def f(act): try: return ["word", act()] / several except clauses. -/
namespace FL
open PySem PySem.Spec PyProof.Rows L2
section
variable [FE]
section
variable {X : Cx} {n : Str} {i : Nat} {ct : CT} {cs : List Str}
theorem Clauses.imp {hs : List ExceptHandler} {t u : TH} (h : Clauses X hs t) (k : ∀ a cls d D σ H, u a cls d D σ H → t a cls d D σ H) : Clauses X hs u := fun pins σ H a cls d s D z w => h pins σ H a cls d s D z (k _ _ _ _ _ _ w)
end
section
variable {P : Program} {w : World} {K : PySem.W.Frag} {mg : Str → Option Value} {base : Heap}
end
end
end FL
/-! FL111: d.get(k, v) of a dict that is data; dict(d), dict([(k, v), ..]) as dicts of our own. -/
namespace FL
open PySem PySem.Spec PyProof.Rows L2
section
variable {K : PySem.W.Frag} {F : Hp}
end
section
variable [FE]
variable {X : Cx} {π : Nat → Addr} {W : WX} {e o a b : Expr} {es : List Expr} {pos p q apos cpos : Pos} {x y : Str}
end
end FL
/-! FL112: x.m(a, .., k = e, ..), x an instance of ours. -/
namespace FL
open PySem PySem.Spec PyProof.Rows L2
section
variable [FE]
variable {X : Cx} {π : Nat → Addr} {W : WX} {i k nn na mm : Nat} {x n m : Str} {fl : List Str} {f : Addr} {fd : FuncData} {ps ks : List Str} {G : List Arg → RG} {p pos apos : Pos} {e : Expr} {es : List Expr} {kws : List Keyword}
end
end FL
/-! FL113: try: .. / except C: .., one clause without a name, whose suite raises nothing. -/
namespace FL
open PySem PySem.Spec PyProof.Rows L2
section
variable {X : Cx} {suite : List Stmt} {b₀ : Stmt} {pos pos' : Pos} {rest : List ExceptHandler} {t : TH} {ts : Addr → Value → Option Addr → TS}
end
section
variable [FE]
variable {X : Cx} {suite body : List Stmt} {b₀ : Stmt} {pos pos' : Pos} {π : Nat → Addr} {W : WX}
end
end FL
/-! FL114: a lambda with one parameter whose argument is what a slot of the maker holds: the slot is read under the parameter's name. -/
namespace FL
open PySem PySem.Spec PyProof.Rows L2
/-- a lambda's scope with the parameter h; its other names are the maker's or the module's -/
structure LamP (sc scope : Scope) (h : Str) : Prop where
  kind : scope.kind = .function
  co : scope.isCoroutine = false
  gen : scope.isGenerator = false
  par : scope.names.lookup h = some .local
  nocell : ∀ y ∈ scope.names, y.2 ≠ .cell
  own : ∀ y ∈ scope.names, y.1 ≠ h → y.2 ≠ .local ∧ y.2 ≠ .cell
  free : ∀ y ∈ scope.names, y.2 = .free → sc.names.lookup y.1 = some .cell ∨ sc.names.lookup y.1 = some .free
section
variable {X : Cx} {pins : List (Addr × Obj)} {σ : L2.St} {H : Hp} {s : Shared} {sc : Scope} {h : Str}
/-- what the closure holds is a cell of the maker -/
theorem LamP.cells (L : LamP X.env.scope sc h) (ok : X.Ok) {y : Str} {c : Addr} (e : (cloFrom X.env.cells sc.names []).lookup y = some c) : X.env.cells.lookup y = some c := by
  have mem := cloFrom_mem (PySem.mem_of_lookup e)
  rcases mem with z | ⟨z1, z2⟩
  · exact nomatch z
  · have there : ∃ c1, X.env.cells.lookup y = some c1 := (L.free _ z1 rfl).elim (fun k => ok.has y (.inl k)) (fun k => ok.has y (.inr k))
    obtain ⟨c1, e1⟩ := there
    rw [e1] at z2
    rw [e1, show c = c1 from z2]
/-- a name that is free in it is in the closure -/
theorem LamP.look {y : Str} (e : sc.names.lookup y = some .free) (cells : List (Str × Addr)) : ∃ c, (cloFrom cells sc.names []).lookup y = some c := mem_lookup (cloFrom_has (cells := cells) (acc := []) (PySem.mem_of_lookup e))
variable {HZ : Hp} {s1 : Shared} {A : Around} {outer : List Env} {E : XK} {f co : Addr} {i : Nat}
end
end FL
/-! FL115: action(thing), in the def that got the lambda: the thing is what slot i of the lambda's maker holds. -/
namespace FL
open PySem PySem.Spec PyProof.Rows L2
section
variable {X : Cx} {pins : List (Addr × Obj)} {σ : L2.St} {H : Hp} {s : Shared}
end
end FL
/-! FL116: a def by a promise of its own over the heap's things (no reading). -/
namespace FL
open PySem PySem.Spec PyProof.Rows L2
section
variable {P : Program} {w : World} {K : PySem.W.Frag} {mg : Str → Option Value} {base : Heap}
end
end FL
/-! FL117: what stands behind `with Trial(self) as thing`: the defs of both classes, by what they do to the heap. -/
namespace FL
open PySem PySem.Spec PyProof.Rows L2
/-- H1 has what H has, but at t -/
def SmB (t : Addr) (H H1 : Hp) : Prop := ∀ q o, q ≠ t → H q = some o → H1 q = some o
theorem SmB.trans {t : Addr} {H H1 H2 : Hp} (a : SmB t H H1) (b : SmB t H1 H2) : SmB t H H2 := fun q o n e => b q o n (a q o n e)
theorem SmB.new {t p : Addr} {o : HO} {H : Hp} (e : H p = none) : SmB t H (upd H p o) := fun q u _ h => by
  rw [upd_ne (ne_of_none h e)]
  exact h
theorem SmB.put {t : Addr} {o : HO} {H : Hp} : SmB t H (upd H t o) := fun q u n h => by
  rw [upd_ne n]
  exact h
section
variable [FE]
variable {X : Cx} {pins : List (Addr × Obj)} {σ : L2.St} {H : Hp} {s : Shared} {k a : Nat} {x : Str} {C f : Addr} {fd : FuncData} {ps : List Str} {sp : Sp} {p pos : Pos} {e : Expr} {es : List Expr} {t : TA}
end
section
variable [FE]
variable {P : Program} {w : World} {K : PySem.W.Frag} {mg : Str → Option Value} {base : Heap} {x qual : Str} {st : Stmt} {f : Addr} {fd : FuncData} {N ps : List Str} {k : Nat} {nk nt nc : Str}
end
/-! ### the statement -/
section
variable [FE]
variable {X : Cx}
end
/-! ### what is known of such a def -/
end FL
/-! FL118: thing.tried(lambda h: e): what it gives, and that slot i's thing stands behind it as before. -/
namespace FL
open PySem PySem.Spec PyProof.Rows L2
section
variable [FE]
variable {K : PySem.W.Frag} {π : Nat → Addr} {c : Cfg} {F H : Hp} {σ : L2.St} {ρ : Rho}
end
section
variable [FE]
section
variable {P : Program} {w : World} {K : PySem.W.Frag} {mg : Str → Option Value} {base : Heap}
end
/-! ### the call -/
section
variable {X : Cx} {π : Nat → Addr} {W : WX}
end
end
end FL
/-! FL119: a dict is equal to no value of another kind. -/
namespace FL
open PySem PySem.Spec PyProof.Rows PySem.SeqAt PySem.MeetsSeq L2
/-- the object at l is a dict -/
def DictAt (s : Shared) (l : Addr) : Prop := ∃ (es : Array DictEntry) (n : Nat) (dd : Option Addr) (sl : Array (Option Value)), s.heap.get? l = some { cls := .type "dict", dict := dd, data := .dict es n, slots := sl }
section
variable {A : Around} {s : Shared} {l b : Addr}
theorem eq_by_rc {v y : Value} {k : Bool} (ne : (v == y) = false) (nf : ∀ b t, v ≠ .float b t) (h : RcAt A s v y k) : EqAt A s v y k := fun prog w E Q q => by
  have go := h prog w E (fun r s1 => wpAny (model prog w) A (truthOfDropped r) Q E s1) (wpAny_truthy_bool q)
  show wpAny _ A (eqBool v y) Q E s
  unfold eqBool
  refine wpAny_holding (wpAny_ite_split (fun z => ?_) fun _ => ?_)
  · rw [ne] at z
    cases z
  · cases v with
    | float b t => exact (nf b t rfl).elim
    | _ => exact wpAny_bind go
theorem off_none_1 (es : Array DictEntry) (n : Nat) (dd : Option Addr) (sl : Array (Option Value)) : Meets (Builtin.«dict.__eq__» ⟨[.ref l, .none], []⟩) (fun _ R s => s.heap.get? l = some { cls := .type "dict", dict := dd, data := .dict es n, slots := sl } ∧ R (.ok (.ret .notImplemented)) s) :=
  .of_wp fun prog w A R s0 ⟨at_l, h⟩ => by
    obtain ⟨hp, g, d, tk, os⟩ := s0
    have no := F.sub_NoneType_dict
    wp_walk using wpAny_loadPart' at_l
    exact ⟨_, rfl, h⟩
theorem off_none_2 (es : Array DictEntry) (n : Nat) (dd : Option Addr) (sl : Array (Option Value)) : Meets (Builtin.«NoneType.__eq__» ⟨[.none, .ref l], []⟩) (fun _ R s => s.heap.get? l = some { cls := .type "dict", dict := dd, data := .dict es n, slots := sl } ∧ R (.ok (.ret .notImplemented)) s) :=
  .of_wp fun prog w A R s0 ⟨at_l, h⟩ => by
    obtain ⟨hp, g, d, tk, os⟩ := s0
    wp_walk using wpAny_loadPart' at_l, wpAny_load at_l
    exact ⟨_, rfl, h⟩
theorem rcD_none (D : DictAt s l) (hu : A.units < cLine) : RcAt A s (.ref l) (.none) false := by
  obtain ⟨es, n, dd, sl, ho⟩ := D
  refine fun prog w E Q q => rc_eq_decline_or (k := false) ⟨_, ho, rfl⟩ rfl (by decide) F.sub_NoneType_dict F.slot_dict_eq F.slot_NoneType_eq_refl ?one ?two ?same (.inr hu) q
  case one => exact fun _ y => call_meets F.slot_dict_eq ⟨_, ho, rfl⟩ F.entry_dict_eq (F.args_dict_eq_2 _ _) (off_none_1 es n dd sl) ⟨ho, y⟩
  case two => exact fun _ y => call_meets F.slot_NoneType_eq_refl rfl F.entry_NoneType_eq (F.args_NoneType_eq_2 _ _) (off_none_2 es n dd sl) ⟨ho, y⟩
  case same => exact fun _ y => wpAny_of_eq (show isSame (.ref l) (.none) = pure false from rfl) y
theorem dict_none (D : DictAt s l) (hu : A.units < cLine) : EqAt A s (.ref l) (.none) false := eq_by_rc rfl (fun _ _ z => nomatch z) (rcD_none D hu)
theorem rcnone_D (D : DictAt s l) (hu : A.units < cLine) : RcAt A s (.none) (.ref l) false := by
  obtain ⟨es, n, dd, sl, ho⟩ := D
  refine fun prog w E Q q => rc_eq_decline_or (k := false) rfl ⟨_, ho, rfl⟩ (by decide) F.sub_dict_NoneType F.slot_NoneType_eq F.slot_dict_eq_refl ?one ?two ?same (.inr hu) q
  case one => exact fun _ y => call_meets F.slot_NoneType_eq rfl F.entry_NoneType_eq (F.args_NoneType_eq_2 _ _) (off_none_2 es n dd sl) ⟨ho, y⟩
  case two => exact fun _ y => call_meets F.slot_dict_eq_refl ⟨_, ho, rfl⟩ F.entry_dict_eq (F.args_dict_eq_2 _ _) (off_none_1 es n dd sl) ⟨ho, y⟩
  case same => exact fun _ y => wpAny_of_eq (show isSame (.none) (.ref l) = pure false from rfl) y
theorem none_dict (D : DictAt s l) (hu : A.units < cLine) : EqAt A s (.none) (.ref l) false := eq_by_rc rfl (fun _ _ z => nomatch z) (rcnone_D D hu)
theorem off_bool_1 (v0 : Bool) (es : Array DictEntry) (n : Nat) (dd : Option Addr) (sl : Array (Option Value)) : Meets (Builtin.«dict.__eq__» ⟨[.ref l, .bool v0], []⟩) (fun _ R s => s.heap.get? l = some { cls := .type "dict", dict := dd, data := .dict es n, slots := sl } ∧ R (.ok (.ret .notImplemented)) s) :=
  .of_wp fun prog w A R s0 ⟨at_l, h⟩ => by
    obtain ⟨hp, g, d, tk, os⟩ := s0
    have no := F.sub_bool_dict
    wp_walk using wpAny_loadPart' at_l
    exact ⟨_, rfl, h⟩
theorem off_bool_2 (v0 : Bool) (es : Array DictEntry) (n : Nat) (dd : Option Addr) (sl : Array (Option Value)) : Meets (Builtin.«int.__eq__» ⟨[.bool v0, .ref l], []⟩) (fun _ R s => s.heap.get? l = some { cls := .type "dict", dict := dd, data := .dict es n, slots := sl } ∧ R (.ok (.ret .notImplemented)) s) :=
  .of_wp fun prog w A R s0 ⟨at_l, h⟩ => by
    obtain ⟨hp, g, d, tk, os⟩ := s0
    wp_walk using wpAny_loadPart' at_l, wpAny_load at_l
    exact ⟨_, rfl, h⟩
theorem rcD_bool (v0 : Bool) (D : DictAt s l) (hu : A.units < cLine) : RcAt A s (.ref l) (.bool v0) false := by
  obtain ⟨es, n, dd, sl, ho⟩ := D
  refine fun prog w E Q q => rc_eq_decline_or (k := false) ⟨_, ho, rfl⟩ rfl (by decide) F.sub_bool_dict F.slot_dict_eq F.slot_bool_eq_refl ?one ?two ?same (.inr hu) q
  case one => exact fun _ y => call_meets F.slot_dict_eq ⟨_, ho, rfl⟩ F.entry_dict_eq (F.args_dict_eq_2 _ _) (off_bool_1 v0 es n dd sl) ⟨ho, y⟩
  case two => exact fun _ y => call_meets F.slot_bool_eq_refl rfl F.entry_int_eq (F.args_int_eq_2 _ _) (off_bool_2 v0 es n dd sl) ⟨ho, y⟩
  case same => exact fun _ y => wpAny_of_eq (show isSame (.ref l) (.bool v0) = pure false from rfl) y
theorem dict_bool (v0 : Bool) (D : DictAt s l) (hu : A.units < cLine) : EqAt A s (.ref l) (.bool v0) false := eq_by_rc rfl (fun _ _ z => nomatch z) (rcD_bool v0 D hu)
theorem rcbool_D (v0 : Bool) (D : DictAt s l) (hu : A.units < cLine) : RcAt A s (.bool v0) (.ref l) false := by
  obtain ⟨es, n, dd, sl, ho⟩ := D
  refine fun prog w E Q q => rc_eq_decline_or (k := false) rfl ⟨_, ho, rfl⟩ (by decide) F.sub_dict_bool F.slot_bool_eq F.slot_dict_eq_refl ?one ?two ?same (.inr hu) q
  case one => exact fun _ y => call_meets F.slot_bool_eq rfl F.entry_int_eq (F.args_int_eq_2 _ _) (off_bool_2 v0 es n dd sl) ⟨ho, y⟩
  case two => exact fun _ y => call_meets F.slot_dict_eq_refl ⟨_, ho, rfl⟩ F.entry_dict_eq (F.args_dict_eq_2 _ _) (off_bool_1 v0 es n dd sl) ⟨ho, y⟩
  case same => exact fun _ y => wpAny_of_eq (show isSame (.bool v0) (.ref l) = pure false from rfl) y
theorem bool_dict (v0 : Bool) (D : DictAt s l) (hu : A.units < cLine) : EqAt A s (.bool v0) (.ref l) false := eq_by_rc rfl (fun _ _ z => nomatch z) (rcbool_D v0 D hu)
theorem off_int_1 (v0 : Int) (u : Tok) (es : Array DictEntry) (n : Nat) (dd : Option Addr) (sl : Array (Option Value)) : Meets (Builtin.«dict.__eq__» ⟨[.ref l, .int v0 u], []⟩) (fun _ R s => s.heap.get? l = some { cls := .type "dict", dict := dd, data := .dict es n, slots := sl } ∧ R (.ok (.ret .notImplemented)) s) :=
  .of_wp fun prog w A R s0 ⟨at_l, h⟩ => by
    obtain ⟨hp, g, d, tk, os⟩ := s0
    have no := F.sub_int_dict
    wp_walk using wpAny_loadPart' at_l
    exact ⟨_, rfl, h⟩
theorem off_int_2 (v0 : Int) (u : Tok) (es : Array DictEntry) (n : Nat) (dd : Option Addr) (sl : Array (Option Value)) : Meets (Builtin.«int.__eq__» ⟨[.int v0 u, .ref l], []⟩) (fun _ R s => s.heap.get? l = some { cls := .type "dict", dict := dd, data := .dict es n, slots := sl } ∧ R (.ok (.ret .notImplemented)) s) :=
  .of_wp fun prog w A R s0 ⟨at_l, h⟩ => by
    obtain ⟨hp, g, d, tk, os⟩ := s0
    wp_walk using wpAny_loadPart' at_l, wpAny_load at_l
    exact ⟨_, rfl, h⟩
theorem rcD_int (v0 : Int) (u : Tok) (D : DictAt s l) (hu : A.units < cLine) : RcAt A s (.ref l) (.int v0 u) false := by
  obtain ⟨es, n, dd, sl, ho⟩ := D
  refine fun prog w E Q q => rc_eq_decline_or (k := false) ⟨_, ho, rfl⟩ (typeIs_int s v0 u) (by decide) F.sub_int_dict F.slot_dict_eq F.slot_int_eq_refl ?one ?two ?same (.inr hu) q
  case one => exact fun _ y => call_meets F.slot_dict_eq ⟨_, ho, rfl⟩ F.entry_dict_eq (F.args_dict_eq_2 _ _) (off_int_1 v0 u es n dd sl) ⟨ho, y⟩
  case two => exact fun _ y => call_meets F.slot_int_eq_refl (typeIs_int s v0 u) F.entry_int_eq (F.args_int_eq_2 _ _) (off_int_2 v0 u es n dd sl) ⟨ho, y⟩
  case same => exact fun _ y => wpAny_of_eq (show isSame (.ref l) (.int v0 u) = pure false from rfl) y
theorem dict_int (v0 : Int) (u : Tok) (D : DictAt s l) (hu : A.units < cLine) : EqAt A s (.ref l) (.int v0 u) false := eq_by_rc rfl (fun _ _ z => nomatch z) (rcD_int v0 u D hu)
theorem rcint_D (v0 : Int) (u : Tok) (D : DictAt s l) (hu : A.units < cLine) : RcAt A s (.int v0 u) (.ref l) false := by
  obtain ⟨es, n, dd, sl, ho⟩ := D
  refine fun prog w E Q q => rc_eq_decline_or (k := false) (typeIs_int s v0 u) ⟨_, ho, rfl⟩ (by decide) F.sub_dict_int F.slot_int_eq F.slot_dict_eq_refl ?one ?two ?same (.inr hu) q
  case one => exact fun _ y => call_meets F.slot_int_eq (typeIs_int s v0 u) F.entry_int_eq (F.args_int_eq_2 _ _) (off_int_2 v0 u es n dd sl) ⟨ho, y⟩
  case two => exact fun _ y => call_meets F.slot_dict_eq_refl ⟨_, ho, rfl⟩ F.entry_dict_eq (F.args_dict_eq_2 _ _) (off_int_1 v0 u es n dd sl) ⟨ho, y⟩
  case same => exact fun _ y => wpAny_of_eq (show isSame (.int v0 u) (.ref l) = pure false from rfl) y
theorem int_dict (v0 : Int) (u : Tok) (D : DictAt s l) (hu : A.units < cLine) : EqAt A s (.int v0 u) (.ref l) false := eq_by_rc rfl (fun _ _ z => nomatch z) (rcint_D v0 u D hu)
theorem off_str_1 (v0 : Str) (u : Tok) (es : Array DictEntry) (n : Nat) (dd : Option Addr) (sl : Array (Option Value)) : Meets (Builtin.«dict.__eq__» ⟨[.ref l, .str v0 u], []⟩) (fun _ R s => s.heap.get? l = some { cls := .type "dict", dict := dd, data := .dict es n, slots := sl } ∧ R (.ok (.ret .notImplemented)) s) :=
  .of_wp fun prog w A R s0 ⟨at_l, h⟩ => by
    obtain ⟨hp, g, d, tk, os⟩ := s0
    have no := F.sub_str_dict
    wp_walk using wpAny_loadPart' at_l
    exact ⟨_, rfl, h⟩
theorem off_str_2 (v0 : Str) (u : Tok) (es : Array DictEntry) (n : Nat) (dd : Option Addr) (sl : Array (Option Value)) : Meets (Builtin.«str.__eq__» ⟨[.str v0 u, .ref l], []⟩) (fun _ R s => s.heap.get? l = some { cls := .type "dict", dict := dd, data := .dict es n, slots := sl } ∧ R (.ok (.ret .notImplemented)) s) :=
  .of_wp fun prog w A R s0 ⟨at_l, h⟩ => by
    obtain ⟨hp, g, d, tk, os⟩ := s0
    wp_walk using wpAny_loadPart' at_l, wpAny_load at_l
    exact ⟨_, rfl, h⟩
theorem rcD_str (v0 : Str) (u : Tok) (D : DictAt s l) (hu : A.units < cLine) : RcAt A s (.ref l) (.str v0 u) false := by
  obtain ⟨es, n, dd, sl, ho⟩ := D
  refine fun prog w E Q q => rc_eq_decline_or (k := false) ⟨_, ho, rfl⟩ (typeIs_str s v0 u) (by decide) F.sub_str_dict F.slot_dict_eq F.slot_str_eq_refl ?one ?two ?same (.inr hu) q
  case one => exact fun _ y => call_meets F.slot_dict_eq ⟨_, ho, rfl⟩ F.entry_dict_eq (F.args_dict_eq_2 _ _) (off_str_1 v0 u es n dd sl) ⟨ho, y⟩
  case two => exact fun _ y => call_meets F.slot_str_eq_refl (typeIs_str s v0 u) F.entry_str_eq (F.args_str_eq_2 _ _) (off_str_2 v0 u es n dd sl) ⟨ho, y⟩
  case same => exact fun _ y => wpAny_of_eq (show isSame (.ref l) (.str v0 u) = pure false from rfl) y
theorem dict_str (v0 : Str) (u : Tok) (D : DictAt s l) (hu : A.units < cLine) : EqAt A s (.ref l) (.str v0 u) false := eq_by_rc rfl (fun _ _ z => nomatch z) (rcD_str v0 u D hu)
theorem rcstr_D (v0 : Str) (u : Tok) (D : DictAt s l) (hu : A.units < cLine) : RcAt A s (.str v0 u) (.ref l) false := by
  obtain ⟨es, n, dd, sl, ho⟩ := D
  refine fun prog w E Q q => rc_eq_decline_or (k := false) (typeIs_str s v0 u) ⟨_, ho, rfl⟩ (by decide) F.sub_dict_str F.slot_str_eq F.slot_dict_eq_refl ?one ?two ?same (.inr hu) q
  case one => exact fun _ y => call_meets F.slot_str_eq (typeIs_str s v0 u) F.entry_str_eq (F.args_str_eq_2 _ _) (off_str_2 v0 u es n dd sl) ⟨ho, y⟩
  case two => exact fun _ y => call_meets F.slot_dict_eq_refl ⟨_, ho, rfl⟩ F.entry_dict_eq (F.args_dict_eq_2 _ _) (off_str_1 v0 u es n dd sl) ⟨ho, y⟩
  case same => exact fun _ y => wpAny_of_eq (show isSame (.str v0 u) (.ref l) = pure false from rfl) y
theorem str_dict (v0 : Str) (u : Tok) (D : DictAt s l) (hu : A.units < cLine) : EqAt A s (.str v0 u) (.ref l) false := eq_by_rc rfl (fun _ _ z => nomatch z) (rcstr_D v0 u D hu)
theorem off_list_1 (es : Array DictEntry) (n : Nat) (dd : Option Addr) (sl : Array (Option Value)) (its : Array Value) (n2 : Nat) (dd2 : Option Addr) (sl2 : Array (Option Value)) : Meets (Builtin.«dict.__eq__» ⟨[.ref l, .ref b], []⟩) (fun _ R s => s.heap.get? l = some { cls := .type "dict", dict := dd, data := .dict es n, slots := sl } ∧ s.heap.get? b = some { cls := .type "list", dict := dd2, data := .seq its n2, slots := sl2 } ∧ R (.ok (.ret .notImplemented)) s) :=
  .of_wp fun prog w A R s0 ⟨at_l, at_b, h⟩ => by
    obtain ⟨hp, g, d, tk, os⟩ := s0
    have no := F.sub_list_dict
    wp_walk using wpAny_loadPart' at_l, wpAny_loadPart' at_b, wpAny_load at_l, wpAny_load at_b
    exact ⟨_, rfl, h⟩
theorem off_list_2 (es : Array DictEntry) (n : Nat) (dd : Option Addr) (sl : Array (Option Value)) (its : Array Value) (n2 : Nat) (dd2 : Option Addr) (sl2 : Array (Option Value)) : Meets (Builtin.«list.__eq__» ⟨[.ref b, .ref l], []⟩) (fun _ R s => s.heap.get? l = some { cls := .type "dict", dict := dd, data := .dict es n, slots := sl } ∧ s.heap.get? b = some { cls := .type "list", dict := dd2, data := .seq its n2, slots := sl2 } ∧ R (.ok (.ret .notImplemented)) s) :=
  .of_wp fun prog w A R s0 ⟨at_l, at_b, h⟩ => by
    obtain ⟨hp, g, d, tk, os⟩ := s0
    have no := F.sub_dict_list
    wp_walk using wpAny_loadPart' at_l, wpAny_loadPart' at_b, wpAny_load at_l, wpAny_load at_b
    exact ⟨_, rfl, h⟩
theorem dict_list_ne {its : Array Value} (D : DictAt s l) (B : s.heap.IsList b its) : l ≠ b := fun z => by
  subst z
  obtain ⟨_, _, _, _, ho⟩ := D
  obtain ⟨o2, ho2, hc, _⟩ := B
  rw [ho] at ho2
  cases ho2
  exact absurd hc (by simp)
theorem rcD_list {its : Array Value} (D : DictAt s l) (B : s.heap.IsList b its) (hu : A.units < cLine) : RcAt A s (.ref l) (.ref b) false := by
  have ne := dict_list_ne D B
  obtain ⟨es, n, dd, sl, ho⟩ := D
  obtain ⟨⟨c2, dd2, dat, sl2⟩, hb, hc, n2, hd⟩ := B
  cases hc
  cases hd
  refine fun prog w E Q q => rc_eq_decline_or (k := false) ⟨_, ho, rfl⟩ ⟨_, hb, rfl⟩ (by decide) F.sub_list_dict F.slot_dict_eq F.slot_list_eq_refl ?one ?two ?same (.inr hu) q
  case one => exact fun _ y => call_meets F.slot_dict_eq ⟨_, ho, rfl⟩ F.entry_dict_eq (F.args_dict_eq_2 _ _) (off_list_1 es n dd sl its n2 dd2 sl2) ⟨ho, hb, y⟩
  case two => exact fun _ y => call_meets F.slot_list_eq_refl ⟨_, hb, rfl⟩ F.entry_list_eq (F.args_list_eq_2 _ _) (off_list_2 es n dd sl its n2 dd2 sl2) ⟨ho, hb, y⟩
  case same => exact fun _ y => wpAny_isSame_ref_other ne ho hb (by simp) y
theorem dict_list {its : Array Value} (D : DictAt s l) (B : s.heap.IsList b its) (hu : A.units < cLine) : EqAt A s (.ref l) (.ref b) false := .of_refs (dict_list_ne D B) (rcD_list D B hu)
theorem rclist_D {its : Array Value} (D : DictAt s l) (B : s.heap.IsList b its) (hu : A.units < cLine) : RcAt A s (.ref b) (.ref l) false := by
  have ne := (dict_list_ne D B).symm
  obtain ⟨es, n, dd, sl, ho⟩ := D
  obtain ⟨⟨c2, dd2, dat, sl2⟩, hb, hc, n2, hd⟩ := B
  cases hc
  cases hd
  refine fun prog w E Q q => rc_eq_decline_or (k := false) ⟨_, hb, rfl⟩ ⟨_, ho, rfl⟩ (by decide) F.sub_dict_list F.slot_list_eq F.slot_dict_eq_refl ?one ?two ?same (.inr hu) q
  case one => exact fun _ y => call_meets F.slot_list_eq ⟨_, hb, rfl⟩ F.entry_list_eq (F.args_list_eq_2 _ _) (off_list_2 es n dd sl its n2 dd2 sl2) ⟨ho, hb, y⟩
  case two => exact fun _ y => call_meets F.slot_dict_eq_refl ⟨_, ho, rfl⟩ F.entry_dict_eq (F.args_dict_eq_2 _ _) (off_list_1 es n dd sl its n2 dd2 sl2) ⟨ho, hb, y⟩
  case same => exact fun _ y => wpAny_isSame_ref_other' ne hb ho (by simp) y
theorem list_dict {its : Array Value} (D : DictAt s l) (B : s.heap.IsList b its) (hu : A.units < cLine) : EqAt A s (.ref b) (.ref l) false := .of_refs (dict_list_ne D B).symm (rclist_D D B hu)
theorem off_tuple_1 (es : Array DictEntry) (n : Nat) (dd : Option Addr) (sl : Array (Option Value)) (its : Array Value) (n2 : Nat) (dd2 : Option Addr) (sl2 : Array (Option Value)) : Meets (Builtin.«dict.__eq__» ⟨[.ref l, .ref b], []⟩) (fun _ R s => s.heap.get? l = some { cls := .type "dict", dict := dd, data := .dict es n, slots := sl } ∧ s.heap.get? b = some { cls := .type "tuple", dict := dd2, data := .seq its n2, slots := sl2 } ∧ R (.ok (.ret .notImplemented)) s) :=
  .of_wp fun prog w A R s0 ⟨at_l, at_b, h⟩ => by
    obtain ⟨hp, g, d, tk, os⟩ := s0
    have no := F.sub_tuple_dict
    wp_walk using wpAny_loadPart' at_l, wpAny_loadPart' at_b, wpAny_load at_l, wpAny_load at_b
    exact ⟨_, rfl, h⟩
theorem off_tuple_2 (es : Array DictEntry) (n : Nat) (dd : Option Addr) (sl : Array (Option Value)) (its : Array Value) (n2 : Nat) (dd2 : Option Addr) (sl2 : Array (Option Value)) : Meets (Builtin.«tuple.__eq__» ⟨[.ref b, .ref l], []⟩) (fun _ R s => s.heap.get? l = some { cls := .type "dict", dict := dd, data := .dict es n, slots := sl } ∧ s.heap.get? b = some { cls := .type "tuple", dict := dd2, data := .seq its n2, slots := sl2 } ∧ R (.ok (.ret .notImplemented)) s) :=
  .of_wp fun prog w A R s0 ⟨at_l, at_b, h⟩ => by
    obtain ⟨hp, g, d, tk, os⟩ := s0
    have no := F.sub_dict_tuple
    wp_walk using wpAny_loadPart' at_l, wpAny_loadPart' at_b, wpAny_load at_l, wpAny_load at_b
    exact ⟨_, rfl, h⟩
theorem dict_tuple_ne {its : Array Value} (D : DictAt s l) (B : s.heap.IsTuple b its) : l ≠ b := fun z => by
  subst z
  obtain ⟨_, _, _, _, ho⟩ := D
  obtain ⟨o2, ho2, hc, _⟩ := B
  rw [ho] at ho2
  cases ho2
  exact absurd hc (by simp)
theorem rcD_tuple {its : Array Value} (D : DictAt s l) (B : s.heap.IsTuple b its) (hu : A.units < cLine) : RcAt A s (.ref l) (.ref b) false := by
  have ne := dict_tuple_ne D B
  obtain ⟨es, n, dd, sl, ho⟩ := D
  obtain ⟨⟨c2, dd2, dat, sl2⟩, hb, hc, n2, hd⟩ := B
  cases hc
  cases hd
  refine fun prog w E Q q => rc_eq_decline_or (k := false) ⟨_, ho, rfl⟩ ⟨_, hb, rfl⟩ (by decide) F.sub_tuple_dict F.slot_dict_eq F.slot_tuple_eq_refl ?one ?two ?same (.inr hu) q
  case one => exact fun _ y => call_meets F.slot_dict_eq ⟨_, ho, rfl⟩ F.entry_dict_eq (F.args_dict_eq_2 _ _) (off_tuple_1 es n dd sl its n2 dd2 sl2) ⟨ho, hb, y⟩
  case two => exact fun _ y => call_meets F.slot_tuple_eq_refl ⟨_, hb, rfl⟩ F.entry_tuple_eq (F.args_tuple_eq_2 _ _) (off_tuple_2 es n dd sl its n2 dd2 sl2) ⟨ho, hb, y⟩
  case same => exact fun _ y => wpAny_isSame_ref_other ne ho hb (by simp) y
theorem dict_tuple {its : Array Value} (D : DictAt s l) (B : s.heap.IsTuple b its) (hu : A.units < cLine) : EqAt A s (.ref l) (.ref b) false := .of_refs (dict_tuple_ne D B) (rcD_tuple D B hu)
theorem rctuple_D {its : Array Value} (D : DictAt s l) (B : s.heap.IsTuple b its) (hu : A.units < cLine) : RcAt A s (.ref b) (.ref l) false := by
  have ne := (dict_tuple_ne D B).symm
  obtain ⟨es, n, dd, sl, ho⟩ := D
  obtain ⟨⟨c2, dd2, dat, sl2⟩, hb, hc, n2, hd⟩ := B
  cases hc
  cases hd
  refine fun prog w E Q q => rc_eq_decline_or (k := false) ⟨_, hb, rfl⟩ ⟨_, ho, rfl⟩ (by decide) F.sub_dict_tuple F.slot_tuple_eq F.slot_dict_eq_refl ?one ?two ?same (.inr hu) q
  case one => exact fun _ y => call_meets F.slot_tuple_eq ⟨_, hb, rfl⟩ F.entry_tuple_eq (F.args_tuple_eq_2 _ _) (off_tuple_2 es n dd sl its n2 dd2 sl2) ⟨ho, hb, y⟩
  case two => exact fun _ y => call_meets F.slot_dict_eq_refl ⟨_, ho, rfl⟩ F.entry_dict_eq (F.args_dict_eq_2 _ _) (off_tuple_1 es n dd sl its n2 dd2 sl2) ⟨ho, hb, y⟩
  case same => exact fun _ y => wpAny_isSame_ref_other' ne hb ho (by simp) y
theorem tuple_dict {its : Array Value} (D : DictAt s l) (B : s.heap.IsTuple b its) (hu : A.units < cLine) : EqAt A s (.ref b) (.ref l) false := .of_refs (dict_tuple_ne D B).symm (rctuple_D D B hu)
end
end FL
/-! FL120: any two values compared, dicts of no or of one entry among them. -/
namespace FL
open PySem PySem.Spec PyProof.Rows PySem.SeqAt PySem.MeetsSeq L2
open PySem.W (EqTree)
mutual
/-- whether two values are equal, of nesting below n -/
def eqwB : Nat → D → D → Bool
  | 0, _, _ => false
  | _ + 1, .non, .non => true
  | _ + 1, .bl a, .bl b => a == b
  | _ + 1, .bl a, .int b => (if a then 1 else 0) == b
  | _ + 1, .int a, .bl b => a == (if b then 1 else 0)
  | _ + 1, .int a, .int b => a == b
  | _ + 1, .str a, .str b => a == b
  | n + 1, .tup xs, .tup ys => eqwL n xs ys
  | n + 1, .lst xs, .lst ys => eqwL n xs ys
  | _ + 1, .dct [], .dct [] => true
  | n + 1, .dl1 _ k a, .dl1 _ l b => decide (k = l) && eqwB n a b
  | _, _, _ => false
def eqwL : Nat → List D → List D → Bool
  | _, [], [] => true
  | n, x :: xs, y :: ys => eqwB n x y && eqwL n xs ys
  | _, _, _ => false
end
/-- a key as a leaf -/
def toLeaf : Option Key → PySem.Leaf
  | none => .none
  | some (.inl i) => .num i
  | some (.inr x) => .text x
/-- what such a value is in the heap -/
def View (P : Program) (w : World) (s : Shared) : Nat → D → Value → Prop
  | 0, _, _ => False
  | _ + 1, .non, u => u = .none
  | _ + 1, .bl b, u => u = .bool b
  | _ + 1, .int i, u => ∃ t, u = .int i t
  | _ + 1, .str x, u => ∃ t, u = .str x t
  | n + 1, .tup xs, u => ∃ (a : Addr) (us : List Value), u = .ref a ∧ s.heap.IsTuple a us.toArray ∧ Paired (View P w s n) xs us
  | n + 1, .lst xs, u => ∃ (a : Addr) (us : List Value), u = .ref a ∧ s.heap.IsList a us.toArray ∧ Paired (View P w s n) xs us
  | _ + 1, .dct [], u => ∃ a : Addr, u = .ref a ∧ (a == sysModules) = false ∧ DictAt s a ∧ s.heap.DictOf (PySem.leafKind P w) a []
  | n + 1, .dl1 _ k d, u => ∃ (a : Addr) (v : Value), u = .ref a ∧ (a == sysModules) = false ∧ DictAt s a ∧ s.heap.DictOf (PySem.leafKind P w) a [(toLeaf k, v)] ∧ View P w s n d v
  | _, _, _ => False
theorem toLeaf_inj {k l : Option Key} (h : toLeaf k = toLeaf l) : k = l := by
  rcases k with _ | (i | x) <;> rcases l with _ | (j | y) <;> first | rfl | (cases h; rfl) | cases h
section
variable {P : Program} {w : World} {s : Shared}
theorem tup_one {a : Addr} {us vs : Array Value} (h : s.heap.IsTuple a us) (g : s.heap.IsTuple a vs) : us = vs := by
  obtain ⟨o, e1, _, _, d1⟩ := h
  obtain ⟨o2, e2, _, _, d2⟩ := g
  rw [e1] at e2
  cases e2
  rw [d1] at d2
  cases d2
  rfl
theorem lst_one {a : Addr} {us vs : Array Value} (h : s.heap.IsList a us) (g : s.heap.IsList a vs) : us = vs := by
  obtain ⟨o, e1, _, _, d1⟩ := h
  obtain ⟨o2, e2, _, _, d2⟩ := g
  rw [e1] at e2
  cases e2
  rw [d1] at d2
  cases d2
  rfl
theorem dict_len {a : Addr} {K : Type} [DecidableEq K] {knd : KeyKind P w K} {xs ys : List (K × Value)} (h : s.heap.DictOf knd a xs) (g : s.heap.DictOf knd a ys) : xs.length = ys.length := by
  obtain ⟨o, es, ep, e1, _, d1, _, p1, _⟩ := h
  obtain ⟨o2, es2, ep2, e2, _, d2, _, p2, _⟩ := g
  rw [e1] at e2
  cases e2
  rw [d1] at d2
  cases d2
  rw [← p1.length, ← p2.length]
theorem dict_uniq {a : Addr} {K : Type} [DecidableEq K] {knd : KeyKind P w K} {k l : K} {u v : Value} (h : s.heap.DictOf knd a [(k, u)]) (g : s.heap.DictOf knd a [(l, v)]) : k = l ∧ u = v := by
  obtain ⟨o, es, ep, e1, _, d1, _, p1, _⟩ := h
  obtain ⟨o2, es2, ep2, e2, _, d2, _, p2, _⟩ := g
  rw [e1] at e2
  cases e2
  rw [d1] at d2
  cases d2
  generalize es.toList = L at *
  cases p1 with
  | cons a1 b1 c1 =>
    cases p2 with
    | cons a2 b2 c2 => exact ⟨knd.inj _ _ _ a1 a2, b1.symm.trans b2⟩
theorem dict_nolist {a : Addr} {us : Array Value} (h : DictAt s a) (g : s.heap.IsList a us) : False := dict_list_ne h g rfl
theorem dict_notup {a : Addr} {us : Array Value} (h : DictAt s a) (g : s.heap.IsTuple a us) : False := dict_tuple_ne h g rfl
mutual
theorem view_same : ∀ {n : Nat} {x y : D} {u : Value}, View P w s n x u → View P w s n y u → eqwB n x y = true
  | n + 1, .non, .non, u, h1, h2 => by
    unfold View at h1 h2
    rfl
  | n + 1, .non, .bl b2, u, h1, h2 => by
    unfold View at h1 h2
    obtain rfl := h1
    cases h2
  | n + 1, .non, .int i2, u, h1, h2 => by
    unfold View at h1 h2
    obtain rfl := h1
    obtain ⟨t2, e⟩ := h2
    cases e
  | n + 1, .non, .str z2, u, h1, h2 => by
    unfold View at h1 h2
    obtain rfl := h1
    obtain ⟨t2, e⟩ := h2
    cases e
  | n + 1, .non, .tup xs2, u, h1, h2 => by
    unfold View at h1 h2
    obtain rfl := h1
    obtain ⟨a2, us2, e2, L2, p2⟩ := h2
    cases e2
  | n + 1, .non, .lst xs2, u, h1, h2 => by
    unfold View at h1 h2
    obtain rfl := h1
    obtain ⟨a2, us2, e2, L2, p2⟩ := h2
    cases e2
  | n + 1, .non, .dct [], u, h1, h2 => by
    unfold View at h1 h2
    obtain rfl := h1
    obtain ⟨a2, e2, m2, D2, O2⟩ := h2
    cases e2
  | n + 1, .non, .dl1 pw2 k2 d2, u, h1, h2 => by
    unfold View at h1 h2
    obtain rfl := h1
    obtain ⟨a2, v2, e2, m2, D2, O2, V2⟩ := h2
    cases e2
  | n + 1, .bl b1, .non, u, h1, h2 => by
    unfold View at h1 h2
    obtain rfl := h1
    cases h2
  | n + 1, .bl b1, .bl b2, u, h1, h2 => by
    unfold View at h1 h2
    subst h1
    cases h2
    simp [eqwB]
  | n + 1, .bl b1, .int i2, u, h1, h2 => by
    unfold View at h1 h2
    obtain rfl := h1
    obtain ⟨t2, e⟩ := h2
    cases e
  | n + 1, .bl b1, .str z2, u, h1, h2 => by
    unfold View at h1 h2
    obtain rfl := h1
    obtain ⟨t2, e⟩ := h2
    cases e
  | n + 1, .bl b1, .tup xs2, u, h1, h2 => by
    unfold View at h1 h2
    obtain rfl := h1
    obtain ⟨a2, us2, e2, L2, p2⟩ := h2
    cases e2
  | n + 1, .bl b1, .lst xs2, u, h1, h2 => by
    unfold View at h1 h2
    obtain rfl := h1
    obtain ⟨a2, us2, e2, L2, p2⟩ := h2
    cases e2
  | n + 1, .bl b1, .dct [], u, h1, h2 => by
    unfold View at h1 h2
    obtain rfl := h1
    obtain ⟨a2, e2, m2, D2, O2⟩ := h2
    cases e2
  | n + 1, .bl b1, .dl1 pw2 k2 d2, u, h1, h2 => by
    unfold View at h1 h2
    obtain rfl := h1
    obtain ⟨a2, v2, e2, m2, D2, O2, V2⟩ := h2
    cases e2
  | n + 1, .int i1, .non, u, h1, h2 => by
    unfold View at h1 h2
    obtain ⟨t1, rfl⟩ := h1
    cases h2
  | n + 1, .int i1, .bl b2, u, h1, h2 => by
    unfold View at h1 h2
    obtain ⟨t1, rfl⟩ := h1
    cases h2
  | n + 1, .int i1, .int i2, u, h1, h2 => by
    unfold View at h1 h2
    obtain ⟨t1, rfl⟩ := h1
    obtain ⟨t2, e⟩ := h2
    cases e
    simp [eqwB]
  | n + 1, .int i1, .str z2, u, h1, h2 => by
    unfold View at h1 h2
    obtain ⟨t1, rfl⟩ := h1
    obtain ⟨t2, e⟩ := h2
    cases e
  | n + 1, .int i1, .tup xs2, u, h1, h2 => by
    unfold View at h1 h2
    obtain ⟨t1, rfl⟩ := h1
    obtain ⟨a2, us2, e2, L2, p2⟩ := h2
    cases e2
  | n + 1, .int i1, .lst xs2, u, h1, h2 => by
    unfold View at h1 h2
    obtain ⟨t1, rfl⟩ := h1
    obtain ⟨a2, us2, e2, L2, p2⟩ := h2
    cases e2
  | n + 1, .int i1, .dct [], u, h1, h2 => by
    unfold View at h1 h2
    obtain ⟨t1, rfl⟩ := h1
    obtain ⟨a2, e2, m2, D2, O2⟩ := h2
    cases e2
  | n + 1, .int i1, .dl1 pw2 k2 d2, u, h1, h2 => by
    unfold View at h1 h2
    obtain ⟨t1, rfl⟩ := h1
    obtain ⟨a2, v2, e2, m2, D2, O2, V2⟩ := h2
    cases e2
  | n + 1, .str z1, .non, u, h1, h2 => by
    unfold View at h1 h2
    obtain ⟨t1, rfl⟩ := h1
    cases h2
  | n + 1, .str z1, .bl b2, u, h1, h2 => by
    unfold View at h1 h2
    obtain ⟨t1, rfl⟩ := h1
    cases h2
  | n + 1, .str z1, .int i2, u, h1, h2 => by
    unfold View at h1 h2
    obtain ⟨t1, rfl⟩ := h1
    obtain ⟨t2, e⟩ := h2
    cases e
  | n + 1, .str z1, .str z2, u, h1, h2 => by
    unfold View at h1 h2
    obtain ⟨t1, rfl⟩ := h1
    obtain ⟨t2, e⟩ := h2
    cases e
    simp [eqwB]
  | n + 1, .str z1, .tup xs2, u, h1, h2 => by
    unfold View at h1 h2
    obtain ⟨t1, rfl⟩ := h1
    obtain ⟨a2, us2, e2, L2, p2⟩ := h2
    cases e2
  | n + 1, .str z1, .lst xs2, u, h1, h2 => by
    unfold View at h1 h2
    obtain ⟨t1, rfl⟩ := h1
    obtain ⟨a2, us2, e2, L2, p2⟩ := h2
    cases e2
  | n + 1, .str z1, .dct [], u, h1, h2 => by
    unfold View at h1 h2
    obtain ⟨t1, rfl⟩ := h1
    obtain ⟨a2, e2, m2, D2, O2⟩ := h2
    cases e2
  | n + 1, .str z1, .dl1 pw2 k2 d2, u, h1, h2 => by
    unfold View at h1 h2
    obtain ⟨t1, rfl⟩ := h1
    obtain ⟨a2, v2, e2, m2, D2, O2, V2⟩ := h2
    cases e2
  | n + 1, .tup xs1, .non, u, h1, h2 => by
    unfold View at h1 h2
    obtain ⟨a1, us1, rfl, L1, p1⟩ := h1
    cases h2
  | n + 1, .tup xs1, .bl b2, u, h1, h2 => by
    unfold View at h1 h2
    obtain ⟨a1, us1, rfl, L1, p1⟩ := h1
    cases h2
  | n + 1, .tup xs1, .int i2, u, h1, h2 => by
    unfold View at h1 h2
    obtain ⟨a1, us1, rfl, L1, p1⟩ := h1
    obtain ⟨t2, e⟩ := h2
    cases e
  | n + 1, .tup xs1, .str z2, u, h1, h2 => by
    unfold View at h1 h2
    obtain ⟨a1, us1, rfl, L1, p1⟩ := h1
    obtain ⟨t2, e⟩ := h2
    cases e
  | n + 1, .tup xs1, .tup xs2, u, h1, h2 => by
    unfold View at h1 h2
    obtain ⟨a1, us1, rfl, L1, p1⟩ := h1
    obtain ⟨a2, us2, e2, L2, p2⟩ := h2
    cases e2
    have e : us1 = us2 := by have := tup_one L1 L2; simpa using this
    subst e
    exact view_samL p1 p2
  | n + 1, .tup xs1, .lst xs2, u, h1, h2 => by
    unfold View at h1 h2
    obtain ⟨a1, us1, rfl, L1, p1⟩ := h1
    obtain ⟨a2, us2, e2, L2, p2⟩ := h2
    cases e2
    exact (ne_of_list_tuple L2 L1 rfl).elim
  | n + 1, .tup xs1, .dct [], u, h1, h2 => by
    unfold View at h1 h2
    obtain ⟨a1, us1, rfl, L1, p1⟩ := h1
    obtain ⟨a2, e2, m2, D2, O2⟩ := h2
    cases e2
    exact (dict_notup D2 L1).elim
  | n + 1, .tup xs1, .dl1 pw2 k2 d2, u, h1, h2 => by
    unfold View at h1 h2
    obtain ⟨a1, us1, rfl, L1, p1⟩ := h1
    obtain ⟨a2, v2, e2, m2, D2, O2, V2⟩ := h2
    cases e2
    exact (dict_notup D2 L1).elim
  | n + 1, .lst xs1, .non, u, h1, h2 => by
    unfold View at h1 h2
    obtain ⟨a1, us1, rfl, L1, p1⟩ := h1
    cases h2
  | n + 1, .lst xs1, .bl b2, u, h1, h2 => by
    unfold View at h1 h2
    obtain ⟨a1, us1, rfl, L1, p1⟩ := h1
    cases h2
  | n + 1, .lst xs1, .int i2, u, h1, h2 => by
    unfold View at h1 h2
    obtain ⟨a1, us1, rfl, L1, p1⟩ := h1
    obtain ⟨t2, e⟩ := h2
    cases e
  | n + 1, .lst xs1, .str z2, u, h1, h2 => by
    unfold View at h1 h2
    obtain ⟨a1, us1, rfl, L1, p1⟩ := h1
    obtain ⟨t2, e⟩ := h2
    cases e
  | n + 1, .lst xs1, .tup xs2, u, h1, h2 => by
    unfold View at h1 h2
    obtain ⟨a1, us1, rfl, L1, p1⟩ := h1
    obtain ⟨a2, us2, e2, L2, p2⟩ := h2
    cases e2
    exact (ne_of_list_tuple L1 L2 rfl).elim
  | n + 1, .lst xs1, .lst xs2, u, h1, h2 => by
    unfold View at h1 h2
    obtain ⟨a1, us1, rfl, L1, p1⟩ := h1
    obtain ⟨a2, us2, e2, L2, p2⟩ := h2
    cases e2
    have e : us1 = us2 := by have := lst_one L1 L2; simpa using this
    subst e
    exact view_samL p1 p2
  | n + 1, .lst xs1, .dct [], u, h1, h2 => by
    unfold View at h1 h2
    obtain ⟨a1, us1, rfl, L1, p1⟩ := h1
    obtain ⟨a2, e2, m2, D2, O2⟩ := h2
    cases e2
    exact (dict_nolist D2 L1).elim
  | n + 1, .lst xs1, .dl1 pw2 k2 d2, u, h1, h2 => by
    unfold View at h1 h2
    obtain ⟨a1, us1, rfl, L1, p1⟩ := h1
    obtain ⟨a2, v2, e2, m2, D2, O2, V2⟩ := h2
    cases e2
    exact (dict_nolist D2 L1).elim
  | n + 1, .dct [], .non, u, h1, h2 => by
    unfold View at h1 h2
    obtain ⟨a1, rfl, m1, D1, O1⟩ := h1
    cases h2
  | n + 1, .dct [], .bl b2, u, h1, h2 => by
    unfold View at h1 h2
    obtain ⟨a1, rfl, m1, D1, O1⟩ := h1
    cases h2
  | n + 1, .dct [], .int i2, u, h1, h2 => by
    unfold View at h1 h2
    obtain ⟨a1, rfl, m1, D1, O1⟩ := h1
    obtain ⟨t2, e⟩ := h2
    cases e
  | n + 1, .dct [], .str z2, u, h1, h2 => by
    unfold View at h1 h2
    obtain ⟨a1, rfl, m1, D1, O1⟩ := h1
    obtain ⟨t2, e⟩ := h2
    cases e
  | n + 1, .dct [], .tup xs2, u, h1, h2 => by
    unfold View at h1 h2
    obtain ⟨a1, rfl, m1, D1, O1⟩ := h1
    obtain ⟨a2, us2, e2, L2, p2⟩ := h2
    cases e2
    exact (dict_notup D1 L2).elim
  | n + 1, .dct [], .lst xs2, u, h1, h2 => by
    unfold View at h1 h2
    obtain ⟨a1, rfl, m1, D1, O1⟩ := h1
    obtain ⟨a2, us2, e2, L2, p2⟩ := h2
    cases e2
    exact (dict_nolist D1 L2).elim
  | n + 1, .dct [], .dct [], u, h1, h2 => by
    unfold View at h1 h2
    obtain ⟨a1, rfl, m1, D1, O1⟩ := h1
    obtain ⟨a2, e2, m2, D2, O2⟩ := h2
    cases e2
    rfl
  | n + 1, .dct [], .dl1 pw2 k2 d2, u, h1, h2 => by
    unfold View at h1 h2
    obtain ⟨a1, rfl, m1, D1, O1⟩ := h1
    obtain ⟨a2, v2, e2, m2, D2, O2, V2⟩ := h2
    cases e2
    exact absurd (dict_len O1 O2) (by simp)
  | n + 1, .dl1 pw1 k1 d1, .non, u, h1, h2 => by
    unfold View at h1 h2
    obtain ⟨a1, v1, rfl, m1, D1, O1, V1⟩ := h1
    cases h2
  | n + 1, .dl1 pw1 k1 d1, .bl b2, u, h1, h2 => by
    unfold View at h1 h2
    obtain ⟨a1, v1, rfl, m1, D1, O1, V1⟩ := h1
    cases h2
  | n + 1, .dl1 pw1 k1 d1, .int i2, u, h1, h2 => by
    unfold View at h1 h2
    obtain ⟨a1, v1, rfl, m1, D1, O1, V1⟩ := h1
    obtain ⟨t2, e⟩ := h2
    cases e
  | n + 1, .dl1 pw1 k1 d1, .str z2, u, h1, h2 => by
    unfold View at h1 h2
    obtain ⟨a1, v1, rfl, m1, D1, O1, V1⟩ := h1
    obtain ⟨t2, e⟩ := h2
    cases e
  | n + 1, .dl1 pw1 k1 d1, .tup xs2, u, h1, h2 => by
    unfold View at h1 h2
    obtain ⟨a1, v1, rfl, m1, D1, O1, V1⟩ := h1
    obtain ⟨a2, us2, e2, L2, p2⟩ := h2
    cases e2
    exact (dict_notup D1 L2).elim
  | n + 1, .dl1 pw1 k1 d1, .lst xs2, u, h1, h2 => by
    unfold View at h1 h2
    obtain ⟨a1, v1, rfl, m1, D1, O1, V1⟩ := h1
    obtain ⟨a2, us2, e2, L2, p2⟩ := h2
    cases e2
    exact (dict_nolist D1 L2).elim
  | n + 1, .dl1 pw1 k1 d1, .dct [], u, h1, h2 => by
    unfold View at h1 h2
    obtain ⟨a1, v1, rfl, m1, D1, O1, V1⟩ := h1
    obtain ⟨a2, e2, m2, D2, O2⟩ := h2
    cases e2
    exact absurd (dict_len O1 O2) (by simp)
  | n + 1, .dl1 pw1 k1 d1, .dl1 pw2 k2 d2, u, h1, h2 => by
    unfold View at h1 h2
    obtain ⟨a1, v1, rfl, m1, D1, O1, V1⟩ := h1
    obtain ⟨a2, v2, e2, m2, D2, O2, V2⟩ := h2
    cases e2
    obtain ⟨ek, ev⟩ := dict_uniq O1 O2
    subst ev
    show (decide (k1 = k2) && eqwB n d1 d2) = true
    rw [decide_eq_true (toLeaf_inj ek), view_same V1 V2]
    rfl
  | 0, _, _, _, h, _ => h.elim
  | _ + 1, .scr _, _, _, h, _ => h.elim
  | _ + 1, .fn _, _, _, h, _ => h.elim
  | _ + 1, .exc _ _, _, _, h, _ => h.elim
  | _ + 1, .clo _ _, _, _, h, _ => h.elim
  | _ + 1, .dcf _, _, _, h, _ => h.elim
  | _ + 1, .err _ _ _, _, _, h, _ => h.elim
  | _ + 1, .dct (_ :: _), _, _, h, _ => h.elim
  | _ + 1, _, .scr _, _, _, h => h.elim
  | _ + 1, _, .fn _, _, _, h => h.elim
  | _ + 1, _, .exc _ _, _, _, h => h.elim
  | _ + 1, _, .clo _ _, _, _, h => h.elim
  | _ + 1, _, .dcf _, _, _, h => h.elim
  | _ + 1, _, .err _ _ _, _, _, h => h.elim
  | _ + 1, _, .dct (_ :: _), _, _, h => h.elim
theorem view_samL : ∀ {n : Nat} {xs ys : List D} {us : List Value}, Paired (View P w s n) xs us → Paired (View P w s n) ys us → eqwL n xs ys = true
  | _, [], [], _, _, _ => by simp [eqwL]
  | _, [], _ :: _, _, .nil, h => nomatch h
  | _, _ :: _, [], _, h, .nil => nomatch h
  | n, x :: xs, y :: ys, _, .cons a p, .cons b q => by
    show (eqwB n x y && eqwL n xs ys) = true
    rw [view_same a b, view_samL p q]
    rfl
end
theorem range_all {f : Nat → Bool} (n : Nat) : (List.range (n + 1)).all f = (f 0 && (List.range n).all fun j => f (j + 1)) := by
  rw [List.range_succ_eq_map, List.all_cons, List.all_map]
  rfl
theorem eqwL_range (n : Nat) : ∀ xs ys : List D, ((List.range (min xs.length ys.length)).all (fun j => eqwB n (xs.getD j .non) (ys.getD j .non)) && xs.length == ys.length) = eqwL n xs ys
  | [], [] => by simp [eqwL]
  | [], y :: ys => by simp [eqwL]
  | x :: xs, [] => by simp [eqwL]
  | x :: xs, y :: ys => by
    have ih := eqwL_range n xs ys
    show _ = (eqwB n x y && eqwL n xs ys)
    rw [← ih, List.length_cons, List.length_cons, Nat.succ_min_succ, range_all]
    simp [Bool.and_assoc]
theorem paired_at {n : Nat} : ∀ {xs : List D} {us : List Value} {j : Nat}, Paired (View P w s n) xs us → (h : j < us.length) → View P w s n (xs.getD j .non) us[j]
  | _, _, 0, .cons a p, _ => a
  | _, _, j + 1, .cons a p, h => by
    have := paired_at (j := j) p (Nat.lt_of_succ_lt_succ h)
    simpa using this
theorem paired_lenV {n : Nat} : ∀ {xs : List D} {us : List Value}, Paired (View P w s n) xs us → xs.length = us.length
  | _, _, .nil => rfl
  | _, _, .cons _ p => congrArg (· + 1) (paired_lenV p)
theorem leaf_val {k l : Option Key} {v : Value} : valueAt [(toLeaf l, v)] (toLeaf k) = if k = l then some v else none := by
  unfold valueAt
  rw [List.find?_cons]
  by_cases e : k = l
  · subst e
    simp
  · rw [if_neg e, decide_eq_false fun z => e (toLeaf_inj z).symm]
    rfl
theorem eqw_dl (n : Nat) (p q : Int) (k l : Option Key) (d e : D) (v u : Value) : ([(toLeaf k, v)].length == [(toLeaf l, u)].length && [(toLeaf k, v)].all fun r => (valueAt [(toLeaf l, u)] r.1).isSome && eqwB n d e) = eqwB (n + 1) (.dl1 p k d) (.dl1 q l e) := by
  show (true && ((valueAt [(toLeaf l, u)] (toLeaf k)).isSome && eqwB n d e && true)) = (decide (k = l) && eqwB n d e)
  rw [leaf_val]
  by_cases z : k = l
  · rw [if_pos z, decide_eq_true z]
    simp
  · rw [if_neg z, decide_eq_false z]
    simp
theorem view_tree : ∀ {n : Nat} {x y : D} {u v : Value}, View P w s n x u → View P w s n y v → EqTree P w s n u v (eqwB n x y)
  | n + 1, .non, .non, u, v, h1, h2 => by
    unfold View at h1 h2
    obtain rfl := h1
    obtain rfl := h2
    exact .same
  | n + 1, .non, .bl b2, u, v, h1, h2 => by
    unfold View at h1 h2
    obtain rfl := h1
    obtain rfl := h2
    exact .leaf fun A _ => EqAt.none_bool b2
  | n + 1, .non, .int i2, u, v, h1, h2 => by
    unfold View at h1 h2
    obtain rfl := h1
    obtain ⟨t2, rfl⟩ := h2
    exact .leaf fun A _ => EqAt.none_int i2 t2
  | n + 1, .non, .str z2, u, v, h1, h2 => by
    unfold View at h1 h2
    obtain rfl := h1
    obtain ⟨t2, rfl⟩ := h2
    exact .leaf fun A _ => EqAt.none_str z2 t2
  | n + 1, .non, .tup xs2, u, v, h1, h2 => by
    unfold View at h1 h2
    obtain rfl := h1
    obtain ⟨a2, us2, rfl, L2, p2⟩ := h2
    exact .leaf fun A hu => EqAt.none_tuple L2 (by omega)
  | n + 1, .non, .lst xs2, u, v, h1, h2 => by
    unfold View at h1 h2
    obtain rfl := h1
    obtain ⟨a2, us2, rfl, L2, p2⟩ := h2
    exact .leaf fun A hu => EqAt.none_list L2 (by omega)
  | n + 1, .non, .dct [], u, v, h1, h2 => by
    unfold View at h1 h2
    obtain rfl := h1
    obtain ⟨a2, rfl, m2, D2, O2⟩ := h2
    exact .leaf fun A hu => none_dict D2 (by omega)
  | n + 1, .non, .dl1 pw2 k2 d2, u, v, h1, h2 => by
    unfold View at h1 h2
    obtain rfl := h1
    obtain ⟨a2, v2, rfl, m2, D2, O2, V2⟩ := h2
    exact .leaf fun A hu => none_dict D2 (by omega)
  | n + 1, .bl b1, .non, u, v, h1, h2 => by
    unfold View at h1 h2
    obtain rfl := h1
    obtain rfl := h2
    exact .leaf fun A _ => EqAt.bool_none b1
  | n + 1, .bl b1, .bl b2, u, v, h1, h2 => by
    unfold View at h1 h2
    obtain rfl := h1
    obtain rfl := h2
    exact .leaf fun A _ => EqAt.bool_bool b1 b2
  | n + 1, .bl b1, .int i2, u, v, h1, h2 => by
    unfold View at h1 h2
    obtain rfl := h1
    obtain ⟨t2, rfl⟩ := h2
    exact .leaf fun A _ => EqAt.bool_int b1 i2 t2
  | n + 1, .bl b1, .str z2, u, v, h1, h2 => by
    unfold View at h1 h2
    obtain rfl := h1
    obtain ⟨t2, rfl⟩ := h2
    exact .leaf fun A _ => EqAt.bool_str b1 z2 t2
  | n + 1, .bl b1, .tup xs2, u, v, h1, h2 => by
    unfold View at h1 h2
    obtain rfl := h1
    obtain ⟨a2, us2, rfl, L2, p2⟩ := h2
    exact .leaf fun A hu => EqAt.bool_tuple b1 L2 (by omega)
  | n + 1, .bl b1, .lst xs2, u, v, h1, h2 => by
    unfold View at h1 h2
    obtain rfl := h1
    obtain ⟨a2, us2, rfl, L2, p2⟩ := h2
    exact .leaf fun A hu => EqAt.bool_list b1 L2 (by omega)
  | n + 1, .bl b1, .dct [], u, v, h1, h2 => by
    unfold View at h1 h2
    obtain rfl := h1
    obtain ⟨a2, rfl, m2, D2, O2⟩ := h2
    exact .leaf fun A hu => bool_dict b1 D2 (by omega)
  | n + 1, .bl b1, .dl1 pw2 k2 d2, u, v, h1, h2 => by
    unfold View at h1 h2
    obtain rfl := h1
    obtain ⟨a2, v2, rfl, m2, D2, O2, V2⟩ := h2
    exact .leaf fun A hu => bool_dict b1 D2 (by omega)
  | n + 1, .int i1, .non, u, v, h1, h2 => by
    unfold View at h1 h2
    obtain ⟨t1, rfl⟩ := h1
    obtain rfl := h2
    exact .leaf fun A _ => EqAt.int_none i1 t1
  | n + 1, .int i1, .bl b2, u, v, h1, h2 => by
    unfold View at h1 h2
    obtain ⟨t1, rfl⟩ := h1
    obtain rfl := h2
    exact .leaf fun A _ => EqAt.int_bool i1 t1 b2
  | n + 1, .int i1, .int i2, u, v, h1, h2 => by
    unfold View at h1 h2
    obtain ⟨t1, rfl⟩ := h1
    obtain ⟨t2, rfl⟩ := h2
    exact .leaf fun A _ => EqAt.int_int i1 t1 i2 t2
  | n + 1, .int i1, .str z2, u, v, h1, h2 => by
    unfold View at h1 h2
    obtain ⟨t1, rfl⟩ := h1
    obtain ⟨t2, rfl⟩ := h2
    exact .leaf fun A _ => EqAt.int_str i1 t1 z2 t2
  | n + 1, .int i1, .tup xs2, u, v, h1, h2 => by
    unfold View at h1 h2
    obtain ⟨t1, rfl⟩ := h1
    obtain ⟨a2, us2, rfl, L2, p2⟩ := h2
    exact .leaf fun A hu => EqAt.int_tuple i1 t1 L2 (by omega)
  | n + 1, .int i1, .lst xs2, u, v, h1, h2 => by
    unfold View at h1 h2
    obtain ⟨t1, rfl⟩ := h1
    obtain ⟨a2, us2, rfl, L2, p2⟩ := h2
    exact .leaf fun A hu => EqAt.int_list i1 t1 L2 (by omega)
  | n + 1, .int i1, .dct [], u, v, h1, h2 => by
    unfold View at h1 h2
    obtain ⟨t1, rfl⟩ := h1
    obtain ⟨a2, rfl, m2, D2, O2⟩ := h2
    exact .leaf fun A hu => int_dict i1 t1 D2 (by omega)
  | n + 1, .int i1, .dl1 pw2 k2 d2, u, v, h1, h2 => by
    unfold View at h1 h2
    obtain ⟨t1, rfl⟩ := h1
    obtain ⟨a2, v2, rfl, m2, D2, O2, V2⟩ := h2
    exact .leaf fun A hu => int_dict i1 t1 D2 (by omega)
  | n + 1, .str z1, .non, u, v, h1, h2 => by
    unfold View at h1 h2
    obtain ⟨t1, rfl⟩ := h1
    obtain rfl := h2
    exact .leaf fun A _ => EqAt.str_none z1 t1
  | n + 1, .str z1, .bl b2, u, v, h1, h2 => by
    unfold View at h1 h2
    obtain ⟨t1, rfl⟩ := h1
    obtain rfl := h2
    exact .leaf fun A _ => EqAt.str_bool z1 t1 b2
  | n + 1, .str z1, .int i2, u, v, h1, h2 => by
    unfold View at h1 h2
    obtain ⟨t1, rfl⟩ := h1
    obtain ⟨t2, rfl⟩ := h2
    exact .leaf fun A _ => EqAt.str_int z1 t1 i2 t2
  | n + 1, .str z1, .str z2, u, v, h1, h2 => by
    unfold View at h1 h2
    obtain ⟨t1, rfl⟩ := h1
    obtain ⟨t2, rfl⟩ := h2
    exact .leaf fun A _ => EqAt.str_str z1 t1 z2 t2
  | n + 1, .str z1, .tup xs2, u, v, h1, h2 => by
    unfold View at h1 h2
    obtain ⟨t1, rfl⟩ := h1
    obtain ⟨a2, us2, rfl, L2, p2⟩ := h2
    exact .leaf fun A hu => EqAt.str_tuple z1 t1 L2 (by omega)
  | n + 1, .str z1, .lst xs2, u, v, h1, h2 => by
    unfold View at h1 h2
    obtain ⟨t1, rfl⟩ := h1
    obtain ⟨a2, us2, rfl, L2, p2⟩ := h2
    exact .leaf fun A hu => EqAt.str_list z1 t1 L2 (by omega)
  | n + 1, .str z1, .dct [], u, v, h1, h2 => by
    unfold View at h1 h2
    obtain ⟨t1, rfl⟩ := h1
    obtain ⟨a2, rfl, m2, D2, O2⟩ := h2
    exact .leaf fun A hu => str_dict z1 t1 D2 (by omega)
  | n + 1, .str z1, .dl1 pw2 k2 d2, u, v, h1, h2 => by
    unfold View at h1 h2
    obtain ⟨t1, rfl⟩ := h1
    obtain ⟨a2, v2, rfl, m2, D2, O2, V2⟩ := h2
    exact .leaf fun A hu => str_dict z1 t1 D2 (by omega)
  | n + 1, .tup xs1, .non, u, v, h1, h2 => by
    unfold View at h1 h2
    obtain ⟨a1, us1, rfl, L1, p1⟩ := h1
    obtain rfl := h2
    exact .leaf fun A hu => EqAt.tuple_none L1 (by omega)
  | n + 1, .tup xs1, .bl b2, u, v, h1, h2 => by
    unfold View at h1 h2
    obtain ⟨a1, us1, rfl, L1, p1⟩ := h1
    obtain rfl := h2
    exact .leaf fun A hu => EqAt.tuple_bool b2 L1 (by omega)
  | n + 1, .tup xs1, .int i2, u, v, h1, h2 => by
    unfold View at h1 h2
    obtain ⟨a1, us1, rfl, L1, p1⟩ := h1
    obtain ⟨t2, rfl⟩ := h2
    exact .leaf fun A hu => EqAt.tuple_int i2 t2 L1 (by omega)
  | n + 1, .tup xs1, .str z2, u, v, h1, h2 => by
    unfold View at h1 h2
    obtain ⟨a1, us1, rfl, L1, p1⟩ := h1
    obtain ⟨t2, rfl⟩ := h2
    exact .leaf fun A hu => EqAt.tuple_str z2 t2 L1 (by omega)
  | n + 1, .tup xs1, .tup xs2, u, v, h1, h2 => by
    have hv1 := h1
    have hv2 := h2
    unfold View at h1 h2
    obtain ⟨a1, us1, rfl, L1, p1⟩ := h1
    obtain ⟨a2, us2, rfl, L2, p2⟩ := h2
    by_cases ea : a1 = a2
    · subst ea
      rw [view_same hv1 hv2]
      exact .same
    · have t := EqTree.tuples (n := n) (e := fun j => eqwB n (xs1.getD j .non) (xs2.getD j .non)) ea L1 L2 fun j k1 k2 => by
        have k1 : j < us1.length := by simpa using k1
        have k2 : j < us2.length := by simpa using k2
        simpa using view_tree (paired_at p1 k1) (paired_at p2 k2)
      rw [List.size_toArray, List.size_toArray, ← paired_lenV p1, ← paired_lenV p2, eqwL_range] at t
      exact t
  | n + 1, .tup xs1, .lst xs2, u, v, h1, h2 => by
    unfold View at h1 h2
    obtain ⟨a1, us1, rfl, L1, p1⟩ := h1
    obtain ⟨a2, us2, rfl, L2, p2⟩ := h2
    exact .leaf fun A hu => EqAt.tuple_list L1 L2 (by omega)
  | n + 1, .tup xs1, .dct [], u, v, h1, h2 => by
    unfold View at h1 h2
    obtain ⟨a1, us1, rfl, L1, p1⟩ := h1
    obtain ⟨a2, rfl, m2, D2, O2⟩ := h2
    exact .leaf fun A hu => tuple_dict D2 L1 (by omega)
  | n + 1, .tup xs1, .dl1 pw2 k2 d2, u, v, h1, h2 => by
    unfold View at h1 h2
    obtain ⟨a1, us1, rfl, L1, p1⟩ := h1
    obtain ⟨a2, v2, rfl, m2, D2, O2, V2⟩ := h2
    exact .leaf fun A hu => tuple_dict D2 L1 (by omega)
  | n + 1, .lst xs1, .non, u, v, h1, h2 => by
    unfold View at h1 h2
    obtain ⟨a1, us1, rfl, L1, p1⟩ := h1
    obtain rfl := h2
    exact .leaf fun A hu => EqAt.list_none L1 (by omega)
  | n + 1, .lst xs1, .bl b2, u, v, h1, h2 => by
    unfold View at h1 h2
    obtain ⟨a1, us1, rfl, L1, p1⟩ := h1
    obtain rfl := h2
    exact .leaf fun A hu => EqAt.list_bool b2 L1 (by omega)
  | n + 1, .lst xs1, .int i2, u, v, h1, h2 => by
    unfold View at h1 h2
    obtain ⟨a1, us1, rfl, L1, p1⟩ := h1
    obtain ⟨t2, rfl⟩ := h2
    exact .leaf fun A hu => EqAt.list_int i2 t2 L1 (by omega)
  | n + 1, .lst xs1, .str z2, u, v, h1, h2 => by
    unfold View at h1 h2
    obtain ⟨a1, us1, rfl, L1, p1⟩ := h1
    obtain ⟨t2, rfl⟩ := h2
    exact .leaf fun A hu => EqAt.list_str z2 t2 L1 (by omega)
  | n + 1, .lst xs1, .tup xs2, u, v, h1, h2 => by
    unfold View at h1 h2
    obtain ⟨a1, us1, rfl, L1, p1⟩ := h1
    obtain ⟨a2, us2, rfl, L2, p2⟩ := h2
    exact .leaf fun A hu => EqAt.list_tuple L1 L2 (by omega)
  | n + 1, .lst xs1, .lst xs2, u, v, h1, h2 => by
    have hv1 := h1
    have hv2 := h2
    unfold View at h1 h2
    obtain ⟨a1, us1, rfl, L1, p1⟩ := h1
    obtain ⟨a2, us2, rfl, L2, p2⟩ := h2
    by_cases ea : a1 = a2
    · subst ea
      rw [view_same hv1 hv2]
      exact .same
    · by_cases el : us1.length = us2.length
      · have t := EqTree.lists (n := n) (e := fun j => eqwB n (xs1.getD j .non) (xs2.getD j .non)) ea L1 L2 (by simpa using el) fun j k1 k2 => by
          have k1 : j < us1.length := by simpa using k1
          have k2 : j < us2.length := by simpa using k2
          simpa using view_tree (paired_at p1 k1) (paired_at p2 k2)
        have z := eqwL_range n xs1 xs2
        rw [paired_lenV p1, paired_lenV p2, ← el, Nat.min_self, beq_self_eq_true, Bool.and_true] at z
        rw [List.size_toArray, z] at t
        exact t
      · have t := EqTree.listsLen (prog := P) (w := w) (n := n) ea L1 L2 (by simpa using el)
        have z := eqwL_range n xs1 xs2
        rw [paired_lenV p1, paired_lenV p2, show (us1.length == us2.length) = false by simpa using el, Bool.and_false] at z
        rw [z] at t
        exact t
  | n + 1, .lst xs1, .dct [], u, v, h1, h2 => by
    unfold View at h1 h2
    obtain ⟨a1, us1, rfl, L1, p1⟩ := h1
    obtain ⟨a2, rfl, m2, D2, O2⟩ := h2
    exact .leaf fun A hu => list_dict D2 L1 (by omega)
  | n + 1, .lst xs1, .dl1 pw2 k2 d2, u, v, h1, h2 => by
    unfold View at h1 h2
    obtain ⟨a1, us1, rfl, L1, p1⟩ := h1
    obtain ⟨a2, v2, rfl, m2, D2, O2, V2⟩ := h2
    exact .leaf fun A hu => list_dict D2 L1 (by omega)
  | n + 1, .dct [], .non, u, v, h1, h2 => by
    unfold View at h1 h2
    obtain ⟨a1, rfl, m1, D1, O1⟩ := h1
    obtain rfl := h2
    exact .leaf fun A hu => dict_none D1 (by omega)
  | n + 1, .dct [], .bl b2, u, v, h1, h2 => by
    unfold View at h1 h2
    obtain ⟨a1, rfl, m1, D1, O1⟩ := h1
    obtain rfl := h2
    exact .leaf fun A hu => dict_bool b2 D1 (by omega)
  | n + 1, .dct [], .int i2, u, v, h1, h2 => by
    unfold View at h1 h2
    obtain ⟨a1, rfl, m1, D1, O1⟩ := h1
    obtain ⟨t2, rfl⟩ := h2
    exact .leaf fun A hu => dict_int i2 t2 D1 (by omega)
  | n + 1, .dct [], .str z2, u, v, h1, h2 => by
    unfold View at h1 h2
    obtain ⟨a1, rfl, m1, D1, O1⟩ := h1
    obtain ⟨t2, rfl⟩ := h2
    exact .leaf fun A hu => dict_str z2 t2 D1 (by omega)
  | n + 1, .dct [], .tup xs2, u, v, h1, h2 => by
    unfold View at h1 h2
    obtain ⟨a1, rfl, m1, D1, O1⟩ := h1
    obtain ⟨a2, us2, rfl, L2, p2⟩ := h2
    exact .leaf fun A hu => dict_tuple D1 L2 (by omega)
  | n + 1, .dct [], .lst xs2, u, v, h1, h2 => by
    unfold View at h1 h2
    obtain ⟨a1, rfl, m1, D1, O1⟩ := h1
    obtain ⟨a2, us2, rfl, L2, p2⟩ := h2
    exact .leaf fun A hu => dict_list D1 L2 (by omega)
  | n + 1, .dct [], .dct [], u, v, h1, h2 => by
    have hv1 := h1
    have hv2 := h2
    unfold View at h1 h2
    obtain ⟨a1, rfl, m1, D1, O1⟩ := h1
    obtain ⟨a2, rfl, m2, D2, O2⟩ := h2
    by_cases ea : a1 = a2
    · subst ea
      rw [view_same hv1 hv2]
      exact .same
    · exact EqTree.dicts (knd := PySem.leafKind P w) (e := fun _ => true) ea m1 m2 O1 O2 fun k v y h _ => nomatch h
  | n + 1, .dct [], .dl1 pw2 k2 d2, u, v, h1, h2 => by
    have hv1 := h1
    have hv2 := h2
    unfold View at h1 h2
    obtain ⟨a1, rfl, m1, D1, O1⟩ := h1
    obtain ⟨a2, v2, rfl, m2, D2, O2, V2⟩ := h2
    by_cases ea : a1 = a2
    · subst ea
      rw [view_same hv1 hv2]
      exact .same
    · exact EqTree.dicts (knd := PySem.leafKind P w) (e := fun _ => true) ea m1 m2 O1 O2 fun k v y h _ => nomatch h
  | n + 1, .dl1 pw1 k1 d1, .non, u, v, h1, h2 => by
    unfold View at h1 h2
    obtain ⟨a1, v1, rfl, m1, D1, O1, V1⟩ := h1
    obtain rfl := h2
    exact .leaf fun A hu => dict_none D1 (by omega)
  | n + 1, .dl1 pw1 k1 d1, .bl b2, u, v, h1, h2 => by
    unfold View at h1 h2
    obtain ⟨a1, v1, rfl, m1, D1, O1, V1⟩ := h1
    obtain rfl := h2
    exact .leaf fun A hu => dict_bool b2 D1 (by omega)
  | n + 1, .dl1 pw1 k1 d1, .int i2, u, v, h1, h2 => by
    unfold View at h1 h2
    obtain ⟨a1, v1, rfl, m1, D1, O1, V1⟩ := h1
    obtain ⟨t2, rfl⟩ := h2
    exact .leaf fun A hu => dict_int i2 t2 D1 (by omega)
  | n + 1, .dl1 pw1 k1 d1, .str z2, u, v, h1, h2 => by
    unfold View at h1 h2
    obtain ⟨a1, v1, rfl, m1, D1, O1, V1⟩ := h1
    obtain ⟨t2, rfl⟩ := h2
    exact .leaf fun A hu => dict_str z2 t2 D1 (by omega)
  | n + 1, .dl1 pw1 k1 d1, .tup xs2, u, v, h1, h2 => by
    unfold View at h1 h2
    obtain ⟨a1, v1, rfl, m1, D1, O1, V1⟩ := h1
    obtain ⟨a2, us2, rfl, L2, p2⟩ := h2
    exact .leaf fun A hu => dict_tuple D1 L2 (by omega)
  | n + 1, .dl1 pw1 k1 d1, .lst xs2, u, v, h1, h2 => by
    unfold View at h1 h2
    obtain ⟨a1, v1, rfl, m1, D1, O1, V1⟩ := h1
    obtain ⟨a2, us2, rfl, L2, p2⟩ := h2
    exact .leaf fun A hu => dict_list D1 L2 (by omega)
  | n + 1, .dl1 pw1 k1 d1, .dct [], u, v, h1, h2 => by
    have hv1 := h1
    have hv2 := h2
    unfold View at h1 h2
    obtain ⟨a1, v1, rfl, m1, D1, O1, V1⟩ := h1
    obtain ⟨a2, rfl, m2, D2, O2⟩ := h2
    by_cases ea : a1 = a2
    · subst ea
      rw [view_same hv1 hv2]
      exact .same
    · exact EqTree.dicts (knd := PySem.leafKind P w) (e := fun _ => true) ea m1 m2 O1 O2 fun k v y h z => nomatch z
  | n + 1, .dl1 pw1 k1 d1, .dl1 pw2 k2 d2, u, v, h1, h2 => by
    have hv1 := h1
    have hv2 := h2
    unfold View at h1 h2
    obtain ⟨a1, v1, rfl, m1, D1, O1, V1⟩ := h1
    obtain ⟨a2, v2, rfl, m2, D2, O2, V2⟩ := h2
    by_cases ea : a1 = a2
    · subst ea
      rw [view_same hv1 hv2]
      exact .same
    · have t := EqTree.dicts (knd := PySem.leafKind P w) (n := n) (e := fun _ => eqwB n d1 d2) ea m1 m2 O1 O2 fun k v y h z => by
        rw [List.mem_singleton] at h
        cases h
        rw [leaf_val] at z
        split at z
        · cases z
          exact view_tree V1 V2
        · cases z
      rw [eqw_dl n pw1 pw2 k1 k2 d1 d2 v1 v2] at t
      exact t
  | 0, _, _, _, _, h, _ => h.elim
  | _ + 1, .scr _, _, _, _, h, _ => h.elim
  | _ + 1, .fn _, _, _, _, h, _ => h.elim
  | _ + 1, .exc _ _, _, _, _, h, _ => h.elim
  | _ + 1, .clo _ _, _, _, _, h, _ => h.elim
  | _ + 1, .dcf _, _, _, _, h, _ => h.elim
  | _ + 1, .err _ _ _, _, _, _, h, _ => h.elim
  | _ + 1, .dct (_ :: _), _, _, _, h, _ => h.elim
  | _ + 1, _, .scr _, _, _, _, h => h.elim
  | _ + 1, _, .fn _, _, _, _, h => h.elim
  | _ + 1, _, .exc _ _, _, _, _, h => h.elim
  | _ + 1, _, .clo _ _, _, _, _, h => h.elim
  | _ + 1, _, .dcf _, _, _, _, h => h.elim
  | _ + 1, _, .err _ _ _, _, _, _, h => h.elim
  | _ + 1, _, .dct (_ :: _), _, _, _, h => h.elim
theorem view_rc {A : Around} {E : Value → Shared → Prop} : ∀ {n : Nat} {x y : D} {u v : Value}, View P w s n x u → View P w s n y v → A.units + n < cLine → (Q : Value → Shared → Prop) → Q (.bool (eqwB n x y)) s → wpAny (model P w) A (richCompare .Eq u v) Q E s
  | n + 1, .non, .non, u, v, h1, h2, hu, Q, hq => by
    unfold View at h1 h2
    obtain rfl := h1
    obtain rfl := h2
    exact RcAt.none_none P w _ Q hq
  | n + 1, .non, .bl b2, u, v, h1, h2, hu, Q, hq => by
    unfold View at h1 h2
    obtain rfl := h1
    obtain rfl := h2
    exact RcAt.none_bool b2 P w _ Q hq
  | n + 1, .non, .int i2, u, v, h1, h2, hu, Q, hq => by
    unfold View at h1 h2
    obtain rfl := h1
    obtain ⟨t2, rfl⟩ := h2
    exact RcAt.none_int i2 t2 P w _ Q hq
  | n + 1, .non, .str z2, u, v, h1, h2, hu, Q, hq => by
    unfold View at h1 h2
    obtain rfl := h1
    obtain ⟨t2, rfl⟩ := h2
    exact RcAt.none_str z2 t2 P w _ Q hq
  | n + 1, .non, .tup xs2, u, v, h1, h2, hu, Q, hq => by
    unfold View at h1 h2
    obtain rfl := h1
    obtain ⟨a2, us2, rfl, L2, p2⟩ := h2
    exact RcAt.none_tuple L2 (Nat.lt_of_le_of_lt (Nat.le_add_right _ _) hu) P w _ Q hq
  | n + 1, .non, .lst xs2, u, v, h1, h2, hu, Q, hq => by
    unfold View at h1 h2
    obtain rfl := h1
    obtain ⟨a2, us2, rfl, L2, p2⟩ := h2
    exact RcAt.none_list L2 (Nat.lt_of_le_of_lt (Nat.le_add_right _ _) hu) P w _ Q hq
  | n + 1, .non, .dct [], u, v, h1, h2, hu, Q, hq => by
    unfold View at h1 h2
    obtain rfl := h1
    obtain ⟨a2, rfl, m2, D2, O2⟩ := h2
    exact rcnone_D D2 (Nat.lt_of_le_of_lt (Nat.le_add_right _ _) hu) P w _ Q hq
  | n + 1, .non, .dl1 pw2 k2 d2, u, v, h1, h2, hu, Q, hq => by
    unfold View at h1 h2
    obtain rfl := h1
    obtain ⟨a2, v2, rfl, m2, D2, O2, V2⟩ := h2
    exact rcnone_D D2 (Nat.lt_of_le_of_lt (Nat.le_add_right _ _) hu) P w _ Q hq
  | n + 1, .bl b1, .non, u, v, h1, h2, hu, Q, hq => by
    unfold View at h1 h2
    obtain rfl := h1
    obtain rfl := h2
    exact RcAt.bool_none b1 P w _ Q hq
  | n + 1, .bl b1, .bl b2, u, v, h1, h2, hu, Q, hq => by
    unfold View at h1 h2
    obtain rfl := h1
    obtain rfl := h2
    exact RcAt.bool_bool b1 b2 P w _ Q hq
  | n + 1, .bl b1, .int i2, u, v, h1, h2, hu, Q, hq => by
    unfold View at h1 h2
    obtain rfl := h1
    obtain ⟨t2, rfl⟩ := h2
    exact RcAt.bool_int b1 i2 t2 P w _ Q hq
  | n + 1, .bl b1, .str z2, u, v, h1, h2, hu, Q, hq => by
    unfold View at h1 h2
    obtain rfl := h1
    obtain ⟨t2, rfl⟩ := h2
    exact RcAt.bool_str b1 z2 t2 P w _ Q hq
  | n + 1, .bl b1, .tup xs2, u, v, h1, h2, hu, Q, hq => by
    unfold View at h1 h2
    obtain rfl := h1
    obtain ⟨a2, us2, rfl, L2, p2⟩ := h2
    exact RcAt.bool_tuple b1 L2 (Nat.lt_of_le_of_lt (Nat.le_add_right _ _) hu) P w _ Q hq
  | n + 1, .bl b1, .lst xs2, u, v, h1, h2, hu, Q, hq => by
    unfold View at h1 h2
    obtain rfl := h1
    obtain ⟨a2, us2, rfl, L2, p2⟩ := h2
    exact RcAt.bool_list b1 L2 (Nat.lt_of_le_of_lt (Nat.le_add_right _ _) hu) P w _ Q hq
  | n + 1, .bl b1, .dct [], u, v, h1, h2, hu, Q, hq => by
    unfold View at h1 h2
    obtain rfl := h1
    obtain ⟨a2, rfl, m2, D2, O2⟩ := h2
    exact rcbool_D b1 D2 (Nat.lt_of_le_of_lt (Nat.le_add_right _ _) hu) P w _ Q hq
  | n + 1, .bl b1, .dl1 pw2 k2 d2, u, v, h1, h2, hu, Q, hq => by
    unfold View at h1 h2
    obtain rfl := h1
    obtain ⟨a2, v2, rfl, m2, D2, O2, V2⟩ := h2
    exact rcbool_D b1 D2 (Nat.lt_of_le_of_lt (Nat.le_add_right _ _) hu) P w _ Q hq
  | n + 1, .int i1, .non, u, v, h1, h2, hu, Q, hq => by
    unfold View at h1 h2
    obtain ⟨t1, rfl⟩ := h1
    obtain rfl := h2
    exact RcAt.int_none i1 t1 P w _ Q hq
  | n + 1, .int i1, .bl b2, u, v, h1, h2, hu, Q, hq => by
    unfold View at h1 h2
    obtain ⟨t1, rfl⟩ := h1
    obtain rfl := h2
    exact RcAt.int_bool i1 t1 b2 P w _ Q hq
  | n + 1, .int i1, .int i2, u, v, h1, h2, hu, Q, hq => by
    unfold View at h1 h2
    obtain ⟨t1, rfl⟩ := h1
    obtain ⟨t2, rfl⟩ := h2
    exact RcAt.int_int i1 t1 i2 t2 P w _ Q hq
  | n + 1, .int i1, .str z2, u, v, h1, h2, hu, Q, hq => by
    unfold View at h1 h2
    obtain ⟨t1, rfl⟩ := h1
    obtain ⟨t2, rfl⟩ := h2
    exact RcAt.int_str i1 t1 z2 t2 P w _ Q hq
  | n + 1, .int i1, .tup xs2, u, v, h1, h2, hu, Q, hq => by
    unfold View at h1 h2
    obtain ⟨t1, rfl⟩ := h1
    obtain ⟨a2, us2, rfl, L2, p2⟩ := h2
    exact RcAt.int_tuple i1 t1 L2 (Nat.lt_of_le_of_lt (Nat.le_add_right _ _) hu) P w _ Q hq
  | n + 1, .int i1, .lst xs2, u, v, h1, h2, hu, Q, hq => by
    unfold View at h1 h2
    obtain ⟨t1, rfl⟩ := h1
    obtain ⟨a2, us2, rfl, L2, p2⟩ := h2
    exact RcAt.int_list i1 t1 L2 (Nat.lt_of_le_of_lt (Nat.le_add_right _ _) hu) P w _ Q hq
  | n + 1, .int i1, .dct [], u, v, h1, h2, hu, Q, hq => by
    unfold View at h1 h2
    obtain ⟨t1, rfl⟩ := h1
    obtain ⟨a2, rfl, m2, D2, O2⟩ := h2
    exact rcint_D i1 t1 D2 (Nat.lt_of_le_of_lt (Nat.le_add_right _ _) hu) P w _ Q hq
  | n + 1, .int i1, .dl1 pw2 k2 d2, u, v, h1, h2, hu, Q, hq => by
    unfold View at h1 h2
    obtain ⟨t1, rfl⟩ := h1
    obtain ⟨a2, v2, rfl, m2, D2, O2, V2⟩ := h2
    exact rcint_D i1 t1 D2 (Nat.lt_of_le_of_lt (Nat.le_add_right _ _) hu) P w _ Q hq
  | n + 1, .str z1, .non, u, v, h1, h2, hu, Q, hq => by
    unfold View at h1 h2
    obtain ⟨t1, rfl⟩ := h1
    obtain rfl := h2
    exact RcAt.str_none z1 t1 P w _ Q hq
  | n + 1, .str z1, .bl b2, u, v, h1, h2, hu, Q, hq => by
    unfold View at h1 h2
    obtain ⟨t1, rfl⟩ := h1
    obtain rfl := h2
    exact RcAt.str_bool z1 t1 b2 P w _ Q hq
  | n + 1, .str z1, .int i2, u, v, h1, h2, hu, Q, hq => by
    unfold View at h1 h2
    obtain ⟨t1, rfl⟩ := h1
    obtain ⟨t2, rfl⟩ := h2
    exact RcAt.str_int z1 t1 i2 t2 P w _ Q hq
  | n + 1, .str z1, .str z2, u, v, h1, h2, hu, Q, hq => by
    unfold View at h1 h2
    obtain ⟨t1, rfl⟩ := h1
    obtain ⟨t2, rfl⟩ := h2
    exact RcAt.str_str z1 t1 z2 t2 P w _ Q hq
  | n + 1, .str z1, .tup xs2, u, v, h1, h2, hu, Q, hq => by
    unfold View at h1 h2
    obtain ⟨t1, rfl⟩ := h1
    obtain ⟨a2, us2, rfl, L2, p2⟩ := h2
    exact RcAt.str_tuple z1 t1 L2 (Nat.lt_of_le_of_lt (Nat.le_add_right _ _) hu) P w _ Q hq
  | n + 1, .str z1, .lst xs2, u, v, h1, h2, hu, Q, hq => by
    unfold View at h1 h2
    obtain ⟨t1, rfl⟩ := h1
    obtain ⟨a2, us2, rfl, L2, p2⟩ := h2
    exact RcAt.str_list z1 t1 L2 (Nat.lt_of_le_of_lt (Nat.le_add_right _ _) hu) P w _ Q hq
  | n + 1, .str z1, .dct [], u, v, h1, h2, hu, Q, hq => by
    unfold View at h1 h2
    obtain ⟨t1, rfl⟩ := h1
    obtain ⟨a2, rfl, m2, D2, O2⟩ := h2
    exact rcstr_D z1 t1 D2 (Nat.lt_of_le_of_lt (Nat.le_add_right _ _) hu) P w _ Q hq
  | n + 1, .str z1, .dl1 pw2 k2 d2, u, v, h1, h2, hu, Q, hq => by
    unfold View at h1 h2
    obtain ⟨t1, rfl⟩ := h1
    obtain ⟨a2, v2, rfl, m2, D2, O2, V2⟩ := h2
    exact rcstr_D z1 t1 D2 (Nat.lt_of_le_of_lt (Nat.le_add_right _ _) hu) P w _ Q hq
  | n + 1, .tup xs1, .non, u, v, h1, h2, hu, Q, hq => by
    unfold View at h1 h2
    obtain ⟨a1, us1, rfl, L1, p1⟩ := h1
    obtain rfl := h2
    exact RcAt.tuple_none L1 (Nat.lt_of_le_of_lt (Nat.le_add_right _ _) hu) P w _ Q hq
  | n + 1, .tup xs1, .bl b2, u, v, h1, h2, hu, Q, hq => by
    unfold View at h1 h2
    obtain ⟨a1, us1, rfl, L1, p1⟩ := h1
    obtain rfl := h2
    exact RcAt.tuple_bool b2 L1 (Nat.lt_of_le_of_lt (Nat.le_add_right _ _) hu) P w _ Q hq
  | n + 1, .tup xs1, .int i2, u, v, h1, h2, hu, Q, hq => by
    unfold View at h1 h2
    obtain ⟨a1, us1, rfl, L1, p1⟩ := h1
    obtain ⟨t2, rfl⟩ := h2
    exact RcAt.tuple_int i2 t2 L1 (Nat.lt_of_le_of_lt (Nat.le_add_right _ _) hu) P w _ Q hq
  | n + 1, .tup xs1, .str z2, u, v, h1, h2, hu, Q, hq => by
    unfold View at h1 h2
    obtain ⟨a1, us1, rfl, L1, p1⟩ := h1
    obtain ⟨t2, rfl⟩ := h2
    exact RcAt.tuple_str z2 t2 L1 (Nat.lt_of_le_of_lt (Nat.le_add_right _ _) hu) P w _ Q hq
  | n + 1, .tup xs1, .tup xs2, u, v, h1, h2, hu, Q, hq => by
    unfold View at h1 h2
    obtain ⟨a1, us1, rfl, L1, p1⟩ := h1
    obtain ⟨a2, us2, rfl, L2, p2⟩ := h2
    refine PySem.W.eq_tuplesT (n := n) (e := fun j => eqwB n (xs1.getD j .non) (xs2.getD j .non)) L1 L2 (fun j k1 k2 => ?_) (by omega) ?_
    · have k1 : j < us1.length := by simpa using k1
      have k2 : j < us2.length := by simpa using k2
      simpa using view_tree (paired_at p1 k1) (paired_at p2 k2)
    · rw [List.size_toArray, List.size_toArray, ← paired_lenV p1, ← paired_lenV p2, eqwL_range]
      exact hq
  | n + 1, .tup xs1, .lst xs2, u, v, h1, h2, hu, Q, hq => by
    unfold View at h1 h2
    obtain ⟨a1, us1, rfl, L1, p1⟩ := h1
    obtain ⟨a2, us2, rfl, L2, p2⟩ := h2
    exact RcAt.tuple_list L1 L2 (Nat.lt_of_le_of_lt (Nat.le_add_right _ _) hu) P w _ Q hq
  | n + 1, .tup xs1, .dct [], u, v, h1, h2, hu, Q, hq => by
    unfold View at h1 h2
    obtain ⟨a1, us1, rfl, L1, p1⟩ := h1
    obtain ⟨a2, rfl, m2, D2, O2⟩ := h2
    exact rctuple_D D2 L1 (Nat.lt_of_le_of_lt (Nat.le_add_right _ _) hu) P w _ Q hq
  | n + 1, .tup xs1, .dl1 pw2 k2 d2, u, v, h1, h2, hu, Q, hq => by
    unfold View at h1 h2
    obtain ⟨a1, us1, rfl, L1, p1⟩ := h1
    obtain ⟨a2, v2, rfl, m2, D2, O2, V2⟩ := h2
    exact rctuple_D D2 L1 (Nat.lt_of_le_of_lt (Nat.le_add_right _ _) hu) P w _ Q hq
  | n + 1, .lst xs1, .non, u, v, h1, h2, hu, Q, hq => by
    unfold View at h1 h2
    obtain ⟨a1, us1, rfl, L1, p1⟩ := h1
    obtain rfl := h2
    exact RcAt.list_none L1 (Nat.lt_of_le_of_lt (Nat.le_add_right _ _) hu) P w _ Q hq
  | n + 1, .lst xs1, .bl b2, u, v, h1, h2, hu, Q, hq => by
    unfold View at h1 h2
    obtain ⟨a1, us1, rfl, L1, p1⟩ := h1
    obtain rfl := h2
    exact RcAt.list_bool b2 L1 (Nat.lt_of_le_of_lt (Nat.le_add_right _ _) hu) P w _ Q hq
  | n + 1, .lst xs1, .int i2, u, v, h1, h2, hu, Q, hq => by
    unfold View at h1 h2
    obtain ⟨a1, us1, rfl, L1, p1⟩ := h1
    obtain ⟨t2, rfl⟩ := h2
    exact RcAt.list_int i2 t2 L1 (Nat.lt_of_le_of_lt (Nat.le_add_right _ _) hu) P w _ Q hq
  | n + 1, .lst xs1, .str z2, u, v, h1, h2, hu, Q, hq => by
    unfold View at h1 h2
    obtain ⟨a1, us1, rfl, L1, p1⟩ := h1
    obtain ⟨t2, rfl⟩ := h2
    exact RcAt.list_str z2 t2 L1 (Nat.lt_of_le_of_lt (Nat.le_add_right _ _) hu) P w _ Q hq
  | n + 1, .lst xs1, .tup xs2, u, v, h1, h2, hu, Q, hq => by
    unfold View at h1 h2
    obtain ⟨a1, us1, rfl, L1, p1⟩ := h1
    obtain ⟨a2, us2, rfl, L2, p2⟩ := h2
    exact RcAt.list_tuple L1 L2 (Nat.lt_of_le_of_lt (Nat.le_add_right _ _) hu) P w _ Q hq
  | n + 1, .lst xs1, .lst xs2, u, v, h1, h2, hu, Q, hq => by
    unfold View at h1 h2
    obtain ⟨a1, us1, rfl, L1, p1⟩ := h1
    obtain ⟨a2, us2, rfl, L2, p2⟩ := h2
    have z := eqwL_range n xs1 xs2
    rw [paired_lenV p1, paired_lenV p2] at z
    by_cases el : us1.length = us2.length
    · refine PySem.W.eq_listsT (n := n) (e := fun j => eqwB n (xs1.getD j .non) (xs2.getD j .non)) L1 L2 (by simpa using el) (fun j k1 k2 => ?_) (by omega) ?_
      · have k1 : j < us1.length := by simpa using k1
        have k2 : j < us2.length := by simpa using k2
        simpa using view_tree (paired_at p1 k1) (paired_at p2 k2)
      · rw [← el, Nat.min_self, beq_self_eq_true, Bool.and_true] at z
        rw [List.size_toArray, z]
        exact hq
    · rw [show (us1.length == us2.length) = false by simpa using el, Bool.and_false] at z
      have hq : Q (.bool (eqwL n xs1 xs2)) s := hq
      rw [← z] at hq
      exact RcAt.lists_lengths L1 L2 (by simpa using el) (by omega) P w _ Q hq
  | n + 1, .lst xs1, .dct [], u, v, h1, h2, hu, Q, hq => by
    unfold View at h1 h2
    obtain ⟨a1, us1, rfl, L1, p1⟩ := h1
    obtain ⟨a2, rfl, m2, D2, O2⟩ := h2
    exact rclist_D D2 L1 (Nat.lt_of_le_of_lt (Nat.le_add_right _ _) hu) P w _ Q hq
  | n + 1, .lst xs1, .dl1 pw2 k2 d2, u, v, h1, h2, hu, Q, hq => by
    unfold View at h1 h2
    obtain ⟨a1, us1, rfl, L1, p1⟩ := h1
    obtain ⟨a2, v2, rfl, m2, D2, O2, V2⟩ := h2
    exact rclist_D D2 L1 (Nat.lt_of_le_of_lt (Nat.le_add_right _ _) hu) P w _ Q hq
  | n + 1, .dct [], .non, u, v, h1, h2, hu, Q, hq => by
    unfold View at h1 h2
    obtain ⟨a1, rfl, m1, D1, O1⟩ := h1
    obtain rfl := h2
    exact rcD_none D1 (Nat.lt_of_le_of_lt (Nat.le_add_right _ _) hu) P w _ Q hq
  | n + 1, .dct [], .bl b2, u, v, h1, h2, hu, Q, hq => by
    unfold View at h1 h2
    obtain ⟨a1, rfl, m1, D1, O1⟩ := h1
    obtain rfl := h2
    exact rcD_bool b2 D1 (Nat.lt_of_le_of_lt (Nat.le_add_right _ _) hu) P w _ Q hq
  | n + 1, .dct [], .int i2, u, v, h1, h2, hu, Q, hq => by
    unfold View at h1 h2
    obtain ⟨a1, rfl, m1, D1, O1⟩ := h1
    obtain ⟨t2, rfl⟩ := h2
    exact rcD_int i2 t2 D1 (Nat.lt_of_le_of_lt (Nat.le_add_right _ _) hu) P w _ Q hq
  | n + 1, .dct [], .str z2, u, v, h1, h2, hu, Q, hq => by
    unfold View at h1 h2
    obtain ⟨a1, rfl, m1, D1, O1⟩ := h1
    obtain ⟨t2, rfl⟩ := h2
    exact rcD_str z2 t2 D1 (Nat.lt_of_le_of_lt (Nat.le_add_right _ _) hu) P w _ Q hq
  | n + 1, .dct [], .tup xs2, u, v, h1, h2, hu, Q, hq => by
    unfold View at h1 h2
    obtain ⟨a1, rfl, m1, D1, O1⟩ := h1
    obtain ⟨a2, us2, rfl, L2, p2⟩ := h2
    exact rcD_tuple D1 L2 (Nat.lt_of_le_of_lt (Nat.le_add_right _ _) hu) P w _ Q hq
  | n + 1, .dct [], .lst xs2, u, v, h1, h2, hu, Q, hq => by
    unfold View at h1 h2
    obtain ⟨a1, rfl, m1, D1, O1⟩ := h1
    obtain ⟨a2, us2, rfl, L2, p2⟩ := h2
    exact rcD_list D1 L2 (Nat.lt_of_le_of_lt (Nat.le_add_right _ _) hu) P w _ Q hq
  | n + 1, .dct [], .dct [], u, v, h1, h2, hu, Q, hq => by
    unfold View at h1 h2
    obtain ⟨a1, rfl, m1, D1, O1⟩ := h1
    obtain ⟨a2, rfl, m2, D2, O2⟩ := h2
    exact PySem.W.eq_dictsT (knd := PySem.leafKind P w) (n := n) (e := fun _ => true) m1 m2 O1 O2 (fun k v y h z => nomatch h) (by omega) hq
  | n + 1, .dct [], .dl1 pw2 k2 d2, u, v, h1, h2, hu, Q, hq => by
    unfold View at h1 h2
    obtain ⟨a1, rfl, m1, D1, O1⟩ := h1
    obtain ⟨a2, v2, rfl, m2, D2, O2, V2⟩ := h2
    exact PySem.W.eq_dictsT (knd := PySem.leafKind P w) (n := n) (e := fun _ => true) m1 m2 O1 O2 (fun k v y h z => nomatch h) (by omega) hq
  | n + 1, .dl1 pw1 k1 d1, .non, u, v, h1, h2, hu, Q, hq => by
    unfold View at h1 h2
    obtain ⟨a1, v1, rfl, m1, D1, O1, V1⟩ := h1
    obtain rfl := h2
    exact rcD_none D1 (Nat.lt_of_le_of_lt (Nat.le_add_right _ _) hu) P w _ Q hq
  | n + 1, .dl1 pw1 k1 d1, .bl b2, u, v, h1, h2, hu, Q, hq => by
    unfold View at h1 h2
    obtain ⟨a1, v1, rfl, m1, D1, O1, V1⟩ := h1
    obtain rfl := h2
    exact rcD_bool b2 D1 (Nat.lt_of_le_of_lt (Nat.le_add_right _ _) hu) P w _ Q hq
  | n + 1, .dl1 pw1 k1 d1, .int i2, u, v, h1, h2, hu, Q, hq => by
    unfold View at h1 h2
    obtain ⟨a1, v1, rfl, m1, D1, O1, V1⟩ := h1
    obtain ⟨t2, rfl⟩ := h2
    exact rcD_int i2 t2 D1 (Nat.lt_of_le_of_lt (Nat.le_add_right _ _) hu) P w _ Q hq
  | n + 1, .dl1 pw1 k1 d1, .str z2, u, v, h1, h2, hu, Q, hq => by
    unfold View at h1 h2
    obtain ⟨a1, v1, rfl, m1, D1, O1, V1⟩ := h1
    obtain ⟨t2, rfl⟩ := h2
    exact rcD_str z2 t2 D1 (Nat.lt_of_le_of_lt (Nat.le_add_right _ _) hu) P w _ Q hq
  | n + 1, .dl1 pw1 k1 d1, .tup xs2, u, v, h1, h2, hu, Q, hq => by
    unfold View at h1 h2
    obtain ⟨a1, v1, rfl, m1, D1, O1, V1⟩ := h1
    obtain ⟨a2, us2, rfl, L2, p2⟩ := h2
    exact rcD_tuple D1 L2 (Nat.lt_of_le_of_lt (Nat.le_add_right _ _) hu) P w _ Q hq
  | n + 1, .dl1 pw1 k1 d1, .lst xs2, u, v, h1, h2, hu, Q, hq => by
    unfold View at h1 h2
    obtain ⟨a1, v1, rfl, m1, D1, O1, V1⟩ := h1
    obtain ⟨a2, us2, rfl, L2, p2⟩ := h2
    exact rcD_list D1 L2 (Nat.lt_of_le_of_lt (Nat.le_add_right _ _) hu) P w _ Q hq
  | n + 1, .dl1 pw1 k1 d1, .dct [], u, v, h1, h2, hu, Q, hq => by
    unfold View at h1 h2
    obtain ⟨a1, v1, rfl, m1, D1, O1, V1⟩ := h1
    obtain ⟨a2, rfl, m2, D2, O2⟩ := h2
    exact PySem.W.eq_dictsT (knd := PySem.leafKind P w) (n := n) (e := fun _ => true) m1 m2 O1 O2 (fun k v y h z => absurd z (by simp [valueAt])) (by omega) hq
  | n + 1, .dl1 pw1 k1 d1, .dl1 pw2 k2 d2, u, v, h1, h2, hu, Q, hq => by
    unfold View at h1 h2
    obtain ⟨a1, v1, rfl, m1, D1, O1, V1⟩ := h1
    obtain ⟨a2, v2, rfl, m2, D2, O2, V2⟩ := h2
    refine PySem.W.eq_dictsT (knd := PySem.leafKind P w) (n := n) (e := fun _ => eqwB n d1 d2) m1 m2 O1 O2 (fun k v y h z => ?_) (by omega) ?_
    · rw [List.mem_singleton] at h
      cases h
      rw [leaf_val] at z
      split at z
      · cases z
        exact view_tree V1 V2
      · cases z
    · rw [eqw_dl n pw1 pw2 k1 k2 d1 d2 v1 v2]
      exact hq
  | 0, _, _, _, _, h, _, _, _, _ => h.elim
  | _ + 1, .scr _, _, _, _, h, _, _, _, _ => h.elim
  | _ + 1, .fn _, _, _, _, h, _, _, _, _ => h.elim
  | _ + 1, .exc _ _, _, _, _, h, _, _, _, _ => h.elim
  | _ + 1, .clo _ _, _, _, _, h, _, _, _, _ => h.elim
  | _ + 1, .dcf _, _, _, _, h, _, _, _, _ => h.elim
  | _ + 1, .err _ _ _, _, _, _, h, _, _, _, _ => h.elim
  | _ + 1, .dct (_ :: _), _, _, _, h, _, _, _, _ => h.elim
  | _ + 1, _, .scr _, _, _, _, h, _, _, _ => h.elim
  | _ + 1, _, .fn _, _, _, _, h, _, _, _ => h.elim
  | _ + 1, _, .exc _ _, _, _, _, h, _, _, _ => h.elim
  | _ + 1, _, .clo _ _, _, _, _, h, _, _, _ => h.elim
  | _ + 1, _, .dcf _, _, _, _, h, _, _, _ => h.elim
  | _ + 1, _, .err _ _ _, _, _, _, h, _, _, _ => h.elim
  | _ + 1, _, .dct (_ :: _), _, _, _, h, _, _, _ => h.elim
end
end FL
/-! FL121: x == y for any two values; {k: v} as data. -/
namespace FL
open PySem PySem.Spec PyProof.Rows L2
section
variable [FE]
/-- a value that may be compared with any other one, of nesting below n -/
def Wild : Nat → D → Prop
  | 0, _ => False
  | _ + 1, .non => True
  | _ + 1, .bl _ => True
  | _ + 1, .int _ => True
  | _ + 1, .str _ => True
  | n + 1, .tup xs => ∀ x ∈ xs, Wild n x
  | n + 1, .lst xs => ∀ x ∈ xs, Wild n x
  | _ + 1, .dct [] => True
  | n + 1, .dl1 h k d => h = FE.hs k ∧ Wild n d
  | _, _ => False
/-- the hashes that the program's keys have -/
class HS (P : Program) (w : World) : Prop where
  e : ∀ k : Option Key, FE.hs k = (PySem.leafKind P w).hash (toLeaf k)
theorem key_leaf {P : Program} {w : World} {k : Option Key} {v : Value} (h : keyIs k v) : (PySem.leafKind P w).is (toLeaf k) v = true := by
  rcases k with _ | (i | x)
  · cases (show v = .none from h)
    rfl
  · rcases (show (∃ t, v = .int i t) ∨ ∃ b : Bool, v = .bool b ∧ (if b = true then 1 else 0) = i from h) with ⟨t, rfl⟩ | ⟨b, rfl, e⟩
    · exact decide_eq_true rfl
    · exact decide_eq_true e
  · obtain ⟨t, rfl⟩ := (show ∃ t, v = .str x t from h)
    show Value.isStrOf x (.str x t) = true
    simp [Value.isStrOf]
theorem leaf_key {P : Program} {w : World} {k : Option Key} {v : Value} (h : (PySem.leafKind P w).is (toLeaf k) v = true) : keyIs k v := by
  have h : PySem.Leaf.isOf (toLeaf k) v = true := h
  rcases k with _ | (i | x)
  · cases v <;> first | rfl | exact absurd h Bool.false_ne_true
  · cases v with
    | int j t =>
      have e : j = i := of_decide_eq_true h
      subst e
      exact .inl ⟨t, rfl⟩
    | bool b => exact .inr ⟨b, rfl, of_decide_eq_true h⟩
    | _ => exact absurd h Bool.false_ne_true
  · obtain ⟨t, rfl⟩ := Value.isStrOf_shape (show Value.isStrOf x v = true from h)
    exact ⟨t, rfl⟩
section
variable {X : Cx} {pins : List (Addr × Obj)} {σ : L2.St} {F H : Hp} {s : Shared}
theorem views_of {n : Nat} (ih : ∀ {d : D} {v : V} {u : Value}, Wild n d → Rep X.K F v d → RelV v u → View X.prog X.w s n d u) : ∀ {vs : List V} {xs : List D} {us : List Value}, Reps X.K F vs xs → Vals vs us → (∀ x ∈ xs, Wild n x) → Paired (View X.prog X.w s n) xs us
  | _, _, _, .nil, .nil, _ => .nil
  | _, _, _, .cons a p, .cons b q, h => .cons (ih (h _ List.mem_cons_self) a b) (views_of ih p q fun x hx => h x (List.mem_cons_of_mem _ hx))
theorem dict_at {a : Addr} {o : Obj} {es : Array DictEntry} {ep : Nat} (e : s.heap.get? a = some o) (x : o.ExactDict) (d : o.data = .dict es ep) : DictAt s a := by
  obtain ⟨c, dd, dat, sl⟩ := o
  cases x.1
  cases d
  exact ⟨es, ep, dd, sl, e⟩
theorem view_of (I : Inv X pins σ H s) (hw : ∀ k : Option Key, FE.hs k = (PySem.leafKind X.prog X.w).hash (toLeaf k)) (sm : Same F H) : ∀ {n : Nat} {d : D} {v : V} {u : Value}, Wild n d → Rep X.K F v d → RelV v u → View X.prog X.w s n d u
  | 0, _, _, _, h, _, _ => h.elim
  | _ + 1, .non, _, _, _, r, q => by
    cases r
    exact q
  | _ + 1, .bl b, _, _, _, r, q => by
    cases r
    exact q
  | _ + 1, .int i, _, _, _, r, q => by
    cases r
    exact q
  | _ + 1, .str x, _, _, _, r, q => by
    cases r
    exact q
  | n + 1, .tup xs, _, _, h, r, q => by
    cases r with
    | tup h1 r1 =>
      obtain ⟨its, rv, ⟨o, e, c, m, d⟩, _⟩ := I.tuple (sm_tup sm h1)
      exact ⟨_, its, q, ⟨o, e, c, m, d⟩, views_of (view_of I hw sm) r1 rv h⟩
  | n + 1, .lst xs, _, _, h, r, q => by
    cases r with
    | lst h1 r1 =>
      obtain ⟨its, rv, ⟨o, m, e, c, _, d⟩, _⟩ := I.list (SqL.of (K := X.K) (sm _ _ h1))
      exact ⟨_, its, q, ⟨o, e, c, m, d⟩, views_of (view_of I hw sm) r1 rv h⟩
  | _ + 1, .dct [], _, _, _, r, q => by
    cases r with
    | @dct a kvs ds h1 h2 h3 =>
      cases kvs with
      | cons _ _ => cases h2
      | nil =>
        obtain ⟨_, m, vs, kv, o, es, ep, e, x, d, _, p, _⟩ := (show ObjOk X.prog X.w H s.heap a (.dK []) from I.hok a _ (sm _ _ h1))
        cases kv
        have el : es.toList = [] := by
          generalize es.toList = L at p
          cases p
          rfl
        have ee : es = #[] := by simpa using el
        exact ⟨_, q, m, dict_at e x d, o, es, ep, e, x, d, (fun y hy => by rw [ee] at hy; simp at hy), (by rw [el]; exact .nil), List.nodup_nil⟩
  | n + 1, .dl1 hh k d, _, _, h, r, q => by
    cases r with
    | @dl1 a n2 k2 u v2 d2 h1 h2 h3 =>
      obtain ⟨⟨m, o, es, ep, key, e, x, dt, el, ki⟩, _⟩ := I.hok a _ (sm _ _ h1)
      refine ⟨_, _, q, m, dict_at e x dt, ⟨o, es, ep, e, x, dt, fun y hy => ?_, ?_, by simp⟩, view_of I hw sm h.2 h3 h2⟩
      · have hy : y ∈ es.toList := by simpa using hy
        rw [el, List.mem_singleton] at hy
        subst hy
        exact ⟨toLeaf k, key_leaf ki, h.1.trans (hw k)⟩
      · rw [el]
        exact .cons (key_leaf ki) rfl .nil
  | _ + 1, .scr _, _, _, h, _, _ => h.elim
  | _ + 1, .fn _, _, _, h, _, _ => h.elim
  | _ + 1, .exc _ _, _, _, h, _, _ => h.elim
  | _ + 1, .clo _ _, _, _, h, _, _ => h.elim
  | _ + 1, .dcf _, _, _, h, _, _ => h.elim
  | _ + 1, .err _ _ _, _, _, h, _, _ => h.elim
  | _ + 1, .dct (_ :: _), _, _, h, _, _ => h.elim
end
/-! ### the reading -/
open Classical in
/-- x == y -/
noncomputable def eqW (x y : D) : Option D := match eqA x y with
  | some d => some d
  | none => if Wild 16 x ∧ Wild 16 y then some (.bl (eqwB 16 x y)) else none
def rWildW (K : PySem.W.Frag) : V → V → Hp → VK → Prop := fun x y H Q => ∃ (F : Hp) (dx dy : D), Same F H ∧ Rep K F x dx ∧ Rep K F y dy ∧ Wild 16 dx ∧ Wild 16 dy ∧ Q (.bl (eqwB 16 dx dy)) H
open Classical in
theorem q_eqW {K : PySem.W.Frag} : Op2 K eqW (fun x y H Q => (rEq x y H Q ∨ rDif K false x y H Q ∨ rEqD K x y H Q) ∨ rWildW K x y H Q) := by
  intro F H x y dx dy d Q s rx ry e k
  unfold eqW at e
  cases h : eqA dx dy with
  | some d' =>
    rw [h] at e
    cases e
    exact .inl (q_eqA s rx ry h k)
  | none =>
    rw [h] at e
    have e : (if Wild 16 dx ∧ Wild 16 dy then some (D.bl (eqwB 16 dx dy)) else none) = some d := e
    split at e
    · rename_i w
      cases e
      exact .inr ⟨F, dx, dy, s, rx, ry, w.1, w.2, k _ F H (Grw.refl s) (.bl _)⟩
    · cases e
section
variable {X : Cx}
theorem o_eqW (hw : ∀ k : Option Key, FE.hs k = (PySem.leafKind X.prog X.w).hash (toLeaf k)) (hu : X.A.units + 64 < cLine) : OpR X (compareOp .Eq) (fun x y H Q => (rEq x y H Q ∨ rDif X.K false x y H Q ∨ rEqD X.K x y H Q) ∨ rWildW X.K x y H Q) := fun pins s σ H x y v u Q I rx ry h => by
  rcases h with h | ⟨F, dx, dy, sm, r1, r2, w1, w2, q⟩
  · exact o_eqA hu pins s σ H x y v u Q I rx ry h
  · exact view_rc (view_of I hw sm w1 r1 rx) (view_of I hw sm w2 r2 ry) (by omega) _ ⟨.bl _, H, I, rfl, q⟩
end
/-! ### {k: v} -/
def keyW : D → Option (Option Key)
  | .non => some none
  | .int i => some (some (.inl i))
  | .str x => some (some (.inr x))
  | _ => none
theorem keyW_rep {K : PySem.W.Frag} {F : Hp} {v : V} {d : D} {k : Option Key} (r : Rep K F v d) (h : keyW d = some k) {u : Value} (q : RelV v u) : keyIs k u := by
  cases r with
  | non => cases h; exact q
  | int i => cases h; exact .inl q
  | str x => cases h; exact q
  | _ => cases h
theorem lfo_is {P : Program} {w : World} {H : Hp} {h : Heap} {a : Addr} {n : Int} {k : Option Key} {u : Value} (m : (a == sysModules) = false) {o : Obj} {es : Array DictEntry} {ep : Nat} {key : Value} (e : h.get? a = some o) (x : o.ExactDict) (d : o.data = .dict es ep) (el : es.toList = [⟨n, key, u⟩]) (ki : keyIs k key) : ObjOk P w H h a (LfO n a k u) :=
  ⟨⟨m, o, es, ep, key, e, x, d, el, ki⟩, ⟨o, e⟩, fun h1 h2 q kp => by
    obtain ⟨m1, o1, es1, ep1, key1, e1, r1⟩ := q
    exact ⟨m1, o1, es1, ep1, key1, kp o1 e1, r1⟩⟩
section
variable {X : Cx} {k v : Expr} {tk tv : TE} {pos : Pos}
def tDisp1 (tk tv : TE) : TE := fun σ H Q => tk σ H fun x H1 => ∃ key : Option Key, (∀ u, RelV x u → keyIs key u) ∧ tv σ H1 fun y H2 => ∀ p r, H2 p = none → RelV y r → Q (.ref p) (upd H2 p (LfO (FE.hs key) p key r))
theorem pe_disp1 (hw : ∀ k : Option Key, FE.hs k = (PySem.leafKind X.prog X.w).hash (toLeaf k)) (hk : PE X k tk) (hv : PE X v tv) : PE X (.Dict [some k] [v] pos) (tDisp1 tk tv) := by
  refine ⟨fun pins s σ H Q I h => ?_⟩
  have free0 := I.hok.fresh (Nat.le_refl s.heap.objs.size)
  have lone := Inv.lone I (Nat.le_refl s.heap.objs.size)
  have big := I.big
  have there0 : (s.heap.push { cls := .type "dict", data := .dict #[] }).get? s.heap.objs.size = some { cls := .type "dict", data := .dict #[] } := Heap.get?_push_size _ rfl
  have pinned : L2.Inv X ((s.heap.objs.size, { cls := .type "dict", data := .dict #[] }) :: pins) σ H { s with heap := s.heap.push { cls := .type "dict", data := .dict #[] } } :=
    Inv.pinOne (I.kept (t' := s.toks) fun _ _ q => Heap.get?_push_of_some _ q) lone there0 free0 fun _ z => by cases z
  have len := pairTrees_length [some k] [v] X.env pos rfl rfl
  have some1 : pairTrees [some k] [v] X.env pos ≠ [] := fun z => by rw [z] at len; cases len
  rw [arm_eval_Dict, zip_pairTrees [some k] [v] X.env pos rfl rfl, dictDisplay_pairs _ some1 (by rw [len]; exact Nat.le_add_left 2 15)]
  refine wpAny_bind (wpAny_standAt (wpAny_bind (wpAny_subDict (knd := PySem.leafKind X.prog X.w) (by rw [len]; exact Nat.le_add_left 1 14) ?_)))
  refine pairTrees_cons_walk (thn (hk.run _ _ σ H _ pinned h) fun u s1 ⟨x, H1, I1, rx, key, hkey, q1⟩ => thn (hv.run _ _ σ _ _ I1 q1) fun w s2 ⟨y, H2, I2, ry, q2⟩ => pairTrees_nil_walk ?_)
  obtain ⟨J, there, free⟩ := Inv.unpinOne I2
  refine ⟨[(toLeaf key, w)], ⟨key_leaf (hkey _ rx), rfl, True.intro⟩, ⟨_, #[], 0, there, ⟨rfl, rfl, rfl⟩, rfl, (fun _ z => by simp at z), .nil, List.nodup_nil⟩, fun h' made same => ?_⟩
  have J2 := Inv.turnOne (t' := s2.toks + [(u, w)].length) J lone free same
  obtain ⟨ob, es, ep, g1, g2, g3, g4, g5, _⟩ := made
  have el : ∃ ky, es.toList = [⟨FE.hs key, ky, w⟩] ∧ keyIs key ky := by
    have g5 : Pairs (PySem.leafKind X.prog X.w) es.toList [(toLeaf key, w)] := g5
    have all : ∀ e ∈ es.toList, ∃ k', (PySem.leafKind X.prog X.w).is k' e.key = true ∧ e.hash = (PySem.leafKind X.prog X.w).hash k' := fun e he => g4 e (by simpa using he)
    generalize es.toList = L at *
    cases g5 with
    | cons a b c =>
      cases c
      rename_i e
      obtain ⟨k', i1, i2⟩ := all e List.mem_cons_self
      have ek := (PySem.leafKind X.prog X.w).inj _ _ _ i1 a
      subst ek
      obtain ⟨eh, ek, ev⟩ := e
      have b : ev = w := b
      subst b
      have i2 : eh = (PySem.leafKind X.prog X.w).hash (toLeaf key) := i2
      rw [← hw key] at i2
      subst i2
      exact ⟨ek, rfl, leaf_key a⟩
  obtain ⟨ky, el, ki⟩ := el
  exact wpAny_pure ⟨.ref s.heap.objs.size, _, Inv.track (o := LfO (FE.hs key) s.heap.objs.size key w) J2 free lone.l lone.z lone.c lone.p (lfo_is (beq_eq_false_iff_ne.mpr (Nat.ne_of_gt big)) g1 g2 g3 el ki), rfl, q2 _ w free ry⟩
variable {π : Nat → Addr} {W : WX}
/-- {f: g} -/
def dl1E (f g : EF) : EF := fun ρ => (f ρ).bind fun y ρ => match keyW y with
  | some k => (g ρ).bind fun v ρ => .ok (.dl1 (FE.hs k) k v) ρ
  | none => .stuck
theorem fe_dl1 {f g : EF} (hw : ∀ k : Option Key, FE.hs k = (PySem.leafKind X.prog X.w).hash (toLeaf k)) (ha : PE X k (tE X.K π W f)) (hb : PE X v (tE X.K π W g)) : PE X (.Dict [some k] [v] pos) (tE X.K π W (dl1E f g)) :=
  PE.imp (pe_disp1 hw ha hb) fun σ H Q ⟨c, F, ρ, S, P⟩ => by
    refine po_bind S P fun y F1 H1 ρ1 dy s1 S1 r1 P1 => ?_
    split at P1
    · rename_i k ek
      refine ⟨k, fun u ru => keyW_rep r1 ek ru, ?_⟩
      refine po_bind S1 P1 fun z F2 H2 ρ2 dz s2 S2 r2 P2 => ?_
      intro p r free rr
      have gr := Grw.newF (o := LfO (FE.hs k) p k r) S2.f free
      exact P2 (.ref p) _ _ gr.f (S2.grow gr) (.dl1 upd_same rr (r2.mono gr.f))
    · exact P1.elim
end
end
def feOfH (tabs : List (Addr × Str)) (cl : List (Str × Addr)) (hs : Option Key → Int) : FE := { tabs := tabs, cl := fun n => (cl.lookup n).getD 0, hs := hs }
end FL
namespace Wk
open PySem PySem.Spec PyProof.Rows L2 FL
def top (i : Nat) : Stmt := PySem.Challenge.pw_lenspairs_k73_any_values_in_claims.main.body.getD i (.Pass ⟨0, 0, 0, 0⟩)
abbrev s__law_drip : Stmt := top 33
abbrev s__law_any : Stmt := top 34
abbrev s__law_bank : Stmt := top 35
abbrev s_is_integer : Stmt := top 3
abbrev s_is_between : Stmt := top 4
abbrev s_is_bead : Stmt := top 7
abbrev s_string_fault : Stmt := top 8
abbrev s_is_string : Stmt := top 14
abbrev s_common : Stmt := top 5
abbrev s_is_pair : Stmt := top 9
abbrev s_are_same_size : Stmt := top 16
abbrev s_is_claim : Stmt := top 29
abbrev s_strikes : Stmt := top 17
abbrev s_joins : Stmt := top 18
abbrev s_is_step : Stmt := top 19
abbrev s_shows_led : Stmt := top 20
abbrev s_turns_of : Stmt := top 10
abbrev s_is_pair_of : Stmt := top 21
abbrev s_shows_apart : Stmt := top 22
abbrev s_is_sign : Stmt := top 15
abbrev s_shows_alike : Stmt := top 23
abbrev s_shows_loops : Stmt := top 24
abbrev s_are_apart_for_loops : Stmt := top 25
abbrev s_accepts : Stmt := top 30
abbrev s__law_wild : Stmt := top 36
abbrev s__law_wrong : Stmt := top 38
abbrev s__law_others : Stmt := top 37
abbrev s__law_right : Stmt := top 39
abbrev s__law_spring : Stmt := top 32
abbrev s_law : Stmt := top 40
/-- what the module holds beside its defs -/
structure Txt [FE] (K : PySem.W.Frag) (mg : Str → Option Value) : Prop where
  b_abs : mg "abs" = none
  b_all : mg "all" = none
  b_bool : mg "bool" = none
  b_divmod : mg "divmod" = none
  b_enumerate : mg "enumerate" = none
  b_int : mg "int" = none
  b_isinstance : mg "isinstance" = none
  b_len : mg "len" = none
  b_list : mg "list" = none
  b_max : mg "max" = none
  b_min : mg "min" = none
  b_range : mg "range" = none
  b_str : mg "str" = none
  b_tuple : mg "tuple" = none
  c_MOST_BEADS : ∃ t : Tok, mg "MOST_BEADS" = some (.int 200 t)
  c_MOST_GONE : ∃ t : Tok, mg "MOST_GONE" = some (.int 2000 t)
  c_MOST_NUMBER : ∃ t : Tok, mg "MOST_NUMBER" = some (.int 1000000000 t)
  c_MOST_ROWS : ∃ t : Tok, mg "MOST_ROWS" = some (.int 4000 t)
  c_OF_PAIRS : ∃ a : Addr, mg "OF_PAIRS" = some (.ref a) ∧ ∀ F : Hp, SqT K F a [.str "alike", .str "for loops", .str "not for loops"]
  c_OF_STRINGS : ∃ a : Addr, mg "OF_STRINGS" = some (.ref a) ∧ ∀ F : Hp, SqT K F a [.str "led", .str "apart"]
noncomputable section
def g__law_drip_4 : SF := (retS (op2 modD (opC intC (cnsA (op2 fdivD (ixM 0 (cst (.int 1))) (cst (.int 3079))) nilA)) (vr 1)))
def g__law_drip_3 : SF := (seqS (subS 0 (op2 modD (opC intC (cnsA (op2 addD (op2 mulD (ixM 0 (cst (.int 1))) (cst (.int 39119))) (vr 3)) nilA)) (cst (.int 2147483543))) (cst (.int 1))) g__law_drip_4)
def g__law_drip_2 : SF := (seqS (setS 3 (op2 addD (op2 mulD (cst (.int 6271)) (ixM 0 (cst (.int 2)))) (op2 mulD (op2 mulD (cst (.int 5)) (ixM 0 (cst (.int 2)))) (ixM 0 (cst (.int 2)))))) g__law_drip_3)
def g__law_drip_1 : SF := (seqS (ifS (tst (op2 gtD (ixM 0 (cst (.int 0))) (cst (.int 0)))) (seqS (asgS (opC dmC (cnsA (ixM 0 (cst (.int 0))) (cnsA (vr 1) nilA))) (tupG 2 (cnsG (subGO 0 (cst (.int 0))) (cnsG (nmG 2) nilG)))) (retS (vr 2))) nxS) g__law_drip_2)
def g__law_drip : SF := (seqS (subS 0 (op2 addD (ixM 0 (cst (.int 2))) (cst (.int 1))) (cst (.int 2))) g__law_drip_1)
def G__law_drip : List FL.Arg → RG := bodyG 4 g__law_drip
def g__law_any : SF := (retS (op2 ixD (vr 1) (callE 2 G__law_drip (slB 0 (cnsB (opC lenC (cnsA (vr 1) nilA)) nilB)))))
def G__law_any : List FL.Arg → RG := bodyG 2 g__law_any
def g__law_bank_10 : SF := (retS (op2 addD (vr 0) (frz (dLst (cnsA (dTup (cnsA (dTup (cnsA (cst (.str "not for loops")) (cnsA (dTup (cnsA (cst (.int 8)) (cnsA (cst (.int 1)) nilA))) (cnsA (dTup (cnsA (cst (.int 8)) (cnsA (cst (.int 3)) nilA))) nilA)))) (cnsA (dTup nilA) nilA))) (cnsA (dTup (cnsA (dTup (cnsA (cst (.str "not for loops")) (cnsA (dTup (cnsA (cst (.int 12)) (cnsA (cst (.int 1)) nilA))) (cnsA (dTup (cnsA (cst (.int 12)) (cnsA (cst (.int 5)) nilA))) nilA)))) (cnsA (dTup nilA) nilA))) nilA))))))
def g__law_bank_9 : SF := (seqS (setS 0 (op2 addD (vr 0) (frz (dLst (cnsA (dTup (cnsA (dTup (cnsA (cst (.str "for loops")) (cnsA (dTup (cnsA (cst (.int 8)) (cnsA (cst (.int 3)) nilA))) (cnsA (dTup (cnsA (cst (.int 8)) (cnsA (cst (.int 5)) nilA))) nilA)))) (cnsA (dTup (cnsA (op1 negD (cst (.int 1))) (cnsA (cst (.int 5)) nilA))) nilA))) (cnsA (dTup (cnsA (dTup (cnsA (cst (.str "not for loops")) (cnsA (dTup (cnsA (cst (.int 5)) (cnsA (cst (.int 1)) nilA))) (cnsA (dTup (cnsA (cst (.int 5)) (cnsA (cst (.int 2)) nilA))) nilA)))) (cnsA (dTup nilA) nilA))) nilA)))))) g__law_bank_10)
def g__law_bank_8 : SF := (seqS (setS 0 (op2 addD (vr 0) (frz (dLst (cnsA (dTup (cnsA (dTup (cnsA (cst (.str "for loops")) (cnsA (dTup (cnsA (cst (.int 7)) (cnsA (cst (.int 1)) nilA))) (cnsA (dTup (cnsA (cst (.int 7)) (cnsA (cst (.int 6)) nilA))) nilA)))) (cnsA (dTup (cnsA (op1 negD (cst (.int 1))) (cnsA (cst (.int 1)) nilA))) nilA))) (cnsA (dTup (cnsA (dTup (cnsA (cst (.str "for loops")) (cnsA (dTup (cnsA (cst (.int 1)) (cnsA (cst (.int 0)) nilA))) (cnsA (dTup (cnsA (cst (.int 1)) (cnsA (cst (.int 0)) nilA))) nilA)))) (cnsA (dTup (cnsA (cst (.int 1)) (cnsA (cst (.int 1)) nilA))) nilA))) nilA)))))) g__law_bank_9)
def g__law_bank_7 : SF := (seqS (setS 0 (op2 addD (vr 0) (frz (dLst (cnsA (dTup (cnsA (dTup (cnsA (cst (.str "alike")) (cnsA (dTup (cnsA (cst (.int 2)) (cnsA (cst (.int 1)) nilA))) (cnsA (dTup (cnsA (cst (.int 2)) (cnsA (cst (.int 1)) nilA))) nilA)))) (cnsA (op1 negD (cst (.int 1))) nilA))) (cnsA (dTup (cnsA (dTup (cnsA (cst (.str "for loops")) (cnsA (dTup (cnsA (cst (.int 7)) (cnsA (cst (.int 1)) nilA))) (cnsA (dTup (cnsA (cst (.int 7)) (cnsA (cst (.int 2)) nilA))) nilA)))) (cnsA (dTup (cnsA (cst (.int 1)) (cnsA (cst (.int 3)) nilA))) nilA))) nilA)))))) g__law_bank_8)
def g__law_bank_6 : SF := (seqS (setS 0 (op2 addD (vr 0) (frz (dLst (cnsA (dTup (cnsA (dTup (cnsA (cst (.str "alike")) (cnsA (dTup (cnsA (cst (.int 7)) (cnsA (cst (.int 2)) nilA))) (cnsA (dTup (cnsA (cst (.int 7)) (cnsA (cst (.int 4)) nilA))) nilA)))) (cnsA (cst (.int 1)) nilA))) (cnsA (dTup (cnsA (dTup (cnsA (cst (.str "alike")) (cnsA (dTup (cnsA (cst (.int 7)) (cnsA (cst (.int 2)) nilA))) (cnsA (dTup (cnsA (cst (.int 7)) (cnsA (cst (.int 5)) nilA))) nilA)))) (cnsA (op1 negD (cst (.int 1))) nilA))) (cnsA (dTup (cnsA (dTup (cnsA (cst (.str "alike")) (cnsA (dTup (cnsA (cst (.int 0)) (cnsA (cst (.int 1)) nilA))) (cnsA (dTup (cnsA (cst (.int 0)) (cnsA (cst (.int 1)) nilA))) nilA)))) (cnsA (cst (.int 1)) nilA))) nilA))))))) g__law_bank_7)
def g__law_bank_5 : SF := (seqS (setS 0 (op2 addD (vr 0) (frz (dLst (cnsA (dTup (cnsA (dTup (cnsA (cst (.str "apart")) (cnsA (dTup (cnsA (cst (.int 2)) (cnsA (op1 negD (cst (.int 3))) nilA))) (cnsA (dTup (cnsA (cst (.int 3)) (cnsA (cst (.int 2)) (cnsA (cst (.int 3)) nilA)))) nilA)))) (cnsA (dTup (cnsA (dTup (cnsA (cst (.int 7)) (cnsA (cst (.int 3)) nilA))) (cnsA (dTup (cnsA (cst (.int 12)) (cnsA (cst (.int 5)) nilA))) nilA))) nilA))) (cnsA (dTup (cnsA (dTup (cnsA (cst (.str "alike")) (cnsA (dTup (cnsA (cst (.int 7)) (cnsA (cst (.int 2)) nilA))) (cnsA (dTup (cnsA (cst (.int 7)) (cnsA (cst (.int 3)) nilA))) nilA)))) (cnsA (op1 negD (cst (.int 1))) nilA))) nilA)))))) g__law_bank_6)
def g__law_bank_4 : SF := (seqS (setS 0 (op2 addD (vr 0) (frz (dLst (cnsA (dTup (cnsA (dTup (cnsA (cst (.str "apart")) (cnsA (dTup (cnsA (cst (.int 2)) (cnsA (cst (.int 3)) nilA))) (cnsA (dTup (cnsA (cst (.int 3)) (cnsA (cst (.int 2)) nilA))) nilA)))) (cnsA (dTup (cnsA (dTup (cnsA (cst (.int 5)) (cnsA (cst (.int 3)) nilA))) (cnsA (dTup (cnsA (cst (.int 5)) (cnsA (cst (.int 2)) nilA))) nilA))) nilA))) (cnsA (dTup (cnsA (dTup (cnsA (cst (.str "apart")) (cnsA (dTup nilA) (cnsA (dTup (cnsA (cst (.int 0)) nilA)) nilA)))) (cnsA (dTup (cnsA (dTup (cnsA (cst (.int 1)) (cnsA (cst (.int 0)) nilA))) (cnsA (dTup (cnsA (cst (.int 0)) (cnsA (cst (.int 1)) nilA))) nilA))) nilA))) nilA)))))) g__law_bank_5)
def g__law_bank_3 : SF := (seqS (setS 0 (op2 addD (vr 0) (frz (dLst (cnsA (dTup (cnsA (dTup (cnsA (cst (.str "led")) (cnsA (dTup (cnsA (cst (.int 0)) (cnsA (cst (.int 4)) nilA))) (cnsA (dTup (cnsA (cst (.int 1)) nilA)) nilA)))) (cnsA (dTup (cnsA (dTup (cnsA (cst (.int 0)) (cnsA (cst (.int 4)) nilA))) (cnsA (dTup nilA) (cnsA (dTup (cnsA (cst (.int 1)) nilA)) nilA)))) nilA))) (cnsA (dTup (cnsA (dTup (cnsA (cst (.str "led")) (cnsA (dTup (cnsA (op1 negD (cst (.int 1))) (cnsA (cst (.int 5)) nilA))) (cnsA (dTup (cnsA (cst (.int 6)) nilA)) nilA)))) (cnsA (dTup (cnsA (dTup (cnsA (op1 negD (cst (.int 1))) (cnsA (cst (.int 5)) nilA))) (cnsA (dTup (cnsA (cst (.int 6)) nilA)) nilA))) nilA))) nilA)))))) g__law_bank_4)
def g__law_bank_2 : SF := (seqS (setS 0 (op2 addD (vr 0) (frz (dLst (cnsA (dTup (cnsA (dTup (cnsA (cst (.str "led")) (cnsA (dTup (cnsA (op1 negD (cst (.int 2))) nilA)) (cnsA (dTup (cnsA (cst (.int 2)) nilA)) nilA)))) (cnsA (dTup (cnsA (dTup (cnsA (op1 negD (cst (.int 2))) nilA)) (cnsA (dTup (cnsA (cst (.int 1)) (cnsA (op1 negD (cst (.int 1))) nilA))) (cnsA (dTup (cnsA (cst (.int 2)) nilA)) nilA)))) nilA))) (cnsA (dTup (cnsA (dTup (cnsA (cst (.str "led")) (cnsA (dTup (cnsA (cst (.int 2)) (cnsA (cst (.int 0)) (cnsA (cst (.int 3)) nilA)))) (cnsA (dTup (cnsA (cst (.int 5)) nilA)) nilA)))) (cnsA (dTup (cnsA (dTup (cnsA (cst (.int 2)) (cnsA (cst (.int 0)) (cnsA (cst (.int 3)) nilA)))) (cnsA (dTup (cnsA (cst (.int 5)) nilA)) nilA))) nilA))) nilA)))))) g__law_bank_3)
def g__law_bank_1 : SF := (seqS (setS 0 (op2 addD (vr 0) (frz (dLst (cnsA (dTup (cnsA (dTup (cnsA (cst (.str "led")) (cnsA (dTup (cnsA (cst (.int 7)) nilA)) (cnsA (dTup (cnsA (cst (.int 7)) (cnsA (cst (.int 9)) (cnsA (cst (.int 0)) nilA)))) nilA)))) (cnsA (dTup (cnsA (dTup (cnsA (cst (.int 7)) nilA)) (cnsA (dTup (cnsA (cst (.int 7)) (cnsA (cst (.int 9)) (cnsA (cst (.int 0)) nilA)))) nilA))) nilA))) (cnsA (dTup (cnsA (dTup (cnsA (cst (.str "led")) (cnsA (dTup nilA) (cnsA (dTup nilA) nilA)))) (cnsA (dTup (cnsA (dTup nilA) nilA)) nilA))) nilA)))))) g__law_bank_2)
def g__law_bank : SF := (seqS (setS 0 (frz (dLst (cnsA (dTup (cnsA (dTup (cnsA (cst (.str "led")) (cnsA (dTup (cnsA (cst (.int 2)) (cnsA (cst (.int 1)) (cnsA (cst (.int 3)) nilA)))) (cnsA (dTup (cnsA (cst (.int 1)) (cnsA (cst (.int 2)) nilA))) nilA)))) (cnsA (dTup (cnsA (dTup (cnsA (cst (.int 2)) (cnsA (cst (.int 1)) (cnsA (cst (.int 3)) nilA)))) (cnsA (dTup (cnsA (cst (.int 1)) (cnsA (cst (.int 2)) nilA))) nilA))) nilA))) (cnsA (dTup (cnsA (dTup (cnsA (cst (.str "led")) (cnsA (dTup (cnsA (cst (.int 1)) (cnsA (cst (.int 1)) nilA))) (cnsA (dTup (cnsA (cst (.int 0)) nilA)) nilA)))) (cnsA (dTup (cnsA (dTup (cnsA (cst (.int 1)) (cnsA (cst (.int 1)) nilA))) (cnsA (dTup (cnsA (cst (.int 0)) nilA)) nilA))) nilA))) nilA))))) g__law_bank_1)
def G__law_bank : List FL.Arg → RG := bodyG 1 g__law_bank
def g_is_integer : SF := (retS (anE (op1 (isiD .int) (vr 0)) (blE (noT (tst (op1 (isiD .bl) (vr 0)))))))
def G_is_integer : List FL.Arg → RG := bodyG 1 g_is_integer
def g_is_between : SF := (retS (anE (callE 1 G_is_integer (cnsB (vr 0) nilB)) (chn leD leD (vr 1) (vr 0) (vr 2))))
def G_is_between : List FL.Arg → RG := bodyG 3 g_is_between
def g_is_bead : SF := (retS (callE 3 G_is_between (cnsB (vr 0) (cnsB (op1 negD (cst (.int 1000000000))) (cnsB (cst (.int 1000000000)) nilB)))))
def G_is_bead : List FL.Arg → RG := bodyG 1 g_is_bead
def g_string_fault : SF := (seqS (ifS (orT (noT (tst (op1 (isiD .tup) (vr 0)))) (tst (op2 gtD (opC lenC (cnsA (vr 0) nilA)) (cst (.int 200))))) (retS (cst .non)) nxS) (seqS (setS 1 (frz (cmpM [2, 3] (enmI (vr 0)) (tupG 2 (cnsG (nmG 2) (cnsG (nmG 3) nilG))) (noT (tst (callE 1 G_is_bead (cnsB (vr 3) nilB)))) (vr 2)))) (retS (ifE (tst (op2 neA (vr 1) (frz (dLst nilA)))) (op2 ixD (vr 1) (cst (.int 0))) (op1 negD (cst (.int 1)))))))
def G_string_fault : List FL.Arg → RG := bodyG 4 g_string_fault
def g_is_string : SF := (retS (op2 eqA (callE 1 G_string_fault (cnsB (vr 0) nilB)) (op1 negD (cst (.int 1)))))
def G_is_string : List FL.Arg → RG := bodyG 1 g_is_string
def b_common_1 : SF := (parS 0 1 (cnsA (vr 1) (cnsA (op2 modD (vr 0) (vr 1)) nilA)))
def g_common : SF := (seqS (whS [] (tst (op2 gtD (vr 1) (cst (.int 0)))) b_common_1) (retS (vr 0)))
def G_common : List FL.Arg → RG := bodyG 2 g_common
def g_is_pair : SF := (seqS (ifS (orT (noT (tst (op1 (isiD .tup) (vr 0)))) (orT (tst (op2 neA (opC lenC (cnsA (vr 0) nilA)) (cst (.int 2)))) (orT (noT (tst (callE 1 G_is_integer (cnsB (op2 ixD (vr 0) (cst (.int 0))) nilB)))) (noT (tst (callE 1 G_is_integer (cnsB (op2 ixD (vr 0) (cst (.int 1))) nilB))))))) (retS (cst (.bl false))) nxS) (seqS (ifS (tst (op2 eqA (op2 ixD (vr 0) (cst (.int 0))) (cst (.int 0)))) (retS (op2 eqA (op2 ixD (vr 0) (cst (.int 1))) (cst (.int 1)))) nxS) (retS (anE (chn leD ltD (cst (.int 0)) (op2 ixD (vr 0) (cst (.int 1))) (op2 ixD (vr 0) (cst (.int 0)))) (op2 eqA (callE 2 G_common (cnsB (op2 ixD (vr 0) (cst (.int 0))) (cnsB (op2 ixD (vr 0) (cst (.int 1))) nilB))) (cst (.int 1)))))))
def G_is_pair : List FL.Arg → RG := bodyG 1 g_is_pair
def g_are_same_size : SF := (retS (anE (callE 1 G_is_pair (cnsB (vr 0) nilB)) (anE (callE 1 G_is_pair (cnsB (vr 1) nilB)) (op2 eqA (op2 ixD (vr 0) (cst (.int 0))) (op2 ixD (vr 1) (cst (.int 0)))))))
def G_are_same_size : List FL.Arg → RG := bodyG 2 g_are_same_size
def g_is_claim : SF := (seqS (ifS (orT (noT (tst (op1 (isiD .tup) (vr 0)))) (orT (tst (op2 neA (opC lenC (cnsA (vr 0) nilA)) (cst (.int 3)))) (noT (tst (op1 (isiD .str) (op2 ixD (vr 0) (cst (.int 0)))))))) (retS (cst (.bl false))) nxS) (seqS (ifS (tst (op2 inA (op2 ixD (vr 0) (cst (.int 0))) (cst (.tup [.str "led", .str "apart"])))) (retS (anE (callE 1 G_is_string (cnsB (op2 ixD (vr 0) (cst (.int 1))) nilB)) (callE 1 G_is_string (cnsB (op2 ixD (vr 0) (cst (.int 2))) nilB)))) nxS) (retS (anE (op2 inA (op2 ixD (vr 0) (cst (.int 0))) (cst (.tup [.str "alike", .str "for loops", .str "not for loops"]))) (callE 2 G_are_same_size (cnsB (op2 ixD (vr 0) (cst (.int 1))) (cnsB (op2 ixD (vr 0) (cst (.int 2))) nilB)))))))
def G_is_claim : List FL.Arg → RG := bodyG 1 g_is_claim
def b_strikes_1_3 : SF := (frzS 4 (ifS (anT (tst (op2 inA (vr 3) (dTup (cnsA (cst (.int 1)) (cnsA (op1 negD (cst (.int 1))) nilA))))) (tst (op2 eqA (dTup (starA (slF (vr 4) noO (smO (vr 2))) (starA (slF (vr 4) (smO (op2 addD (vr 2) (cst (.int 1)))) noO) nilA))) (vr 1)))) (retS (cst (.bl true))) nxS))
def b_strikes_1_2 : SF := (seqS (ifS (tst (op2 ltD (vr 2) (op2 subD (opC lenC (cnsA (vr 0) nilA)) (cst (.int 1))))) (subS 4 (op2 subD (ixM 4 (op2 addD (vr 2) (cst (.int 1)))) (vr 3)) (op2 addD (vr 2) (cst (.int 1)))) nxS) b_strikes_1_3)
def b_strikes_1_1 : SF := (seqS (ifS (tst (op2 gtD (vr 2) (cst (.int 0)))) (subS 4 (op2 subD (ixM 4 (op2 subD (vr 2) (cst (.int 1)))) (vr 3)) (op2 subD (vr 2) (cst (.int 1)))) nxS) b_strikes_1_2)
def b_strikes_1 : SF := (seqS (setM 4 (litM (cnsA (vr 0) nilA))) b_strikes_1_1)
def g_strikes : SF := (seqS (forS [4] (enmI (vr 0)) (tupG 2 (cnsG (nmG 2) (cnsG (nmG 3) nilG))) b_strikes_1) (retS (cst (.bl false))))
def G_strikes : List FL.Arg → RG := bodyG 5 g_strikes
def b_joins_1 : SF := (seqS (setS 3 (op2 addD (op2 ixD (vr 0) (op2 subD (vr 2) (cst (.int 1)))) (op2 ixD (vr 0) (op2 addD (vr 2) (cst (.int 1)))))) (ifS (anT (tst (op2 eqA (op2 ixD (vr 0) (vr 2)) (cst (.int 0)))) (tst (op2 eqA (dTup (starA (slF (vr 0) noO (smO (op2 subD (vr 2) (cst (.int 1))))) (cnsA (vr 3) (starA (slF (vr 0) (smO (op2 addD (vr 2) (cst (.int 2)))) noO) nilA)))) (vr 1)))) (retS (cst (.bl true))) nxS))
def g_joins : SF := (seqS (ifS (orT (anT (tst (op2 eqA (op2 ixD (vr 0) (cst (.int 0))) (cst (.int 0)))) (tst (op2 eqA (slF (vr 0) (smO (cst (.int 2))) noO) (vr 1)))) (anT (tst (op2 eqA (op2 ixD (vr 0) (op1 negD (cst (.int 1)))) (cst (.int 0)))) (tst (op2 eqA (slF (vr 0) noO (smO (op1 negD (cst (.int 2))))) (vr 1))))) (retS (cst (.bl true))) nxS) (seqS (forS [] (rng2 (cnsA (cst (.int 1)) (cnsA (op2 subD (opC lenC (cnsA (vr 0) nilA)) (cst (.int 1))) nilA))) (nmG 2) b_joins_1) (retS (cst (.bl false)))))
def G_joins : List FL.Arg → RG := bodyG 4 g_joins
def g_is_step : SF := (seqS (asgS (ifE (tst (op2 gtD (opC lenC (cnsA (vr 0) nilA)) (opC lenC (cnsA (vr 1) nilA)))) (dTup (cnsA (vr 0) (cnsA (vr 1) nilA))) (dTup (cnsA (vr 1) (cnsA (vr 0) nilA)))) (tupG 2 (cnsG (nmG 2) (cnsG (nmG 3) nilG)))) (seqS (ifS (tst (op2 eqA (opC lenC (cnsA (vr 2) nilA)) (op2 addD (opC lenC (cnsA (vr 3) nilA)) (cst (.int 1))))) (retS (callE 2 G_strikes (cnsB (vr 2) (cnsB (vr 3) nilB)))) nxS) (retS (anE (op2 eqA (opC lenC (cnsA (vr 2) nilA)) (op2 addD (opC lenC (cnsA (vr 3) nilA)) (cst (.int 2)))) (callE 2 G_joins (cnsB (vr 2) (cnsB (vr 3) nilB)))))))
def G_is_step : List FL.Arg → RG := bodyG 4 g_is_step
def g_shows_led : SF := (seqS (ifS (orT (noT (tst (op1 (isiD .tup) (vr 2)))) (orT (noT (tst (chn leD leD (cst (.int 1)) (opC lenC (cnsA (vr 2) nilA)) (cst (.int 4000))))) (noT (tst (opC allC (cnsA (frz (cmpM [3] (seqI (vr 2)) (nmG 3) yesT (callE 1 G_is_string (cnsB (vr 3) nilB)))) nilA)))))) (retS (cst (.bl false))) nxS) (seqS (ifS (orT (tst (op2 neA (op2 ixD (vr 2) (cst (.int 0))) (vr 0))) (tst (op2 neA (op2 ixD (vr 2) (op1 negD (cst (.int 1)))) (vr 1)))) (retS (cst (.bl false))) nxS) (retS (opC allC (cnsA (frz (cmpM [4] (rng1 (cnsA (op2 subD (opC lenC (cnsA (vr 2) nilA)) (cst (.int 1))) nilA)) (nmG 4) yesT (callE 2 G_is_step (cnsB (op2 ixD (vr 2) (vr 4)) (cnsB (op2 ixD (vr 2) (op2 addD (vr 4) (cst (.int 1)))) nilB))))) nilA)))))
def G_shows_led : List FL.Arg → RG := bodyG 5 g_shows_led
def b_turns_of_1 : SF := (parS 1 2 (cnsA (op2 subD (op2 mulD (vr 3) (vr 1)) (vr 2)) (cnsA (vr 1) nilA)))
def g_turns_of : SF := (seqS (asgS (dTup (cnsA (cst (.int 1)) (cnsA (cst (.int 0)) nilA))) (tupG 2 (cnsG (nmG 1) (cnsG (nmG 2) nilG)))) (seqS (forS [] (seqI (op1 revD (vr 0))) (nmG 3) b_turns_of_1) (retS (dTup (cnsA (vr 1) (cnsA (vr 2) nilA))))))
def G_turns_of : List FL.Arg → RG := bodyG 4 g_turns_of
def g_is_pair_of : SF := (seqS (asgS (callE 1 G_turns_of (cnsB (vr 1) nilB)) (tupG 2 (cnsG (nmG 2) (cnsG (nmG 3) nilG)))) (seqS (ifS (orT (noT (tst (callE 1 G_is_pair (cnsB (vr 0) nilB)))) (tst (op2 neA (op2 ixD (vr 0) (cst (.int 0))) (opC absC (cnsA (vr 2) nilA))))) (retS (cst (.bl false))) nxS) (retS (orE (op2 ltD (op2 ixD (vr 0) (cst (.int 0))) (cst (.int 2))) (op2 eqA (op2 modD (op2 subD (op2 ixD (vr 0) (cst (.int 1))) (ifE (tst (op2 gtD (vr 2) (cst (.int 0)))) (vr 3) (op1 negD (vr 3)))) (op2 ixD (vr 0) (cst (.int 0)))) (cst (.int 0)))))))
def G_is_pair_of : List FL.Arg → RG := bodyG 4 g_is_pair_of
def g_shows_apart [FE] : SF := (seqS (ifS (orT (noT (tst (op1 (isiD .tup) (vr 2)))) (orT (tst (op2 neA (opC lenC (cnsA (vr 2) nilA)) (cst (.int 2)))) (tst (op2 eqW (op2 ixD (vr 2) (cst (.int 0))) (op2 ixD (vr 2) (cst (.int 1))))))) (retS (cst (.bl false))) nxS) (retS (anE (callE 2 G_is_pair_of (cnsB (op2 ixD (vr 2) (cst (.int 0))) (cnsB (vr 0) nilB))) (callE 2 G_is_pair_of (cnsB (op2 ixD (vr 2) (cst (.int 1))) (cnsB (vr 1) nilB))))))
def G_shows_apart [FE] : List FL.Arg → RG := bodyG 3 g_shows_apart
def g_is_sign : SF := (retS (anE (callE 1 G_is_integer (cnsB (vr 0) nilB)) (op2 inA (vr 0) (dTup (cnsA (cst (.int 1)) (cnsA (op1 negD (cst (.int 1))) nilA))))))
def G_is_sign : List FL.Arg → RG := bodyG 1 g_is_sign
def g_shows_alike : SF := (seqS (setS 3 (op2 ixD (vr 0) (cst (.int 0)))) (seqS (ifS (orT (noT (tst (callE 1 G_is_sign (cnsB (vr 2) nilB)))) (tst (op2 ltD (vr 3) (cst (.int 2))))) (retS (anE (callE 1 G_is_sign (cnsB (vr 2) nilB)) (anE (op2 eqA (vr 2) (cst (.int 1))) (op2 eqA (vr 0) (vr 1))))) nxS) (retS (orE (op2 eqA (op2 modD (op2 subD (op2 mulD (vr 2) (op2 ixD (vr 0) (cst (.int 1)))) (op2 ixD (vr 1) (cst (.int 1)))) (vr 3)) (cst (.int 0))) (op2 eqA (op2 modD (op2 subD (op2 mulD (op2 ixD (vr 0) (cst (.int 1))) (op2 ixD (vr 1) (cst (.int 1)))) (vr 2)) (vr 3)) (cst (.int 0)))))))
def G_shows_alike : List FL.Arg → RG := bodyG 4 g_shows_alike
def g_shows_loops_4 : SF := (retS (op2 eqA (op2 modD (op2 subD (op2 mulD (op2 mulD (op2 mulD (vr 3) (op2 ixD (vr 0) (cst (.int 1)))) (vr 4)) (vr 4)) (op2 ixD (vr 1) (cst (.int 1)))) (vr 5)) (cst (.int 0))))
def g_shows_loops_3 : SF := (seqS (ifS (orT (noT (tst (callE 3 G_is_between (cnsB (vr 4) (cnsB (cst (.int 1)) (cnsB (vr 5) nilB)))))) (tst (op2 neA (callE 2 G_common (cnsB (vr 5) (cnsB (vr 4) nilB))) (cst (.int 1))))) (retS (cst (.bl false))) nxS) g_shows_loops_4)
def g_shows_loops_2 : SF := (seqS (ifS (tst (op2 ltD (vr 5) (cst (.int 2)))) (retS (anE (op2 eqA (vr 0) (vr 1)) (anE (callE 3 G_is_between (cnsB (vr 4) (cnsB (cst (.int 1)) (cnsB (cst (.int 1)) nilB)))) (op2 eqA (vr 3) (cst (.int 1)))))) nxS) g_shows_loops_3)
def g_shows_loops_1 : SF := (seqS (asgS (dTup (cnsA (vr 2) (cnsA (op2 ixD (vr 0) (cst (.int 0))) nilA))) (tupG 2 (cnsG (tupG 2 (cnsG (nmG 3) (cnsG (nmG 4) nilG))) (cnsG (nmG 5) nilG)))) g_shows_loops_2)
def g_shows_loops : SF := (seqS (ifS (orT (noT (tst (op1 (isiD .tup) (vr 2)))) (orT (tst (op2 neA (opC lenC (cnsA (vr 2) nilA)) (cst (.int 2)))) (noT (tst (callE 1 G_is_sign (cnsB (op2 ixD (vr 2) (cst (.int 0))) nilB)))))) (retS (cst (.bl false))) nxS) g_shows_loops_1)
def G_shows_loops : List FL.Arg → RG := bodyG 6 g_shows_loops
def b_are_apart_for_loops_1 : SF := (ifS (anT (tst (op2 eqA (callE 2 G_common (cnsB (vr 2) (cnsB (vr 3) nilB))) (cst (.int 1)))) (tst (op2 inA (op2 modD (op2 mulD (op2 mulD (op2 ixD (vr 0) (cst (.int 1))) (vr 3)) (vr 3)) (vr 2)) (dTup (cnsA (op2 ixD (vr 1) (cst (.int 1))) (cnsA (op2 subD (vr 2) (op2 ixD (vr 1) (cst (.int 1)))) nilA)))))) (retS (cst (.bl false))) nxS)
def g_are_apart_for_loops_3 : SF := (retS (cst (.bl true)))
def g_are_apart_for_loops_2 : SF := (seqS (forS [] (rng2 (cnsA (cst (.int 1)) (cnsA (vr 2) nilA))) (nmG 3) b_are_apart_for_loops_1) g_are_apart_for_loops_3)
def g_are_apart_for_loops_1 : SF := (seqS (ifS (noT (tst (chn leD leD (cst (.int 2)) (vr 2) (cst (.int 2000))))) (retS (cst (.bl false))) nxS) g_are_apart_for_loops_2)
def g_are_apart_for_loops : SF := (seqS (setS 2 (op2 ixD (vr 0) (cst (.int 0)))) g_are_apart_for_loops_1)
def G_are_apart_for_loops : List FL.Arg → RG := bodyG 4 g_are_apart_for_loops
def g_accepts_6 [FE] : SF := (retS (anE (op1 (isiD .tup) (vr 1)) (anE (op2 eqW (vr 1) (dTup nilA)) (callE 2 G_are_apart_for_loops (cnsB (vr 3) (cnsB (vr 4) nilB))))))
def g_accepts_5 [FE] : SF := (seqS (ifS (tst (op2 eqW (vr 2) (cst (.str "for loops")))) (retS (callE 3 G_shows_loops (cnsB (vr 3) (cnsB (vr 4) (cnsB (vr 1) nilB))))) nxS) g_accepts_6)
def g_accepts_4 [FE] : SF := (seqS (ifS (tst (op2 eqW (vr 2) (cst (.str "alike")))) (retS (callE 3 G_shows_alike (cnsB (vr 3) (cnsB (vr 4) (cnsB (vr 1) nilB))))) nxS) g_accepts_5)
def g_accepts_3 [FE] : SF := (seqS (ifS (tst (op2 eqW (vr 2) (cst (.str "apart")))) (retS (callE 3 G_shows_apart (cnsB (vr 3) (cnsB (vr 4) (cnsB (vr 1) nilB))))) nxS) g_accepts_4)
def g_accepts_2 [FE] : SF := (seqS (ifS (tst (op2 eqW (vr 2) (cst (.str "led")))) (retS (callE 3 G_shows_led (cnsB (vr 3) (cnsB (vr 4) (cnsB (vr 1) nilB))))) nxS) g_accepts_3)
def g_accepts_1 [FE] : SF := (seqS (asgS (vr 0) (tupG 3 (cnsG (nmG 2) (cnsG (nmG 3) (cnsG (nmG 4) nilG))))) g_accepts_2)
def g_accepts [FE] : SF := (seqS (ifS (noT (tst (callE 1 G_is_claim (cnsB (vr 0) nilB)))) (retS (cst (.bl false))) nxS) g_accepts_1)
def G_accepts [FE] : List FL.Arg → RG := bodyG 5 g_accepts
def g__law_wild_4 [FE] (r : List FL.Arg → RG) : SF := (retS (ifE (tst (op2 eqA (vr 3) (cst (.int 4)))) (dl1E (callE 2 G__law_any (slB 0 (cnsB (frz (dLst (cnsA (cst (.int 0)) (cnsA (cst (.str "a")) (cnsA (cst .non) nilA))))) nilB))) (vr 4)) (opC tupC (cnsA (vr 4) nilA))))
def g__law_wild_3 [FE] (r : List FL.Arg → RG) : SF := (seqS (ifS (tst (op2 eqA (vr 3) (cst (.int 3)))) (retS (vr 4)) nxS) (g__law_wild_4 r))
def g__law_wild_2 [FE] (r : List FL.Arg → RG) : SF := (seqS (setS 4 (frz (cmpM [5] (rng1 (cnsA (callE 2 G__law_drip (slB 0 (cnsB (cst (.int 4)) nilB))) nilA)) (nmG 5) yesT (callE 3 r (slB 0 (cnsB (op2 subD (vr 1) (cst (.int 1))) (cnsB (vr 2) nilB))))))) (g__law_wild_3 r))
def g__law_wild_1 [FE] (r : List FL.Arg → RG) : SF := (seqS (ifS (orT (tst (op2 eqA (vr 1) (cst (.int 0)))) (tst (op2 gtD (vr 3) (cst (.int 4))))) (retS (callE 2 G__law_any (slB 0 (cnsB (vr 2) nilB)))) nxS) (g__law_wild_2 r))
def g__law_wild [FE] (r : List FL.Arg → RG) : SF := (seqS (setS 3 (callE 2 G__law_drip (slB 0 (cnsB (cst (.int 9)) nilB)))) (g__law_wild_1 r))
def At__law_wild [FE] : Nat → List FL.Arg → RG
  | 0 => fun _ => .stuck
  | n + 1 => bodyG 6 (g__law_wild (At__law_wild n))
def G__law_wild [FE] : List FL.Arg → RG := At__law_wild 8
def g__law_wrong_7 : SF := (retS (op2 addD (vr 3) (frz (cmpM [7] (seqI (vr 5)) (nmG 7) yesT (op2 addD (slF (vr 1) noO (smO (cst (.int 2)))) (dTup (cnsA (vr 7) nilA)))))))
def g__law_wrong_6 : SF := (frzS 5 (seqS (setS 3 (op2 addD (vr 3) (frz (cmpM [7] (seqI (vr 5)) (nmG 7) yesT (op2 addD (op2 addD (slF (vr 1) noO (smO (cst (.int 1)))) (dTup (cnsA (vr 7) nilA))) (slF (vr 1) (smO (cst (.int 2))) noO)))))) g__law_wrong_7))
def g__law_wrong_5 : SF := (seqS (mutS 5 (frz (dLst (cnsA (cst (.int 1)) (cnsA (cst (.int 0)) nilA)))) appO) g__law_wrong_6)
def g__law_wrong_4 : SF := (seqS (setM 5 (dLst (cnsA (cst .non) (cnsA (cst (.str "")) (cnsA (cst (.int 0)) (cnsA (cst (.dct [])) (cnsA (dTup (cnsA (cst .non) nilA)) (cnsA (dTup (cnsA (cst (.str "a")) nilA)) (cnsA (dTup (cnsA (cst (.bl true)) nilA)) (cnsA (dTup (cnsA (op2 addD (op2 powD (cst (.int 10)) (cst (.int 9))) (cst (.int 1))) (cnsA (op2 addD (op2 powD (cst (.int 10)) (cst (.int 9))) (cst (.int 1))) nilA))) (cnsA (dTup (cnsA (cst (.int 1)) (cnsA (cst (.int 1)) (cnsA (cst .non) nilA)))) (cnsA (dTup (cnsA (dTup nilA) nilA)) (cnsA (dTup (cnsA (cst (.int 6)) (cnsA (cst (.int 4)) nilA))) nilA))))))))))))) g__law_wrong_5)
def g__law_wrong_3 : SF := (seqS (setS 3 (op2 addD (vr 3) (frz (cmpM [6] (seqI (vr 4)) (nmG 6) yesT (op2 addD (dTup (cnsA (vr 6) nilA)) (slF (vr 1) (smO (cst (.int 1))) noO)))))) g__law_wrong_4)
def g__law_wrong_2 : SF := (seqS (setS 4 (frz (dLst (cnsA (cst (.str "")) (cnsA (cst (.str "Led")) (cnsA (cst (.str "loops")) (cnsA (cst .non) (cnsA (cst (.int 0)) (cnsA (dTup (cnsA (op2 ixD (vr 1) (cst (.int 0))) nilA)) (cnsA (frz (dLst (cnsA (op2 ixD (vr 1) (cst (.int 0))) nilA))) (cnsA (cst (.dct [])) (cnsA (op2 addD (op2 ixD (vr 1) (cst (.int 0))) (cst (.str " "))) (cnsA (cst (.str "alike with sides")) nilA))))))))))))) g__law_wrong_3)
def g__law_wrong_1 : SF := (seqS (setS 3 (frz (dLst (cnsA (op2 addD (slF (vr 1) noO (smO (vr 2))) (slF (vr 1) (smO (op2 addD (vr 2) (cst (.int 1)))) noO)) (cnsA (op2 addD (slF (vr 1) noO (smO (op2 addD (vr 2) (cst (.int 1))))) (slF (vr 1) (smO (vr 2)) noO)) (cnsA (op2 addD (vr 1) (dTup (cnsA (dTup nilA) nilA))) (cnsA (dTup (cnsA (vr 1) nilA)) (cnsA (op1 revD (vr 1)) (cnsA (opC lstC (cnsA (vr 1) nilA)) nilA))))))))) g__law_wrong_2)
def g__law_wrong : SF := (seqS (setS 2 (callE 2 G__law_drip (slB 0 (cnsB (cst (.int 3)) nilB)))) g__law_wrong_1)
def G__law_wrong : List FL.Arg → RG := bodyG 8 g__law_wrong
def b__law_others_1 (r : List FL.Arg → RG) : SF := (setS 1 (op2 addD (vr 1) (frz (cmpM [3] (seqI (callE 1 r (cnsB (op2 ixD (vr 0) (vr 2)) nilB))) (nmG 3) yesT (op2 addD (op2 addD (slF (vr 0) noO (smO (vr 2))) (dTup (cnsA (vr 3) nilA))) (slF (vr 0) (smO (op2 addD (vr 2) (cst (.int 1)))) noO))))))
def g__law_others (r : List FL.Arg → RG) : SF := (seqS (ifS (tst (op1 (isiD .tup) (vr 0))) (seqS (setS 1 (frz (dLst (cnsA (opC lstC (cnsA (vr 0) nilA)) nilA)))) (seqS (forS [] (rng1 (cnsA (opC lenC (cnsA (vr 0) nilA)) nilA)) (nmG 2) (b__law_others_1 r)) (retS (vr 1)))) nxS) (seqS (ifS (noT (tst (op1 (isiD .int) (vr 0)))) (retM (dLst nilA)) nxS) (retS (op2 addD (frz (dLst (cnsA (opC strC (cnsA (vr 0) nilA)) (cnsA (dTup (cnsA (vr 0) nilA)) nilA)))) (ifE (tst (op2 inA (vr 0) (frz (dLst (cnsA (cst (.int 0)) (cnsA (cst (.int 1)) nilA)))))) (frz (dLst (cnsA (op2 eqA (vr 0) (cst (.int 1))) nilA))) (frz (dLst nilA)))))))
def At__law_others : Nat → List FL.Arg → RG
  | 0 => fun _ => .stuck
  | n + 1 => bodyG 4 (g__law_others (At__law_others n))
def G__law_others : List FL.Arg → RG := At__law_others 8
def b__law_right_1_9 [FE] : SF := (ifS (tst (op2 neA (frz (cmpM [11] (seqI (vr 9)) (nmG 11) (tst (op2 nisD (callE 2 G_accepts (cnsB (vr 3) (cnsB (vr 11) nilB))) (cst (.bl false)))) (vr 11))) (frz (dLst nilA)))) (retS (cst (.bl false))) nxS)
def b__law_right_1_8 [FE] : SF := (seqS (setS 9 (op2 addD (callE 1 G__law_others (cnsB (vr 4) nilB)) (frz (dLst (cnsA (cst .non) (cnsA (cst (.int 0)) (cnsA (cst (.bl true)) (cnsA (cst (.bl false)) (cnsA (cst (.str "")) (cnsA (cst (.dct [])) (cnsA (frz (dLst (cnsA (vr 4) nilA))) (cnsA (dTup (cnsA (cst .non) nilA)) (cnsA (dTup (cnsA (vr 4) (cnsA (cst .non) nilA))) (cnsA (cst (.int 2)) (cnsA (op1 negD (cst (.int 2))) nilA))))))))))))))) b__law_right_1_9)
def b__law_right_1_7 [FE] : SF := (seqS (ifS (tst (op2 neA (frz (cmpM [10] (seqI (vr 8)) (nmG 10) (tst (op2 nisD (callE 2 G_accepts (cnsB (vr 10) (cnsB (vr 4) nilB))) (cst (.bl false)))) (vr 10))) (frz (dLst nilA)))) (retS (cst (.bl false))) nxS) b__law_right_1_8)
def b__law_right_1_6 [FE] : SF := (seqS (setS 8 (op2 addD (callE 2 G__law_wrong (slB 0 (cnsB (vr 3) nilB))) (slF (callE 1 G__law_others (cnsB (vr 3) nilB)) (smO (cst (.int 1))) noO))) b__law_right_1_7)
def b__law_right_1_5 [FE] : SF := (seqS (ifS (tst (op2 neA (frz (cmpM [10] (seqI (vr 7)) (nmG 10) (anT (tst (op2 nisD (vr 10) (cst (.bl true)))) (tst (op2 nisD (vr 10) (cst (.bl false))))) (vr 10))) (frz (dLst nilA)))) (retS (cst (.bl false))) nxS) b__law_right_1_6)
def b__law_right_1_4 [FE] : SF := (seqS (setS 7 (op2 addD (vr 7) (frz (dLst (cnsA (callE 2 G_accepts (cnsB (vr 3) (cnsB (vr 6) nilB))) (cnsA (callE 2 G_accepts (cnsB (vr 6) (cnsB (vr 4) nilB))) (cnsA (callE 2 G_accepts (cnsB (dTup (cnsA (vr 3) (cnsA (vr 4) nilA))) (cnsB (vr 6) nilB))) nilA))))))) b__law_right_1_5)
def b__law_right_1_3 [FE] : SF := (seqS (setS 7 (frz (dLst (cnsA (callE 2 G_accepts (cnsB (vr 6) (cnsB (callE 3 G__law_wild (slB 0 (cnsB (cst (.int 3)) (cnsB (vr 1) nilB)))) nilB))) (cnsA (callE 2 G_accepts (cnsB (op2 addD (op2 addD (slF (vr 3) noO (smO (vr 5))) (dTup (cnsA (vr 6) nilA))) (slF (vr 3) (smO (op2 addD (vr 5) (cst (.int 1)))) noO)) (cnsB (vr 4) nilB))) nilA))))) b__law_right_1_4)
def b__law_right_1_2 [FE] : SF := (seqS (parS 5 6 (cnsA (callE 2 G__law_drip (slB 0 (cnsB (cst (.int 3)) nilB))) (cnsA (callE 3 G__law_wild (slB 0 (cnsB (cst (.int 4)) (cnsB (vr 1) nilB)))) nilA))) b__law_right_1_3)
def b__law_right_1_1 [FE] : SF := (seqS (ifS (tst (op2 nisD (callE 2 G_accepts (cnsB (vr 3) (cnsB (vr 4) nilB))) (cst (.bl true)))) (retS (cst (.bl false))) nxS) b__law_right_1_2)
def b__law_right_1 [FE] : SF := (seqS (asgS (callE 2 G__law_any (slB 0 (cnsB (callE 0 G__law_bank nilB) nilB))) (tupG 2 (cnsG (nmG 3) (cnsG (nmG 4) nilG)))) b__law_right_1_1)
def g__law_right_3 [FE] : SF := (retS (cst (.bl true)))
def g__law_right_2 [FE] : SF := (seqS (forS [] (rng1 (cnsA (cst (.int 8)) nilA)) (nmG 2) b__law_right_1) g__law_right_3)
def g__law_right_1 [FE] : SF := (seqS (setS 1 (op2 addD (vr 1) (frz (dLst (cnsA (dTup (cnsA (cst (.int 1)) (cnsA (cst (.int 0)) nilA))) (cnsA (dTup (cnsA (cst (.int 0)) (cnsA (cst (.int 1)) nilA))) (cnsA (dTup (cnsA (cst (.int 7)) (cnsA (cst (.int 3)) nilA))) (cnsA (dTup (cnsA (dTup nilA) nilA)) (cnsA (dTup (cnsA (cst (.int 2)) (cnsA (cst (.int 1)) (cnsA (cst (.int 3)) nilA)))) (cnsA (cst (.str "for loops")) (cnsA (cst (.str "not for loops")) (cnsA (dTup (cnsA (cst (.int 1)) (cnsA (cst (.int 1)) nilA))) nilA)))))))))))) g__law_right_2)
def g__law_right [FE] : SF := (seqS (setS 1 (frz (dLst (cnsA (cst .non) (cnsA (cst (.bl true)) (cnsA (cst (.bl false)) (cnsA (cst (.int 0)) (cnsA (cst (.int 1)) (cnsA (op1 negD (cst (.int 1))) (cnsA (cst (.int 2)) (cnsA (op2 powD (cst (.int 10)) (cst (.int 40))) (cnsA (cst (.str "")) (cnsA (cst (.str "a")) (cnsA (cst (.str "led")) (cnsA (cst (.str "apart")) (cnsA (cst (.str "alike")) (cnsA (dTup nilA) (cnsA (frz (dLst nilA)) (cnsA (cst (.dct [])) (cnsA (dTup (cnsA (cst (.int 0)) nilA)) (cnsA (dTup (cnsA (cst (.int 1)) nilA)) (cnsA (dTup (cnsA (cst (.int 7)) (cnsA (cst (.int 2)) nilA))) nilA)))))))))))))))))))))) g__law_right_1)
def G__law_right [FE] : List FL.Arg → RG := bodyG 12 g__law_right
def b__law_spring_1 : SF := (setS 2 (op2 modD (opC intC (cnsA (op2 addD (op2 addD (op2 mulD (vr 2) (cst (.int 48679))) (op2 mulD (opC intC (cnsA (vr 3) nilA)) (cst (.int 13)))) (cst (.int 101))) nilA)) (cst (.int 2147483549))))
def g__law_spring_4 : SF := (retM (dLst (cnsA (vr 5) (cnsA (op2 modD (opC intC (cnsA (op2 addD (op2 mulD (vr 2) (cst (.int 7))) (vr 4)) nilA)) (cst (.int 2147483543))) (cnsA (cst (.int 0)) nilA)))))
def g__law_spring_3 : SF := (seqS (setS 5 (ifE (orT (tst (op2 ltD (vr 4) (cst (.int 0)))) (tst (op2 geD (vr 4) (op2 powD (cst (.int 10)) (cst (.int 18)))))) (opC absC (cnsA (vr 4) nilA)) (cst (.int 0)))) g__law_spring_4)
def g__law_spring_2 : SF := (seqS (setS 4 (ifE (tst (op2 ltD (vr 1) (opC lenC (cnsA (vr 0) nilA)))) (opC intC (cnsA (op2 ixD (vr 0) (vr 1)) nilA)) (op2 addD (op2 mulD (cst (.int 17)) (vr 1)) (cst (.int 3))))) g__law_spring_3)
def g__law_spring_1 : SF := (seqS (forS [] (seqI (slF (vr 0) noO (smO (cst (.int 61))))) (nmG 3) b__law_spring_1) g__law_spring_2)
def g__law_spring : SF := (seqS (setS 2 (op2 addD (cst (.int 2236067)) (op2 mulD (cst (.int 141421)) (vr 1)))) g__law_spring_1)
def G__law_spring : List FL.Arg → RG := bodyG 6 g__law_spring
def g_law [FE] : SF := (retS (opC allC (cnsA (frz (cmpM [1] (rng1 (cnsA (opC maxC (cnsA (cst (.int 2)) (cnsA (opC minC (cnsA (opC lenC (cnsA (vr 0) nilA)) (cnsA (cst (.int 5)) nilA))) nilA))) nilA)) (nmG 1) yesT (callFE G__law_right (callM 2 G__law_spring (cnsB (vr 0) (cnsB (vr 1) nilB)))))) nilA)))
def G_law [FE] : List FL.Arg → RG := bodyG 2 g_law
end
section
variable [FE]
variable {P : Program} {w : World} {K : PySem.W.Frag} {mg : Str → Option Value} {base : Heap} [HS P w]
theorem sc__law_drip : FnScope ["_law_spring_here", "_law_size", "_law_digit", "_law_more"] ["_law_spring_here", "_law_size"] (defScope s__law_drip) := ⟨rfl, rfl, rfl, by decide +kernel, rfl, by decide +kernel, by decide +kernel⟩
theorem fn__law_drip {f : Addr} {fd : FuncData} (T : Txt K mg) (Fd : Fun K "_law_drip" "_law_drip" s__law_drip f fd)  : FnG P w K mg base 1 f fd ["_law_spring_here", "_law_size"] (spG K 2 G__law_drip) := by
  have z := fnG (P := P) (w := w) (mg := mg) (base := base) (k := 0) (N := ["_law_spring_here", "_law_size", "_law_digit", "_law_more"]) (ps := ["_law_spring_here", "_law_size"]) (g := g__law_drip) Fd sc__law_drip fun cdv A outer s H E π W hr tk hp => by exact (fss_cons (fs_sub (pv 0) (fe_bin o_add q_add (fe_ixM (pv 0) fe_int (fun _ _ => rfl)) fe_int) fe_int) (fss_cons (fs_if (ft_cmp op_gt q_cmp (fe_ixM (pv 0) fe_int (fun _ _ => rfl)) fe_int (by rfl)) (fss_cons (fs_asg (fe_callB q_dm call_divN rfl T.b_divmod (by decide +kernel) (fa_cons (fe_ixM (pv 0) fe_int (fun _ _ => rfl)) (fa_cons (fe_vr (pv 1)) fa_nil))) (fg_tup rfl (fgs_cons (fg_sub (W := W) (pv 0) fe_int) (fgs_cons (fg_name sc__law_drip.nd (i := 2) rfl (Or.inl rfl)) fgs_nil)))) (fss_one (fs_ret (fe_vr (pv 2))))) fss_nil) (fss_cons (fs_set sc__law_drip.nd (i := 3) rfl (Or.inl rfl) (fe_bin o_add q_add (fe_bin o_mul q_mul fe_int (fe_ixM (pv 0) fe_int (fun _ _ => rfl))) (fe_bin o_mul q_mul (fe_bin o_mul q_mul fe_int (fe_ixM (pv 0) fe_int (fun _ _ => rfl))) (fe_ixM (pv 0) fe_int (fun _ _ => rfl))))) (fss_cons (fs_sub (pv 0) (fe_bin op_modN q_mod (fe_callTy q_int call_int1 rfl T.b_int (by decide +kernel) (fa_cons (fe_bin o_add q_add (fe_bin o_mul q_mul (fe_ixM (pv 0) fe_int (fun _ _ => rfl)) fe_int) (fe_vr (pv 3))) fa_nil)) fe_int) fe_int) (fss_one (fs_ret (fe_bin op_modN q_mod (fe_callTy q_int call_int1 rfl T.b_int (by decide +kernel) (fa_cons (fe_bin o_fdiv q_fdiv (fe_ixM (pv 0) fe_int (fun _ _ => rfl)) fe_int) fa_nil)) (fe_vr (pv 1)))))))))
  exact z
theorem ok__law_drip {f : Addr} {fd : FuncData} (T : Txt K mg) (Fd : Fun K "_law_drip" "_law_drip" s__law_drip f fd) (hm : mg "_law_drip" = some (.ref f))  : Cal P w K mg base 1 "_law_drip" ["_law_spring_here", "_law_size"] [] G__law_drip :=
  cal_of Fd hm (fn__law_drip T Fd ) (fun _ _ _ _ _ _ us hl => match us, hl with | [_, _], _ => rfl) kb_nil
theorem sc__law_any : FnScope ["_law_spring_here", "_law_some"] ["_law_spring_here", "_law_some"] (defScope s__law_any) := ⟨rfl, rfl, rfl, by decide +kernel, rfl, by decide +kernel, by decide +kernel⟩
theorem fn__law_any {f : Addr} {fd : FuncData} (T : Txt K mg) (Fd : Fun K "_law_any" "_law_any" s__law_any f fd) (C__law_drip : Cal P w K mg base 1 "_law_drip" ["_law_spring_here", "_law_size"] [] G__law_drip) : FnG P w K mg base 2 f fd ["_law_spring_here", "_law_some"] (spG K 2 G__law_any) := by
  obtain ⟨f__law_drip, fd__law_drip, F__law_drip, m__law_drip, k__law_drip, b__law_drip, q__law_drip⟩ := C__law_drip.ex
  have z := fnG (P := P) (w := w) (mg := mg) (base := base) (k := 1) (N := ["_law_spring_here", "_law_some"]) (ps := ["_law_spring_here", "_law_some"]) (g := g__law_any) Fd sc__law_any fun cdv A outer s H E π W hr tk hp => by exact (fss_one (fs_ret (fe_ix (fe_vr (pv 1)) (fe_call F__law_drip (rm_mono hr (by rfl)) tk rfl m__law_drip k__law_drip b__law_drip (fb_sl (pv 0) (fb_cons (fe_callB q_len o_len rfl T.b_len (by decide +kernel) (fa_cons (fe_vr (pv 1)) fa_nil)) fb_nil))) (fun _ _ => rfl))))
  exact z
theorem ok__law_any {f : Addr} {fd : FuncData} (T : Txt K mg) (Fd : Fun K "_law_any" "_law_any" s__law_any f fd) (hm : mg "_law_any" = some (.ref f)) (C__law_drip : Cal P w K mg base 1 "_law_drip" ["_law_spring_here", "_law_size"] [] G__law_drip) : Cal P w K mg base 2 "_law_any" ["_law_spring_here", "_law_some"] [] G__law_any :=
  cal_of Fd hm (fn__law_any T Fd C__law_drip) (fun _ _ _ _ _ _ us hl => match us, hl with | [_, _], _ => rfl) kb_nil
theorem sc__law_bank : FnScope ["_law_found"] [] (defScope s__law_bank) := ⟨rfl, rfl, rfl, by decide +kernel, rfl, by decide +kernel, by decide +kernel⟩
theorem fn__law_bank {f : Addr} {fd : FuncData} (T : Txt K mg) (Fd : Fun K "_law_bank" "_law_bank" s__law_bank f fd)  : FnG P w K mg base 1 f fd [] (spG K 0 G__law_bank) := by
  have z := fnG (P := P) (w := w) (mg := mg) (base := base) (k := 0) (N := ["_law_found"]) (ps := []) (g := g__law_bank) Fd sc__law_bank fun cdv A outer s H E π W hr tk hp => by exact (fss_cons (fs_set sc__law_bank.nd (i := 0) rfl (Or.inl rfl) (fe_frz (fm_lst (fa_cons (fe_tup (fa_cons (fe_tup (fa_cons fe_str (fa_cons (fe_tup (fa_cons fe_int (fa_cons fe_int (fa_cons fe_int fa_nil)))) (fa_cons (fe_tup (fa_cons fe_int (fa_cons fe_int fa_nil))) fa_nil)))) (fa_cons (fe_tup (fa_cons (fe_tup (fa_cons fe_int (fa_cons fe_int (fa_cons fe_int fa_nil)))) (fa_cons (fe_tup (fa_cons fe_int (fa_cons fe_int fa_nil))) fa_nil))) fa_nil))) (fa_cons (fe_tup (fa_cons (fe_tup (fa_cons fe_str (fa_cons (fe_tup (fa_cons fe_int (fa_cons fe_int fa_nil))) (fa_cons (fe_tup (fa_cons fe_int fa_nil)) fa_nil)))) (fa_cons (fe_tup (fa_cons (fe_tup (fa_cons fe_int (fa_cons fe_int fa_nil))) (fa_cons (fe_tup (fa_cons fe_int fa_nil)) fa_nil))) fa_nil))) fa_nil))))) (fss_cons (fs_set sc__law_bank.nd (i := 0) rfl (Or.inl rfl) (fe_bin o_add q_add (fe_vr (pv 0)) (fe_frz (fm_lst (fa_cons (fe_tup (fa_cons (fe_tup (fa_cons fe_str (fa_cons (fe_tup (fa_cons fe_int fa_nil)) (fa_cons (fe_tup (fa_cons fe_int (fa_cons fe_int (fa_cons fe_int fa_nil)))) fa_nil)))) (fa_cons (fe_tup (fa_cons (fe_tup (fa_cons fe_int fa_nil)) (fa_cons (fe_tup (fa_cons fe_int (fa_cons fe_int (fa_cons fe_int fa_nil)))) fa_nil))) fa_nil))) (fa_cons (fe_tup (fa_cons (fe_tup (fa_cons fe_str (fa_cons (fe_tup fa_nil) (fa_cons (fe_tup fa_nil) fa_nil)))) (fa_cons (fe_tup (fa_cons (fe_tup fa_nil) fa_nil)) fa_nil))) fa_nil)))))) (fss_cons (fs_set sc__law_bank.nd (i := 0) rfl (Or.inl rfl) (fe_bin o_add q_add (fe_vr (pv 0)) (fe_frz (fm_lst (fa_cons (fe_tup (fa_cons (fe_tup (fa_cons fe_str (fa_cons (fe_tup (fa_cons (fe_un un_neg q_neg fe_int) fa_nil)) (fa_cons (fe_tup (fa_cons fe_int fa_nil)) fa_nil)))) (fa_cons (fe_tup (fa_cons (fe_tup (fa_cons (fe_un un_neg q_neg fe_int) fa_nil)) (fa_cons (fe_tup (fa_cons fe_int (fa_cons (fe_un un_neg q_neg fe_int) fa_nil))) (fa_cons (fe_tup (fa_cons fe_int fa_nil)) fa_nil)))) fa_nil))) (fa_cons (fe_tup (fa_cons (fe_tup (fa_cons fe_str (fa_cons (fe_tup (fa_cons fe_int (fa_cons fe_int (fa_cons fe_int fa_nil)))) (fa_cons (fe_tup (fa_cons fe_int fa_nil)) fa_nil)))) (fa_cons (fe_tup (fa_cons (fe_tup (fa_cons fe_int (fa_cons fe_int (fa_cons fe_int fa_nil)))) (fa_cons (fe_tup (fa_cons fe_int fa_nil)) fa_nil))) fa_nil))) fa_nil)))))) (fss_cons (fs_set sc__law_bank.nd (i := 0) rfl (Or.inl rfl) (fe_bin o_add q_add (fe_vr (pv 0)) (fe_frz (fm_lst (fa_cons (fe_tup (fa_cons (fe_tup (fa_cons fe_str (fa_cons (fe_tup (fa_cons fe_int (fa_cons fe_int fa_nil))) (fa_cons (fe_tup (fa_cons fe_int fa_nil)) fa_nil)))) (fa_cons (fe_tup (fa_cons (fe_tup (fa_cons fe_int (fa_cons fe_int fa_nil))) (fa_cons (fe_tup fa_nil) (fa_cons (fe_tup (fa_cons fe_int fa_nil)) fa_nil)))) fa_nil))) (fa_cons (fe_tup (fa_cons (fe_tup (fa_cons fe_str (fa_cons (fe_tup (fa_cons (fe_un un_neg q_neg fe_int) (fa_cons fe_int fa_nil))) (fa_cons (fe_tup (fa_cons fe_int fa_nil)) fa_nil)))) (fa_cons (fe_tup (fa_cons (fe_tup (fa_cons (fe_un un_neg q_neg fe_int) (fa_cons fe_int fa_nil))) (fa_cons (fe_tup (fa_cons fe_int fa_nil)) fa_nil))) fa_nil))) fa_nil)))))) (fss_cons (fs_set sc__law_bank.nd (i := 0) rfl (Or.inl rfl) (fe_bin o_add q_add (fe_vr (pv 0)) (fe_frz (fm_lst (fa_cons (fe_tup (fa_cons (fe_tup (fa_cons fe_str (fa_cons (fe_tup (fa_cons fe_int (fa_cons fe_int fa_nil))) (fa_cons (fe_tup (fa_cons fe_int (fa_cons fe_int fa_nil))) fa_nil)))) (fa_cons (fe_tup (fa_cons (fe_tup (fa_cons fe_int (fa_cons fe_int fa_nil))) (fa_cons (fe_tup (fa_cons fe_int (fa_cons fe_int fa_nil))) fa_nil))) fa_nil))) (fa_cons (fe_tup (fa_cons (fe_tup (fa_cons fe_str (fa_cons (fe_tup fa_nil) (fa_cons (fe_tup (fa_cons fe_int fa_nil)) fa_nil)))) (fa_cons (fe_tup (fa_cons (fe_tup (fa_cons fe_int (fa_cons fe_int fa_nil))) (fa_cons (fe_tup (fa_cons fe_int (fa_cons fe_int fa_nil))) fa_nil))) fa_nil))) fa_nil)))))) (fss_cons (fs_set sc__law_bank.nd (i := 0) rfl (Or.inl rfl) (fe_bin o_add q_add (fe_vr (pv 0)) (fe_frz (fm_lst (fa_cons (fe_tup (fa_cons (fe_tup (fa_cons fe_str (fa_cons (fe_tup (fa_cons fe_int (fa_cons (fe_un un_neg q_neg fe_int) fa_nil))) (fa_cons (fe_tup (fa_cons fe_int (fa_cons fe_int (fa_cons fe_int fa_nil)))) fa_nil)))) (fa_cons (fe_tup (fa_cons (fe_tup (fa_cons fe_int (fa_cons fe_int fa_nil))) (fa_cons (fe_tup (fa_cons fe_int (fa_cons fe_int fa_nil))) fa_nil))) fa_nil))) (fa_cons (fe_tup (fa_cons (fe_tup (fa_cons fe_str (fa_cons (fe_tup (fa_cons fe_int (fa_cons fe_int fa_nil))) (fa_cons (fe_tup (fa_cons fe_int (fa_cons fe_int fa_nil))) fa_nil)))) (fa_cons (fe_un un_neg q_neg fe_int) fa_nil))) fa_nil)))))) (fss_cons (fs_set sc__law_bank.nd (i := 0) rfl (Or.inl rfl) (fe_bin o_add q_add (fe_vr (pv 0)) (fe_frz (fm_lst (fa_cons (fe_tup (fa_cons (fe_tup (fa_cons fe_str (fa_cons (fe_tup (fa_cons fe_int (fa_cons fe_int fa_nil))) (fa_cons (fe_tup (fa_cons fe_int (fa_cons fe_int fa_nil))) fa_nil)))) (fa_cons fe_int fa_nil))) (fa_cons (fe_tup (fa_cons (fe_tup (fa_cons fe_str (fa_cons (fe_tup (fa_cons fe_int (fa_cons fe_int fa_nil))) (fa_cons (fe_tup (fa_cons fe_int (fa_cons fe_int fa_nil))) fa_nil)))) (fa_cons (fe_un un_neg q_neg fe_int) fa_nil))) (fa_cons (fe_tup (fa_cons (fe_tup (fa_cons fe_str (fa_cons (fe_tup (fa_cons fe_int (fa_cons fe_int fa_nil))) (fa_cons (fe_tup (fa_cons fe_int (fa_cons fe_int fa_nil))) fa_nil)))) (fa_cons fe_int fa_nil))) fa_nil))))))) (fss_cons (fs_set sc__law_bank.nd (i := 0) rfl (Or.inl rfl) (fe_bin o_add q_add (fe_vr (pv 0)) (fe_frz (fm_lst (fa_cons (fe_tup (fa_cons (fe_tup (fa_cons fe_str (fa_cons (fe_tup (fa_cons fe_int (fa_cons fe_int fa_nil))) (fa_cons (fe_tup (fa_cons fe_int (fa_cons fe_int fa_nil))) fa_nil)))) (fa_cons (fe_un un_neg q_neg fe_int) fa_nil))) (fa_cons (fe_tup (fa_cons (fe_tup (fa_cons fe_str (fa_cons (fe_tup (fa_cons fe_int (fa_cons fe_int fa_nil))) (fa_cons (fe_tup (fa_cons fe_int (fa_cons fe_int fa_nil))) fa_nil)))) (fa_cons (fe_tup (fa_cons fe_int (fa_cons fe_int fa_nil))) fa_nil))) fa_nil)))))) (fss_cons (fs_set sc__law_bank.nd (i := 0) rfl (Or.inl rfl) (fe_bin o_add q_add (fe_vr (pv 0)) (fe_frz (fm_lst (fa_cons (fe_tup (fa_cons (fe_tup (fa_cons fe_str (fa_cons (fe_tup (fa_cons fe_int (fa_cons fe_int fa_nil))) (fa_cons (fe_tup (fa_cons fe_int (fa_cons fe_int fa_nil))) fa_nil)))) (fa_cons (fe_tup (fa_cons (fe_un un_neg q_neg fe_int) (fa_cons fe_int fa_nil))) fa_nil))) (fa_cons (fe_tup (fa_cons (fe_tup (fa_cons fe_str (fa_cons (fe_tup (fa_cons fe_int (fa_cons fe_int fa_nil))) (fa_cons (fe_tup (fa_cons fe_int (fa_cons fe_int fa_nil))) fa_nil)))) (fa_cons (fe_tup (fa_cons fe_int (fa_cons fe_int fa_nil))) fa_nil))) fa_nil)))))) (fss_cons (fs_set sc__law_bank.nd (i := 0) rfl (Or.inl rfl) (fe_bin o_add q_add (fe_vr (pv 0)) (fe_frz (fm_lst (fa_cons (fe_tup (fa_cons (fe_tup (fa_cons fe_str (fa_cons (fe_tup (fa_cons fe_int (fa_cons fe_int fa_nil))) (fa_cons (fe_tup (fa_cons fe_int (fa_cons fe_int fa_nil))) fa_nil)))) (fa_cons (fe_tup (fa_cons (fe_un un_neg q_neg fe_int) (fa_cons fe_int fa_nil))) fa_nil))) (fa_cons (fe_tup (fa_cons (fe_tup (fa_cons fe_str (fa_cons (fe_tup (fa_cons fe_int (fa_cons fe_int fa_nil))) (fa_cons (fe_tup (fa_cons fe_int (fa_cons fe_int fa_nil))) fa_nil)))) (fa_cons (fe_tup fa_nil) fa_nil))) fa_nil)))))) (fss_one (fs_ret (fe_bin o_add q_add (fe_vr (pv 0)) (fe_frz (fm_lst (fa_cons (fe_tup (fa_cons (fe_tup (fa_cons fe_str (fa_cons (fe_tup (fa_cons fe_int (fa_cons fe_int fa_nil))) (fa_cons (fe_tup (fa_cons fe_int (fa_cons fe_int fa_nil))) fa_nil)))) (fa_cons (fe_tup fa_nil) fa_nil))) (fa_cons (fe_tup (fa_cons (fe_tup (fa_cons fe_str (fa_cons (fe_tup (fa_cons fe_int (fa_cons fe_int fa_nil))) (fa_cons (fe_tup (fa_cons fe_int (fa_cons fe_int fa_nil))) fa_nil)))) (fa_cons (fe_tup fa_nil) fa_nil))) fa_nil)))))))))))))))))
  exact z
theorem ok__law_bank {f : Addr} {fd : FuncData} (T : Txt K mg) (Fd : Fun K "_law_bank" "_law_bank" s__law_bank f fd) (hm : mg "_law_bank" = some (.ref f))  : Cal P w K mg base 1 "_law_bank" [] [] G__law_bank :=
  cal_of Fd hm (fn__law_bank T Fd ) (fun _ _ _ _ _ _ us hl => match us, hl with | [], _ => rfl) kb_nil
theorem sc_is_integer : FnScope ["value"] ["value"] (defScope s_is_integer) := ⟨rfl, rfl, rfl, by decide +kernel, rfl, by decide +kernel, by decide +kernel⟩
theorem fn_is_integer {f : Addr} {fd : FuncData} (T : Txt K mg) (Fd : Fun K "is_integer" "is_integer" s_is_integer f fd)  : FnG P w K mg base 1 f fd ["value"] (spG K 1 G_is_integer) := by
  have z := fnG (P := P) (w := w) (mg := mg) (base := base) (k := 0) (N := ["value"]) (ps := ["value"]) (g := g_is_integer) Fd sc_is_integer fun cdv A outer s H E π W hr tk hp => by exact (fss_one (fs_ret (fe_and (fe_isi (T := .int) (by intro z; cases z) rfl T.b_isinstance rfl rfl T.b_int (by decide +kernel) (fe_vr (pv 0))) (pe_one (fe_not (fe_isi (T := .bl) (by intro z; cases z) rfl T.b_isinstance rfl rfl T.b_bool (by decide +kernel) (fe_vr (pv 0))))))))
  exact z
theorem ok_is_integer {f : Addr} {fd : FuncData} (T : Txt K mg) (Fd : Fun K "is_integer" "is_integer" s_is_integer f fd) (hm : mg "is_integer" = some (.ref f))  : Cal P w K mg base 1 "is_integer" ["value"] [] G_is_integer :=
  cal_of Fd hm (fn_is_integer T Fd ) (fun _ _ _ _ _ _ us hl => match us, hl with | [_], _ => rfl) kb_nil
theorem sc_is_between : FnScope ["value", "least", "most"] ["value", "least", "most"] (defScope s_is_between) := ⟨rfl, rfl, rfl, by decide +kernel, rfl, by decide +kernel, by decide +kernel⟩
theorem fn_is_between {f : Addr} {fd : FuncData} (T : Txt K mg) (Fd : Fun K "is_between" "is_between" s_is_between f fd) (C_is_integer : Cal P w K mg base 1 "is_integer" ["value"] [] G_is_integer) : FnG P w K mg base 2 f fd ["value", "least", "most"] (spG K 3 G_is_between) := by
  obtain ⟨f_is_integer, fd_is_integer, F_is_integer, m_is_integer, k_is_integer, b_is_integer, q_is_integer⟩ := C_is_integer.ex
  have z := fnG (P := P) (w := w) (mg := mg) (base := base) (k := 1) (N := ["value", "least", "most"]) (ps := ["value", "least", "most"]) (g := g_is_between) Fd sc_is_between fun cdv A outer s H E π W hr tk hp => by exact (fss_one (fs_ret (fe_and (fe_call F_is_integer (rm_mono hr (by rfl)) tk rfl m_is_integer k_is_integer b_is_integer (fb_cons (fe_vr (pv 0)) fb_nil)) (pe_one (fe_chn op_le op_le q_cmp q_cmp (fe_vr (pv 1)) (fe_vr (pv 0)) (fe_vr (pv 2)) (by rfl))))))
  exact z
theorem ok_is_between {f : Addr} {fd : FuncData} (T : Txt K mg) (Fd : Fun K "is_between" "is_between" s_is_between f fd) (hm : mg "is_between" = some (.ref f)) (C_is_integer : Cal P w K mg base 1 "is_integer" ["value"] [] G_is_integer) : Cal P w K mg base 2 "is_between" ["value", "least", "most"] [] G_is_between :=
  cal_of Fd hm (fn_is_between T Fd C_is_integer) (fun _ _ _ _ _ _ us hl => match us, hl with | [_, _, _], _ => rfl) kb_nil
theorem sc_is_bead : FnScope ["value"] ["value"] (defScope s_is_bead) := ⟨rfl, rfl, rfl, by decide +kernel, rfl, by decide +kernel, by decide +kernel⟩
theorem fn_is_bead {f : Addr} {fd : FuncData} (T : Txt K mg) (Fd : Fun K "is_bead" "is_bead" s_is_bead f fd) (C_is_between : Cal P w K mg base 2 "is_between" ["value", "least", "most"] [] G_is_between) : FnG P w K mg base 3 f fd ["value"] (spG K 1 G_is_bead) := by
  obtain ⟨f_is_between, fd_is_between, F_is_between, m_is_between, k_is_between, b_is_between, q_is_between⟩ := C_is_between.ex
  obtain ⟨t_MOST_NUMBER, m_MOST_NUMBER⟩ := T.c_MOST_NUMBER
  have z := fnG (P := P) (w := w) (mg := mg) (base := base) (k := 2) (N := ["value"]) (ps := ["value"]) (g := g_is_bead) Fd sc_is_bead fun cdv A outer s H E π W hr tk hp => by exact (fss_one (fs_ret (fe_call F_is_between (rm_mono hr (by rfl)) tk rfl m_is_between k_is_between b_is_between (fb_cons (fe_vr (pv 0)) (fb_cons (fe_un un_neg q_neg (fe_gint rfl m_MOST_NUMBER)) (fb_cons (fe_gint rfl m_MOST_NUMBER) fb_nil))))))
  exact z
theorem ok_is_bead {f : Addr} {fd : FuncData} (T : Txt K mg) (Fd : Fun K "is_bead" "is_bead" s_is_bead f fd) (hm : mg "is_bead" = some (.ref f)) (C_is_between : Cal P w K mg base 2 "is_between" ["value", "least", "most"] [] G_is_between) : Cal P w K mg base 3 "is_bead" ["value"] [] G_is_bead :=
  cal_of Fd hm (fn_is_bead T Fd C_is_between) (fun _ _ _ _ _ _ us hl => match us, hl with | [_], _ => rfl) kb_nil
theorem sc_string_fault : FnScope ["value", "wrong", "index", "bead"] ["value"] (defScope s_string_fault) := ⟨rfl, rfl, rfl, by decide +kernel, rfl, by decide +kernel, by decide +kernel⟩
theorem fn_string_fault {f : Addr} {fd : FuncData} (T : Txt K mg) (Fd : Fun K "string_fault" "string_fault" s_string_fault f fd) (C_is_bead : Cal P w K mg base 3 "is_bead" ["value"] [] G_is_bead) : FnG P w K mg base 4 f fd ["value"] (spG K 1 G_string_fault) := by
  obtain ⟨f_is_bead, fd_is_bead, F_is_bead, m_is_bead, k_is_bead, b_is_bead, q_is_bead⟩ := C_is_bead.ex
  obtain ⟨t_MOST_BEADS, m_MOST_BEADS⟩ := T.c_MOST_BEADS
  have z := fnG (P := P) (w := w) (mg := mg) (base := base) (k := 3) (N := ["value", "wrong", "index", "bead"]) (ps := ["value"]) (g := g_string_fault) Fd sc_string_fault fun cdv A outer s H E π W hr tk hp => by exact (fss_cons (fs_if (PW.pt (fw_or (ft_not (ft_val (fe_isi (T := .tup) (by intro z; cases z) rfl T.b_isinstance rfl rfl T.b_tuple (by decide +kernel) (fe_vr (pv 0))))) (pw_or1 (ft_cmp op_gt q_cmp (fe_callB q_len o_len rfl T.b_len (by decide +kernel) (fa_cons (fe_vr (pv 0)) fa_nil)) (fe_gint rfl m_MOST_BEADS) (by rfl))))) (fss_one (fs_ret fe_non)) fss_nil) (fss_cons (fs_setLc (own := [("index", 2), ("bead", 3)]) (i := 1) rfl sc_string_fault.nd rfl rfl (by rfl) (fi_enum rfl T.b_enumerate (fe_vr (pv 0))) (show BlkOk ["value", "wrong", "index", "bead"] (defScope s_string_fault) _ _ from blkOk_by (by decide +kernel)) (fun _ _ _ _ _ => (fg_tup rfl (fgs_cons (fg_name sc_string_fault.nd (i := 2) rfl (Or.inl rfl)) (fgs_cons (fg_name sc_string_fault.nd (i := 3) rfl (Or.inl rfl)) fgs_nil)))) (fun _ _ _ _ _ => (pts_one (ft_not (ft_val (fe_call F_is_bead (rm_mono hr (by rfl)) takes_0 rfl m_is_bead k_is_bead b_is_bead (fb_cons (fe_vr (pv 3)) fb_nil)))))) (fun _ _ _ _ _ => (fe_vr (pv 2))) (by decide)) (fss_one (fs_ret (fe_if (ft_cmp (o_neA hr.u64) q_neA (fe_vr (pv 1)) (fe_frz (fm_lst fa_nil)) (by rfl)) (fe_ix (fe_vr (pv 1)) fe_int (fun _ _ => rfl)) (fe_un un_neg q_neg fe_int))))))
  exact z
theorem ok_string_fault {f : Addr} {fd : FuncData} (T : Txt K mg) (Fd : Fun K "string_fault" "string_fault" s_string_fault f fd) (hm : mg "string_fault" = some (.ref f)) (C_is_bead : Cal P w K mg base 3 "is_bead" ["value"] [] G_is_bead) : Cal P w K mg base 4 "string_fault" ["value"] [] G_string_fault :=
  cal_of Fd hm (fn_string_fault T Fd C_is_bead) (fun _ _ _ _ _ _ us hl => match us, hl with | [_], _ => rfl) kb_nil
theorem sc_is_string : FnScope ["value"] ["value"] (defScope s_is_string) := ⟨rfl, rfl, rfl, by decide +kernel, rfl, by decide +kernel, by decide +kernel⟩
theorem fn_is_string {f : Addr} {fd : FuncData} (T : Txt K mg) (Fd : Fun K "is_string" "is_string" s_is_string f fd) (C_string_fault : Cal P w K mg base 4 "string_fault" ["value"] [] G_string_fault) : FnG P w K mg base 5 f fd ["value"] (spG K 1 G_is_string) := by
  obtain ⟨f_string_fault, fd_string_fault, F_string_fault, m_string_fault, k_string_fault, b_string_fault, q_string_fault⟩ := C_string_fault.ex
  have z := fnG (P := P) (w := w) (mg := mg) (base := base) (k := 4) (N := ["value"]) (ps := ["value"]) (g := g_is_string) Fd sc_is_string fun cdv A outer s H E π W hr tk hp => by exact (fss_one (fs_ret (fe_cmp (o_eqA hr.u64) q_eqA (fe_call F_string_fault (rm_mono hr (by rfl)) tk rfl m_string_fault k_string_fault b_string_fault (fb_cons (fe_vr (pv 0)) fb_nil)) (fe_un un_neg q_neg fe_int) (by rfl))))
  exact z
theorem ok_is_string {f : Addr} {fd : FuncData} (T : Txt K mg) (Fd : Fun K "is_string" "is_string" s_is_string f fd) (hm : mg "is_string" = some (.ref f)) (C_string_fault : Cal P w K mg base 4 "string_fault" ["value"] [] G_string_fault) : Cal P w K mg base 5 "is_string" ["value"] [] G_is_string :=
  cal_of Fd hm (fn_is_string T Fd C_string_fault) (fun _ _ _ _ _ _ us hl => match us, hl with | [_], _ => rfl) kb_nil
theorem sc_common : FnScope ["high", "low"] ["high", "low"] (defScope s_common) := ⟨rfl, rfl, rfl, by decide +kernel, rfl, by decide +kernel, by decide +kernel⟩
theorem fn_common {f : Addr} {fd : FuncData} (T : Txt K mg) (Fd : Fun K "common" "common" s_common f fd)  : FnG P w K mg base 1 f fd ["high", "low"] (spG K 2 G_common) := by
  have z := fnG (P := P) (w := w) (mg := mg) (base := base) (k := 0) (N := ["high", "low"]) (ps := ["high", "low"]) (g := g_common) Fd sc_common fun cdv A outer s H E π W hr tk hp => by exact (fss_cons (fs_while (ks := []) hp (ft_cmp op_gt q_cmp (fe_vr (pv 1)) fe_int (by rfl)) (fss_one (fs_par rfl sc_common.nd (i := 0) (j := 1) rfl rfl (by decide) rfl rfl (fa_cons (fe_vr (pv 1)) (fa_cons (fe_bin op_modN q_mod (fe_vr (pv 0)) (fe_vr (pv 1))) fa_nil)) (by rfl)))) (fss_one (fs_ret (fe_vr (pv 0)))))
  exact z
theorem ok_common {f : Addr} {fd : FuncData} (T : Txt K mg) (Fd : Fun K "common" "common" s_common f fd) (hm : mg "common" = some (.ref f))  : Cal P w K mg base 1 "common" ["high", "low"] [] G_common :=
  cal_of Fd hm (fn_common T Fd ) (fun _ _ _ _ _ _ us hl => match us, hl with | [_, _], _ => rfl) kb_nil
theorem sc_is_pair : FnScope ["value"] ["value"] (defScope s_is_pair) := ⟨rfl, rfl, rfl, by decide +kernel, rfl, by decide +kernel, by decide +kernel⟩
theorem fn_is_pair {f : Addr} {fd : FuncData} (T : Txt K mg) (Fd : Fun K "is_pair" "is_pair" s_is_pair f fd) (C_is_integer : Cal P w K mg base 1 "is_integer" ["value"] [] G_is_integer) (C_common : Cal P w K mg base 1 "common" ["high", "low"] [] G_common) : FnG P w K mg base 2 f fd ["value"] (spG K 1 G_is_pair) := by
  obtain ⟨f_is_integer, fd_is_integer, F_is_integer, m_is_integer, k_is_integer, b_is_integer, q_is_integer⟩ := C_is_integer.ex
  obtain ⟨f_common, fd_common, F_common, m_common, k_common, b_common, q_common⟩ := C_common.ex
  have z := fnG (P := P) (w := w) (mg := mg) (base := base) (k := 1) (N := ["value"]) (ps := ["value"]) (g := g_is_pair) Fd sc_is_pair fun cdv A outer s H E π W hr tk hp => by exact (fss_cons (fs_if (PW.pt (fw_or (ft_not (ft_val (fe_isi (T := .tup) (by intro z; cases z) rfl T.b_isinstance rfl rfl T.b_tuple (by decide +kernel) (fe_vr (pv 0))))) (fw_or (ft_cmp (o_neA hr.u64) q_neA (fe_callB q_len o_len rfl T.b_len (by decide +kernel) (fa_cons (fe_vr (pv 0)) fa_nil)) fe_int (by rfl)) (fw_or (ft_not (ft_val (fe_call F_is_integer (rm_mono hr (by rfl)) tk rfl m_is_integer k_is_integer b_is_integer (fb_cons (fe_ix (fe_vr (pv 0)) fe_int (fun _ _ => rfl)) fb_nil)))) (pw_or1 (ft_not (ft_val (fe_call F_is_integer (rm_mono hr (by rfl)) tk rfl m_is_integer k_is_integer b_is_integer (fb_cons (fe_ix (fe_vr (pv 0)) fe_int (fun _ _ => rfl)) fb_nil))))))))) (fss_one (fs_ret fe_bl)) fss_nil) (fss_cons (fs_if (ft_cmp (o_eqA hr.u64) q_eqA (fe_ix (fe_vr (pv 0)) fe_int (fun _ _ => rfl)) fe_int (by rfl)) (fss_one (fs_ret (fe_cmp (o_eqA hr.u64) q_eqA (fe_ix (fe_vr (pv 0)) fe_int (fun _ _ => rfl)) fe_int (by rfl)))) fss_nil) (fss_one (fs_ret (fe_and (fe_chn op_le op_lt q_cmp q_cmp fe_int (fe_ix (fe_vr (pv 0)) fe_int (fun _ _ => rfl)) (fe_ix (fe_vr (pv 0)) fe_int (fun _ _ => rfl)) (by rfl)) (pe_one (fe_cmp (o_eqA hr.u64) q_eqA (fe_call F_common (rm_mono hr (by rfl)) tk rfl m_common k_common b_common (fb_cons (fe_ix (fe_vr (pv 0)) fe_int (fun _ _ => rfl)) (fb_cons (fe_ix (fe_vr (pv 0)) fe_int (fun _ _ => rfl)) fb_nil))) fe_int (by rfl))))))))
  exact z
theorem ok_is_pair {f : Addr} {fd : FuncData} (T : Txt K mg) (Fd : Fun K "is_pair" "is_pair" s_is_pair f fd) (hm : mg "is_pair" = some (.ref f)) (C_is_integer : Cal P w K mg base 1 "is_integer" ["value"] [] G_is_integer) (C_common : Cal P w K mg base 1 "common" ["high", "low"] [] G_common) : Cal P w K mg base 2 "is_pair" ["value"] [] G_is_pair :=
  cal_of Fd hm (fn_is_pair T Fd C_is_integer C_common) (fun _ _ _ _ _ _ us hl => match us, hl with | [_], _ => rfl) kb_nil
theorem sc_are_same_size : FnScope ["one", "other"] ["one", "other"] (defScope s_are_same_size) := ⟨rfl, rfl, rfl, by decide +kernel, rfl, by decide +kernel, by decide +kernel⟩
theorem fn_are_same_size {f : Addr} {fd : FuncData} (T : Txt K mg) (Fd : Fun K "are_same_size" "are_same_size" s_are_same_size f fd) (C_is_pair : Cal P w K mg base 2 "is_pair" ["value"] [] G_is_pair) : FnG P w K mg base 3 f fd ["one", "other"] (spG K 2 G_are_same_size) := by
  obtain ⟨f_is_pair, fd_is_pair, F_is_pair, m_is_pair, k_is_pair, b_is_pair, q_is_pair⟩ := C_is_pair.ex
  have z := fnG (P := P) (w := w) (mg := mg) (base := base) (k := 2) (N := ["one", "other"]) (ps := ["one", "other"]) (g := g_are_same_size) Fd sc_are_same_size fun cdv A outer s H E π W hr tk hp => by exact (fss_one (fs_ret (fe_and (fe_call F_is_pair (rm_mono hr (by rfl)) tk rfl m_is_pair k_is_pair b_is_pair (fb_cons (fe_vr (pv 0)) fb_nil)) (fe_and (fe_call F_is_pair (rm_mono hr (by rfl)) tk rfl m_is_pair k_is_pair b_is_pair (fb_cons (fe_vr (pv 1)) fb_nil)) (pe_one (fe_cmp (o_eqA hr.u64) q_eqA (fe_ix (fe_vr (pv 0)) fe_int (fun _ _ => rfl)) (fe_ix (fe_vr (pv 1)) fe_int (fun _ _ => rfl)) (by rfl)))))))
  exact z
theorem ok_are_same_size {f : Addr} {fd : FuncData} (T : Txt K mg) (Fd : Fun K "are_same_size" "are_same_size" s_are_same_size f fd) (hm : mg "are_same_size" = some (.ref f)) (C_is_pair : Cal P w K mg base 2 "is_pair" ["value"] [] G_is_pair) : Cal P w K mg base 3 "are_same_size" ["one", "other"] [] G_are_same_size :=
  cal_of Fd hm (fn_are_same_size T Fd C_is_pair) (fun _ _ _ _ _ _ us hl => match us, hl with | [_, _], _ => rfl) kb_nil
theorem sc_is_claim : FnScope ["value"] ["value"] (defScope s_is_claim) := ⟨rfl, rfl, rfl, by decide +kernel, rfl, by decide +kernel, by decide +kernel⟩
theorem fn_is_claim {f : Addr} {fd : FuncData} (T : Txt K mg) (Fd : Fun K "is_claim" "is_claim" s_is_claim f fd) (C_is_string : Cal P w K mg base 5 "is_string" ["value"] [] G_is_string) (C_are_same_size : Cal P w K mg base 3 "are_same_size" ["one", "other"] [] G_are_same_size) : FnG P w K mg base 6 f fd ["value"] (spG K 1 G_is_claim) := by
  obtain ⟨f_is_string, fd_is_string, F_is_string, m_is_string, k_is_string, b_is_string, q_is_string⟩ := C_is_string.ex
  obtain ⟨f_are_same_size, fd_are_same_size, F_are_same_size, m_are_same_size, k_are_same_size, b_are_same_size, q_are_same_size⟩ := C_are_same_size.ex
  obtain ⟨a_OF_STRINGS, m_OF_STRINGS, h_OF_STRINGS⟩ := T.c_OF_STRINGS
  have r_OF_STRINGS : ∀ F : Hp, Reps K F [V.str "led", V.str "apart"] [D.str "led", D.str "apart"] := fun F => .cons (.str _) (.cons (.str _) (.nil))
  obtain ⟨a_OF_PAIRS, m_OF_PAIRS, h_OF_PAIRS⟩ := T.c_OF_PAIRS
  have r_OF_PAIRS : ∀ F : Hp, Reps K F [V.str "alike", V.str "for loops", V.str "not for loops"] [D.str "alike", D.str "for loops", D.str "not for loops"] := fun F => .cons (.str _) (.cons (.str _) (.cons (.str _) (.nil)))
  have z := fnG (P := P) (w := w) (mg := mg) (base := base) (k := 5) (N := ["value"]) (ps := ["value"]) (g := g_is_claim) Fd sc_is_claim fun cdv A outer s H E π W hr tk hp => by exact (fss_cons (fs_if (PW.pt (fw_or (ft_not (ft_val (fe_isi (T := .tup) (by intro z; cases z) rfl T.b_isinstance rfl rfl T.b_tuple (by decide +kernel) (fe_vr (pv 0))))) (fw_or (ft_cmp (o_neA hr.u64) q_neA (fe_callB q_len o_len rfl T.b_len (by decide +kernel) (fa_cons (fe_vr (pv 0)) fa_nil)) fe_int (by rfl)) (pw_or1 (ft_not (ft_val (fe_isi (T := .str) (by intro z; cases z) rfl T.b_isinstance rfl rfl T.b_str (by decide +kernel) (fe_ix (fe_vr (pv 0)) fe_int (fun _ _ => rfl))))))))) (fss_one (fs_ret fe_bl)) fss_nil) (fss_cons (fs_if (ft_cmp (o_inA hr.u65) q_inA (fe_ix (fe_vr (pv 0)) fe_int (fun _ _ => rfl)) (fe_gtup rfl m_OF_STRINGS h_OF_STRINGS r_OF_STRINGS) (by rfl)) (fss_one (fs_ret (fe_and (fe_call F_is_string (rm_mono hr (by rfl)) tk rfl m_is_string k_is_string b_is_string (fb_cons (fe_ix (fe_vr (pv 0)) fe_int (fun _ _ => rfl)) fb_nil)) (pe_one (fe_call F_is_string (rm_mono hr (by rfl)) tk rfl m_is_string k_is_string b_is_string (fb_cons (fe_ix (fe_vr (pv 0)) fe_int (fun _ _ => rfl)) fb_nil)))))) fss_nil) (fss_one (fs_ret (fe_and (fe_cmp (o_inA hr.u65) q_inA (fe_ix (fe_vr (pv 0)) fe_int (fun _ _ => rfl)) (fe_gtup rfl m_OF_PAIRS h_OF_PAIRS r_OF_PAIRS) (by rfl)) (pe_one (fe_call F_are_same_size (rm_mono hr (by rfl)) tk rfl m_are_same_size k_are_same_size b_are_same_size (fb_cons (fe_ix (fe_vr (pv 0)) fe_int (fun _ _ => rfl)) (fb_cons (fe_ix (fe_vr (pv 0)) fe_int (fun _ _ => rfl)) fb_nil)))))))))
  exact z
theorem ok_is_claim {f : Addr} {fd : FuncData} (T : Txt K mg) (Fd : Fun K "is_claim" "is_claim" s_is_claim f fd) (hm : mg "is_claim" = some (.ref f)) (C_is_string : Cal P w K mg base 5 "is_string" ["value"] [] G_is_string) (C_are_same_size : Cal P w K mg base 3 "are_same_size" ["one", "other"] [] G_are_same_size) : Cal P w K mg base 6 "is_claim" ["value"] [] G_is_claim :=
  cal_of Fd hm (fn_is_claim T Fd C_is_string C_are_same_size) (fun _ _ _ _ _ _ us hl => match us, hl with | [_], _ => rfl) kb_nil
theorem sc_strikes : FnScope ["long", "short", "index", "bead", "lower"] ["long", "short"] (defScope s_strikes) := ⟨rfl, rfl, rfl, by decide +kernel, rfl, by decide +kernel, by decide +kernel⟩
theorem fn_strikes {f : Addr} {fd : FuncData} (T : Txt K mg) (Fd : Fun K "strikes" "strikes" s_strikes f fd)  : FnG P w K mg base 1 f fd ["long", "short"] (spG K 2 G_strikes) := by
  have z := fnG (P := P) (w := w) (mg := mg) (base := base) (k := 0) (N := ["long", "short", "index", "bead", "lower"]) (ps := ["long", "short"]) (g := g_strikes) Fd sc_strikes fun cdv A outer s H E π W hr tk hp => by exact (fss_cons (fs_for (ks := [4]) hp rfl (fi_enum rfl T.b_enumerate (fe_vr (pv 0))) (fg_tup rfl (fgs_cons (fg_name sc_strikes.nd (i := 2) rfl (Or.inl rfl)) (fgs_cons (fg_name sc_strikes.nd (i := 3) rfl (Or.inl rfl)) fgs_nil))) (fss_cons (fs_setM sc_strikes.nd (i := 4) rfl (Or.inl rfl) (fm_list rfl T.b_list (by decide +kernel) (fa_cons (fe_vr (pv 0)) fa_nil))) (fss_cons (fs_if (ft_cmp op_gt q_cmp (fe_vr (pv 2)) fe_int (by rfl)) (fss_one (fs_sub (pv 4) (fe_bin op_sub q_sub (fe_ixM (pv 4) (fe_bin op_sub q_sub (fe_vr (pv 2)) fe_int) (fun _ _ => rfl)) (fe_vr (pv 3))) (fe_bin op_sub q_sub (fe_vr (pv 2)) fe_int))) fss_nil) (fss_cons (fs_if (ft_cmp op_lt q_cmp (fe_vr (pv 2)) (fe_bin op_sub q_sub (fe_callB q_len o_len rfl T.b_len (by decide +kernel) (fa_cons (fe_vr (pv 0)) fa_nil)) fe_int) (by rfl)) (fss_one (fs_sub (pv 4) (fe_bin op_sub q_sub (fe_ixM (pv 4) (fe_bin o_add q_add (fe_vr (pv 2)) fe_int) (fun _ _ => rfl)) (fe_vr (pv 3))) (fe_bin o_add q_add (fe_vr (pv 2)) fe_int))) fss_nil) (fss_frz (i := 4) (fss_one (fs_if (PW.pt (fw_and (ft_cmp (o_inA hr.u65) q_inA (fe_vr (pv 3)) (fe_tup (fa_cons fe_int (fa_cons (fe_un un_neg q_neg fe_int) fa_nil))) (by rfl)) (pw_and1 (ft_cmp (o_eqA hr.u64) q_eqA (fe_tup (fa_star (fe_sl (fe_vr (pv 4)) fo_none (fo_some (fe_vr (pv 2)))) (fa_star (fe_sl (fe_vr (pv 4)) (fo_some (fe_bin o_add q_add (fe_vr (pv 2)) fe_int)) fo_none) fa_nil))) (fe_vr (pv 1)) (by rfl))))) (fss_one (fs_ret fe_bl)) fss_nil))))))) (fss_one (fs_ret fe_bl)))
  exact z
theorem ok_strikes {f : Addr} {fd : FuncData} (T : Txt K mg) (Fd : Fun K "strikes" "strikes" s_strikes f fd) (hm : mg "strikes" = some (.ref f))  : Cal P w K mg base 1 "strikes" ["long", "short"] [] G_strikes :=
  cal_of Fd hm (fn_strikes T Fd ) (fun _ _ _ _ _ _ us hl => match us, hl with | [_, _], _ => rfl) kb_nil
theorem sc_joins : FnScope ["long", "short", "index", "whole"] ["long", "short"] (defScope s_joins) := ⟨rfl, rfl, rfl, by decide +kernel, rfl, by decide +kernel, by decide +kernel⟩
theorem fn_joins {f : Addr} {fd : FuncData} (T : Txt K mg) (Fd : Fun K "joins" "joins" s_joins f fd)  : FnG P w K mg base 1 f fd ["long", "short"] (spG K 2 G_joins) := by
  have z := fnG (P := P) (w := w) (mg := mg) (base := base) (k := 0) (N := ["long", "short", "index", "whole"]) (ps := ["long", "short"]) (g := g_joins) Fd sc_joins fun cdv A outer s H E π W hr tk hp => by exact (fss_cons (fs_if (PW.pt (fw_or (PW.pt (fw_and (ft_cmp (o_eqA hr.u64) q_eqA (fe_ix (fe_vr (pv 0)) fe_int (fun _ _ => rfl)) fe_int (by rfl)) (pw_and1 (ft_cmp (o_eqA hr.u64) q_eqA (fe_sl (fe_vr (pv 0)) (fo_some fe_int) fo_none) (fe_vr (pv 1)) (by rfl))))) (pw_or1 (PW.pt (fw_and (ft_cmp (o_eqA hr.u64) q_eqA (fe_ix (fe_vr (pv 0)) (fe_un un_neg q_neg fe_int) (fun _ _ => rfl)) fe_int (by rfl)) (pw_and1 (ft_cmp (o_eqA hr.u64) q_eqA (fe_sl (fe_vr (pv 0)) fo_none (fo_some (fe_un un_neg q_neg fe_int))) (fe_vr (pv 1)) (by rfl)))))))) (fss_one (fs_ret fe_bl)) fss_nil) (fss_cons (fs_for (ks := []) hp rfl (fi_range2 rfl T.b_range (fa_cons fe_int (fa_cons (fe_bin op_sub q_sub (fe_callB q_len o_len rfl T.b_len (by decide +kernel) (fa_cons (fe_vr (pv 0)) fa_nil)) fe_int) fa_nil))) (fg_name sc_joins.nd (i := 2) rfl (Or.inl rfl)) (fss_cons (fs_set sc_joins.nd (i := 3) rfl (Or.inl rfl) (fe_bin o_add q_add (fe_ix (fe_vr (pv 0)) (fe_bin op_sub q_sub (fe_vr (pv 2)) fe_int) (fun _ _ => rfl)) (fe_ix (fe_vr (pv 0)) (fe_bin o_add q_add (fe_vr (pv 2)) fe_int) (fun _ _ => rfl)))) (fss_one (fs_if (PW.pt (fw_and (ft_cmp (o_eqA hr.u64) q_eqA (fe_ix (fe_vr (pv 0)) (fe_vr (pv 2)) (fun _ _ => rfl)) fe_int (by rfl)) (pw_and1 (ft_cmp (o_eqA hr.u64) q_eqA (fe_tup (fa_star (fe_sl (fe_vr (pv 0)) fo_none (fo_some (fe_bin op_sub q_sub (fe_vr (pv 2)) fe_int))) (fa_cons (fe_vr (pv 3)) (fa_star (fe_sl (fe_vr (pv 0)) (fo_some (fe_bin o_add q_add (fe_vr (pv 2)) fe_int)) fo_none) fa_nil)))) (fe_vr (pv 1)) (by rfl))))) (fss_one (fs_ret fe_bl)) fss_nil)))) (fss_one (fs_ret fe_bl))))
  exact z
theorem ok_joins {f : Addr} {fd : FuncData} (T : Txt K mg) (Fd : Fun K "joins" "joins" s_joins f fd) (hm : mg "joins" = some (.ref f))  : Cal P w K mg base 1 "joins" ["long", "short"] [] G_joins :=
  cal_of Fd hm (fn_joins T Fd ) (fun _ _ _ _ _ _ us hl => match us, hl with | [_, _], _ => rfl) kb_nil
theorem sc_is_step : FnScope ["one", "other", "long", "short"] ["one", "other"] (defScope s_is_step) := ⟨rfl, rfl, rfl, by decide +kernel, rfl, by decide +kernel, by decide +kernel⟩
theorem fn_is_step {f : Addr} {fd : FuncData} (T : Txt K mg) (Fd : Fun K "is_step" "is_step" s_is_step f fd) (C_strikes : Cal P w K mg base 1 "strikes" ["long", "short"] [] G_strikes) (C_joins : Cal P w K mg base 1 "joins" ["long", "short"] [] G_joins) : FnG P w K mg base 2 f fd ["one", "other"] (spG K 2 G_is_step) := by
  obtain ⟨f_strikes, fd_strikes, F_strikes, m_strikes, k_strikes, b_strikes, q_strikes⟩ := C_strikes.ex
  obtain ⟨f_joins, fd_joins, F_joins, m_joins, k_joins, b_joins, q_joins⟩ := C_joins.ex
  have z := fnG (P := P) (w := w) (mg := mg) (base := base) (k := 1) (N := ["one", "other", "long", "short"]) (ps := ["one", "other"]) (g := g_is_step) Fd sc_is_step fun cdv A outer s H E π W hr tk hp => by exact (fss_cons (fs_asg (fe_if (ft_cmp op_gt q_cmp (fe_callB q_len o_len rfl T.b_len (by decide +kernel) (fa_cons (fe_vr (pv 0)) fa_nil)) (fe_callB q_len o_len rfl T.b_len (by decide +kernel) (fa_cons (fe_vr (pv 1)) fa_nil)) (by rfl)) (fe_tup (fa_cons (fe_vr (pv 0)) (fa_cons (fe_vr (pv 1)) fa_nil))) (fe_tup (fa_cons (fe_vr (pv 1)) (fa_cons (fe_vr (pv 0)) fa_nil)))) (fg_tup rfl (fgs_cons (fg_name sc_is_step.nd (i := 2) rfl (Or.inl rfl)) (fgs_cons (fg_name sc_is_step.nd (i := 3) rfl (Or.inl rfl)) fgs_nil)))) (fss_cons (fs_if (ft_cmp (o_eqA hr.u64) q_eqA (fe_callB q_len o_len rfl T.b_len (by decide +kernel) (fa_cons (fe_vr (pv 2)) fa_nil)) (fe_bin o_add q_add (fe_callB q_len o_len rfl T.b_len (by decide +kernel) (fa_cons (fe_vr (pv 3)) fa_nil)) fe_int) (by rfl)) (fss_one (fs_ret (fe_call F_strikes (rm_mono hr (by rfl)) tk rfl m_strikes k_strikes b_strikes (fb_cons (fe_vr (pv 2)) (fb_cons (fe_vr (pv 3)) fb_nil))))) fss_nil) (fss_one (fs_ret (fe_and (fe_cmp (o_eqA hr.u64) q_eqA (fe_callB q_len o_len rfl T.b_len (by decide +kernel) (fa_cons (fe_vr (pv 2)) fa_nil)) (fe_bin o_add q_add (fe_callB q_len o_len rfl T.b_len (by decide +kernel) (fa_cons (fe_vr (pv 3)) fa_nil)) fe_int) (by rfl)) (pe_one (fe_call F_joins (rm_mono hr (by rfl)) tk rfl m_joins k_joins b_joins (fb_cons (fe_vr (pv 2)) (fb_cons (fe_vr (pv 3)) fb_nil)))))))))
  exact z
theorem ok_is_step {f : Addr} {fd : FuncData} (T : Txt K mg) (Fd : Fun K "is_step" "is_step" s_is_step f fd) (hm : mg "is_step" = some (.ref f)) (C_strikes : Cal P w K mg base 1 "strikes" ["long", "short"] [] G_strikes) (C_joins : Cal P w K mg base 1 "joins" ["long", "short"] [] G_joins) : Cal P w K mg base 2 "is_step" ["one", "other"] [] G_is_step :=
  cal_of Fd hm (fn_is_step T Fd C_strikes C_joins) (fun _ _ _ _ _ _ us hl => match us, hl with | [_, _], _ => rfl) kb_nil
theorem sc_shows_led : FnScope ["one", "other", "paper", "row", "k"] ["one", "other", "paper"] (defScope s_shows_led) := ⟨rfl, rfl, rfl, by decide +kernel, rfl, by decide +kernel, by decide +kernel⟩
theorem fn_shows_led {f : Addr} {fd : FuncData} (T : Txt K mg) (Fd : Fun K "shows_led" "shows_led" s_shows_led f fd) (C_is_string : Cal P w K mg base 5 "is_string" ["value"] [] G_is_string) (C_is_step : Cal P w K mg base 2 "is_step" ["one", "other"] [] G_is_step) : FnG P w K mg base 6 f fd ["one", "other", "paper"] (spG K 3 G_shows_led) := by
  obtain ⟨f_is_string, fd_is_string, F_is_string, m_is_string, k_is_string, b_is_string, q_is_string⟩ := C_is_string.ex
  obtain ⟨f_is_step, fd_is_step, F_is_step, m_is_step, k_is_step, b_is_step, q_is_step⟩ := C_is_step.ex
  obtain ⟨t_MOST_ROWS, m_MOST_ROWS⟩ := T.c_MOST_ROWS
  have z := fnG (P := P) (w := w) (mg := mg) (base := base) (k := 5) (N := ["one", "other", "paper", "row", "k"]) (ps := ["one", "other", "paper"]) (g := g_shows_led) Fd sc_shows_led fun cdv A outer s H E π W hr tk hp => by exact (fss_cons (fs_if (PW.pt (fw_or (ft_not (ft_val (fe_isi (T := .tup) (by intro z; cases z) rfl T.b_isinstance rfl rfl T.b_tuple (by decide +kernel) (fe_vr (pv 2))))) (fw_or (ft_not (ft_chn op_le op_le q_cmp q_cmp fe_int (fe_callB q_len o_len rfl T.b_len (by decide +kernel) (fa_cons (fe_vr (pv 2)) fa_nil)) (fe_gint rfl m_MOST_ROWS) (by rfl))) (pw_or1 (ft_not (ft_val (fe_callB q_all (cr_all rfl) rfl T.b_all (by decide +kernel) (fa_cons (fe_frz (fm_lc (own := [("row", 3)]) rfl sc_shows_led.nd (fi_seq (fe_vr (pv 2))) (show BlkOk ["one", "other", "paper", "row", "k"] (defScope s_shows_led) _ _ from blkOk_by (by decide +kernel)) (fun _ _ _ _ _ => (fg_name sc_shows_led.nd (i := 3) rfl (Or.inl rfl))) (fun _ _ _ _ _ => pts_non) (fun _ _ _ _ _ => (fe_call F_is_string (rm_mono hr (by rfl)) takes_0 rfl m_is_string k_is_string b_is_string (fb_cons (fe_vr (pv 3)) fb_nil))) (by decide))) fa_nil)))))))) (fss_one (fs_ret fe_bl)) fss_nil) (fss_cons (fs_if (PW.pt (fw_or (ft_cmp (o_neA hr.u64) q_neA (fe_ix (fe_vr (pv 2)) fe_int (fun _ _ => rfl)) (fe_vr (pv 0)) (by rfl)) (pw_or1 (ft_cmp (o_neA hr.u64) q_neA (fe_ix (fe_vr (pv 2)) (fe_un un_neg q_neg fe_int) (fun _ _ => rfl)) (fe_vr (pv 1)) (by rfl))))) (fss_one (fs_ret fe_bl)) fss_nil) (fss_one (fs_ret (fe_callB q_all (cr_all rfl) rfl T.b_all (by decide +kernel) (fa_cons (fe_frz (fm_lc (own := [("k", 4)]) rfl sc_shows_led.nd (fi_range1 rfl T.b_range (fa_cons (fe_bin op_sub q_sub (fe_callB q_len o_len rfl T.b_len (by decide +kernel) (fa_cons (fe_vr (pv 2)) fa_nil)) fe_int) fa_nil)) (show BlkOk ["one", "other", "paper", "row", "k"] (defScope s_shows_led) _ _ from blkOk_by (by decide +kernel)) (fun _ _ _ _ _ => (fg_name sc_shows_led.nd (i := 4) rfl (Or.inl rfl))) (fun _ _ _ _ _ => pts_non) (fun _ _ _ _ _ => (fe_call F_is_step (rm_mono hr (by rfl)) takes_0 rfl m_is_step k_is_step b_is_step (fb_cons (fe_ix (fe_vr (pv 2)) (fe_vr (pv 4)) (fun _ _ => rfl)) (fb_cons (fe_ix (fe_vr (pv 2)) (fe_bin o_add q_add (fe_vr (pv 4)) fe_int) (fun _ _ => rfl)) fb_nil)))) (by decide))) fa_nil))))))
  exact z
theorem ok_shows_led {f : Addr} {fd : FuncData} (T : Txt K mg) (Fd : Fun K "shows_led" "shows_led" s_shows_led f fd) (hm : mg "shows_led" = some (.ref f)) (C_is_string : Cal P w K mg base 5 "is_string" ["value"] [] G_is_string) (C_is_step : Cal P w K mg base 2 "is_step" ["one", "other"] [] G_is_step) : Cal P w K mg base 6 "shows_led" ["one", "other", "paper"] [] G_shows_led :=
  cal_of Fd hm (fn_shows_led T Fd C_is_string C_is_step) (fun _ _ _ _ _ _ us hl => match us, hl with | [_, _, _], _ => rfl) kb_nil
theorem sc_turns_of : FnScope ["beads", "here", "behind", "bead"] ["beads"] (defScope s_turns_of) := ⟨rfl, rfl, rfl, by decide +kernel, rfl, by decide +kernel, by decide +kernel⟩
theorem fn_turns_of {f : Addr} {fd : FuncData} (T : Txt K mg) (Fd : Fun K "turns_of" "turns_of" s_turns_of f fd)  : FnG P w K mg base 1 f fd ["beads"] (spG K 1 G_turns_of) := by
  have z := fnG (P := P) (w := w) (mg := mg) (base := base) (k := 0) (N := ["beads", "here", "behind", "bead"]) (ps := ["beads"]) (g := g_turns_of) Fd sc_turns_of fun cdv A outer s H E π W hr tk hp => by exact (fss_cons (fs_asg (fe_tup (fa_cons fe_int (fa_cons fe_int fa_nil))) (fg_tup rfl (fgs_cons (fg_name sc_turns_of.nd (i := 1) rfl (Or.inl rfl)) (fgs_cons (fg_name sc_turns_of.nd (i := 2) rfl (Or.inl rfl)) fgs_nil)))) (fss_cons (fs_for (ks := []) hp rfl (fi_seq (fe_rev (fe_vr (pv 0)))) (fg_name sc_turns_of.nd (i := 3) rfl (Or.inl rfl)) (fss_one (fs_par rfl sc_turns_of.nd (i := 1) (j := 2) rfl rfl (by decide) rfl rfl (fa_cons (fe_bin op_sub q_sub (fe_bin o_mul q_mul (fe_vr (pv 3)) (fe_vr (pv 1))) (fe_vr (pv 2))) (fa_cons (fe_vr (pv 1)) fa_nil)) (by rfl)))) (fss_one (fs_ret (fe_tup (fa_cons (fe_vr (pv 1)) (fa_cons (fe_vr (pv 2)) fa_nil)))))))
  exact z
theorem ok_turns_of {f : Addr} {fd : FuncData} (T : Txt K mg) (Fd : Fun K "turns_of" "turns_of" s_turns_of f fd) (hm : mg "turns_of" = some (.ref f))  : Cal P w K mg base 1 "turns_of" ["beads"] [] G_turns_of :=
  cal_of Fd hm (fn_turns_of T Fd ) (fun _ _ _ _ _ _ us hl => match us, hl with | [_], _ => rfl) kb_nil
theorem sc_is_pair_of : FnScope ["value", "beads", "turn", "rest"] ["value", "beads"] (defScope s_is_pair_of) := ⟨rfl, rfl, rfl, by decide +kernel, rfl, by decide +kernel, by decide +kernel⟩
theorem fn_is_pair_of {f : Addr} {fd : FuncData} (T : Txt K mg) (Fd : Fun K "is_pair_of" "is_pair_of" s_is_pair_of f fd) (C_turns_of : Cal P w K mg base 1 "turns_of" ["beads"] [] G_turns_of) (C_is_pair : Cal P w K mg base 2 "is_pair" ["value"] [] G_is_pair) : FnG P w K mg base 3 f fd ["value", "beads"] (spG K 2 G_is_pair_of) := by
  obtain ⟨f_turns_of, fd_turns_of, F_turns_of, m_turns_of, k_turns_of, b_turns_of, q_turns_of⟩ := C_turns_of.ex
  obtain ⟨f_is_pair, fd_is_pair, F_is_pair, m_is_pair, k_is_pair, b_is_pair, q_is_pair⟩ := C_is_pair.ex
  have z := fnG (P := P) (w := w) (mg := mg) (base := base) (k := 2) (N := ["value", "beads", "turn", "rest"]) (ps := ["value", "beads"]) (g := g_is_pair_of) Fd sc_is_pair_of fun cdv A outer s H E π W hr tk hp => by exact (fss_cons (fs_asg (fe_call F_turns_of (rm_mono hr (by rfl)) tk rfl m_turns_of k_turns_of b_turns_of (fb_cons (fe_vr (pv 1)) fb_nil)) (fg_tup rfl (fgs_cons (fg_name sc_is_pair_of.nd (i := 2) rfl (Or.inl rfl)) (fgs_cons (fg_name sc_is_pair_of.nd (i := 3) rfl (Or.inl rfl)) fgs_nil)))) (fss_cons (fs_if (PW.pt (fw_or (ft_not (ft_val (fe_call F_is_pair (rm_mono hr (by rfl)) tk rfl m_is_pair k_is_pair b_is_pair (fb_cons (fe_vr (pv 0)) fb_nil)))) (pw_or1 (ft_cmp (o_neA hr.u64) q_neA (fe_ix (fe_vr (pv 0)) fe_int (fun _ _ => rfl)) (fe_callB q_abs call_abs rfl T.b_abs (by decide +kernel) (fa_cons (fe_vr (pv 2)) fa_nil)) (by rfl))))) (fss_one (fs_ret fe_bl)) fss_nil) (fss_one (fs_ret (fe_or (fe_cmp op_lt q_cmp (fe_ix (fe_vr (pv 0)) fe_int (fun _ _ => rfl)) fe_int (by rfl)) (pe_one (fe_cmp (o_eqA hr.u64) q_eqA (fe_bin op_modN q_mod (fe_bin op_sub q_sub (fe_ix (fe_vr (pv 0)) fe_int (fun _ _ => rfl)) (fe_if (ft_cmp op_gt q_cmp (fe_vr (pv 2)) fe_int (by rfl)) (fe_vr (pv 3)) (fe_un un_neg q_neg (fe_vr (pv 3))))) (fe_ix (fe_vr (pv 0)) fe_int (fun _ _ => rfl))) fe_int (by rfl))))))))
  exact z
theorem ok_is_pair_of {f : Addr} {fd : FuncData} (T : Txt K mg) (Fd : Fun K "is_pair_of" "is_pair_of" s_is_pair_of f fd) (hm : mg "is_pair_of" = some (.ref f)) (C_turns_of : Cal P w K mg base 1 "turns_of" ["beads"] [] G_turns_of) (C_is_pair : Cal P w K mg base 2 "is_pair" ["value"] [] G_is_pair) : Cal P w K mg base 3 "is_pair_of" ["value", "beads"] [] G_is_pair_of :=
  cal_of Fd hm (fn_is_pair_of T Fd C_turns_of C_is_pair) (fun _ _ _ _ _ _ us hl => match us, hl with | [_, _], _ => rfl) kb_nil
theorem sc_shows_apart : FnScope ["one", "other", "paper"] ["one", "other", "paper"] (defScope s_shows_apart) := ⟨rfl, rfl, rfl, by decide +kernel, rfl, by decide +kernel, by decide +kernel⟩
theorem fn_shows_apart {f : Addr} {fd : FuncData} (T : Txt K mg) (Fd : Fun K "shows_apart" "shows_apart" s_shows_apart f fd) (C_is_pair_of : Cal P w K mg base 3 "is_pair_of" ["value", "beads"] [] G_is_pair_of) : FnG P w K mg base 4 f fd ["one", "other", "paper"] (spG K 3 G_shows_apart) := by
  obtain ⟨f_is_pair_of, fd_is_pair_of, F_is_pair_of, m_is_pair_of, k_is_pair_of, b_is_pair_of, q_is_pair_of⟩ := C_is_pair_of.ex
  have z := fnG (P := P) (w := w) (mg := mg) (base := base) (k := 3) (N := ["one", "other", "paper"]) (ps := ["one", "other", "paper"]) (g := g_shows_apart) Fd sc_shows_apart fun cdv A outer s H E π W hr tk hp => by exact (fss_cons (fs_if (PW.pt (fw_or (ft_not (ft_val (fe_isi (T := .tup) (by intro z; cases z) rfl T.b_isinstance rfl rfl T.b_tuple (by decide +kernel) (fe_vr (pv 2))))) (fw_or (ft_cmp (o_neA hr.u64) q_neA (fe_callB q_len o_len rfl T.b_len (by decide +kernel) (fa_cons (fe_vr (pv 2)) fa_nil)) fe_int (by rfl)) (pw_or1 (ft_cmp (o_eqW (HS.e (P := P) (w := w)) hr.u64) q_eqW (fe_ix (fe_vr (pv 2)) fe_int (fun _ _ => rfl)) (fe_ix (fe_vr (pv 2)) fe_int (fun _ _ => rfl)) (by rfl)))))) (fss_one (fs_ret fe_bl)) fss_nil) (fss_one (fs_ret (fe_and (fe_call F_is_pair_of (rm_mono hr (by rfl)) tk rfl m_is_pair_of k_is_pair_of b_is_pair_of (fb_cons (fe_ix (fe_vr (pv 2)) fe_int (fun _ _ => rfl)) (fb_cons (fe_vr (pv 0)) fb_nil))) (pe_one (fe_call F_is_pair_of (rm_mono hr (by rfl)) tk rfl m_is_pair_of k_is_pair_of b_is_pair_of (fb_cons (fe_ix (fe_vr (pv 2)) fe_int (fun _ _ => rfl)) (fb_cons (fe_vr (pv 1)) fb_nil))))))))
  exact z
theorem ok_shows_apart {f : Addr} {fd : FuncData} (T : Txt K mg) (Fd : Fun K "shows_apart" "shows_apart" s_shows_apart f fd) (hm : mg "shows_apart" = some (.ref f)) (C_is_pair_of : Cal P w K mg base 3 "is_pair_of" ["value", "beads"] [] G_is_pair_of) : Cal P w K mg base 4 "shows_apart" ["one", "other", "paper"] [] G_shows_apart :=
  cal_of Fd hm (fn_shows_apart T Fd C_is_pair_of) (fun _ _ _ _ _ _ us hl => match us, hl with | [_, _, _], _ => rfl) kb_nil
theorem sc_is_sign : FnScope ["value"] ["value"] (defScope s_is_sign) := ⟨rfl, rfl, rfl, by decide +kernel, rfl, by decide +kernel, by decide +kernel⟩
theorem fn_is_sign {f : Addr} {fd : FuncData} (T : Txt K mg) (Fd : Fun K "is_sign" "is_sign" s_is_sign f fd) (C_is_integer : Cal P w K mg base 1 "is_integer" ["value"] [] G_is_integer) : FnG P w K mg base 2 f fd ["value"] (spG K 1 G_is_sign) := by
  obtain ⟨f_is_integer, fd_is_integer, F_is_integer, m_is_integer, k_is_integer, b_is_integer, q_is_integer⟩ := C_is_integer.ex
  have z := fnG (P := P) (w := w) (mg := mg) (base := base) (k := 1) (N := ["value"]) (ps := ["value"]) (g := g_is_sign) Fd sc_is_sign fun cdv A outer s H E π W hr tk hp => by exact (fss_one (fs_ret (fe_and (fe_call F_is_integer (rm_mono hr (by rfl)) tk rfl m_is_integer k_is_integer b_is_integer (fb_cons (fe_vr (pv 0)) fb_nil)) (pe_one (fe_cmp (o_inA hr.u65) q_inA (fe_vr (pv 0)) (fe_tup (fa_cons fe_int (fa_cons (fe_un un_neg q_neg fe_int) fa_nil))) (by rfl))))))
  exact z
theorem ok_is_sign {f : Addr} {fd : FuncData} (T : Txt K mg) (Fd : Fun K "is_sign" "is_sign" s_is_sign f fd) (hm : mg "is_sign" = some (.ref f)) (C_is_integer : Cal P w K mg base 1 "is_integer" ["value"] [] G_is_integer) : Cal P w K mg base 2 "is_sign" ["value"] [] G_is_sign :=
  cal_of Fd hm (fn_is_sign T Fd C_is_integer) (fun _ _ _ _ _ _ us hl => match us, hl with | [_], _ => rfl) kb_nil
theorem sc_shows_alike : FnScope ["one", "other", "paper", "whole"] ["one", "other", "paper"] (defScope s_shows_alike) := ⟨rfl, rfl, rfl, by decide +kernel, rfl, by decide +kernel, by decide +kernel⟩
theorem fn_shows_alike {f : Addr} {fd : FuncData} (T : Txt K mg) (Fd : Fun K "shows_alike" "shows_alike" s_shows_alike f fd) (C_is_sign : Cal P w K mg base 2 "is_sign" ["value"] [] G_is_sign) : FnG P w K mg base 3 f fd ["one", "other", "paper"] (spG K 3 G_shows_alike) := by
  obtain ⟨f_is_sign, fd_is_sign, F_is_sign, m_is_sign, k_is_sign, b_is_sign, q_is_sign⟩ := C_is_sign.ex
  have z := fnG (P := P) (w := w) (mg := mg) (base := base) (k := 2) (N := ["one", "other", "paper", "whole"]) (ps := ["one", "other", "paper"]) (g := g_shows_alike) Fd sc_shows_alike fun cdv A outer s H E π W hr tk hp => by exact (fss_cons (fs_set sc_shows_alike.nd (i := 3) rfl (Or.inl rfl) (fe_ix (fe_vr (pv 0)) fe_int (fun _ _ => rfl))) (fss_cons (fs_if (PW.pt (fw_or (ft_not (ft_val (fe_call F_is_sign (rm_mono hr (by rfl)) tk rfl m_is_sign k_is_sign b_is_sign (fb_cons (fe_vr (pv 2)) fb_nil)))) (pw_or1 (ft_cmp op_lt q_cmp (fe_vr (pv 3)) fe_int (by rfl))))) (fss_one (fs_ret (fe_and (fe_call F_is_sign (rm_mono hr (by rfl)) tk rfl m_is_sign k_is_sign b_is_sign (fb_cons (fe_vr (pv 2)) fb_nil)) (fe_and (fe_cmp (o_eqA hr.u64) q_eqA (fe_vr (pv 2)) fe_int (by rfl)) (pe_one (fe_cmp (o_eqA hr.u64) q_eqA (fe_vr (pv 0)) (fe_vr (pv 1)) (by rfl))))))) fss_nil) (fss_one (fs_ret (fe_or (fe_cmp (o_eqA hr.u64) q_eqA (fe_bin op_modN q_mod (fe_bin op_sub q_sub (fe_bin o_mul q_mul (fe_vr (pv 2)) (fe_ix (fe_vr (pv 0)) fe_int (fun _ _ => rfl))) (fe_ix (fe_vr (pv 1)) fe_int (fun _ _ => rfl))) (fe_vr (pv 3))) fe_int (by rfl)) (pe_one (fe_cmp (o_eqA hr.u64) q_eqA (fe_bin op_modN q_mod (fe_bin op_sub q_sub (fe_bin o_mul q_mul (fe_ix (fe_vr (pv 0)) fe_int (fun _ _ => rfl)) (fe_ix (fe_vr (pv 1)) fe_int (fun _ _ => rfl))) (fe_vr (pv 2))) (fe_vr (pv 3))) fe_int (by rfl))))))))
  exact z
theorem ok_shows_alike {f : Addr} {fd : FuncData} (T : Txt K mg) (Fd : Fun K "shows_alike" "shows_alike" s_shows_alike f fd) (hm : mg "shows_alike" = some (.ref f)) (C_is_sign : Cal P w K mg base 2 "is_sign" ["value"] [] G_is_sign) : Cal P w K mg base 3 "shows_alike" ["one", "other", "paper"] [] G_shows_alike :=
  cal_of Fd hm (fn_shows_alike T Fd C_is_sign) (fun _ _ _ _ _ _ us hl => match us, hl with | [_, _, _], _ => rfl) kb_nil
theorem sc_shows_loops : FnScope ["one", "other", "paper", "sign", "number", "whole"] ["one", "other", "paper"] (defScope s_shows_loops) := ⟨rfl, rfl, rfl, by decide +kernel, rfl, by decide +kernel, by decide +kernel⟩
theorem fn_shows_loops {f : Addr} {fd : FuncData} (T : Txt K mg) (Fd : Fun K "shows_loops" "shows_loops" s_shows_loops f fd) (C_is_sign : Cal P w K mg base 2 "is_sign" ["value"] [] G_is_sign) (C_is_between : Cal P w K mg base 2 "is_between" ["value", "least", "most"] [] G_is_between) (C_common : Cal P w K mg base 1 "common" ["high", "low"] [] G_common) : FnG P w K mg base 3 f fd ["one", "other", "paper"] (spG K 3 G_shows_loops) := by
  obtain ⟨f_is_sign, fd_is_sign, F_is_sign, m_is_sign, k_is_sign, b_is_sign, q_is_sign⟩ := C_is_sign.ex
  obtain ⟨f_is_between, fd_is_between, F_is_between, m_is_between, k_is_between, b_is_between, q_is_between⟩ := C_is_between.ex
  obtain ⟨f_common, fd_common, F_common, m_common, k_common, b_common, q_common⟩ := C_common.ex
  have z := fnG (P := P) (w := w) (mg := mg) (base := base) (k := 2) (N := ["one", "other", "paper", "sign", "number", "whole"]) (ps := ["one", "other", "paper"]) (g := g_shows_loops) Fd sc_shows_loops fun cdv A outer s H E π W hr tk hp => by exact (fss_cons (fs_if (PW.pt (fw_or (ft_not (ft_val (fe_isi (T := .tup) (by intro z; cases z) rfl T.b_isinstance rfl rfl T.b_tuple (by decide +kernel) (fe_vr (pv 2))))) (fw_or (ft_cmp (o_neA hr.u64) q_neA (fe_callB q_len o_len rfl T.b_len (by decide +kernel) (fa_cons (fe_vr (pv 2)) fa_nil)) fe_int (by rfl)) (pw_or1 (ft_not (ft_val (fe_call F_is_sign (rm_mono hr (by rfl)) tk rfl m_is_sign k_is_sign b_is_sign (fb_cons (fe_ix (fe_vr (pv 2)) fe_int (fun _ _ => rfl)) fb_nil)))))))) (fss_one (fs_ret fe_bl)) fss_nil) (fss_cons (fs_asg (fe_tup (fa_cons (fe_vr (pv 2)) (fa_cons (fe_ix (fe_vr (pv 0)) fe_int (fun _ _ => rfl)) fa_nil))) (fg_tup rfl (fgs_cons (fg_tup rfl (fgs_cons (fg_name sc_shows_loops.nd (i := 3) rfl (Or.inl rfl)) (fgs_cons (fg_name sc_shows_loops.nd (i := 4) rfl (Or.inl rfl)) fgs_nil))) (fgs_cons (fg_name sc_shows_loops.nd (i := 5) rfl (Or.inl rfl)) fgs_nil)))) (fss_cons (fs_if (ft_cmp op_lt q_cmp (fe_vr (pv 5)) fe_int (by rfl)) (fss_one (fs_ret (fe_and (fe_cmp (o_eqA hr.u64) q_eqA (fe_vr (pv 0)) (fe_vr (pv 1)) (by rfl)) (fe_and (fe_call F_is_between (rm_mono hr (by rfl)) tk rfl m_is_between k_is_between b_is_between (fb_cons (fe_vr (pv 4)) (fb_cons fe_int (fb_cons fe_int fb_nil)))) (pe_one (fe_cmp (o_eqA hr.u64) q_eqA (fe_vr (pv 3)) fe_int (by rfl))))))) fss_nil) (fss_cons (fs_if (PW.pt (fw_or (ft_not (ft_val (fe_call F_is_between (rm_mono hr (by rfl)) tk rfl m_is_between k_is_between b_is_between (fb_cons (fe_vr (pv 4)) (fb_cons fe_int (fb_cons (fe_vr (pv 5)) fb_nil)))))) (pw_or1 (ft_cmp (o_neA hr.u64) q_neA (fe_call F_common (rm_mono hr (by rfl)) tk rfl m_common k_common b_common (fb_cons (fe_vr (pv 5)) (fb_cons (fe_vr (pv 4)) fb_nil))) fe_int (by rfl))))) (fss_one (fs_ret fe_bl)) fss_nil) (fss_one (fs_ret (fe_cmp (o_eqA hr.u64) q_eqA (fe_bin op_modN q_mod (fe_bin op_sub q_sub (fe_bin o_mul q_mul (fe_bin o_mul q_mul (fe_bin o_mul q_mul (fe_vr (pv 3)) (fe_ix (fe_vr (pv 0)) fe_int (fun _ _ => rfl))) (fe_vr (pv 4))) (fe_vr (pv 4))) (fe_ix (fe_vr (pv 1)) fe_int (fun _ _ => rfl))) (fe_vr (pv 5))) fe_int (by rfl))))))))
  exact z
theorem ok_shows_loops {f : Addr} {fd : FuncData} (T : Txt K mg) (Fd : Fun K "shows_loops" "shows_loops" s_shows_loops f fd) (hm : mg "shows_loops" = some (.ref f)) (C_is_sign : Cal P w K mg base 2 "is_sign" ["value"] [] G_is_sign) (C_is_between : Cal P w K mg base 2 "is_between" ["value", "least", "most"] [] G_is_between) (C_common : Cal P w K mg base 1 "common" ["high", "low"] [] G_common) : Cal P w K mg base 3 "shows_loops" ["one", "other", "paper"] [] G_shows_loops :=
  cal_of Fd hm (fn_shows_loops T Fd C_is_sign C_is_between C_common) (fun _ _ _ _ _ _ us hl => match us, hl with | [_, _, _], _ => rfl) kb_nil
theorem sc_are_apart_for_loops : FnScope ["one", "other", "whole", "number"] ["one", "other"] (defScope s_are_apart_for_loops) := ⟨rfl, rfl, rfl, by decide +kernel, rfl, by decide +kernel, by decide +kernel⟩
theorem fn_are_apart_for_loops {f : Addr} {fd : FuncData} (T : Txt K mg) (Fd : Fun K "are_apart_for_loops" "are_apart_for_loops" s_are_apart_for_loops f fd) (C_common : Cal P w K mg base 1 "common" ["high", "low"] [] G_common) : FnG P w K mg base 2 f fd ["one", "other"] (spG K 2 G_are_apart_for_loops) := by
  obtain ⟨f_common, fd_common, F_common, m_common, k_common, b_common, q_common⟩ := C_common.ex
  obtain ⟨t_MOST_GONE, m_MOST_GONE⟩ := T.c_MOST_GONE
  have z := fnG (P := P) (w := w) (mg := mg) (base := base) (k := 1) (N := ["one", "other", "whole", "number"]) (ps := ["one", "other"]) (g := g_are_apart_for_loops) Fd sc_are_apart_for_loops fun cdv A outer s H E π W hr tk hp => by exact (fss_cons (fs_set sc_are_apart_for_loops.nd (i := 2) rfl (Or.inl rfl) (fe_ix (fe_vr (pv 0)) fe_int (fun _ _ => rfl))) (fss_cons (fs_if (ft_not (ft_chn op_le op_le q_cmp q_cmp fe_int (fe_vr (pv 2)) (fe_gint rfl m_MOST_GONE) (by rfl))) (fss_one (fs_ret fe_bl)) fss_nil) (fss_cons (fs_for (ks := []) hp rfl (fi_range2 rfl T.b_range (fa_cons fe_int (fa_cons (fe_vr (pv 2)) fa_nil))) (fg_name sc_are_apart_for_loops.nd (i := 3) rfl (Or.inl rfl)) (fss_one (fs_if (PW.pt (fw_and (ft_cmp (o_eqA hr.u64) q_eqA (fe_call F_common (rm_mono hr (by rfl)) tk rfl m_common k_common b_common (fb_cons (fe_vr (pv 2)) (fb_cons (fe_vr (pv 3)) fb_nil))) fe_int (by rfl)) (pw_and1 (ft_cmp (o_inA hr.u65) q_inA (fe_bin op_modN q_mod (fe_bin o_mul q_mul (fe_bin o_mul q_mul (fe_ix (fe_vr (pv 0)) fe_int (fun _ _ => rfl)) (fe_vr (pv 3))) (fe_vr (pv 3))) (fe_vr (pv 2))) (fe_tup (fa_cons (fe_ix (fe_vr (pv 1)) fe_int (fun _ _ => rfl)) (fa_cons (fe_bin op_sub q_sub (fe_vr (pv 2)) (fe_ix (fe_vr (pv 1)) fe_int (fun _ _ => rfl))) fa_nil))) (by rfl))))) (fss_one (fs_ret fe_bl)) fss_nil))) (fss_one (fs_ret fe_bl)))))
  exact z
theorem ok_are_apart_for_loops {f : Addr} {fd : FuncData} (T : Txt K mg) (Fd : Fun K "are_apart_for_loops" "are_apart_for_loops" s_are_apart_for_loops f fd) (hm : mg "are_apart_for_loops" = some (.ref f)) (C_common : Cal P w K mg base 1 "common" ["high", "low"] [] G_common) : Cal P w K mg base 2 "are_apart_for_loops" ["one", "other"] [] G_are_apart_for_loops :=
  cal_of Fd hm (fn_are_apart_for_loops T Fd C_common) (fun _ _ _ _ _ _ us hl => match us, hl with | [_, _], _ => rfl) kb_nil
theorem sc_accepts : FnScope ["claim", "paper", "word", "one", "other"] ["claim", "paper"] (defScope s_accepts) := ⟨rfl, rfl, rfl, by decide +kernel, rfl, by decide +kernel, by decide +kernel⟩
theorem fn_accepts {f : Addr} {fd : FuncData} (T : Txt K mg) (Fd : Fun K "accepts" "accepts" s_accepts f fd) (C_is_claim : Cal P w K mg base 6 "is_claim" ["value"] [] G_is_claim) (C_shows_led : Cal P w K mg base 6 "shows_led" ["one", "other", "paper"] [] G_shows_led) (C_shows_apart : Cal P w K mg base 4 "shows_apart" ["one", "other", "paper"] [] G_shows_apart) (C_shows_alike : Cal P w K mg base 3 "shows_alike" ["one", "other", "paper"] [] G_shows_alike) (C_shows_loops : Cal P w K mg base 3 "shows_loops" ["one", "other", "paper"] [] G_shows_loops) (C_are_apart_for_loops : Cal P w K mg base 2 "are_apart_for_loops" ["one", "other"] [] G_are_apart_for_loops) : FnG P w K mg base 7 f fd ["claim", "paper"] (spG K 2 G_accepts) := by
  obtain ⟨f_is_claim, fd_is_claim, F_is_claim, m_is_claim, k_is_claim, b_is_claim, q_is_claim⟩ := C_is_claim.ex
  obtain ⟨f_shows_led, fd_shows_led, F_shows_led, m_shows_led, k_shows_led, b_shows_led, q_shows_led⟩ := C_shows_led.ex
  obtain ⟨f_shows_apart, fd_shows_apart, F_shows_apart, m_shows_apart, k_shows_apart, b_shows_apart, q_shows_apart⟩ := C_shows_apart.ex
  obtain ⟨f_shows_alike, fd_shows_alike, F_shows_alike, m_shows_alike, k_shows_alike, b_shows_alike, q_shows_alike⟩ := C_shows_alike.ex
  obtain ⟨f_shows_loops, fd_shows_loops, F_shows_loops, m_shows_loops, k_shows_loops, b_shows_loops, q_shows_loops⟩ := C_shows_loops.ex
  obtain ⟨f_are_apart_for_loops, fd_are_apart_for_loops, F_are_apart_for_loops, m_are_apart_for_loops, k_are_apart_for_loops, b_are_apart_for_loops, q_are_apart_for_loops⟩ := C_are_apart_for_loops.ex
  have z := fnG (P := P) (w := w) (mg := mg) (base := base) (k := 6) (N := ["claim", "paper", "word", "one", "other"]) (ps := ["claim", "paper"]) (g := g_accepts) Fd sc_accepts fun cdv A outer s H E π W hr tk hp => by exact (fss_cons (fs_if (ft_not (ft_val (fe_call F_is_claim (rm_mono hr (by rfl)) tk rfl m_is_claim k_is_claim b_is_claim (fb_cons (fe_vr (pv 0)) fb_nil)))) (fss_one (fs_ret fe_bl)) fss_nil) (fss_cons (fs_asg (fe_vr (pv 0)) (fg_tup rfl (fgs_cons (fg_name sc_accepts.nd (i := 2) rfl (Or.inl rfl)) (fgs_cons (fg_name sc_accepts.nd (i := 3) rfl (Or.inl rfl)) (fgs_cons (fg_name sc_accepts.nd (i := 4) rfl (Or.inl rfl)) fgs_nil))))) (fss_cons (fs_if (ft_cmp (o_eqW (HS.e (P := P) (w := w)) hr.u64) q_eqW (fe_vr (pv 2)) fe_str (by rfl)) (fss_one (fs_ret (fe_call F_shows_led (rm_mono hr (by rfl)) tk rfl m_shows_led k_shows_led b_shows_led (fb_cons (fe_vr (pv 3)) (fb_cons (fe_vr (pv 4)) (fb_cons (fe_vr (pv 1)) fb_nil)))))) fss_nil) (fss_cons (fs_if (ft_cmp (o_eqW (HS.e (P := P) (w := w)) hr.u64) q_eqW (fe_vr (pv 2)) fe_str (by rfl)) (fss_one (fs_ret (fe_call F_shows_apart (rm_mono hr (by rfl)) tk rfl m_shows_apart k_shows_apart b_shows_apart (fb_cons (fe_vr (pv 3)) (fb_cons (fe_vr (pv 4)) (fb_cons (fe_vr (pv 1)) fb_nil)))))) fss_nil) (fss_cons (fs_if (ft_cmp (o_eqW (HS.e (P := P) (w := w)) hr.u64) q_eqW (fe_vr (pv 2)) fe_str (by rfl)) (fss_one (fs_ret (fe_call F_shows_alike (rm_mono hr (by rfl)) tk rfl m_shows_alike k_shows_alike b_shows_alike (fb_cons (fe_vr (pv 3)) (fb_cons (fe_vr (pv 4)) (fb_cons (fe_vr (pv 1)) fb_nil)))))) fss_nil) (fss_cons (fs_if (ft_cmp (o_eqW (HS.e (P := P) (w := w)) hr.u64) q_eqW (fe_vr (pv 2)) fe_str (by rfl)) (fss_one (fs_ret (fe_call F_shows_loops (rm_mono hr (by rfl)) tk rfl m_shows_loops k_shows_loops b_shows_loops (fb_cons (fe_vr (pv 3)) (fb_cons (fe_vr (pv 4)) (fb_cons (fe_vr (pv 1)) fb_nil)))))) fss_nil) (fss_one (fs_ret (fe_and (fe_isi (T := .tup) (by intro z; cases z) rfl T.b_isinstance rfl rfl T.b_tuple (by decide +kernel) (fe_vr (pv 1))) (fe_and (fe_cmp (o_eqW (HS.e (P := P) (w := w)) hr.u64) q_eqW (fe_vr (pv 1)) (fe_tup fa_nil) (by rfl)) (pe_one (fe_call F_are_apart_for_loops (rm_mono hr (by rfl)) tk rfl m_are_apart_for_loops k_are_apart_for_loops b_are_apart_for_loops (fb_cons (fe_vr (pv 3)) (fb_cons (fe_vr (pv 4)) fb_nil))))))))))))))
  exact z
theorem ok_accepts {f : Addr} {fd : FuncData} (T : Txt K mg) (Fd : Fun K "accepts" "accepts" s_accepts f fd) (hm : mg "accepts" = some (.ref f)) (C_is_claim : Cal P w K mg base 6 "is_claim" ["value"] [] G_is_claim) (C_shows_led : Cal P w K mg base 6 "shows_led" ["one", "other", "paper"] [] G_shows_led) (C_shows_apart : Cal P w K mg base 4 "shows_apart" ["one", "other", "paper"] [] G_shows_apart) (C_shows_alike : Cal P w K mg base 3 "shows_alike" ["one", "other", "paper"] [] G_shows_alike) (C_shows_loops : Cal P w K mg base 3 "shows_loops" ["one", "other", "paper"] [] G_shows_loops) (C_are_apart_for_loops : Cal P w K mg base 2 "are_apart_for_loops" ["one", "other"] [] G_are_apart_for_loops) : Cal P w K mg base 7 "accepts" ["claim", "paper"] [] G_accepts :=
  cal_of Fd hm (fn_accepts T Fd C_is_claim C_shows_led C_shows_apart C_shows_alike C_shows_loops C_are_apart_for_loops) (fun _ _ _ _ _ _ us hl => match us, hl with | [_, _], _ => rfl) kb_nil
theorem sc__law_wild : FnScope ["_law_spring_here", "_law_deep", "_law_atoms", "_law_way", "_law_some", "_law_k"] ["_law_spring_here", "_law_deep", "_law_atoms"] (defScope s__law_wild) := ⟨rfl, rfl, rfl, by decide +kernel, rfl, by decide +kernel, by decide +kernel⟩
theorem stuck__law_wild {f : Addr} {fd : FuncData} {k : Nat} {ps : List Str} : FnG P w K mg base k f fd ps (spG K ps.length (At__law_wild 0)) :=
  ⟨fun _ _ _ _ h => by obtain ⟨_, _, _, _, h, _⟩ := h; exact h, fun _ _ _ _ _ _ _ _ _ _ _ _ _ h => by obtain ⟨_, _, _, _, _, _, h⟩ := h; exact h.elim⟩
theorem fn__law_wild {f : Addr} {fd : FuncData} (n : Nat) (T : Txt K mg) (Fd : Fun K "_law_wild" "_law_wild" s__law_wild f fd) (C__law_wild : Cal P w K mg base (2 + n) "_law_wild" ["_law_spring_here", "_law_deep", "_law_atoms"] [] (At__law_wild n)) (C__law_drip : Cal P w K mg base 1 "_law_drip" ["_law_spring_here", "_law_size"] [] G__law_drip) (C__law_any : Cal P w K mg base 2 "_law_any" ["_law_spring_here", "_law_some"] [] G__law_any) : FnG P w K mg base (2 + n + 1) f fd ["_law_spring_here", "_law_deep", "_law_atoms"] (spG K 3 (At__law_wild (n + 1))) := by
  obtain ⟨f__law_drip, fd__law_drip, F__law_drip, m__law_drip, k__law_drip, b__law_drip, q__law_drip⟩ := C__law_drip.ex
  obtain ⟨f__law_any, fd__law_any, F__law_any, m__law_any, k__law_any, b__law_any, q__law_any⟩ := C__law_any.ex
  obtain ⟨f__law_wild, fd__law_wild, F__law_wild, m__law_wild, k__law_wild, b__law_wild, q__law_wild⟩ := C__law_wild.ex
  have z := fnG (P := P) (w := w) (mg := mg) (base := base) (k := 2 + n) (N := ["_law_spring_here", "_law_deep", "_law_atoms", "_law_way", "_law_some", "_law_k"]) (ps := ["_law_spring_here", "_law_deep", "_law_atoms"]) (g := g__law_wild (At__law_wild n)) Fd sc__law_wild fun cdv A outer s H E π W hr tk hp => by exact (fss_cons (fs_set sc__law_wild.nd (i := 3) rfl (Or.inl rfl) (fe_call F__law_drip (rm_mono hr (Nat.ble_eq_true_of_le (by omega))) tk rfl m__law_drip k__law_drip b__law_drip (fb_sl (pv 0) (fb_cons fe_int fb_nil)))) (fss_cons (fs_if (PW.pt (fw_or (ft_cmp (o_eqA hr.u64) q_eqA (fe_vr (pv 1)) fe_int (by rfl)) (pw_or1 (ft_cmp op_gt q_cmp (fe_vr (pv 3)) fe_int (by rfl))))) (fss_one (fs_ret (fe_call F__law_any (rm_mono hr (Nat.ble_eq_true_of_le (by omega))) tk rfl m__law_any k__law_any b__law_any (fb_sl (pv 0) (fb_cons (fe_vr (pv 2)) fb_nil))))) fss_nil) (fss_cons (fs_setLc (own := [("_law_k", 5)]) (i := 4) rfl sc__law_wild.nd rfl rfl (by rfl) (fi_range1 rfl T.b_range (fa_cons (fe_call F__law_drip (rm_mono hr (Nat.ble_eq_true_of_le (by omega))) tk rfl m__law_drip k__law_drip b__law_drip (fb_sl (pv 0) (fb_cons fe_int fb_nil))) fa_nil)) (show BlkOk ["_law_spring_here", "_law_deep", "_law_atoms", "_law_way", "_law_some", "_law_k"] (defScope s__law_wild) _ _ from blkOk_by (by decide +kernel)) (fun _ _ _ _ _ => (fg_name sc__law_wild.nd (i := 5) rfl (Or.inl rfl))) (fun _ _ _ _ _ => pts_non) (fun _ _ _ _ _ => (fe_call F__law_wild (rm_mono hr (Nat.ble_eq_true_of_le (by omega))) takes_0 rfl m__law_wild k__law_wild b__law_wild (fb_sl (pv 0) (fb_cons (fe_bin op_sub q_sub (fe_vr (pv 1)) fe_int) (fb_cons (fe_vr (pv 2)) fb_nil))))) (by decide)) (fss_cons (fs_if (ft_cmp (o_eqA hr.u64) q_eqA (fe_vr (pv 3)) fe_int (by rfl)) (fss_one (fs_ret (fe_vr (pv 4)))) fss_nil) (fss_one (fs_ret (fe_if (ft_cmp (o_eqA hr.u64) q_eqA (fe_vr (pv 3)) fe_int (by rfl)) (fe_dl1 (HS.e (P := P) (w := w)) (fe_call F__law_any (rm_mono hr (Nat.ble_eq_true_of_le (by omega))) tk rfl m__law_any k__law_any b__law_any (fb_sl (pv 0) (fb_cons (fe_frz (fm_lst (fa_cons fe_int (fa_cons fe_str (fa_cons fe_non fa_nil))))) fb_nil))) (fe_vr (pv 4))) (fe_callTy q_tup call_tupN rfl T.b_tuple (by decide +kernel) (fa_cons (fe_vr (pv 4)) fa_nil)))))))))
  exact z
theorem at__law_wild {f : Addr} {fd : FuncData} (T : Txt K mg) (Fd : Fun K "_law_wild" "_law_wild" s__law_wild f fd) (hm : mg "_law_wild" = some (.ref f)) (C__law_drip : Cal P w K mg base 1 "_law_drip" ["_law_spring_here", "_law_size"] [] G__law_drip) (C__law_any : Cal P w K mg base 2 "_law_any" ["_law_spring_here", "_law_some"] [] G__law_any) : ∀ n : Nat, Cal P w K mg base (2 + n) "_law_wild" ["_law_spring_here", "_law_deep", "_law_atoms"] [] (At__law_wild n)
  | 0 => cal_of Fd hm stuck__law_wild (fun _ _ _ _ _ _ us hl => match us, hl with | [_, _, _], _ => rfl) kb_nil
  | n + 1 => cal_of Fd hm (fn__law_wild n T Fd (at__law_wild T Fd hm C__law_drip C__law_any n) C__law_drip C__law_any) (fun _ _ _ _ _ _ us hl => match us, hl with | [_, _, _], _ => rfl) kb_nil
theorem ok__law_wild {f : Addr} {fd : FuncData} (T : Txt K mg) (Fd : Fun K "_law_wild" "_law_wild" s__law_wild f fd) (hm : mg "_law_wild" = some (.ref f)) (C__law_drip : Cal P w K mg base 1 "_law_drip" ["_law_spring_here", "_law_size"] [] G__law_drip) (C__law_any : Cal P w K mg base 2 "_law_any" ["_law_spring_here", "_law_some"] [] G__law_any) : Cal P w K mg base 10 "_law_wild" ["_law_spring_here", "_law_deep", "_law_atoms"] [] G__law_wild :=
  at__law_wild T Fd hm C__law_drip C__law_any 8
theorem sc__law_wrong : FnScope ["_law_spring_here", "_law_said", "_law_at", "_law_found", "_law_words", "_law_things", "_law_word", "_law_each"] ["_law_spring_here", "_law_said"] (defScope s__law_wrong) := ⟨rfl, rfl, rfl, by decide +kernel, rfl, by decide +kernel, by decide +kernel⟩
theorem fn__law_wrong {f : Addr} {fd : FuncData} (T : Txt K mg) (Fd : Fun K "_law_wrong" "_law_wrong" s__law_wrong f fd) (C__law_drip : Cal P w K mg base 1 "_law_drip" ["_law_spring_here", "_law_size"] [] G__law_drip) : FnG P w K mg base 2 f fd ["_law_spring_here", "_law_said"] (spG K 2 G__law_wrong) := by
  obtain ⟨f__law_drip, fd__law_drip, F__law_drip, m__law_drip, k__law_drip, b__law_drip, q__law_drip⟩ := C__law_drip.ex
  have z := fnG (P := P) (w := w) (mg := mg) (base := base) (k := 1) (N := ["_law_spring_here", "_law_said", "_law_at", "_law_found", "_law_words", "_law_things", "_law_word", "_law_each"]) (ps := ["_law_spring_here", "_law_said"]) (g := g__law_wrong) Fd sc__law_wrong fun cdv A outer s H E π W hr tk hp => by exact (fss_cons (fs_set sc__law_wrong.nd (i := 2) rfl (Or.inl rfl) (fe_call F__law_drip (rm_mono hr (by rfl)) tk rfl m__law_drip k__law_drip b__law_drip (fb_sl (pv 0) (fb_cons fe_int fb_nil)))) (fss_cons (fs_set sc__law_wrong.nd (i := 3) rfl (Or.inl rfl) (fe_frz (fm_lst (fa_cons (fe_bin o_add q_add (fe_sl (fe_vr (pv 1)) fo_none (fo_some (fe_vr (pv 2)))) (fe_sl (fe_vr (pv 1)) (fo_some (fe_bin o_add q_add (fe_vr (pv 2)) fe_int)) fo_none)) (fa_cons (fe_bin o_add q_add (fe_sl (fe_vr (pv 1)) fo_none (fo_some (fe_bin o_add q_add (fe_vr (pv 2)) fe_int))) (fe_sl (fe_vr (pv 1)) (fo_some (fe_vr (pv 2))) fo_none)) (fa_cons (fe_bin o_add q_add (fe_vr (pv 1)) (fe_tup (fa_cons (fe_tup fa_nil) fa_nil))) (fa_cons (fe_tup (fa_cons (fe_vr (pv 1)) fa_nil)) (fa_cons (fe_rev (fe_vr (pv 1))) (fa_cons (fe_callTy q_lst call_list_of rfl T.b_list (by decide +kernel) (fa_cons (fe_vr (pv 1)) fa_nil)) fa_nil))))))))) (fss_cons (fs_set sc__law_wrong.nd (i := 4) rfl (Or.inl rfl) (fe_frz (fm_lst (fa_cons fe_str (fa_cons fe_str (fa_cons fe_str (fa_cons fe_non (fa_cons fe_int (fa_cons (fe_tup (fa_cons (fe_ix (fe_vr (pv 1)) fe_int (fun _ _ => rfl)) fa_nil)) (fa_cons (fe_frz (fm_lst (fa_cons (fe_ix (fe_vr (pv 1)) fe_int (fun _ _ => rfl)) fa_nil))) (fa_cons fe_dict0 (fa_cons (fe_bin o_add q_add (fe_ix (fe_vr (pv 1)) fe_int (fun _ _ => rfl)) fe_str) (fa_cons fe_str fa_nil))))))))))))) (fss_cons (fs_set sc__law_wrong.nd (i := 3) rfl (Or.inl rfl) (fe_bin o_add q_add (fe_vr (pv 3)) (fe_frz (fm_lc (own := [("_law_word", 6)]) rfl sc__law_wrong.nd (fi_seq (fe_vr (pv 4))) (show BlkOk ["_law_spring_here", "_law_said", "_law_at", "_law_found", "_law_words", "_law_things", "_law_word", "_law_each"] (defScope s__law_wrong) _ _ from blkOk_by (by decide +kernel)) (fun _ _ _ _ _ => (fg_name sc__law_wrong.nd (i := 6) rfl (Or.inl rfl))) (fun _ _ _ _ _ => pts_non) (fun _ _ _ _ _ => (fe_bin o_add q_add (fe_tup (fa_cons (fe_vr (pv 6)) fa_nil)) (fe_sl (fe_vr (pv 1)) (fo_some fe_int) fo_none))) (by decide))))) (fss_cons (fs_setM sc__law_wrong.nd (i := 5) rfl (Or.inl rfl) (fm_lst (fa_cons fe_non (fa_cons fe_str (fa_cons fe_int (fa_cons fe_dict0 (fa_cons (fe_tup (fa_cons fe_non fa_nil)) (fa_cons (fe_tup (fa_cons fe_str fa_nil)) (fa_cons (fe_tup (fa_cons fe_bl fa_nil)) (fa_cons (fe_tup (fa_cons (fe_bin o_add q_add (fe_bin op_pow q_pow fe_int fe_int) fe_int) (fa_cons (fe_bin o_add q_add (fe_bin op_pow q_pow fe_int fe_int) fe_int) fa_nil))) (fa_cons (fe_tup (fa_cons fe_int (fa_cons fe_int (fa_cons fe_non fa_nil)))) (fa_cons (fe_tup (fa_cons (fe_tup fa_nil) fa_nil)) (fa_cons (fe_tup (fa_cons fe_int (fa_cons fe_int fa_nil))) fa_nil))))))))))))) (fss_cons (fs_append (pv 5) (fe_frz (fm_lst (fa_cons fe_int (fa_cons fe_int fa_nil))))) (fss_frz (i := 5) (fss_cons (fs_set sc__law_wrong.nd (i := 3) rfl (Or.inl rfl) (fe_bin o_add q_add (fe_vr (pv 3)) (fe_frz (fm_lc (own := [("_law_each", 7)]) rfl sc__law_wrong.nd (fi_seq (fe_vr (pv 5))) (show BlkOk ["_law_spring_here", "_law_said", "_law_at", "_law_found", "_law_words", "_law_things", "_law_word", "_law_each"] (defScope s__law_wrong) _ _ from blkOk_by (by decide +kernel)) (fun _ _ _ _ _ => (fg_name sc__law_wrong.nd (i := 7) rfl (Or.inl rfl))) (fun _ _ _ _ _ => pts_non) (fun _ _ _ _ _ => (fe_bin o_add q_add (fe_bin o_add q_add (fe_sl (fe_vr (pv 1)) fo_none (fo_some fe_int)) (fe_tup (fa_cons (fe_vr (pv 7)) fa_nil))) (fe_sl (fe_vr (pv 1)) (fo_some fe_int) fo_none))) (by decide))))) (fss_one (fs_ret (fe_bin o_add q_add (fe_vr (pv 3)) (fe_frz (fm_lc (own := [("_law_each", 7)]) rfl sc__law_wrong.nd (fi_seq (fe_vr (pv 5))) (show BlkOk ["_law_spring_here", "_law_said", "_law_at", "_law_found", "_law_words", "_law_things", "_law_word", "_law_each"] (defScope s__law_wrong) _ _ from blkOk_by (by decide +kernel)) (fun _ _ _ _ _ => (fg_name sc__law_wrong.nd (i := 7) rfl (Or.inl rfl))) (fun _ _ _ _ _ => pts_non) (fun _ _ _ _ _ => (fe_bin o_add q_add (fe_sl (fe_vr (pv 1)) fo_none (fo_some fe_int)) (fe_tup (fa_cons (fe_vr (pv 7)) fa_nil)))) (by decide))))))))))))))
  exact z
theorem ok__law_wrong {f : Addr} {fd : FuncData} (T : Txt K mg) (Fd : Fun K "_law_wrong" "_law_wrong" s__law_wrong f fd) (hm : mg "_law_wrong" = some (.ref f)) (C__law_drip : Cal P w K mg base 1 "_law_drip" ["_law_spring_here", "_law_size"] [] G__law_drip) : Cal P w K mg base 2 "_law_wrong" ["_law_spring_here", "_law_said"] [] G__law_wrong :=
  cal_of Fd hm (fn__law_wrong T Fd C__law_drip) (fun _ _ _ _ _ _ us hl => match us, hl with | [_, _], _ => rfl) kb_nil
theorem sc__law_others : FnScope ["_law_thing", "_law_found", "_law_k", "_law_each"] ["_law_thing"] (defScope s__law_others) := ⟨rfl, rfl, rfl, by decide +kernel, rfl, by decide +kernel, by decide +kernel⟩
theorem stuck__law_others {f : Addr} {fd : FuncData} {k : Nat} {ps : List Str} : FnG P w K mg base k f fd ps (spG K ps.length (At__law_others 0)) :=
  ⟨fun _ _ _ _ h => by obtain ⟨_, _, _, _, h, _⟩ := h; exact h, fun _ _ _ _ _ _ _ _ _ _ _ _ _ h => by obtain ⟨_, _, _, _, _, _, h⟩ := h; exact h.elim⟩
theorem fn__law_others {f : Addr} {fd : FuncData} (n : Nat) (T : Txt K mg) (Fd : Fun K "_law_others" "_law_others" s__law_others f fd) (C__law_others : Cal P w K mg base (0 + n) "_law_others" ["_law_thing"] [] (At__law_others n))  : FnG P w K mg base (0 + n + 1) f fd ["_law_thing"] (spG K 1 (At__law_others (n + 1))) := by
  obtain ⟨f__law_others, fd__law_others, F__law_others, m__law_others, k__law_others, b__law_others, q__law_others⟩ := C__law_others.ex
  have z := fnG (P := P) (w := w) (mg := mg) (base := base) (k := 0 + n) (N := ["_law_thing", "_law_found", "_law_k", "_law_each"]) (ps := ["_law_thing"]) (g := g__law_others (At__law_others n)) Fd sc__law_others fun cdv A outer s H E π W hr tk hp => by exact (fss_cons (fs_if (ft_val (fe_isi (T := .tup) (by intro z; cases z) rfl T.b_isinstance rfl rfl T.b_tuple (by decide +kernel) (fe_vr (pv 0)))) (fss_cons (fs_set sc__law_others.nd (i := 1) rfl (Or.inl rfl) (fe_frz (fm_lst (fa_cons (fe_callTy q_lst call_list_of rfl T.b_list (by decide +kernel) (fa_cons (fe_vr (pv 0)) fa_nil)) fa_nil)))) (fss_cons (fs_for (ks := []) hp rfl (fi_range1 rfl T.b_range (fa_cons (fe_callB q_len o_len rfl T.b_len (by decide +kernel) (fa_cons (fe_vr (pv 0)) fa_nil)) fa_nil)) (fg_name sc__law_others.nd (i := 2) rfl (Or.inr rfl)) (fss_one (fs_set sc__law_others.nd (i := 1) rfl (Or.inl rfl) (fe_bin o_add q_add (fe_vr (pv 1)) (fe_frz (fm_lc (own := [("_law_each", 3)]) rfl sc__law_others.nd (fi_seq (fe_call F__law_others (rm_mono hr (Nat.ble_eq_true_of_le (by omega))) tk rfl m__law_others k__law_others b__law_others (fb_cons (fe_ix (fe_vr (pv 0)) (fe_vr (pv 2)) (fun _ _ => rfl)) fb_nil))) (show BlkOk ["_law_thing", "_law_found", "_law_k", "_law_each"] (defScope s__law_others) _ _ from blkOk_by (by decide +kernel)) (fun _ _ _ _ _ => (fg_name sc__law_others.nd (i := 3) rfl (Or.inl rfl))) (fun _ _ _ _ _ => pts_non) (fun _ _ _ _ _ => (fe_bin o_add q_add (fe_bin o_add q_add (fe_sl (fe_vr (pv 0)) fo_none (fo_some (fe_vr (pv 2)))) (fe_tup (fa_cons (fe_vr (pv 3)) fa_nil))) (fe_sl (fe_vr (pv 0)) (fo_some (fe_bin o_add q_add (fe_vr (pv 2)) fe_int)) fo_none))) (by decide))))))) (fss_one (fs_ret (fe_vr (pv 1)))))) fss_nil) (fss_cons (fs_if (ft_not (ft_val (fe_isi (T := .int) (by intro z; cases z) rfl T.b_isinstance rfl rfl T.b_int (by decide +kernel) (fe_vr (pv 0))))) (fss_one (fs_retM (fm_lst fa_nil))) fss_nil) (fss_one (fs_ret (fe_bin o_add q_add (fe_frz (fm_lst (fa_cons (fe_callTy q_str call_str_int rfl T.b_str (by decide +kernel) (fa_cons (fe_vr (pv 0)) fa_nil)) (fa_cons (fe_tup (fa_cons (fe_vr (pv 0)) fa_nil)) fa_nil)))) (fe_if (ft_cmp (o_inA hr.u65) q_inA (fe_vr (pv 0)) (fe_frz (fm_lst (fa_cons fe_int (fa_cons fe_int fa_nil)))) (by rfl)) (fe_frz (fm_lst (fa_cons (fe_cmp (o_eqA hr.u64) q_eqA (fe_vr (pv 0)) fe_int (by rfl)) fa_nil))) (fe_frz (fm_lst fa_nil))))))))
  exact z
theorem at__law_others {f : Addr} {fd : FuncData} (T : Txt K mg) (Fd : Fun K "_law_others" "_law_others" s__law_others f fd) (hm : mg "_law_others" = some (.ref f))  : ∀ n : Nat, Cal P w K mg base (0 + n) "_law_others" ["_law_thing"] [] (At__law_others n)
  | 0 => cal_of Fd hm stuck__law_others (fun _ _ _ _ _ _ us hl => match us, hl with | [_], _ => rfl) kb_nil
  | n + 1 => cal_of Fd hm (fn__law_others n T Fd (at__law_others T Fd hm  n) ) (fun _ _ _ _ _ _ us hl => match us, hl with | [_], _ => rfl) kb_nil
theorem ok__law_others {f : Addr} {fd : FuncData} (T : Txt K mg) (Fd : Fun K "_law_others" "_law_others" s__law_others f fd) (hm : mg "_law_others" = some (.ref f))  : Cal P w K mg base 8 "_law_others" ["_law_thing"] [] G__law_others :=
  at__law_others T Fd hm  8
theorem sc__law_right : FnScope ["_law_spring_here", "_law_atoms", "_law_turn", "_law_said", "_law_paper", "_law_at", "_law_odd", "_law_told", "_law_wrong_here", "_law_pages", "_law_each", "_law_page"] ["_law_spring_here"] (defScope s__law_right) := ⟨rfl, rfl, rfl, by decide +kernel, rfl, by decide +kernel, by decide +kernel⟩
theorem fn__law_right {f : Addr} {fd : FuncData} (T : Txt K mg) (Fd : Fun K "_law_right" "_law_right" s__law_right f fd) (C__law_any : Cal P w K mg base 2 "_law_any" ["_law_spring_here", "_law_some"] [] G__law_any) (C__law_bank : Cal P w K mg base 1 "_law_bank" [] [] G__law_bank) (C_accepts : Cal P w K mg base 7 "accepts" ["claim", "paper"] [] G_accepts) (C__law_wild : Cal P w K mg base 10 "_law_wild" ["_law_spring_here", "_law_deep", "_law_atoms"] [] G__law_wild) (C__law_drip : Cal P w K mg base 1 "_law_drip" ["_law_spring_here", "_law_size"] [] G__law_drip) (C__law_wrong : Cal P w K mg base 2 "_law_wrong" ["_law_spring_here", "_law_said"] [] G__law_wrong) (C__law_others : Cal P w K mg base 8 "_law_others" ["_law_thing"] [] G__law_others) : FnG P w K mg base 11 f fd ["_law_spring_here"] (spG K 1 G__law_right) := by
  obtain ⟨f__law_any, fd__law_any, F__law_any, m__law_any, k__law_any, b__law_any, q__law_any⟩ := C__law_any.ex
  obtain ⟨f__law_bank, fd__law_bank, F__law_bank, m__law_bank, k__law_bank, b__law_bank, q__law_bank⟩ := C__law_bank.ex
  obtain ⟨f_accepts, fd_accepts, F_accepts, m_accepts, k_accepts, b_accepts, q_accepts⟩ := C_accepts.ex
  obtain ⟨f__law_wild, fd__law_wild, F__law_wild, m__law_wild, k__law_wild, b__law_wild, q__law_wild⟩ := C__law_wild.ex
  obtain ⟨f__law_drip, fd__law_drip, F__law_drip, m__law_drip, k__law_drip, b__law_drip, q__law_drip⟩ := C__law_drip.ex
  obtain ⟨f__law_wrong, fd__law_wrong, F__law_wrong, m__law_wrong, k__law_wrong, b__law_wrong, q__law_wrong⟩ := C__law_wrong.ex
  obtain ⟨f__law_others, fd__law_others, F__law_others, m__law_others, k__law_others, b__law_others, q__law_others⟩ := C__law_others.ex
  have z := fnG (P := P) (w := w) (mg := mg) (base := base) (k := 10) (N := ["_law_spring_here", "_law_atoms", "_law_turn", "_law_said", "_law_paper", "_law_at", "_law_odd", "_law_told", "_law_wrong_here", "_law_pages", "_law_each", "_law_page"]) (ps := ["_law_spring_here"]) (g := g__law_right) Fd sc__law_right fun cdv A outer s H E π W hr tk hp => by exact (fss_cons (fs_set sc__law_right.nd (i := 1) rfl (Or.inl rfl) (fe_frz (fm_lst (fa_cons fe_non (fa_cons fe_bl (fa_cons fe_bl (fa_cons fe_int (fa_cons fe_int (fa_cons (fe_un un_neg q_neg fe_int) (fa_cons fe_int (fa_cons (fe_bin op_pow q_pow fe_int fe_int) (fa_cons fe_str (fa_cons fe_str (fa_cons fe_str (fa_cons fe_str (fa_cons fe_str (fa_cons (fe_tup fa_nil) (fa_cons (fe_frz (fm_lst fa_nil)) (fa_cons fe_dict0 (fa_cons (fe_tup (fa_cons fe_int fa_nil)) (fa_cons (fe_tup (fa_cons fe_int fa_nil)) (fa_cons (fe_tup (fa_cons fe_int (fa_cons fe_int fa_nil))) fa_nil)))))))))))))))))))))) (fss_cons (fs_set sc__law_right.nd (i := 1) rfl (Or.inl rfl) (fe_bin o_add q_add (fe_vr (pv 1)) (fe_frz (fm_lst (fa_cons (fe_tup (fa_cons fe_int (fa_cons fe_int fa_nil))) (fa_cons (fe_tup (fa_cons fe_int (fa_cons fe_int fa_nil))) (fa_cons (fe_tup (fa_cons fe_int (fa_cons fe_int fa_nil))) (fa_cons (fe_tup (fa_cons (fe_tup fa_nil) fa_nil)) (fa_cons (fe_tup (fa_cons fe_int (fa_cons fe_int (fa_cons fe_int fa_nil)))) (fa_cons fe_str (fa_cons fe_str (fa_cons (fe_tup (fa_cons fe_int (fa_cons fe_int fa_nil))) fa_nil)))))))))))) (fss_cons (fs_for (ks := []) hp rfl (fi_range1 rfl T.b_range (fa_cons fe_int fa_nil)) (fg_name sc__law_right.nd (i := 2) rfl (Or.inl rfl)) (fss_cons (fs_asg (fe_call F__law_any (rm_mono hr (by rfl)) tk rfl m__law_any k__law_any b__law_any (fb_sl (pv 0) (fb_cons (fe_call0 F__law_bank (rm_mono hr (by rfl)) tk rfl m__law_bank k__law_bank b__law_bank) fb_nil))) (fg_tup rfl (fgs_cons (fg_name sc__law_right.nd (i := 3) rfl (Or.inr rfl)) (fgs_cons (fg_name sc__law_right.nd (i := 4) rfl (Or.inr rfl)) fgs_nil)))) (fss_cons (fs_if (ft_cmp o_nis q_nis (fe_call F_accepts (rm_mono hr (by rfl)) tk rfl m_accepts k_accepts b_accepts (fb_cons (fe_vr (pv 3)) (fb_cons (fe_vr (pv 4)) fb_nil))) fe_bl (by rfl)) (fss_one (fs_ret fe_bl)) fss_nil) (fss_cons (fs_par rfl sc__law_right.nd (i := 5) (j := 6) rfl rfl (by decide) rfl rfl (fa_cons (fe_call F__law_drip (rm_mono hr (by rfl)) tk rfl m__law_drip k__law_drip b__law_drip (fb_sl (pv 0) (fb_cons fe_int fb_nil))) (fa_cons (fe_call F__law_wild (rm_mono hr (by rfl)) tk rfl m__law_wild k__law_wild b__law_wild (fb_sl (pv 0) (fb_cons fe_int (fb_cons (fe_vr (pv 1)) fb_nil)))) fa_nil)) (by rfl)) (fss_cons (fs_set sc__law_right.nd (i := 7) rfl (Or.inl rfl) (fe_frz (fm_lst (fa_cons (fe_call F_accepts (rm_mono hr (by rfl)) tk rfl m_accepts k_accepts b_accepts (fb_cons (fe_vr (pv 6)) (fb_cons (fe_call F__law_wild (rm_mono hr (by rfl)) tk rfl m__law_wild k__law_wild b__law_wild (fb_sl (pv 0) (fb_cons fe_int (fb_cons (fe_vr (pv 1)) fb_nil)))) fb_nil))) (fa_cons (fe_call F_accepts (rm_mono hr (by rfl)) tk rfl m_accepts k_accepts b_accepts (fb_cons (fe_bin o_add q_add (fe_bin o_add q_add (fe_sl (fe_vr (pv 3)) fo_none (fo_some (fe_vr (pv 5)))) (fe_tup (fa_cons (fe_vr (pv 6)) fa_nil))) (fe_sl (fe_vr (pv 3)) (fo_some (fe_bin o_add q_add (fe_vr (pv 5)) fe_int)) fo_none)) (fb_cons (fe_vr (pv 4)) fb_nil))) fa_nil))))) (fss_cons (fs_set sc__law_right.nd (i := 7) rfl (Or.inl rfl) (fe_bin o_add q_add (fe_vr (pv 7)) (fe_frz (fm_lst (fa_cons (fe_call F_accepts (rm_mono hr (by rfl)) tk rfl m_accepts k_accepts b_accepts (fb_cons (fe_vr (pv 3)) (fb_cons (fe_vr (pv 6)) fb_nil))) (fa_cons (fe_call F_accepts (rm_mono hr (by rfl)) tk rfl m_accepts k_accepts b_accepts (fb_cons (fe_vr (pv 6)) (fb_cons (fe_vr (pv 4)) fb_nil))) (fa_cons (fe_call F_accepts (rm_mono hr (by rfl)) tk rfl m_accepts k_accepts b_accepts (fb_cons (fe_tup (fa_cons (fe_vr (pv 3)) (fa_cons (fe_vr (pv 4)) fa_nil))) (fb_cons (fe_vr (pv 6)) fb_nil))) fa_nil))))))) (fss_cons (fs_if (ft_cmp (o_neA hr.u64) q_neA (fe_frz (fm_lc (own := [("_law_each", 10)]) rfl sc__law_right.nd (fi_seq (fe_vr (pv 7))) (show BlkOk ["_law_spring_here", "_law_atoms", "_law_turn", "_law_said", "_law_paper", "_law_at", "_law_odd", "_law_told", "_law_wrong_here", "_law_pages", "_law_each", "_law_page"] (defScope s__law_right) _ _ from blkOk_by (by decide +kernel)) (fun _ _ _ _ _ => (fg_name sc__law_right.nd (i := 10) rfl (Or.inl rfl))) (fun _ _ _ _ _ => (pts_one (PW.pt (fw_and (ft_cmp o_nis q_nis (fe_vr (pv 10)) fe_bl (by rfl)) (pw_and1 (ft_cmp o_nis q_nis (fe_vr (pv 10)) fe_bl (by rfl))))))) (fun _ _ _ _ _ => (fe_vr (pv 10))) (by decide))) (fe_frz (fm_lst fa_nil)) (by rfl)) (fss_one (fs_ret fe_bl)) fss_nil) (fss_cons (fs_set sc__law_right.nd (i := 8) rfl (Or.inl rfl) (fe_bin o_add q_add (fe_call F__law_wrong (rm_mono hr (by rfl)) tk rfl m__law_wrong k__law_wrong b__law_wrong (fb_sl (pv 0) (fb_cons (fe_vr (pv 3)) fb_nil))) (fe_sl (fe_call F__law_others (rm_mono hr (by rfl)) tk rfl m__law_others k__law_others b__law_others (fb_cons (fe_vr (pv 3)) fb_nil)) (fo_some fe_int) fo_none))) (fss_cons (fs_if (ft_cmp (o_neA hr.u64) q_neA (fe_frz (fm_lc (own := [("_law_each", 10)]) rfl sc__law_right.nd (fi_seq (fe_vr (pv 8))) (show BlkOk ["_law_spring_here", "_law_atoms", "_law_turn", "_law_said", "_law_paper", "_law_at", "_law_odd", "_law_told", "_law_wrong_here", "_law_pages", "_law_each", "_law_page"] (defScope s__law_right) _ _ from blkOk_by (by decide +kernel)) (fun _ _ _ _ _ => (fg_name sc__law_right.nd (i := 10) rfl (Or.inl rfl))) (fun _ _ _ _ _ => (pts_one (ft_cmp o_nis q_nis (fe_call F_accepts (rm_mono hr (by rfl)) takes_0 rfl m_accepts k_accepts b_accepts (fb_cons (fe_vr (pv 10)) (fb_cons (fe_vr (pv 4)) fb_nil))) fe_bl (by rfl)))) (fun _ _ _ _ _ => (fe_vr (pv 10))) (by decide))) (fe_frz (fm_lst fa_nil)) (by rfl)) (fss_one (fs_ret fe_bl)) fss_nil) (fss_cons (fs_set sc__law_right.nd (i := 9) rfl (Or.inl rfl) (fe_bin o_add q_add (fe_call F__law_others (rm_mono hr (by rfl)) tk rfl m__law_others k__law_others b__law_others (fb_cons (fe_vr (pv 4)) fb_nil)) (fe_frz (fm_lst (fa_cons fe_non (fa_cons fe_int (fa_cons fe_bl (fa_cons fe_bl (fa_cons fe_str (fa_cons fe_dict0 (fa_cons (fe_frz (fm_lst (fa_cons (fe_vr (pv 4)) fa_nil))) (fa_cons (fe_tup (fa_cons fe_non fa_nil)) (fa_cons (fe_tup (fa_cons (fe_vr (pv 4)) (fa_cons fe_non fa_nil))) (fa_cons fe_int (fa_cons (fe_un un_neg q_neg fe_int) fa_nil))))))))))))))) (fss_one (fs_if (ft_cmp (o_neA hr.u64) q_neA (fe_frz (fm_lc (own := [("_law_page", 11)]) rfl sc__law_right.nd (fi_seq (fe_vr (pv 9))) (show BlkOk ["_law_spring_here", "_law_atoms", "_law_turn", "_law_said", "_law_paper", "_law_at", "_law_odd", "_law_told", "_law_wrong_here", "_law_pages", "_law_each", "_law_page"] (defScope s__law_right) _ _ from blkOk_by (by decide +kernel)) (fun _ _ _ _ _ => (fg_name sc__law_right.nd (i := 11) rfl (Or.inl rfl))) (fun _ _ _ _ _ => (pts_one (ft_cmp o_nis q_nis (fe_call F_accepts (rm_mono hr (by rfl)) takes_0 rfl m_accepts k_accepts b_accepts (fb_cons (fe_vr (pv 3)) (fb_cons (fe_vr (pv 11)) fb_nil))) fe_bl (by rfl)))) (fun _ _ _ _ _ => (fe_vr (pv 11))) (by decide))) (fe_frz (fm_lst fa_nil)) (by rfl)) (fss_one (fs_ret fe_bl)) fss_nil)))))))))))) (fss_one (fs_ret fe_bl)))))
  exact z
theorem ok__law_right {f : Addr} {fd : FuncData} (T : Txt K mg) (Fd : Fun K "_law_right" "_law_right" s__law_right f fd) (hm : mg "_law_right" = some (.ref f)) (C__law_any : Cal P w K mg base 2 "_law_any" ["_law_spring_here", "_law_some"] [] G__law_any) (C__law_bank : Cal P w K mg base 1 "_law_bank" [] [] G__law_bank) (C_accepts : Cal P w K mg base 7 "accepts" ["claim", "paper"] [] G_accepts) (C__law_wild : Cal P w K mg base 10 "_law_wild" ["_law_spring_here", "_law_deep", "_law_atoms"] [] G__law_wild) (C__law_drip : Cal P w K mg base 1 "_law_drip" ["_law_spring_here", "_law_size"] [] G__law_drip) (C__law_wrong : Cal P w K mg base 2 "_law_wrong" ["_law_spring_here", "_law_said"] [] G__law_wrong) (C__law_others : Cal P w K mg base 8 "_law_others" ["_law_thing"] [] G__law_others) : Cal P w K mg base 11 "_law_right" ["_law_spring_here"] [] G__law_right :=
  cal_of Fd hm (fn__law_right T Fd C__law_any C__law_bank C_accepts C__law_wild C__law_drip C__law_wrong C__law_others) (fun _ _ _ _ _ _ us hl => match us, hl with | [_], _ => rfl) kb_nil
theorem sc__law_spring : FnScope ["_law_script", "_law_turn", "_law_mixed", "_law_each", "_law_own", "_law_held"] ["_law_script", "_law_turn"] (defScope s__law_spring) := ⟨rfl, rfl, rfl, by decide +kernel, rfl, by decide +kernel, by decide +kernel⟩
theorem fn__law_spring {f : Addr} {fd : FuncData} (T : Txt K mg) (Fd : Fun K "_law_spring" "_law_spring" s__law_spring f fd)  : FnG P w K mg base 1 f fd ["_law_script", "_law_turn"] (spG K 2 G__law_spring) := by
  have z := fnG (P := P) (w := w) (mg := mg) (base := base) (k := 0) (N := ["_law_script", "_law_turn", "_law_mixed", "_law_each", "_law_own", "_law_held"]) (ps := ["_law_script", "_law_turn"]) (g := g__law_spring) Fd sc__law_spring fun cdv A outer s H E π W hr tk hp => by exact (fss_cons (fs_set sc__law_spring.nd (i := 2) rfl (Or.inl rfl) (fe_bin o_add q_add fe_int (fe_bin o_mul q_mul fe_int (fe_vr (pv 1))))) (fss_cons (fs_for (ks := []) hp rfl (fi_seq (fe_sl (fe_vr (pv 0)) fo_none (fo_some fe_int))) (fg_name sc__law_spring.nd (i := 3) rfl (Or.inl rfl)) (fss_one (fs_set sc__law_spring.nd (i := 2) rfl (Or.inl rfl) (fe_bin op_modN q_mod (fe_callTy q_int call_int1 rfl T.b_int (by decide +kernel) (fa_cons (fe_bin o_add q_add (fe_bin o_add q_add (fe_bin o_mul q_mul (fe_vr (pv 2)) fe_int) (fe_bin o_mul q_mul (fe_callTy q_int call_int1 rfl T.b_int (by decide +kernel) (fa_cons (fe_vr (pv 3)) fa_nil)) fe_int)) fe_int) fa_nil)) fe_int)))) (fss_cons (fs_set sc__law_spring.nd (i := 4) rfl (Or.inl rfl) (fe_if (ft_cmp op_lt q_cmp (fe_vr (pv 1)) (fe_callB q_len o_len rfl T.b_len (by decide +kernel) (fa_cons (fe_vr (pv 0)) fa_nil)) (by rfl)) (fe_callTy q_int call_int1 rfl T.b_int (by decide +kernel) (fa_cons (fe_ix (fe_vr (pv 0)) (fe_vr (pv 1)) (fun _ _ => rfl)) fa_nil)) (fe_bin o_add q_add (fe_bin o_mul q_mul fe_int (fe_vr (pv 1))) fe_int))) (fss_cons (fs_set sc__law_spring.nd (i := 5) rfl (Or.inl rfl) (fe_if (PW.pt (fw_or (ft_cmp op_lt q_cmp (fe_vr (pv 4)) fe_int (by rfl)) (pw_or1 (ft_cmp op_ge q_cmp (fe_vr (pv 4)) (fe_bin op_pow q_pow fe_int fe_int) (by rfl))))) (fe_callB q_abs call_abs rfl T.b_abs (by decide +kernel) (fa_cons (fe_vr (pv 4)) fa_nil)) fe_int)) (fss_one (fs_retM (fm_lst (fa_cons (fe_vr (pv 5)) (fa_cons (fe_bin op_modN q_mod (fe_callTy q_int call_int1 rfl T.b_int (by decide +kernel) (fa_cons (fe_bin o_add q_add (fe_bin o_mul q_mul (fe_vr (pv 2)) fe_int) (fe_vr (pv 4))) fa_nil)) fe_int) (fa_cons fe_int fa_nil))))))))))
  exact z
theorem ok__law_spring {f : Addr} {fd : FuncData} (T : Txt K mg) (Fd : Fun K "_law_spring" "_law_spring" s__law_spring f fd) (hm : mg "_law_spring" = some (.ref f))  : Cal P w K mg base 1 "_law_spring" ["_law_script", "_law_turn"] [] G__law_spring :=
  cal_of Fd hm (fn__law_spring T Fd ) (fun _ _ _ _ _ _ us hl => match us, hl with | [_, _], _ => rfl) kb_nil
theorem sc_law : FnScope ["_law_script", "_law_turn"] ["_law_script"] (defScope s_law) := ⟨rfl, rfl, rfl, by decide +kernel, rfl, by decide +kernel, by decide +kernel⟩
theorem fn_law {f : Addr} {fd : FuncData} (T : Txt K mg) (Fd : Fun K "law" "law" s_law f fd) (C__law_right : Cal P w K mg base 11 "_law_right" ["_law_spring_here"] [] G__law_right) (C__law_spring : Cal P w K mg base 1 "_law_spring" ["_law_script", "_law_turn"] [] G__law_spring) : FnG P w K mg base 12 f fd ["_law_script"] (spG K 1 G_law) := by
  obtain ⟨f__law_right, fd__law_right, F__law_right, m__law_right, k__law_right, b__law_right, q__law_right⟩ := C__law_right.ex
  obtain ⟨f__law_spring, fd__law_spring, F__law_spring, m__law_spring, k__law_spring, b__law_spring, q__law_spring⟩ := C__law_spring.ex
  have z := fnG (P := P) (w := w) (mg := mg) (base := base) (k := 11) (N := ["_law_script", "_law_turn"]) (ps := ["_law_script"]) (g := g_law) Fd sc_law fun cdv A outer s H E π W hr tk hp => by exact (fss_one (fs_ret (fe_callB q_all (cr_all rfl) rfl T.b_all (by decide +kernel) (fa_cons (fe_frz (fm_lc (own := [("_law_turn", 1)]) rfl sc_law.nd (fi_range1 rfl T.b_range (fa_cons (fe_callB q_max (call_max2 rfl) rfl T.b_max (by decide +kernel) (fa_cons fe_int (fa_cons (fe_callB q_min (call_min2 rfl) rfl T.b_min (by decide +kernel) (fa_cons (fe_callB q_len o_len rfl T.b_len (by decide +kernel) (fa_cons (fe_vr (pv 0)) fa_nil)) (fa_cons fe_int fa_nil))) fa_nil))) fa_nil)) (show BlkOk ["_law_script", "_law_turn"] (defScope s_law) _ _ from blkOk_by (by decide +kernel)) (fun _ _ _ _ _ => (fg_name sc_law.nd (i := 1) rfl (Or.inl rfl))) (fun _ _ _ _ _ => pts_non) (fun _ _ _ _ _ => (fe_callF F__law_right rfl (rm_mono hr (by rfl)) takes_0 rfl m__law_right k__law_right b__law_right (fm_call F__law_spring (rm_mono hr (by rfl)) takes_0 rfl m__law_spring k__law_spring b__law_spring (fb_cons (fe_vr (pv 0)) (fb_cons (fe_vr (pv 1)) fb_nil))))) (by decide))) fa_nil))))
  exact z
end
theorem all_mk {l : PySem.W.OpenLaw} {w : World} {K : PySem.W.Frag} {h : Heap} {mg : Str → Option Value} {fa : Addr} [fe : FE] (hq : ∀ ns : List Int, ns.length ≤ 63 → G_law [.val (.scr ns)] = .ok (.v (.bl true)) []) (X : K.In h) (G : h.Ns mainGlobals mg) (hfa : mg "law" = some (.ref fa))
    {f1 f2 f3 f4 f5 f6 f7 f8 f9 f10 f11 f12 f13 f14 f15 f16 f17 f18 f19 f20 f21 f22 f23 f24 f25 f26 f27 f28 f29 f30 : Addr} {od1 an1 od2 an2 od3 an3 od4 an4 od5 an5 od6 an6 od7 an7 od8 an8 od9 an9 od10 an10 od11 an11 od12 an12 od13 an13 od14 an14 od15 an15 od16 an16 od17 an17 od18 an18 od19 an19 od20 an20 od21 an21 od22 an22 od23 an23 od24 an24 od25 an25 od26 an26 od27 an27 od28 an28 od29 an29 od30 an30 : Option Addr} {sl1 sl2 sl3 sl4 sl5 sl6 sl7 sl8 sl9 sl10 sl11 sl12 sl13 sl14 sl15 sl16 sl17 sl18 sl19 sl20 sl21 sl22 sl23 sl24 sl25 sl26 sl27 sl28 sl29 sl30 : Array (Option Value)} {oc1 kV1 dc1 pm1 ct1 cd1 oc2 kV2 dc2 pm2 ct2 cd2 oc3 kV3 dc3 pm3 ct3 cd3 oc4 kV4 dc4 pm4 ct4 cd4 oc5 kV5 dc5 pm5 ct5 cd5 oc6 kV6 dc6 pm6 ct6 cd6 oc7 kV7 dc7 pm7 ct7 cd7 oc8 kV8 dc8 pm8 ct8 cd8 oc9 kV9 dc9 pm9 ct9 cd9 oc10 kV10 dc10 pm10 ct10 cd10 oc11 kV11 dc11 pm11 ct11 cd11 oc12 kV12 dc12 pm12 ct12 cd12 oc13 kV13 dc13 pm13 ct13 cd13 oc14 kV14 dc14 pm14 ct14 cd14 oc15 kV15 dc15 pm15 ct15 cd15 oc16 kV16 dc16 pm16 ct16 cd16 oc17 kV17 dc17 pm17 ct17 cd17 oc18 kV18 dc18 pm18 ct18 cd18 oc19 kV19 dc19 pm19 ct19 cd19 oc20 kV20 dc20 pm20 ct20 cd20 oc21 kV21 dc21 pm21 ct21 cd21 oc22 kV22 dc22 pm22 ct22 cd22 oc23 kV23 dc23 pm23 ct23 cd23 oc24 kV24 dc24 pm24 ct24 cd24 oc25 kV25 dc25 pm25 ct25 cd25 oc26 kV26 dc26 pm26 ct26 cd26 oc27 kV27 dc27 pm27 ct27 cd27 oc28 kV28 dc28 pm28 ct28 cd28 oc29 kV29 dc29 pm29 ct29 cd29 oc30 kV30 dc30 pm30 ct30 cd30 : Value}
    (a1 : PySem.W.nsIn K mainGlobals "_law_drip" = some (some (.ref f1))) (l1 : K.lookup f1 = some ⟨oc1, od1, .func (PySem.W.fnOf "_law_drip" "_law_drip" (defArgs s__law_drip) (defBody s__law_drip) (defScope s__law_drip) .none kV1 dc1 pm1 an1 cd1 ct1), sl1⟩) (c1 : PySem.W.codeIn K cd1 "_law_drip" = true) (k1 : PySem.W.keepIn K (.ref f1) = true)
    (a2 : PySem.W.nsIn K mainGlobals "_law_any" = some (some (.ref f2))) (l2 : K.lookup f2 = some ⟨oc2, od2, .func (PySem.W.fnOf "_law_any" "_law_any" (defArgs s__law_any) (defBody s__law_any) (defScope s__law_any) .none kV2 dc2 pm2 an2 cd2 ct2), sl2⟩) (c2 : PySem.W.codeIn K cd2 "_law_any" = true) (k2 : PySem.W.keepIn K (.ref f2) = true)
    (a3 : PySem.W.nsIn K mainGlobals "_law_bank" = some (some (.ref f3))) (l3 : K.lookup f3 = some ⟨oc3, od3, .func (PySem.W.fnOf "_law_bank" "_law_bank" (defArgs s__law_bank) (defBody s__law_bank) (defScope s__law_bank) .none kV3 dc3 pm3 an3 cd3 ct3), sl3⟩) (c3 : PySem.W.codeIn K cd3 "_law_bank" = true) (k3 : PySem.W.keepIn K (.ref f3) = true)
    (a4 : PySem.W.nsIn K mainGlobals "is_integer" = some (some (.ref f4))) (l4 : K.lookup f4 = some ⟨oc4, od4, .func (PySem.W.fnOf "is_integer" "is_integer" (defArgs s_is_integer) (defBody s_is_integer) (defScope s_is_integer) .none kV4 dc4 pm4 an4 cd4 ct4), sl4⟩) (c4 : PySem.W.codeIn K cd4 "is_integer" = true) (k4 : PySem.W.keepIn K (.ref f4) = true)
    (a5 : PySem.W.nsIn K mainGlobals "is_between" = some (some (.ref f5))) (l5 : K.lookup f5 = some ⟨oc5, od5, .func (PySem.W.fnOf "is_between" "is_between" (defArgs s_is_between) (defBody s_is_between) (defScope s_is_between) .none kV5 dc5 pm5 an5 cd5 ct5), sl5⟩) (c5 : PySem.W.codeIn K cd5 "is_between" = true) (k5 : PySem.W.keepIn K (.ref f5) = true)
    (a6 : PySem.W.nsIn K mainGlobals "is_bead" = some (some (.ref f6))) (l6 : K.lookup f6 = some ⟨oc6, od6, .func (PySem.W.fnOf "is_bead" "is_bead" (defArgs s_is_bead) (defBody s_is_bead) (defScope s_is_bead) .none kV6 dc6 pm6 an6 cd6 ct6), sl6⟩) (c6 : PySem.W.codeIn K cd6 "is_bead" = true) (k6 : PySem.W.keepIn K (.ref f6) = true)
    (a7 : PySem.W.nsIn K mainGlobals "string_fault" = some (some (.ref f7))) (l7 : K.lookup f7 = some ⟨oc7, od7, .func (PySem.W.fnOf "string_fault" "string_fault" (defArgs s_string_fault) (defBody s_string_fault) (defScope s_string_fault) .none kV7 dc7 pm7 an7 cd7 ct7), sl7⟩) (c7 : PySem.W.codeIn K cd7 "string_fault" = true) (k7 : PySem.W.keepIn K (.ref f7) = true)
    (a8 : PySem.W.nsIn K mainGlobals "is_string" = some (some (.ref f8))) (l8 : K.lookup f8 = some ⟨oc8, od8, .func (PySem.W.fnOf "is_string" "is_string" (defArgs s_is_string) (defBody s_is_string) (defScope s_is_string) .none kV8 dc8 pm8 an8 cd8 ct8), sl8⟩) (c8 : PySem.W.codeIn K cd8 "is_string" = true) (k8 : PySem.W.keepIn K (.ref f8) = true)
    (a9 : PySem.W.nsIn K mainGlobals "common" = some (some (.ref f9))) (l9 : K.lookup f9 = some ⟨oc9, od9, .func (PySem.W.fnOf "common" "common" (defArgs s_common) (defBody s_common) (defScope s_common) .none kV9 dc9 pm9 an9 cd9 ct9), sl9⟩) (c9 : PySem.W.codeIn K cd9 "common" = true) (k9 : PySem.W.keepIn K (.ref f9) = true)
    (a10 : PySem.W.nsIn K mainGlobals "is_pair" = some (some (.ref f10))) (l10 : K.lookup f10 = some ⟨oc10, od10, .func (PySem.W.fnOf "is_pair" "is_pair" (defArgs s_is_pair) (defBody s_is_pair) (defScope s_is_pair) .none kV10 dc10 pm10 an10 cd10 ct10), sl10⟩) (c10 : PySem.W.codeIn K cd10 "is_pair" = true) (k10 : PySem.W.keepIn K (.ref f10) = true)
    (a11 : PySem.W.nsIn K mainGlobals "are_same_size" = some (some (.ref f11))) (l11 : K.lookup f11 = some ⟨oc11, od11, .func (PySem.W.fnOf "are_same_size" "are_same_size" (defArgs s_are_same_size) (defBody s_are_same_size) (defScope s_are_same_size) .none kV11 dc11 pm11 an11 cd11 ct11), sl11⟩) (c11 : PySem.W.codeIn K cd11 "are_same_size" = true) (k11 : PySem.W.keepIn K (.ref f11) = true)
    (a12 : PySem.W.nsIn K mainGlobals "is_claim" = some (some (.ref f12))) (l12 : K.lookup f12 = some ⟨oc12, od12, .func (PySem.W.fnOf "is_claim" "is_claim" (defArgs s_is_claim) (defBody s_is_claim) (defScope s_is_claim) .none kV12 dc12 pm12 an12 cd12 ct12), sl12⟩) (c12 : PySem.W.codeIn K cd12 "is_claim" = true) (k12 : PySem.W.keepIn K (.ref f12) = true)
    (a13 : PySem.W.nsIn K mainGlobals "strikes" = some (some (.ref f13))) (l13 : K.lookup f13 = some ⟨oc13, od13, .func (PySem.W.fnOf "strikes" "strikes" (defArgs s_strikes) (defBody s_strikes) (defScope s_strikes) .none kV13 dc13 pm13 an13 cd13 ct13), sl13⟩) (c13 : PySem.W.codeIn K cd13 "strikes" = true) (k13 : PySem.W.keepIn K (.ref f13) = true)
    (a14 : PySem.W.nsIn K mainGlobals "joins" = some (some (.ref f14))) (l14 : K.lookup f14 = some ⟨oc14, od14, .func (PySem.W.fnOf "joins" "joins" (defArgs s_joins) (defBody s_joins) (defScope s_joins) .none kV14 dc14 pm14 an14 cd14 ct14), sl14⟩) (c14 : PySem.W.codeIn K cd14 "joins" = true) (k14 : PySem.W.keepIn K (.ref f14) = true)
    (a15 : PySem.W.nsIn K mainGlobals "is_step" = some (some (.ref f15))) (l15 : K.lookup f15 = some ⟨oc15, od15, .func (PySem.W.fnOf "is_step" "is_step" (defArgs s_is_step) (defBody s_is_step) (defScope s_is_step) .none kV15 dc15 pm15 an15 cd15 ct15), sl15⟩) (c15 : PySem.W.codeIn K cd15 "is_step" = true) (k15 : PySem.W.keepIn K (.ref f15) = true)
    (a16 : PySem.W.nsIn K mainGlobals "shows_led" = some (some (.ref f16))) (l16 : K.lookup f16 = some ⟨oc16, od16, .func (PySem.W.fnOf "shows_led" "shows_led" (defArgs s_shows_led) (defBody s_shows_led) (defScope s_shows_led) .none kV16 dc16 pm16 an16 cd16 ct16), sl16⟩) (c16 : PySem.W.codeIn K cd16 "shows_led" = true) (k16 : PySem.W.keepIn K (.ref f16) = true)
    (a17 : PySem.W.nsIn K mainGlobals "turns_of" = some (some (.ref f17))) (l17 : K.lookup f17 = some ⟨oc17, od17, .func (PySem.W.fnOf "turns_of" "turns_of" (defArgs s_turns_of) (defBody s_turns_of) (defScope s_turns_of) .none kV17 dc17 pm17 an17 cd17 ct17), sl17⟩) (c17 : PySem.W.codeIn K cd17 "turns_of" = true) (k17 : PySem.W.keepIn K (.ref f17) = true)
    (a18 : PySem.W.nsIn K mainGlobals "is_pair_of" = some (some (.ref f18))) (l18 : K.lookup f18 = some ⟨oc18, od18, .func (PySem.W.fnOf "is_pair_of" "is_pair_of" (defArgs s_is_pair_of) (defBody s_is_pair_of) (defScope s_is_pair_of) .none kV18 dc18 pm18 an18 cd18 ct18), sl18⟩) (c18 : PySem.W.codeIn K cd18 "is_pair_of" = true) (k18 : PySem.W.keepIn K (.ref f18) = true)
    (a19 : PySem.W.nsIn K mainGlobals "shows_apart" = some (some (.ref f19))) (l19 : K.lookup f19 = some ⟨oc19, od19, .func (PySem.W.fnOf "shows_apart" "shows_apart" (defArgs s_shows_apart) (defBody s_shows_apart) (defScope s_shows_apart) .none kV19 dc19 pm19 an19 cd19 ct19), sl19⟩) (c19 : PySem.W.codeIn K cd19 "shows_apart" = true) (k19 : PySem.W.keepIn K (.ref f19) = true)
    (a20 : PySem.W.nsIn K mainGlobals "is_sign" = some (some (.ref f20))) (l20 : K.lookup f20 = some ⟨oc20, od20, .func (PySem.W.fnOf "is_sign" "is_sign" (defArgs s_is_sign) (defBody s_is_sign) (defScope s_is_sign) .none kV20 dc20 pm20 an20 cd20 ct20), sl20⟩) (c20 : PySem.W.codeIn K cd20 "is_sign" = true) (k20 : PySem.W.keepIn K (.ref f20) = true)
    (a21 : PySem.W.nsIn K mainGlobals "shows_alike" = some (some (.ref f21))) (l21 : K.lookup f21 = some ⟨oc21, od21, .func (PySem.W.fnOf "shows_alike" "shows_alike" (defArgs s_shows_alike) (defBody s_shows_alike) (defScope s_shows_alike) .none kV21 dc21 pm21 an21 cd21 ct21), sl21⟩) (c21 : PySem.W.codeIn K cd21 "shows_alike" = true) (k21 : PySem.W.keepIn K (.ref f21) = true)
    (a22 : PySem.W.nsIn K mainGlobals "shows_loops" = some (some (.ref f22))) (l22 : K.lookup f22 = some ⟨oc22, od22, .func (PySem.W.fnOf "shows_loops" "shows_loops" (defArgs s_shows_loops) (defBody s_shows_loops) (defScope s_shows_loops) .none kV22 dc22 pm22 an22 cd22 ct22), sl22⟩) (c22 : PySem.W.codeIn K cd22 "shows_loops" = true) (k22 : PySem.W.keepIn K (.ref f22) = true)
    (a23 : PySem.W.nsIn K mainGlobals "are_apart_for_loops" = some (some (.ref f23))) (l23 : K.lookup f23 = some ⟨oc23, od23, .func (PySem.W.fnOf "are_apart_for_loops" "are_apart_for_loops" (defArgs s_are_apart_for_loops) (defBody s_are_apart_for_loops) (defScope s_are_apart_for_loops) .none kV23 dc23 pm23 an23 cd23 ct23), sl23⟩) (c23 : PySem.W.codeIn K cd23 "are_apart_for_loops" = true) (k23 : PySem.W.keepIn K (.ref f23) = true)
    (a24 : PySem.W.nsIn K mainGlobals "accepts" = some (some (.ref f24))) (l24 : K.lookup f24 = some ⟨oc24, od24, .func (PySem.W.fnOf "accepts" "accepts" (defArgs s_accepts) (defBody s_accepts) (defScope s_accepts) .none kV24 dc24 pm24 an24 cd24 ct24), sl24⟩) (c24 : PySem.W.codeIn K cd24 "accepts" = true) (k24 : PySem.W.keepIn K (.ref f24) = true)
    (a25 : PySem.W.nsIn K mainGlobals "_law_wild" = some (some (.ref f25))) (l25 : K.lookup f25 = some ⟨oc25, od25, .func (PySem.W.fnOf "_law_wild" "_law_wild" (defArgs s__law_wild) (defBody s__law_wild) (defScope s__law_wild) .none kV25 dc25 pm25 an25 cd25 ct25), sl25⟩) (c25 : PySem.W.codeIn K cd25 "_law_wild" = true) (k25 : PySem.W.keepIn K (.ref f25) = true)
    (a26 : PySem.W.nsIn K mainGlobals "_law_wrong" = some (some (.ref f26))) (l26 : K.lookup f26 = some ⟨oc26, od26, .func (PySem.W.fnOf "_law_wrong" "_law_wrong" (defArgs s__law_wrong) (defBody s__law_wrong) (defScope s__law_wrong) .none kV26 dc26 pm26 an26 cd26 ct26), sl26⟩) (c26 : PySem.W.codeIn K cd26 "_law_wrong" = true) (k26 : PySem.W.keepIn K (.ref f26) = true)
    (a27 : PySem.W.nsIn K mainGlobals "_law_others" = some (some (.ref f27))) (l27 : K.lookup f27 = some ⟨oc27, od27, .func (PySem.W.fnOf "_law_others" "_law_others" (defArgs s__law_others) (defBody s__law_others) (defScope s__law_others) .none kV27 dc27 pm27 an27 cd27 ct27), sl27⟩) (c27 : PySem.W.codeIn K cd27 "_law_others" = true) (k27 : PySem.W.keepIn K (.ref f27) = true)
    (a28 : PySem.W.nsIn K mainGlobals "_law_right" = some (some (.ref f28))) (l28 : K.lookup f28 = some ⟨oc28, od28, .func (PySem.W.fnOf "_law_right" "_law_right" (defArgs s__law_right) (defBody s__law_right) (defScope s__law_right) .none kV28 dc28 pm28 an28 cd28 ct28), sl28⟩) (c28 : PySem.W.codeIn K cd28 "_law_right" = true) (k28 : PySem.W.keepIn K (.ref f28) = true)
    (a29 : PySem.W.nsIn K mainGlobals "_law_spring" = some (some (.ref f29))) (l29 : K.lookup f29 = some ⟨oc29, od29, .func (PySem.W.fnOf "_law_spring" "_law_spring" (defArgs s__law_spring) (defBody s__law_spring) (defScope s__law_spring) .none kV29 dc29 pm29 an29 cd29 ct29), sl29⟩) (c29 : PySem.W.codeIn K cd29 "_law_spring" = true) (k29 : PySem.W.keepIn K (.ref f29) = true)
    (a30 : PySem.W.nsIn K mainGlobals "law" = some (some (.ref f30))) (l30 : K.lookup f30 = some ⟨oc30, od30, .func (PySem.W.fnOf "law" "law" (defArgs s_law) (defBody s_law) (defScope s_law) .none kV30 dc30 pm30 an30 cd30 ct30), sl30⟩) (c30 : PySem.W.codeIn K cd30 "law" = true) (k30 : PySem.W.keepIn K (.ref f30) = true)
    (z_abs : PySem.W.nsIn K mainGlobals "abs" = some none)
    (z_all : PySem.W.nsIn K mainGlobals "all" = some none)
    (z_bool : PySem.W.nsIn K mainGlobals "bool" = some none)
    (z_divmod : PySem.W.nsIn K mainGlobals "divmod" = some none)
    (z_enumerate : PySem.W.nsIn K mainGlobals "enumerate" = some none)
    (z_int : PySem.W.nsIn K mainGlobals "int" = some none)
    (z_isinstance : PySem.W.nsIn K mainGlobals "isinstance" = some none)
    (z_len : PySem.W.nsIn K mainGlobals "len" = some none)
    (z_list : PySem.W.nsIn K mainGlobals "list" = some none)
    (z_max : PySem.W.nsIn K mainGlobals "max" = some none)
    (z_min : PySem.W.nsIn K mainGlobals "min" = some none)
    (z_range : PySem.W.nsIn K mainGlobals "range" = some none)
    (z_str : PySem.W.nsIn K mainGlobals "str" = some none)
    (z_tuple : PySem.W.nsIn K mainGlobals "tuple" = some none)
    (y_MOST_BEADS : ∃ t : Tok, mg "MOST_BEADS" = some (.int 200 t))
    (y_MOST_GONE : ∃ t : Tok, mg "MOST_GONE" = some (.int 2000 t))
    (y_MOST_NUMBER : ∃ t : Tok, mg "MOST_NUMBER" = some (.int 1000000000 t))
    (y_MOST_ROWS : ∃ t : Tok, mg "MOST_ROWS" = some (.int 4000 t))
    {ta_OF_PAIRS : Addr} {td_OF_PAIRS : Option Addr} {tn_OF_PAIRS : Nat} {ts_OF_PAIRS : Array (Option Value)} {tt_OF_PAIRS_0 tt_OF_PAIRS_1 tt_OF_PAIRS_2 : Tok}
    (x_OF_PAIRS : PySem.W.nsIn K mainGlobals "OF_PAIRS" = some (some (.ref ta_OF_PAIRS))) (v_OF_PAIRS : K.lookup ta_OF_PAIRS = some ⟨.type "tuple", td_OF_PAIRS, .seq #[.str "alike" tt_OF_PAIRS_0, .str "for loops" tt_OF_PAIRS_1, .str "not for loops" tt_OF_PAIRS_2] tn_OF_PAIRS, ts_OF_PAIRS⟩)
    {ta_OF_STRINGS : Addr} {td_OF_STRINGS : Option Addr} {tn_OF_STRINGS : Nat} {ts_OF_STRINGS : Array (Option Value)} {tt_OF_STRINGS_0 tt_OF_STRINGS_1 : Tok}
    (x_OF_STRINGS : PySem.W.nsIn K mainGlobals "OF_STRINGS" = some (some (.ref ta_OF_STRINGS))) (v_OF_STRINGS : K.lookup ta_OF_STRINGS = some ⟨.type "tuple", td_OF_STRINGS, .seq #[.str "led" tt_OF_STRINGS_0, .str "apart" tt_OF_STRINGS_1] tn_OF_STRINGS, ts_OF_STRINGS⟩)
    (hfe : fe = feOfH [] [] (fun k => (PySem.leafKind l.prog w).hash (toLeaf k)))
    : LawG l w K 12 63 "_law_script" mg fa h (trueG 63) := by
  have e := hfa.symm.trans (PySem.W.mg_of X G a30)
  cases e
  haveI : HS l.prog w := ⟨fun k => by rw [hfe]; rfl⟩
  have T : Txt K mg := ⟨PySem.W.mg_none_of X G z_abs, PySem.W.mg_none_of X G z_all, PySem.W.mg_none_of X G z_bool, PySem.W.mg_none_of X G z_divmod, PySem.W.mg_none_of X G z_enumerate, PySem.W.mg_none_of X G z_int, PySem.W.mg_none_of X G z_isinstance, PySem.W.mg_none_of X G z_len, PySem.W.mg_none_of X G z_list, PySem.W.mg_none_of X G z_max, PySem.W.mg_none_of X G z_min, PySem.W.mg_none_of X G z_range, PySem.W.mg_none_of X G z_str, PySem.W.mg_none_of X G z_tuple, y_MOST_BEADS, y_MOST_GONE, y_MOST_NUMBER, y_MOST_ROWS, ⟨ta_OF_PAIRS, PySem.W.mg_of X G x_OF_PAIRS, fun F => .inr ⟨_, _, _, v_OF_PAIRS, rfl, rfl, le_line (by decide : 3 ≤ 100000), .cons ⟨_, rfl⟩ (.cons ⟨_, rfl⟩ (.cons ⟨_, rfl⟩ (.nil)))⟩⟩, ⟨ta_OF_STRINGS, PySem.W.mg_of X G x_OF_STRINGS, fun F => .inr ⟨_, _, _, v_OF_STRINGS, rfl, rfl, le_line (by decide : 2 ≤ 100000), .cons ⟨_, rfl⟩ (.cons ⟨_, rfl⟩ (.nil))⟩⟩⟩
  have F1 := fun_mk (st := s__law_drip) l1 c1 k1
  have F2 := fun_mk (st := s__law_any) l2 c2 k2
  have F3 := fun_mk (st := s__law_bank) l3 c3 k3
  have F4 := fun_mk (st := s_is_integer) l4 c4 k4
  have F5 := fun_mk (st := s_is_between) l5 c5 k5
  have F6 := fun_mk (st := s_is_bead) l6 c6 k6
  have F7 := fun_mk (st := s_string_fault) l7 c7 k7
  have F8 := fun_mk (st := s_is_string) l8 c8 k8
  have F9 := fun_mk (st := s_common) l9 c9 k9
  have F10 := fun_mk (st := s_is_pair) l10 c10 k10
  have F11 := fun_mk (st := s_are_same_size) l11 c11 k11
  have F12 := fun_mk (st := s_is_claim) l12 c12 k12
  have F13 := fun_mk (st := s_strikes) l13 c13 k13
  have F14 := fun_mk (st := s_joins) l14 c14 k14
  have F15 := fun_mk (st := s_is_step) l15 c15 k15
  have F16 := fun_mk (st := s_shows_led) l16 c16 k16
  have F17 := fun_mk (st := s_turns_of) l17 c17 k17
  have F18 := fun_mk (st := s_is_pair_of) l18 c18 k18
  have F19 := fun_mk (st := s_shows_apart) l19 c19 k19
  have F20 := fun_mk (st := s_is_sign) l20 c20 k20
  have F21 := fun_mk (st := s_shows_alike) l21 c21 k21
  have F22 := fun_mk (st := s_shows_loops) l22 c22 k22
  have F23 := fun_mk (st := s_are_apart_for_loops) l23 c23 k23
  have F24 := fun_mk (st := s_accepts) l24 c24 k24
  have F25 := fun_mk (st := s__law_wild) l25 c25 k25
  have F26 := fun_mk (st := s__law_wrong) l26 c26 k26
  have F27 := fun_mk (st := s__law_others) l27 c27 k27
  have F28 := fun_mk (st := s__law_right) l28 c28 k28
  have F29 := fun_mk (st := s__law_spring) l29 c29 k29
  have F30 := fun_mk (st := s_law) l30 c30 k30
  refine ⟨fe, PySem.W.fnOf "law" "law" (defArgs s_law) (defBody s_law) (defScope s_law) .none kV30 dc30 pm30 an30 cd30 ct30, [], codes0, ?_, ?_, ?_, fun ns hl _ => trueG_eq hl⟩
  · intro p hp
    rw [hfe] at hp
    exact absurd (show p ∈ ([] : List (Addr × Str)) from hp) List.not_mem_nil
  · exact fun s v => .of_eq rfl
  · intro base _ _ hTB
    have D1 := ok__law_drip (P := l.prog) (w := w) (base := base) T F1 (PySem.W.mg_of X G a1) 
    have D2 := ok__law_any (P := l.prog) (w := w) (base := base) T F2 (PySem.W.mg_of X G a2) D1
    have D3 := ok__law_bank (P := l.prog) (w := w) (base := base) T F3 (PySem.W.mg_of X G a3) 
    have D4 := ok_is_integer (P := l.prog) (w := w) (base := base) T F4 (PySem.W.mg_of X G a4) 
    have D5 := ok_is_between (P := l.prog) (w := w) (base := base) T F5 (PySem.W.mg_of X G a5) D4
    have D6 := ok_is_bead (P := l.prog) (w := w) (base := base) T F6 (PySem.W.mg_of X G a6) D5
    have D7 := ok_string_fault (P := l.prog) (w := w) (base := base) T F7 (PySem.W.mg_of X G a7) D6
    have D8 := ok_is_string (P := l.prog) (w := w) (base := base) T F8 (PySem.W.mg_of X G a8) D7
    have D9 := ok_common (P := l.prog) (w := w) (base := base) T F9 (PySem.W.mg_of X G a9) 
    have D10 := ok_is_pair (P := l.prog) (w := w) (base := base) T F10 (PySem.W.mg_of X G a10) D4 D9
    have D11 := ok_are_same_size (P := l.prog) (w := w) (base := base) T F11 (PySem.W.mg_of X G a11) D10
    have D12 := ok_is_claim (P := l.prog) (w := w) (base := base) T F12 (PySem.W.mg_of X G a12) D8 D11
    have D13 := ok_strikes (P := l.prog) (w := w) (base := base) T F13 (PySem.W.mg_of X G a13) 
    have D14 := ok_joins (P := l.prog) (w := w) (base := base) T F14 (PySem.W.mg_of X G a14) 
    have D15 := ok_is_step (P := l.prog) (w := w) (base := base) T F15 (PySem.W.mg_of X G a15) D13 D14
    have D16 := ok_shows_led (P := l.prog) (w := w) (base := base) T F16 (PySem.W.mg_of X G a16) D8 D15
    have D17 := ok_turns_of (P := l.prog) (w := w) (base := base) T F17 (PySem.W.mg_of X G a17) 
    have D18 := ok_is_pair_of (P := l.prog) (w := w) (base := base) T F18 (PySem.W.mg_of X G a18) D17 D10
    have D19 := ok_shows_apart (P := l.prog) (w := w) (base := base) T F19 (PySem.W.mg_of X G a19) D18
    have D20 := ok_is_sign (P := l.prog) (w := w) (base := base) T F20 (PySem.W.mg_of X G a20) D4
    have D21 := ok_shows_alike (P := l.prog) (w := w) (base := base) T F21 (PySem.W.mg_of X G a21) D20
    have D22 := ok_shows_loops (P := l.prog) (w := w) (base := base) T F22 (PySem.W.mg_of X G a22) D20 D5 D9
    have D23 := ok_are_apart_for_loops (P := l.prog) (w := w) (base := base) T F23 (PySem.W.mg_of X G a23) D9
    have D24 := ok_accepts (P := l.prog) (w := w) (base := base) T F24 (PySem.W.mg_of X G a24) D12 D16 D19 D21 D22 D23
    have D25 := ok__law_wild (P := l.prog) (w := w) (base := base) T F25 (PySem.W.mg_of X G a25) D1 D2
    have D26 := ok__law_wrong (P := l.prog) (w := w) (base := base) T F26 (PySem.W.mg_of X G a26) D1
    have D27 := ok__law_others (P := l.prog) (w := w) (base := base) T F27 (PySem.W.mg_of X G a27) 
    have D28 := ok__law_right (P := l.prog) (w := w) (base := base) T F28 (PySem.W.mg_of X G a28) D2 D3 D24 D25 D1 D26 D27
    have D29 := ok__law_spring (P := l.prog) (w := w) (base := base) T F29 (PySem.W.mg_of X G a29) 
    exact fn_trueG (hq) (fn_law T F30 D28 D29)
end Wk
namespace Wk
section
open PySem PySem.Spec PyProof.Rows L2 FL
variable [FE]
local macro_rules | `(tactic| simp_arith only [$xs,*]) => `(tactic| simp only [seqS_eq, nxS, bkS, ctS, nxt_nx, nxt_rt, nxt_bk, nxt_ct, ifS_eq, ifE_eq, brR_t, brR_f, brR_dec, anT_eq, orT_eq, anE_eq, orE_eq, tst_eq, isB_bl, ↓R.bind_bd, R.bd_ok, R.of_some, noT, blE, vr, cst, op1, op2, setS, setR, nxO, asgS, tupG, cnsG, nilG, nmG, subGO, subG, subS, getM, ixM, putO, cnsA, nilA, dTup, dLst, frz, retS, retM, setM, exS, mutS, appO, opC, callE, callM, callG_eq, cnsB, nilB, slB, kwB, ioM, toArgs, okA, slsA, nodN, argG_some, goG_ok, asE, asM, putA, newM, putM, parS, par3S, frzS, frzAt, bindO, endR_rt, endR_nx, endG, FL.collect, bodyG_eq, rho0, toS, wipeR, FL.pick, tru, truD, chn, lenM, slM, slF, noO, smO, catO, catM, litM, isiD, typD, isTy, R.bd_exc, cauE_eq, goG_exc, endR_exc, List.getElem?_cons_zero, List.getElem?_cons_succ, List.getElem?_nil, List.set_cons_zero, List.set_cons_succ, List.set_nil, List.length_cons, List.length_nil, List.mapIdx_cons, List.mapIdx_nil, List.map_cons, List.map_nil, List.replicate_succ, List.replicate_zero, List.cons_append, List.nil_append, List.append_nil, List.foldl_cons, List.foldl_nil, List.filterMap_cons, List.filterMap_nil, Option.map_some, Option.map_none, Option.bind_some, Option.bind_none, Bool.not_true, Bool.not_false, Bool.and_true, Bool.true_and, Bool.or_true, Bool.and_self, if_true, if_false, eqA_int, neA_int, eqA_str, neA_str, ltD_int, leD_int, gtD_int, geD_int, addD_int, subD_int, negD_int, absC_int, intC_int, maxC_int, minC_int, lenC_lst, lenC_tup, lenC_scr, Int.cast_ofNat_Int, Int.natCast_zero, Int.natCast_one, ↓reduceIte, Nat.reduceAdd, Nat.reduceSub, Nat.reduceMul, Nat.reduceLT, Nat.reduceLeDiff, Nat.reduceBEq, Nat.reduceBneDiff, Nat.reduceEqDiff, Nat.reducePow, Int.reduceLT, Int.reduceLE, Int.reduceEq, Int.reduceNe, Int.reduceAdd, Int.reduceSub, Int.reduceMul, Int.reduceNeg, Int.reducePow, Int.reduceToNat, decide_true, decide_false, decide_eq_true_eq, Bool.false_eq_true, List.contains_nil, List.contains_cons, Bool.or_false, Bool.or_self, eq_self, and_self, and_true, true_and, dputU, sortU, newU, FL.setMs, FL.seqT, FL.callB_eq, FL.bodyB_eq, FL.rhoB, FL.toSB, FL.objL, FL.lnkR, FL.lkB, FL.lnkC, FL.isIo, FL.lkAll, FL.joinTE, FL.bn_1, FL.bn_2, FL.bn_3, FL.bn_4, FL.bn_5, FL.bn_6, FL.bn_7, FL.bn_8, $xs,*])
theorem cmpM_of {ks : List Nat} {it : IF} {g : GF} {t : TF} {f : EF} {ρ ρ0 ρ1 ρ2 : Rho} {ds ys : List D} (h1 : it ρ = .ok ds ρ0) (h2 : cmpL ks g t f [] ds (wipeR ks ρ0) = .ok (.lst ys) ρ1) (h3 : resR ks ρ0 ρ1 = some ρ2) : cmpM ks it g t f ρ = .ok (.lst ys) ρ2 := by
  show (it ρ).bind _ = _
  rw [h1]
  show (cmpL ks g t f [] ds (wipeR ks ρ0)).bind _ = _
  rw [h2]
  show bindO (resR ks ρ0 ρ1) _ = _
  rw [h3]
  rfl
theorem rng1_ok {g : Rho → R (List D)} {ρ ρ' : Rho} {n : Int} (h : g ρ = .ok [.int n] ρ') (hr : rgOk n = true) : rng1 g ρ = .ok (rangeL 0 n.toNat) ρ' := by
  unfold rng1
  rw [h, R.ok_bind]
  show R.of (if rgOk n = true then some (rangeL 0 n.toNat) else none) ρ' = _
  rw [if_pos hr]
  rfl
theorem rng2_ok {g : Rho → R (List D)} {ρ ρ' : Rho} {m n : Int} (h : g ρ = .ok [.int m, .int n] ρ') (hm : rgOk m = true) (hn : rgOk n = true) : rng2 g ρ = .ok (rangeL m (n - m).toNat) ρ' := by
  unfold rng2
  rw [h, R.ok_bind]
  show R.of (if rgOk m = true ∧ rgOk n = true then some (rangeL m (n - m).toNat) else none) ρ' = _
  rw [if_pos ⟨hm, hn⟩]
  rfl

def isInt : D → Bool
  | .int _ => true
  | _ => false
theorem isInt_of {d : D} (h : isInt d = true) : ∃ i, d = .int i := by
  cases d <;> first | exact ⟨_, rfl⟩ | cases h
theorem is_integer_ok {d : D} (h : (typD d).isSome = true) : G_is_integer [.val d] = .ok (.v (.bl (isInt d))) [] := by
  cases d <;> first | (cases h; done) | (simp_arith only [G_is_integer, g_is_integer, isInt])
theorem is_integer_int (i : Int) : G_is_integer [.val (.int i)] = .ok (.v (.bl true)) [] := is_integer_ok rfl

theorem is_between_int (i l m : Int) : G_is_between [.val (.int i), .val (.int l), .val (.int m)] = .ok (.v (.bl (decide (l ≤ i) && decide (i ≤ m)))) [] := by
  by_cases h : l ≤ i
  · simp_arith only [G_is_between, g_is_between, is_integer_int, h]
  · simp_arith only [G_is_between, g_is_between, is_integer_int, h, Bool.false_and]
theorem is_between_no {d : D} {l m : D} (h : (typD d).isSome = true) (hi : isInt d = false) : G_is_between [.val d, .val l, .val m] = .ok (.v (.bl false)) [] := by
  simp_arith only [G_is_between, g_is_between, is_integer_ok h, hi]

/-- a whole number from l to m -/
def betw (d : D) (l m : Int) : Bool := match d with
  | .int i => decide (l ≤ i) && decide (i ≤ m)
  | _ => false
theorem is_between_ok {d : D} (l m : Int) (h : (typD d).isSome = true) : G_is_between [.val d, .val (.int l), .val (.int m)] = .ok (.v (.bl (betw d l m))) [] := by
  cases hi : isInt d with
  | true =>
    obtain ⟨i, rfl⟩ := isInt_of hi
    exact is_between_int i l m
  | false =>
    rw [is_between_no h hi]
    cases d <;> first | rfl | cases hi
def beadB (d : D) : Bool := betw d (-1000000000) 1000000000
theorem is_bead_ok {d : D} (h : (typD d).isSome = true) : G_is_bead [.val d] = .ok (.v (.bl (beadB d))) [] := by
  have := is_between_ok (-1000000000) 1000000000 h
  simp_arith only [G_is_bead, g_is_bead, this, beadB]
/-- what is wrong with a string -/
def faultD : D → D
  | .tup xs => if 200 < xs.length then .non else match firstI (fun d => !beadB d) 0 xs with
    | some i => .int (i : Int)
    | none => .int (-1)
  | _ => .non
/-- what may be handed over as a string -/
def strB : D → Bool
  | .tup xs => small xs.length && xs.all fun x => (typD x).isSome
  | d => (typD d).isSome
theorem string_fault_ok {d : D} (h : strB d = true) : G_string_fault [.val d] = .ok (.v (faultD d)) [] := by
  cases d with
  | tup xs =>
    obtain ⟨h1, h2⟩ := Bool.and_eq_true_iff.mp h
    have hl : xs.length ≤ 100000 := of_decide_eq_true h1
    by_cases c : 200 < xs.length
    · have c' : (200 : Int) < xs.length := by omega
      simp_arith only [G_string_fault, g_string_fault, faultD, c, c']
    · have c' : ¬ (200 : Int) < xs.length := by omega
      have hc : cmpM [2, 3] (enmI (vr 0)) (tupG 2 (cnsG (nmG 2) (cnsG (nmG 3) nilG))) (noT (tst (callE 1 G_is_bead (cnsB (vr 3) nilB)))) (vr 2) [.val (.tup xs), .no, .no, .no] = .ok (.lst (((enumL 0 xs).filter fun d => !beadB (sndD d)).map fstD)) [.val (.tup xs), .no, .no, .no] :=
        cmpM_p (fun d => !beadB (sndD d)) fstD rfl rfl rfl (by rw [enumL_ln]; exact hl) fun d hd => by
          obtain ⟨i, x, rfl, hx⟩ := enumL_mem hd
          have e := is_bead_ok (d := x) (List.all_eq_true.mp h2 x hx)
          exact ⟨[.val (.tup xs), .no, .val (.int i), .val x], rfl, by simp_arith only [e, sndD], rfl, fun _ => rfl⟩
      have k := enum_first (fun d => !beadB d) xs 0
      cases e : firstI (fun d => !beadB d) 0 xs with
      | none =>
        rw [e] at k
        have k : ((enumL 0 xs).filter fun d => !beadB (sndD d)).map fstD = [] := k
        rw [k] at hc
        have n1 : neA (.lst []) (.lst []) = some (.bl false) := rfl
        simp_arith only [G_string_fault, g_string_fault, faultD, c, c', hc, n1, e, small]
      | some i =>
        rw [e] at k
        obtain ⟨ys, k⟩ := k
        rw [k] at hc
        have n1 : ∀ z, neA (.lst (z :: ys)) (.lst []) = some (.bl true) := fun _ => rfl
        have n2 : ∀ z, ixD (.lst (z :: ys)) (.int 0) = some z := fun z => ix0_cons z ys
        simp_arith only [G_string_fault, g_string_fault, faultD, c, c', hc, n1, n2, e, small]
  | fn a => cases h
  | exc x fs => cases h
  | clo a R => cases h
  | dcf kvs => cases h
  | err n C fs => cases h
  | _ => simp_arith only [G_string_fault, g_string_fault, faultD]
/-- a string -/
def rightB (d : D) : Bool := match faultD d with
  | .int i => decide (i = -1)
  | _ => false
def isI (f : Int → Bool) : D → Bool
  | .int i => f i
  | _ => false
/-- a string as data -/
abbrev SD (bs : List Int) : D := .tup (bs.map D.int)
theorem eqvAll_ints : ∀ a b : List Int, PyData.eqvAll (toPs (a.map D.int)) (toPs (b.map D.int)) = decide (a = b)
  | [], [] => rfl
  | [], _ :: _ => rfl
  | _ :: _, [] => rfl
  | x :: a, y :: b => by
    rw [List.map_cons, List.map_cons, toPs, toPs]
    show (PyData.eqv (toP (.int x)) (toP (.int y)) && PyData.eqvAll (toPs (a.map D.int)) (toPs (b.map D.int))) = _
    rw [eqvAll_ints a b]
    show ((x == y) && decide (a = b)) = _
    rw [Bool.eq_iff_iff]
    simp
theorem eqd_SD (a b : List Int) : eqd (SD a) (SD b) = decide (a = b) := by
  unfold eqd
  rw [toP, toP]
  exact eqvAll_ints a b
theorem shp_SD (n : Nat) (a : List Int) : shp (n + 1) (SD a) = true := shp_ints n a
theorem eqA_SD (a b : List Int) : eqA (SD a) (SD b) = some (.bl (decide (a = b))) := by
  show eqD _ _ = _
  unfold eqD
  rw [if_pos ⟨shp_SD 7 a, shp_SD 7 b⟩, eqd_SD]
theorem neA_SD (a b : List Int) : neA (SD a) (SD b) = some (.bl (!decide (a = b))) := by
  show neD _ _ = _
  unfold neD
  rw [if_pos ⟨shp_SD 7 a, shp_SD 7 b⟩, eqd_SD]
theorem ixD_SD {a : List Int} {j : Int} (h0 : 0 ≤ j) (h1 : j < a.length) : ixD (SD a) (.int j) = some (.int (a.getD j.toNat 0)) := by
  show atI (a.map D.int) j = _
  have hl : j.toNat < a.length := by omega
  rw [atI_nat h0 (a := .int (a.getD j.toNat 0))]
  rw [List.getElem?_map, List.getElem?_eq_getElem hl, List.getD_eq_getElem?_getD, List.getElem?_eq_getElem hl]
  rfl
theorem ixD_last {xs : List D} (h : xs ≠ []) : ixD (.tup xs) (.int (-1)) = some (xs.getLast h) := by
  show atI xs (-1) = _
  have hl : 0 < xs.length := List.length_pos_iff.mpr h
  unfold atI ixN
  rw [if_neg (by decide), if_pos (by omega), Option.bind_some, show (-1 + (xs.length : Int)).toNat = xs.length - 1 by omega, List.getElem?_eq_getElem (by omega), List.getLast_eq_getElem]
theorem ixD_lastI {a : List Int} (h : a ≠ []) : ixD (SD a) (.int (-1)) = some (.int (a.getD (a.length - 1) 0)) := by
  have hl : 0 < a.length := List.length_pos_iff.mpr h
  rw [ixD_last (by simpa using h)]
  congr 1
  rw [List.getLast_map, List.getLast_eq_getElem, List.getD_eq_getElem?_getD, List.getElem?_eq_getElem (by omega)]
  rfl
theorem rangeL_nat : ∀ (n : Nat) (lo : Int), rangeL lo n = (List.range n).map fun i : Nat => D.int (lo + i)
  | 0, _ => rfl
  | n + 1, lo => by
    rw [List.range_succ_eq_map, List.map_cons, List.map_map]
    show D.int lo :: rangeL (lo + 1) n = _
    rw [rangeL_nat n (lo + 1)]
    congr 1
    · simp
    · refine List.map_congr_left fun i _ => ?_
      show D.int (lo + 1 + i) = D.int (lo + (i + 1 : Nat))
      congr 1
      omega
/-- a loop that ends at the first turn with a mark -/
theorem forL_find {ks : List Nat} {g : GF} {b : SF} (J : Rho → Prop) (p : Nat → Bool) (r : Res) : ∀ (ds : List D) (n : Nat) (ρ : Rho), J ρ →
    (∀ (i : Nat) (d : D) (ρ : Rho), J ρ → ds[i]? = some d → ∃ ρ1, g d ρ = some ρ1 ∧ (p (n + i) = true → ∃ ρ2, b ρ1 = .ok (.rt r) ρ2) ∧ (p (n + i) = false → ∃ ρ2, b ρ1 = .ok .nx ρ2 ∧ J (wipeR ks ρ2))) →
    ((∃ i, i < ds.length ∧ p (n + i) = true) ∧ ∃ ρ', forL ks g b ds ρ = .ok (.rt r) ρ') ∨ ((∀ i, i < ds.length → p (n + i) = false) ∧ ∃ ρ', forL ks g b ds ρ = .ok .nx ρ' ∧ J ρ')
  | [], n, ρ, h, _ => .inr ⟨fun i hi => absurd hi (Nat.not_lt_zero i), ρ, rfl, h⟩
  | d :: ds, n, ρ, h, st => by
    obtain ⟨ρ1, e1, ht, hf⟩ := st 0 d ρ h rfl
    rw [forL_cons, e1]
    cases hp : p (n + 0) with
    | true =>
      obtain ⟨ρ2, e2⟩ := ht hp
      refine .inl ⟨⟨0, Nat.zero_lt_succ _, hp⟩, ρ2, ?_⟩
      show (b ρ1).bind _ = _
      rw [e2]
      rfl
    | false =>
      obtain ⟨ρ2, e2, h2⟩ := hf hp
      have key := forL_find J p r ds (n + 1) (wipeR ks ρ2) h2 fun i d' ρ' h1 h3 => by
        have := st (i + 1) d' ρ' h1 (by simpa using h3)
        rw [show n + (i + 1) = n + 1 + i by omega] at this
        exact this
      rcases key with ⟨⟨i, hi, hpi⟩, ρ', e⟩ | ⟨hall, ρ', e, hj⟩
      · refine .inl ⟨⟨i + 1, by rw [List.length_cons]; omega, by rw [show n + (i + 1) = n + 1 + i by omega]; exact hpi⟩, ρ', ?_⟩
        show (b ρ1).bind _ = _
        rw [e2]
        exact e
      · refine .inr ⟨fun i hi => ?_, ρ', ?_, hj⟩
        · cases i with
          | zero => exact hp
          | succ i =>
            rw [show n + (i + 1) = n + 1 + i by omega]
            exact hall i (by rw [List.length_cons] at hi; omega)
        · show (b ρ1).bind _ = _
          rw [e2]
          exact e
theorem enumL_get : ∀ {ds : List D} {n i : Nat} {d : D}, (enumL n ds)[i]? = some d → ∃ x, ds[i]? = some x ∧ d = .tup [.int ((n + i : Nat) : Int), x]
  | [], _, _, _, h => by simp [enumL] at h
  | x :: xs, n, 0, d, h => by
    unfold enumL at h
    simp at h
    exact ⟨x, rfl, by rw [← h]; rfl⟩
  | x :: xs, n, i + 1, d, h => by
    unfold enumL at h
    obtain ⟨y, h1, h2⟩ := enumL_get (ds := xs) (n := n + 1) (i := i) (d := d) (by simpa using h)
    exact ⟨y, by simpa using h1, by rw [h2, show n + 1 + i = n + (i + 1) by omega]⟩

/-! moves of strings, as plain functions -/
def lowI (a : List Int) (i : Nat) : List Int := (List.range a.length).map fun j => if j + 1 = i ∨ j = i + 1 then a.getD j 0 - a.getD i 0 else a.getD j 0
def strikeI (a : List Int) (i : Nat) : List Int := (lowI a i).take i ++ (lowI a i).drop (i + 1)
def joinI (a : List Int) (k : Nat) : List Int := a.take (k - 1) ++ (a.getD (k - 1) 0 + a.getD (k + 1) 0) :: a.drop (k + 2)
def unitB (x : Int) : Bool := decide (x = 1) || decide (x = -1)
def strikesB (a b : List Int) : Bool := (List.range a.length).any fun i => unitB (a.getD i 0) && decide (strikeI a i = b)
def joinsB (a b : List Int) : Bool := (decide (a.getD 0 0 = 0) && decide (a.drop 2 = b)) || (decide (a.getD (a.length - 1) 0 = 0) && decide (a.take (a.length - 2) = b)) || (List.range (a.length - 2)).any fun j => decide (a.getD (j + 1) 0 = 0) && decide (joinI a (j + 1) = b)
def stepB (a b : List Int) : Bool := if b.length < a.length then (if a.length = b.length + 1 then strikesB a b else decide (a.length = b.length + 2) && joinsB a b) else (if b.length = a.length + 1 then strikesB b a else decide (b.length = a.length + 2) && joinsB b a)
theorem lowI_len (a : List Int) (i : Nat) : (lowI a i).length = a.length := by simp [lowI]
theorem set_map (a : List Int) (k : Nat) (x : Int) : (a.map D.int).set k (.int x) = (a.set k x).map D.int := by rw [List.map_set]
theorem getD_lt {a : List Int} {j : Nat} (h : j < a.length) : a.getD j 0 = a[j] := by rw [List.getD_eq_getElem?_getD, List.getElem?_eq_getElem h]; rfl
/-- the two stores of a strike -/
def putLow (a : List Int) (i : Nat) : List Int :=
  let b := if 0 < i then a.set (i - 1) (a.getD (i - 1) 0 - a.getD i 0) else a
  if i + 1 < a.length then b.set (i + 1) (a.getD (i + 1) 0 - a.getD i 0) else b
theorem putLow_len (a : List Int) (i : Nat) : (putLow a i).length = a.length := by
  unfold putLow
  dsimp only
  split <;> split <;> simp
theorem low_get {a : List Int} {i j : Nat} (h : j < a.length) : (lowI a i)[j]? = some (if j + 1 = i ∨ j = i + 1 then a.getD j 0 - a.getD i 0 else a.getD j 0) := by
  unfold lowI
  rw [List.getElem?_map, List.getElem?_range h]
  rfl
theorem putLow_eq {a : List Int} {i : Nat} (hi : i < a.length) : putLow a i = lowI a i := by
  refine List.ext_getElem? fun j => ?_
  by_cases h1 : j < a.length
  · rw [low_get h1]
    have g : a[j]? = some (a.getD j 0) := by rw [getD_lt h1, List.getElem?_eq_getElem h1]
    unfold putLow
    dsimp only
    by_cases c1 : 0 < i
    · by_cases c2 : i + 1 < a.length
      · rw [if_pos c2, if_pos c1, List.getElem?_set, List.getElem?_set, List.length_set]
        by_cases q1 : i + 1 = j
        · subst q1
          rw [if_pos rfl, if_pos c2, if_pos (by omega)]
        · rw [if_neg q1]
          by_cases q2 : i - 1 = j
          · subst q2
            rw [if_pos rfl, if_pos (by omega), if_pos (by omega)]
          · rw [if_neg q2, if_neg (by omega), g]
      · rw [if_neg c2, if_pos c1, List.getElem?_set]
        by_cases q2 : i - 1 = j
        · subst q2
          rw [if_pos rfl, if_pos (by omega), if_pos (by omega)]
        · rw [if_neg q2, if_neg (by omega), g]
    · by_cases c2 : i + 1 < a.length
      · rw [if_pos c2, if_neg c1, List.getElem?_set]
        by_cases q1 : i + 1 = j
        · subst q1
          rw [if_pos rfl, if_pos c2, if_pos (by omega)]
        · rw [if_neg q1, if_neg (by omega), g]
      · rw [if_neg c2, if_neg c1, if_neg (by omega), g]
  · rw [List.getElem?_eq_none (by rw [putLow_len]; omega), List.getElem?_eq_none (by rw [lowI_len]; omega)]
theorem atI_ints {a : List Int} {j : Int} (h0 : 0 ≤ j) (h1 : j < a.length) : atI (a.map D.int) j = some (.int (a.getD j.toNat 0)) := ixD_SD h0 h1
theorem enum_ints (a : List Int) : seqD (SD a) = some (a.map D.int) := rfl
theorem strike_turn {a b : List Int} (ha : a.length ≤ 300) {i : Nat} (hi : i < a.length) (c4 : Slot) : b_strikes_1 [.val (SD a), .val (SD b), .val (.int i), .val (.int (a.getD i 0)), c4] = if (unitB (a.getD i 0) && decide (strikeI a i = b)) = true then .ok (.rt (.v (.bl true))) [.val (SD a), .val (SD b), .val (.int i), .val (.int (a.getD i 0)), .val (.lst ((lowI a i).map D.int))] else .ok .nx [.val (SD a), .val (SD b), .val (.int i), .val (.int (a.getD i 0)), .val (.lst ((lowI a i).map D.int))] := by
  have lenA : lenC [SD a] = some (.int a.length) := by rw [lenC_tup, List.length_map]
  have e0 : b_strikes_1 [.val (SD a), .val (SD b), .val (.int i), .val (.int (a.getD i 0)), c4] = b_strikes_1_1 [.val (SD a), .val (SD b), .val (.int i), .val (.int (a.getD i 0)), .own (.lst (a.map D.int))] := by
    have sq := enum_ints a
    simp_arith only [b_strikes_1, sq]
  have e1 : b_strikes_1_1 [.val (SD a), .val (SD b), .val (.int i), .val (.int (a.getD i 0)), .own (.lst (a.map D.int))] = b_strikes_1_2 [.val (SD a), .val (SD b), .val (.int i), .val (.int (a.getD i 0)), .own (.lst ((if 0 < i then a.set (i - 1) (a.getD (i - 1) 0 - a.getD i 0) else a).map D.int))] := by
    by_cases c : 0 < i
    · have c' : (0 : Int) < i := by omega
      have h1 : atI (a.map D.int) ((i : Int) - 1) = some (.int (a.getD (i - 1) 0)) := by
        rw [atI_ints (by omega) (by omega), show ((i : Int) - 1).toNat = i - 1 by omega]
      have h2 : ixN (a.map D.int).length ((i : Int) - 1) = some (i - 1) := by
        unfold ixN
        rw [if_pos (by omega), if_pos (by rw [List.length_map]; omega), show ((i : Int) - 1).toNat = i - 1 by omega]
      simp_arith only [b_strikes_1_1, c, c', h1, h2, set_map]
    · have c' : ¬ (0 : Int) < i := by omega
      simp_arith only [b_strikes_1_1, c, c']
  have e2 : b_strikes_1_2 [.val (SD a), .val (SD b), .val (.int i), .val (.int (a.getD i 0)), .own (.lst ((if 0 < i then a.set (i - 1) (a.getD (i - 1) 0 - a.getD i 0) else a).map D.int))] = b_strikes_1_3 [.val (SD a), .val (SD b), .val (.int i), .val (.int (a.getD i 0)), .own (.lst ((lowI a i).map D.int))] := by
    rw [← putLow_eq hi]
    unfold putLow
    dsimp only
    have hl : (if 0 < i then a.set (i - 1) (a.getD (i - 1) 0 - a.getD i 0) else a).length = a.length := by split <;> simp
    have hg : (if 0 < i then a.set (i - 1) (a.getD (i - 1) 0 - a.getD i 0) else a).getD (i + 1) 0 = a.getD (i + 1) 0 := by
      split
      · simp only [List.getD_eq_getElem?_getD]
        rw [List.getElem?_set_ne (by omega)]
      · rfl
    generalize (if 0 < i then a.set (i - 1) (a.getD (i - 1) 0 - a.getD i 0) else a) = a' at hl hg
    by_cases c : i + 1 < a.length
    · have c' : (i : Int) < (a.length : Int) - 1 := by omega
      have h1 : atI (a'.map D.int) ((i : Int) + 1) = some (.int (a.getD (i + 1) 0)) := by
        rw [atI_ints (by omega) (by omega), show ((i : Int) + 1).toNat = i + 1 by omega, hg]
      have h2 : ixN (a'.map D.int).length ((i : Int) + 1) = some (i + 1) := by
        unfold ixN
        rw [if_pos (by omega), if_pos (by rw [List.length_map]; omega), show ((i : Int) + 1).toNat = i + 1 by omega]
      simp_arith only [b_strikes_1_2, lenA, c, c', h1, h2, set_map]
    · have c' : ¬ (i : Int) < (a.length : Int) - 1 := by omega
      simp_arith only [b_strikes_1_2, lenA, c, c']
  rw [e0, e1, e2]
  have lc := lowI_len a i
  have k1 : cutD (.lst ((lowI a i).map D.int)) none (some (i : Int)) = some (.lst (((lowI a i).take i).map D.int)) := by
    show some (D.lst (FL.cut ((lowI a i).map D.int) none (some (i : Int)))) = _
    rw [cut_take _ (by omega), List.map_take, Int.toNat_natCast]
  have k2 : cutD (.lst ((lowI a i).map D.int)) (some ((i : Int) + 1)) none = some (.lst (((lowI a i).drop (i + 1)).map D.int)) := by
    show some (D.lst (FL.cut ((lowI a i).map D.int) (some ((i : Int) + 1)) none)) = _
    rw [cut_drop _ (by omega), List.map_drop, show ((i : Int) + 1).toNat = i + 1 by omega]
  have k3 : eqA (.tup (((lowI a i).take i).map D.int ++ ((lowI a i).drop (i + 1)).map D.int)) (SD b) = some (.bl (decide (strikeI a i = b))) := by
    rw [← List.map_append]
    exact eqA_SD _ _
  have k4 : small (((lowI a i).take i).map D.int ++ ((lowI a i).drop (i + 1)).map D.int).length = true := by
    refine decide_eq_true ?_
    rw [List.length_append, List.length_map, List.length_map, List.length_take, List.length_drop, lc]
    omega
  have q1 : ∀ xs, seqD (.lst xs) = some xs := fun _ => rfl
  have s2 : small 2 = true := rfl
  have iu := inA_int2 (a.getD i 0) 1 (-1)
  have iu : inA (.int (a.getD i 0)) (.tup [.int 1, .int (-1)]) = some (.bl (unitB (a.getD i 0))) := iu
  cases hu : unitB (a.getD i 0) with
  | false =>
    rw [hu] at iu
    simp_arith only [b_strikes_1_3, starA, k1, k2, k3, k4, q1, iu, s2, Bool.false_and]
  | true =>
    rw [hu] at iu
    by_cases hs : strikeI a i = b
    · simp_arith only [b_strikes_1_3, starA, k1, k2, k3, k4, q1, iu, s2, hs]
    · simp_arith only [b_strikes_1_3, starA, k1, k2, k3, k4, q1, iu, s2, hs]
theorem strikes_ok {a b : List Int} (ha : a.length ≤ 300) : G_strikes [.val (SD a), .val (SD b)] = .ok (.v (.bl (strikesB a b))) [] := by
  have hit : enmI (vr 0) [.val (SD a), .val (SD b), .no, .no, .no] = .ok (enumL 0 (a.map D.int)) [.val (SD a), .val (SD b), .no, .no, .no] := rfl
  rcases forL_find (ks := [4]) (g := tupG 2 (cnsG (nmG 2) (cnsG (nmG 3) nilG))) (b := b_strikes_1) (fun ρ => ∃ c2 c3 c4, ρ = [.val (SD a), .val (SD b), c2, c3, c4]) (fun i => unitB (a.getD i 0) && decide (strikeI a i = b)) (.v (.bl true)) (enumL 0 (a.map D.int)) 0 [.val (SD a), .val (SD b), .no, .no, .no] ⟨_, _, _, rfl⟩ (by
    rintro i d ρ ⟨c2, c3, c4, rfl⟩ hd
    obtain ⟨x, hx, rfl⟩ := enumL_get hd
    rw [Nat.zero_add]
    have hi : i < a.length := by
      have := (List.getElem?_eq_some_iff.mp hx).1
      rwa [List.length_map] at this
    have ex : x = .int (a.getD i 0) := by
      rw [List.getElem?_map, List.getElem?_eq_getElem hi] at hx
      rw [getD_lt hi]
      exact (Option.some.inj hx).symm
    subst ex
    have t := strike_turn (b := b) ha hi c4
    refine ⟨[.val (SD a), .val (SD b), .val (.int i), .val (.int (a.getD i 0)), c4], rfl, fun hp => ?_, fun hp => ?_⟩
    · rw [if_pos hp] at t
      exact ⟨_, t⟩
    · rw [if_neg (by rw [hp]; exact Bool.false_ne_true)] at t
      exact ⟨_, t, _, _, _, rfl⟩) with ⟨⟨i, hi, hp⟩, ρ', e⟩ | ⟨hall, ρ', e, c2, c3, c4, rfl⟩
  · rw [enumL_ln, List.length_map] at hi
    rw [Nat.zero_add] at hp
    have hb : strikesB a b = true := List.any_eq_true.mpr ⟨i, List.mem_range.mpr hi, hp⟩
    simp_arith only [G_strikes, g_strikes, forS_eq, hit, e, hb]
  · rw [enumL_ln, List.length_map] at hall
    have hb : strikesB a b = false := by
      refine Bool.eq_false_iff.mpr fun h => ?_
      obtain ⟨i, hi, hp⟩ := List.any_eq_true.mp h
      have := hall i (List.mem_range.mp hi)
      rw [Nat.zero_add, hp] at this
      cases this
    simp_arith only [G_strikes, g_strikes, forS_eq, hit, e, hb]

theorem cutT_take (a : List Int) {i : Int} (h : 0 ≤ i) : cutD (SD a) none (some i) = some (SD (a.take i.toNat)) := by
  show some (D.tup (FL.cut (a.map D.int) none (some i))) = _
  rw [cut_take _ h, ← List.map_take]
theorem cutT_drop (a : List Int) {i : Int} (h : 0 ≤ i) : cutD (SD a) (some i) none = some (SD (a.drop i.toNat)) := by
  show some (D.tup (FL.cut (a.map D.int) (some i) none)) = _
  rw [cut_drop _ h, ← List.map_drop]
theorem cutT_last (a : List Int) (h : 2 ≤ a.length) : cutD (SD a) none (some (-2)) = some (SD (a.take (a.length - 2))) := by
  show some (D.tup (FL.cut (a.map D.int) none (some (-2)))) = _
  unfold FL.cut
  rw [HT.sIx_none]
  have e : HT.sIx (a.map D.int).length (a.map D.int).length (some (-2)) = a.length - 2 := by
    unfold HT.sIx
    rw [List.length_map]
    show (if (-2 : Int) < 0 then (-2 + (a.length : Int)).toNat else _) = _
    rw [if_pos (by decide)]
    omega
  rw [e, List.drop_zero, Nat.sub_zero, ← List.map_take]
theorem eqT3 (x y b : List Int) (s : Int) : eqA (.tup (x.map D.int ++ .int s :: y.map D.int)) (SD b) = some (.bl (decide (x ++ s :: y = b))) := by
  rw [show x.map D.int ++ .int s :: y.map D.int = (x ++ s :: y).map D.int by rw [List.map_append, List.map_cons]]
  exact eqA_SD _ _
theorem join_turn {a b : List Int} (ha : a.length ≤ 300) {k : Nat} (h0 : 0 < k) (hk : k + 1 < a.length) (c3 : Slot) : b_joins_1 [.val (SD a), .val (SD b), .val (.int k), c3] = if (decide (a.getD k 0 = 0) && decide (joinI a k = b)) = true then .ok (.rt (.v (.bl true))) [.val (SD a), .val (SD b), .val (.int k), .val (.int (a.getD (k - 1) 0 + a.getD (k + 1) 0))] else .ok .nx [.val (SD a), .val (SD b), .val (.int k), .val (.int (a.getD (k - 1) 0 + a.getD (k + 1) 0))] := by
  have x1 : ixD (SD a) (.int ((k : Int) - 1)) = some (.int (a.getD (k - 1) 0)) := by rw [ixD_SD (by omega) (by omega), show ((k : Int) - 1).toNat = k - 1 by omega]
  have x2 : ixD (SD a) (.int ((k : Int) + 1)) = some (.int (a.getD (k + 1) 0)) := by rw [ixD_SD (by omega) (by omega), show ((k : Int) + 1).toNat = k + 1 by omega]
  have x0 : ixD (SD a) (.int (k : Int)) = some (.int (a.getD k 0)) := by rw [ixD_SD (by omega) (by omega), Int.toNat_natCast]
  have c1 : cutD (SD a) none (some ((k : Int) - 1)) = some (SD (a.take (k - 1))) := by rw [cutT_take _ (by omega), show ((k : Int) - 1).toNat = k - 1 by omega]
  have c2 : cutD (SD a) (some ((k : Int) + 2)) none = some (SD (a.drop (k + 2))) := by rw [cutT_drop _ (by omega), show ((k : Int) + 2).toNat = k + 2 by omega]
  have q1 : ∀ xs, seqD (.tup xs) = some xs := fun _ => rfl
  have q2 : eqA (.tup ((a.take (k - 1)).map D.int ++ .int (a.getD (k - 1) 0 + a.getD (k + 1) 0) :: (a.drop (k + 2)).map D.int)) (SD b) = some (.bl (decide (joinI a k = b))) := eqT3 _ _ _ _
  have q3 : small ((a.take (k - 1)).map D.int ++ .int (a.getD (k - 1) 0 + a.getD (k + 1) 0) :: (a.drop (k + 2)).map D.int).length = true := by
    refine decide_eq_true ?_
    rw [List.length_append, List.length_cons, List.length_map, List.length_map, List.length_take, List.length_drop]
    omega
  by_cases hz : a.getD k 0 = 0
  · by_cases hs : joinI a k = b
    · simp_arith only [b_joins_1, starA, x0, x1, x2, c1, c2, q1, q2, q3, hz, hs]
    · simp_arith only [b_joins_1, starA, x0, x1, x2, c1, c2, q1, q2, q3, hz, hs]
  · simp_arith only [b_joins_1, starA, x0, x1, x2, hz, Bool.false_and]
theorem joins_ok {a b : List Int} (h2 : 2 ≤ a.length) (ha : a.length ≤ 300) : G_joins [.val (SD a), .val (SD b)] = .ok (.v (.bl (joinsB a b))) [] := by
  have x0 : ixD (SD a) (.int 0) = some (.int (a.getD 0 0)) := ixD_SD (by decide) (by omega)
  have x1 : ixD (SD a) (.int (-1)) = some (.int (a.getD (a.length - 1) 0)) := ixD_lastI fun z => by rw [z] at h2; cases h2
  have c1 : cutD (SD a) (some 2) none = some (SD (a.drop 2)) := cutT_drop a (by decide)
  have c2 := cutT_last a h2
  have e1 := eqA_SD (a.drop 2) b
  have e2 := eqA_SD (a.take (a.length - 2)) b
  have lenA : lenC [SD a] = some (.int a.length) := by rw [lenC_tup, List.length_map]
  have r := rng2_ok (g := cnsA (cst (.int 1)) (cnsA (op2 subD (opC lenC (cnsA (vr 0) nilA)) (cst (.int 1))) nilA)) (ρ := [.val (SD a), .val (SD b), .no, .no]) (ρ' := [.val (SD a), .val (SD b), .no, .no]) (m := 1) (n := (a.length : Int) - 1) (by simp_arith only [lenA]) rfl (rgOk_of (by omega) (by omega))
  rw [show ((a.length : Int) - 1 - 1).toNat = a.length - 2 by omega] at r
  have loop := forL_find (ks := []) (g := nmG 2) (b := b_joins_1) (fun ρ => ∃ c2 c3, ρ = [.val (SD a), .val (SD b), c2, c3]) (fun j => decide (a.getD (j + 1) 0 = 0) && decide (joinI a (j + 1) = b)) (.v (.bl true)) (rangeL 1 (a.length - 2)) 0 [.val (SD a), .val (SD b), .no, .no] ⟨_, _, rfl⟩ (by
    rintro i d ρ ⟨c2, c3, rfl⟩ hd
    obtain ⟨hi, rfl⟩ := rangeL_get _ _ _ _ hd
    have t := join_turn (b := b) ha (k := i + 1) (by omega) (by omega) c3
    rw [Nat.zero_add]
    refine ⟨[.val (SD a), .val (SD b), .val (.int ((i + 1 : Nat) : Int)), c3], by rw [show (1 : Int) + i = ((i + 1 : Nat) : Int) by omega]; rfl, fun hp => ?_, fun hp => ?_⟩
    · rw [if_pos hp] at t
      exact ⟨_, t⟩
    · rw [if_neg (by rw [hp]; exact Bool.false_ne_true)] at t
      exact ⟨_, t, _, _, rfl⟩)
  rw [rangeL_length] at loop
  have lp : ∃ ρ', ((List.range (a.length - 2)).any fun j => decide (a.getD (j + 1) 0 = 0) && decide (joinI a (j + 1) = b)) = true ∧ forL [] (nmG 2) b_joins_1 (rangeL 1 (a.length - 2)) [.val (SD a), .val (SD b), .no, .no] = .ok (.rt (.v (.bl true))) ρ' ∨ ((List.range (a.length - 2)).any fun j => decide (a.getD (j + 1) 0 = 0) && decide (joinI a (j + 1) = b)) = false ∧ forL [] (nmG 2) b_joins_1 (rangeL 1 (a.length - 2)) [.val (SD a), .val (SD b), .no, .no] = .ok .nx ρ' := by
    rcases loop with ⟨⟨i, hi, hp⟩, ρ', e⟩ | ⟨hall, ρ', e, _⟩
    · rw [Nat.zero_add] at hp
      exact ⟨ρ', .inl ⟨List.any_eq_true.mpr ⟨i, List.mem_range.mpr hi, hp⟩, e⟩⟩
    · refine ⟨ρ', .inr ⟨Bool.eq_false_iff.mpr fun h => ?_, e⟩⟩
      obtain ⟨i, hi, hp⟩ := List.any_eq_true.mp h
      have := hall i (List.mem_range.mp hi)
      rw [Nat.zero_add, hp] at this
      cases this
  clear loop
  unfold joinsB
  generalize ((List.range (a.length - 2)).any fun j => decide (a.getD (j + 1) 0 = 0) && decide (joinI a (j + 1) = b)) = B at lp ⊢
  obtain ⟨ρ', lp⟩ := lp
  generalize decide (a.drop 2 = b) = p1 at e1 ⊢
  generalize decide (a.take (a.length - 2) = b) = p2 at e2 ⊢
  rcases lp with ⟨rfl, e⟩ | ⟨rfl, e⟩ <;> cases p1 <;> cases p2 <;> by_cases k3 : a.getD 0 0 = 0 <;> by_cases k5 : a.getD (a.length - 1) 0 = 0 <;>
    simp_arith only [G_joins, g_joins, x0, x1, c1, c2, e1, e2, k3, k5, forS_eq, r, e, Bool.true_or, Bool.false_or, Bool.and_false, Bool.false_and]
theorem is_step_ok {a b : List Int} (ha : a.length ≤ 300) (hb : b.length ≤ 300) : G_is_step [.val (SD a), .val (SD b)] = .ok (.v (.bl (stepB a b))) [] := by
  have lenA : lenC [SD a] = some (.int a.length) := by rw [lenC_tup, List.length_map]
  have lenB : lenC [SD b] = some (.int b.length) := by rw [lenC_tup, List.length_map]
  have s2 : small 2 = true := rfl
  have k1 := strikes_ok (b := b) ha
  have k2 := strikes_ok (b := a) hb
  unfold stepB
  by_cases h1 : b.length < a.length
  · have h1' : (b.length : Int) < a.length := by omega
    by_cases h2 : a.length = b.length + 1
    · have h2' := eq_true (show (a.length : Int) = (b.length : Int) + 1 by omega)
      rw [if_pos h1, if_pos h2]
      generalize strikesB a b = B at k1
      simp_arith only [G_is_step, g_is_step, lenA, lenB, s2, h1', h2', k1]
    · have h2' : ¬ (a.length : Int) = (b.length : Int) + 1 := by omega
      rw [if_pos h1, if_neg h2]
      by_cases h3 : a.length = b.length + 2
      · have h3' := eq_true (show (a.length : Int) = (b.length : Int) + 2 by omega)
        have h3d := decide_eq_true h3
        have k3 := joins_ok (b := b) (by omega) ha
        generalize joinsB a b = B at k3
        simp_arith only [G_is_step, g_is_step, lenA, lenB, s2, h1', h2', k3, h3d, h3']
      · have h3' : ¬ (a.length : Int) = (b.length : Int) + 2 := by omega
        simp_arith only [G_is_step, g_is_step, lenA, lenB, s2, h1', h2', h3, h3', Bool.false_and]
  · have h1' : ¬ (b.length : Int) < a.length := by omega
    by_cases h2 : b.length = a.length + 1
    · have h2' := eq_true (show (b.length : Int) = (a.length : Int) + 1 by omega)
      rw [if_neg h1, if_pos h2]
      generalize strikesB b a = B at k2
      simp_arith only [G_is_step, g_is_step, lenA, lenB, s2, h1', h2', k2]
    · have h2' : ¬ (b.length : Int) = (a.length : Int) + 1 := by omega
      rw [if_neg h1, if_neg h2]
      by_cases h3 : b.length = a.length + 2
      · have h3' := eq_true (show (b.length : Int) = (a.length : Int) + 2 by omega)
        have h3d := decide_eq_true h3
        have k3 := joins_ok (a := b) (b := a) (by omega) hb
        generalize joinsB b a = B at k3
        simp_arith only [G_is_step, g_is_step, lenA, lenB, s2, h1', h2', k3, h3d, h3']
      · have h3' : ¬ (b.length : Int) = (a.length : Int) + 2 := by omega
        simp_arith only [G_is_step, g_is_step, lenA, lenB, s2, h1', h2', h3, h3', Bool.false_and]

theorem allC_map {α : Type} (f : α → Bool) (xs : List α) : allC [.lst (xs.map fun x => .bl (f x))] = some (.bl (xs.all f)) := by
  have e : bools (xs.map fun x => .bl (f x)) = some (xs.map f) := by
    induction xs with
    | nil => rfl
    | cons x xs ih =>
      show (bools (xs.map fun x => .bl (f x))).map (f x :: ·) = _
      rw [ih]
      rfl
  show (bools _).map _ = _
  rw [e, Option.map_some, List.all_map]
  rfl
theorem firstI_some (p : D → Bool) : ∀ (xs : List D) (n : Nat), (∃ x ∈ xs, p x = true) → ∃ i, firstI p n xs = some i
  | [], n, ⟨x, h, _⟩ => by cases h
  | x :: xs, n, ⟨y, h, hy⟩ => by
    show ∃ i, (if p x = true then some n else firstI p (n + 1) xs) = some i
    by_cases c : p x = true
    · exact ⟨n, if_pos c⟩
    · rw [if_neg c]
      refine firstI_some p xs (n + 1) ⟨y, ?_, hy⟩
      rcases List.mem_cons.mp h with rfl | h
      · exact absurd hy c
      · exact h
theorem rightB_tup (xs : List D) : rightB (.tup xs) = (decide (xs.length ≤ 200) && xs.all beadB) := by
  unfold rightB faultD
  dsimp only
  by_cases c : 200 < xs.length
  · rw [if_pos c, decide_eq_false (by omega)]
    rfl
  · rw [if_neg c, decide_eq_true (by omega), Bool.true_and]
    by_cases h : ∃ x ∈ xs, (fun d => !beadB d) x = true
    · obtain ⟨i, e⟩ := firstI_some _ xs 0 h
      rw [e]
      dsimp only
      rw [decide_eq_false (by omega)]
      obtain ⟨x, hx, hn⟩ := h
      refine (Bool.eq_false_iff.mpr fun z => ?_).symm
      have := List.all_eq_true.mp z x hx
      have hn : (!beadB x) = true := hn
      rw [this] at hn
      cases hn
    · rw [firstI_none _ _ _ fun x hx => by
        cases hb : (fun d => !beadB d) x with
        | false => exact hb
        | true => exact absurd ⟨x, hx, hb⟩ h]
      refine (List.all_eq_true.mpr fun x hx => ?_).symm
      cases hb : beadB x with
      | true => rfl
      | false => exact absurd ⟨x, hx, by simp [hb]⟩ h
/-- the numbers of a tuple -/
def intsOf : D → List Int
  | .tup xs => xs.map fun | .int i => i | _ => 0
  | _ => []
theorem right_SD {d : D} (h : rightB d = true) : d = SD (intsOf d) ∧ (intsOf d).length ≤ 200 ∧ ∀ b ∈ intsOf d, b.natAbs ≤ 1000000000 := by
  cases d with
  | tup xs =>
    rw [rightB_tup, Bool.and_eq_true, decide_eq_true_eq] at h
    have key : ∀ x ∈ xs, ∃ i : Int, x = .int i ∧ i.natAbs ≤ 1000000000 := fun x hx => by
      have hb := List.all_eq_true.mp h.2 x hx
      cases x with
      | int i =>
        refine ⟨i, rfl, ?_⟩
        obtain ⟨h1, h2⟩ := Bool.and_eq_true_iff.mp hb
        have := of_decide_eq_true h1
        have := of_decide_eq_true h2
        omega
      | _ => cases hb
    refine ⟨?_, by simpa [intsOf] using h.1, fun b hb => ?_⟩
    · show D.tup xs = D.tup ((xs.map _).map D.int)
      congr 1
      rw [List.map_map]
      have : xs.map (fun d => d) = xs := List.map_id _
      rw [← this]
      simp only [List.map_id']
      refine (List.map_id xs).symm.trans (List.map_congr_left fun x hx => ?_)
      obtain ⟨i, rfl, _⟩ := key x hx
      rfl
    · obtain ⟨x, hx, rfl⟩ := List.mem_map.mp hb
      obtain ⟨i, rfl, hi⟩ := key x hx
      exact hi
  | _ => cases h
theorem is_string_ok {d : D} (h : strB d = true) : G_is_string [.val d] = .ok (.v (.bl (rightB d))) [] := by
  have e := string_fault_ok h
  have n : eqA (faultD d) (.int (-1)) = some (.bl (rightB d)) := by
    have : (∃ i : Int, faultD d = .int i) ∨ faultD d = .non := by
      unfold faultD
      split
      · split
        · exact .inr rfl
        · split
          · exact .inl ⟨_, rfl⟩
          · exact .inl ⟨_, rfl⟩
      · exact .inr rfl
    rcases this with ⟨i, e⟩ | e
    · simp only [rightB, e, eqA_int]
    · simp only [rightB, e]
      rfl
  simp_arith only [G_is_string, g_is_string, e, n]
/-- what may be handed over as a paper -/
def paperB : D → Bool
  | .tup ps => small ps.length && ps.all strB
  | d => (typD d).isSome
/-- is it a row of strings -/
def rowB (a b : List Int) : D → Bool
  | .tup ps => (decide (1 ≤ ps.length) && decide (ps.length ≤ 4000)) && (ps.all rightB && ((decide (intsOf (ps.getD 0 .non) = a) && decide (intsOf (ps.getD (ps.length - 1) .non) = b)) && (List.range (ps.length - 1)).all fun k => stepB (intsOf (ps.getD k .non)) (intsOf (ps.getD (k + 1) .non))))
  | _ => false
theorem ixT {ps : List D} {k : Nat} (h : k < ps.length) : ixD (.tup ps) (.int (k : Int)) = some (ps.getD k .non) := by
  show atI ps (k : Int) = _
  rw [atI_nat (Int.natCast_nonneg k) (a := ps.getD k .non)]
  rw [Int.toNat_natCast, List.getD_eq_getElem?_getD, List.getElem?_eq_getElem h]
  rfl
theorem ixT_last {ps : List D} (h : 0 < ps.length) : ixD (.tup ps) (.int (-1)) = some (ps.getD (ps.length - 1) .non) := by
  rw [ixD_last (List.length_pos_iff.mp h), List.getLast_eq_getElem, List.getD_eq_getElem?_getD, List.getElem?_eq_getElem (by omega)]
  rfl
theorem getD_right {ps : List D} (h : ps.all rightB = true) {k : Nat} (hk : k < ps.length) : rightB (ps.getD k .non) = true := by
  rw [List.getD_eq_getElem?_getD, List.getElem?_eq_getElem hk]
  exact List.all_eq_true.mp h _ (List.getElem_mem hk)
theorem shows_led_ok {a b : List Int} {d : D} (h : paperB d = true) : G_shows_led [.val (SD a), .val (SD b), .val d] = .ok (.v (.bl (rowB a b d))) [] := by
  cases d with
  | tup ps =>
    obtain ⟨h1, h2⟩ := Bool.and_eq_true_iff.mp h
    have hl : ps.length ≤ 100000 := of_decide_eq_true h1
    unfold rowB
    dsimp only
    by_cases c1 : 1 ≤ ps.length
    · have p1 := decide_eq_true (show (1 : Int) ≤ ps.length by omega)
      by_cases c2 : ps.length ≤ 4000
      · have p2 := decide_eq_true (show (ps.length : Int) ≤ 4000 by omega)
        rw [decide_eq_true c1, decide_eq_true c2]
        have f1 := cmpM_m (ks := [3]) (it := seqI (vr 2)) (g := nmG 3) (f := callE 1 G_is_string (cnsB (vr 3) nilB)) (ρ := [.val (SD a), .val (SD b), .val (.tup ps), .no, .no]) (ds := ps) (fun d => .bl (rightB d)) rfl rfl rfl hl (fun d hd => by
          have e := is_string_ok (List.all_eq_true.mp h2 d hd)
          exact ⟨[.val (SD a), .val (SD b), .val (.tup ps), .val d, .no], rfl, rfl, by simp_arith only [e]⟩)
        have a1 := allC_map rightB ps
        cases hr : ps.all rightB with
        | false =>
          rw [hr] at a1
          generalize (ps.map fun d => D.bl (rightB d)) = ys at f1 a1
          simp_arith only [G_shows_led, g_shows_led, p1, p2, f1, a1, Bool.false_and, Bool.and_false]
        | true =>
          rw [hr] at a1
          have x0 : ixD (.tup ps) (.int 0) = some (ps.getD 0 .non) := ixT (k := 0) (by omega)
          have x1 := ixT_last (ps := ps) (by omega)
          have e0 := (right_SD (getD_right hr (k := 0) (by omega))).1
          have e1 := (right_SD (getD_right hr (k := ps.length - 1) (by omega))).1
          have n0 := neA_SD (intsOf (ps.getD 0 .non)) a
          have n1 := neA_SD (intsOf (ps.getD (ps.length - 1) .non)) b
          rw [← e0] at n0
          rw [← e1] at n1
          have r := rng1_ok (g := cnsA (op2 subD (opC lenC (cnsA (vr 2) nilA)) (cst (.int 1))) nilA) (ρ := [.val (SD a), .val (SD b), .val (.tup ps), .no, .no]) (ρ' := [.val (SD a), .val (SD b), .val (.tup ps), .no, .no]) (n := (ps.length : Int) - 1) (by simp_arith only []) (rgOk_of (by omega) (by omega))
          rw [show ((ps.length : Int) - 1).toNat = ps.length - 1 by omega] at r
          have f2 := cmpM_m (ks := [4]) (g := nmG 4) (f := callE 2 G_is_step (cnsB (op2 ixD (vr 2) (vr 4)) (cnsB (op2 ixD (vr 2) (op2 addD (vr 4) (cst (.int 1)))) nilB))) (fun d => match d with | .int k => .bl (stepB (intsOf (ps.getD k.toNat .non)) (intsOf (ps.getD (k.toNat + 1) .non))) | d => d) r rfl rfl (by rw [rangeL_length]; omega) (by
            intro d hd
            obtain ⟨k, hk⟩ := List.getElem?_of_mem hd
            obtain ⟨hk, rfl⟩ := rangeL_get _ _ _ _ hk
            rw [show (0 : Int) + (k : Int) = k by omega]
            obtain ⟨q1, q2, _⟩ := right_SD (getD_right hr (k := k) (by omega))
            obtain ⟨q3, q4, _⟩ := right_SD (getD_right hr (k := k + 1) (by omega))
            have x2 := ixT (ps := ps) (k := k) (by omega)
            have x3 : ixD (.tup ps) (.int ((k : Int) + 1)) = some (ps.getD (k + 1) .non) := ixT (ps := ps) (k := k + 1) (by omega)
            have e := is_step_ok (a := intsOf (ps.getD k .non)) (b := intsOf (ps.getD (k + 1) .non)) (by omega) (by omega)
            rw [← q1, ← q3] at e
            refine ⟨[.val (SD a), .val (SD b), .val (.tup ps), .no, .val (.int k)], rfl, rfl, ?_⟩
            dsimp only
            rw [Int.toNat_natCast]
            simp_arith only [x2, x3, e])
          have eL : (rangeL 0 (ps.length - 1)).map (fun d => match d with | .int k => .bl (stepB (intsOf (ps.getD k.toNat .non)) (intsOf (ps.getD (k.toNat + 1) .non))) | d => d) = (List.range (ps.length - 1)).map fun k => D.bl (stepB (intsOf (ps.getD k .non)) (intsOf (ps.getD (k + 1) .non))) := by
            rw [rangeL_nat, List.map_map]
            refine List.map_congr_left fun k _ => ?_
            show D.bl (stepB (intsOf (ps.getD (0 + (k : Int)).toNat .non)) _) = _
            rw [Int.zero_add, Int.toNat_natCast]
          rw [eL] at f2
          have a2 := allC_map (fun k => stepB (intsOf (ps.getD k .non)) (intsOf (ps.getD (k + 1) .non))) (List.range (ps.length - 1))
          generalize ((List.range (ps.length - 1)).all fun k => stepB (intsOf (ps.getD k .non)) (intsOf (ps.getD (k + 1) .non))) = B at a2 ⊢
          generalize ((List.range (ps.length - 1)).map fun k => D.bl (stepB (intsOf (ps.getD k .non)) (intsOf (ps.getD (k + 1) .non)))) = zs at f2 a2
          generalize (ps.map fun d => D.bl (rightB d)) = ys at f1 a1
          generalize decide (intsOf (ps.getD 0 .non) = a) = b0 at n0 ⊢
          generalize decide (intsOf (ps.getD (ps.length - 1) .non) = b) = b1 at n1 ⊢
          cases b0 <;> cases b1 <;> simp_arith only [G_shows_led, g_shows_led, p1, p2, f1, a1, x0, x1, n0, n1, f2, a2, Bool.false_and, Bool.and_false]
      · have p2 := decide_eq_false (show ¬ (ps.length : Int) ≤ 4000 by omega)
        rw [decide_eq_false c2]
        simp_arith only [G_shows_led, g_shows_led, p1, p2, Bool.false_and, Bool.and_false]
    · have p1 := decide_eq_false (show ¬ (1 : Int) ≤ ps.length by omega)
      rw [decide_eq_false c1]
      simp_arith only [G_shows_led, g_shows_led, p1, Bool.false_and]
  | fn a => cases h
  | exc x fs => cases h
  | clo a R => cases h
  | dcf kvs => cases h
  | err n C fs => cases h
  | _ => simp_arith only [G_shows_led, g_shows_led, rowB]
theorem common_wh : ∀ (n : Nat) (a b : Int), 0 ≤ a → 0 ≤ b → b < n → ∃ m, whN [] (tst (op2 gtD (vr 1) (cst (.int 0)))) b_common_1 m [.val (.int a), .val (.int b)] = .ok .nx [.val (.int (Int.gcd a b)), .val (.int 0)]
  | 0, a, b, h0, h1, h => by omega
  | n + 1, a, b, h0, h1, h => by
    by_cases hb : 0 < b
    · obtain ⟨m, e⟩ := common_wh n b (a % b) h1 (Int.emod_nonneg _ (by omega)) (by have := Int.emod_lt_of_pos a hb; omega)
      have g : Int.gcd b (a % b) = Int.gcd a b := by rw [Int.emod_def, Int.gcd_sub_mul_left_right, Int.gcd_comm]
      rw [g] at e
      have eb : b_common_1 [.val (.int a), .val (.int b)] = .ok .nx [.val (.int b), .val (.int (a % b))] := by simp_arith only [b_common_1, modD_pos hb]
      exact ⟨m + 1, by simp_arith only [whN, hb, eb, e]⟩
    · have : b = 0 := by omega
      subst this
      refine ⟨1, ?_⟩
      have g : ((Int.gcd a 0 : Nat) : Int) = a := by rw [Int.gcd_zero_right]; omega
      rw [g]
      simp_arith only [whN]
theorem common_ok {a b : Int} (h0 : 0 ≤ a) (h1 : 0 ≤ b) : G_common [.val (.int a), .val (.int b)] = .ok (.v (.int (Int.gcd a b))) [] := by
  obtain ⟨m, e⟩ := common_wh (b.toNat + 1) a b h0 h1 (by omega)
  have w := whS_eq (ks := []) (t := (tst (op2 gtD (vr 1) (cst (.int 0))))) (b := b_common_1) (n := m) (ρ := [.val (.int a), .val (.int b)]) (by rw [e]; rfl)
  rw [e] at w
  simp_arith only [G_common, g_common, w]

/-- a pair of numbers -/
abbrev D2 (p q : Int) : D := .tup [.int p, .int q]
def pairB (p q : Int) : Bool := if p = 0 then decide (q = 1) else decide (0 ≤ q) && decide (q < p) && decide (Int.gcd p q = 1)
theorem is_pair_ok (p q : Int) : G_is_pair [.val (D2 p q)] = .ok (.v (.bl (pairB p q))) [] := by
  have a0 : ixD (D2 p q) (.int 0) = some (.int p) := rfl
  have a1 : ixD (D2 p q) (.int 1) = some (.int q) := rfl
  unfold pairB
  by_cases hp : p = 0
  · subst hp
    simp_arith only [G_is_pair, g_is_pair, a0, a1, is_integer_int]
  · by_cases h0 : 0 ≤ q
    · by_cases h1 : q < p
      · have c := common_ok (a := p) (b := q) (by omega) h0
        have e : ((Int.gcd p q : Nat) : Int) = 1 ↔ Int.gcd p q = 1 := by omega
        simp_arith only [G_is_pair, g_is_pair, a0, a1, is_integer_int, hp, h0, h1, c, e]
      · simp_arith only [G_is_pair, g_is_pair, a0, a1, is_integer_int, hp, h0, h1, Bool.and_false, Bool.false_and]
    · simp_arith only [G_is_pair, g_is_pair, a0, a1, is_integer_int, hp, h0, Bool.false_and]
theorem eqA_D2 (p q p' q' : Int) : eqA (D2 p q) (D2 p' q') = some (.bl (decide (p = p') && decide (q = q'))) := by
  have e : ∀ x y : Int, (x == y) = decide (x = y) := fun x y => by
    rw [Bool.eq_iff_iff, beq_iff_eq, decide_eq_true_eq]
  show some (D.bl ((p == p') && ((q == q') && true))) = _
  rw [e, e, Bool.and_true]

def stepT (b : Int) (p : Int × Int) : Int × Int := (b * p.1 - p.2, p.1)
/-- T of a string, and T of it without its first bead -/
def turnsI (bs : List Int) : Int × Int := bs.foldr stepT (1, 0)
theorem turns_loop : ∀ (bs : List Int) (h k : Int) (e : Slot) (t : D), (∀ b ∈ bs, b.natAbs < 18446744073709551616) → ∃ e', forL [] (nmG 3) b_turns_of_1 (bs.map D.int) [.val t, .val (.int h), .val (.int k), e] = .ok .nx [.val t, .val (.int (bs.foldl (fun p b => stepT b p) (h, k)).1), .val (.int (bs.foldl (fun p b => stepT b p) (h, k)).2), e']
  | [], h, k, e, t, _ => ⟨e, rfl⟩
  | b :: bs, h, k, e, t, hb => by
    obtain ⟨e', ih⟩ := turns_loop bs (b * h - k) h (.val (.int b)) t fun x hx => hb x (List.mem_cons_of_mem _ hx)
    have m : mulD (.int b) (.int h) = some (.int (b * h)) := mulD_l (hb b List.mem_cons_self)
    have eb : b_turns_of_1 [.val t, .val (.int h), .val (.int k), .val (.int b)] = .ok .nx [.val t, .val (.int (b * h - k)), .val (.int h), .val (.int b)] := by
      simp_arith only [b_turns_of_1, m]
    refine ⟨e', ?_⟩
    rw [List.map_cons, List.foldl_cons]
    simp_arith only [forL_cons, eb, aftF, ih, stepT]
theorem turns_of_ok {bs : List Int} (hb : ∀ b ∈ bs, b.natAbs < 18446744073709551616) : G_turns_of [.val (.tup (bs.map D.int))] = .ok (.v (.tup [.int (turnsI bs).1, .int (turnsI bs).2])) [] := by
  have hit : seqI (op1 revD (vr 0)) [.val (.tup (bs.map D.int)), .val (.int 1), .val (.int 0), .no] = .ok (bs.reverse.map D.int) [.val (.tup (bs.map D.int)), .val (.int 1), .val (.int 0), .no] := by
    rw [List.map_reverse]
    rfl
  obtain ⟨e', el⟩ := turns_loop bs.reverse 1 0 .no (.tup (bs.map D.int)) fun b h => hb b (List.mem_reverse.mp h)
  rw [List.foldl_reverse] at el
  have el : forL [] (nmG 3) b_turns_of_1 (bs.reverse.map D.int) [.val (.tup (bs.map D.int)), .val (.int 1), .val (.int 0), .no] = .ok .nx [.val (.tup (bs.map D.int)), .val (.int (turnsI bs).1), .val (.int (turnsI bs).2), e'] := el
  have s2 : small 2 = true := rfl
  simp_arith only [G_turns_of, g_turns_of, forS_eq, hit, el, s2]
def restI (t r : Int) : Int := if t = 0 then 1 else (if t < 0 then -r else r) % (t.natAbs : Int)
/-! T of a string and of its parts -/
theorem turnsI_cons (x : Int) (xs : List Int) : turnsI (x :: xs) = (x * (turnsI xs).1 - (turnsI xs).2, (turnsI xs).1) := rfl
/-- the second column: T of it without its last bead, and without both, with the other sign -/
def turns2 (bs : List Int) : Int × Int := bs.foldr stepT (0, 1)
theorem turns2_cons (x : Int) (xs : List Int) : turns2 (x :: xs) = (x * (turns2 xs).1 - (turns2 xs).2, (turns2 xs).1) := rfl
theorem turns_det : ∀ xs : List Int, (turnsI xs).1 * (turns2 xs).2 - (turnsI xs).2 * (turns2 xs).1 = 1
  | [] => rfl
  | x :: xs => by
    have h := turns_det xs
    rw [turnsI_cons, turns2_cons]
    generalize (turnsI xs).1 = a at *
    generalize (turnsI xs).2 = b at *
    generalize (turns2 xs).1 = c at *
    generalize (turns2 xs).2 = d at *
    show (x * a - b) * c - a * (x * c - d) = 1
    grind
theorem fold_lin : ∀ (xs : List Int) (h b : Int), xs.foldr stepT (h, b) = (h * (turnsI xs).1 + b * (turns2 xs).1, h * (turnsI xs).2 + b * (turns2 xs).2)
  | [], h, b => by
    show (h, b) = (h * 1 + b * 0, h * 0 + b * 1)
    simp
  | x :: xs, h, b => by
    rw [List.foldr_cons, fold_lin xs h b, turnsI_cons, turns2_cons]
    show (x * _ - _, _) = (_, _)
    refine Prod.ext ?_ rfl
    show x * (h * (turnsI xs).1 + b * (turns2 xs).1) - (h * (turnsI xs).2 + b * (turns2 xs).2) = h * (x * (turnsI xs).1 - (turnsI xs).2) + b * (x * (turns2 xs).1 - (turns2 xs).2)
    generalize (turnsI xs).1 = p
    generalize (turnsI xs).2 = q
    generalize (turns2 xs).1 = r
    generalize (turns2 xs).2 = s
    grind
theorem turns_snoc (xs : List Int) (x : Int) : turnsI (xs ++ [x]) = (x * (turnsI xs).1 + (turns2 xs).1, x * (turnsI xs).2 + (turns2 xs).2) := by
  unfold turnsI
  rw [List.foldr_append]
  show xs.foldr stepT (x * 1 - 0, 1) = _
  rw [fold_lin]
  refine Prod.ext ?_ ?_
  · show (x * 1 - 0) * (turnsI xs).1 + 1 * (turns2 xs).1 = x * (turnsI xs).1 + (turns2 xs).1
    rw [Int.mul_one, Int.sub_zero, Int.one_mul]
  · show (x * 1 - 0) * (turnsI xs).2 + 1 * (turns2 xs).2 = x * (turnsI xs).2 + (turns2 xs).2
    rw [Int.mul_one, Int.sub_zero, Int.one_mul]
theorem turns2_snoc (xs : List Int) (x : Int) : turns2 (xs ++ [x]) = (-(turnsI xs).1, -(turnsI xs).2) := by
  unfold turns2
  rw [List.foldr_append]
  show xs.foldr stepT (x * 0 - 1, 0) = _
  rw [fold_lin]
  refine Prod.ext ?_ ?_
  · show (x * 0 - 1) * (turnsI xs).1 + 0 * (turns2 xs).1 = -(turnsI xs).1
    rw [Int.mul_zero, Int.zero_mul]
    omega
  · show (x * 0 - 1) * (turnsI xs).2 + 0 * (turns2 xs).2 = -(turnsI xs).2
    rw [Int.mul_zero, Int.zero_mul]
    omega
theorem turns_rev : ∀ xs : List Int, (turnsI xs.reverse).1 = (turnsI xs).1 ∧ (turnsI xs.reverse).2 = -(turns2 xs).1 ∧ (turns2 xs.reverse).1 = -(turnsI xs).2 ∧ (turns2 xs.reverse).2 = (turns2 xs).2
  | [] => ⟨rfl, rfl, rfl, rfl⟩
  | x :: xs => by
    obtain ⟨h1, h2, h3, h4⟩ := turns_rev xs
    rw [List.reverse_cons, turns_snoc, turns2_snoc, turnsI_cons, turns2_cons, h1, h2, h3, h4]
    refine ⟨?_, ?_, rfl, ?_⟩
    · show x * (turnsI xs).1 + -(turnsI xs).2 = x * (turnsI xs).1 - (turnsI xs).2
      omega
    · show x * -(turns2 xs).1 + (turns2 xs).2 = -(x * (turns2 xs).1 - (turns2 xs).2)
      rw [Int.mul_neg]
      omega
    · show - -(turns2 xs).1 = (turns2 xs).1
      omega
/-- what the two rests of a string and of it turned about are to one another -/
theorem rests_inv {bs : List Int} (h : 2 ≤ (turnsI bs).1.natAbs) : restI (turnsI bs).1 (turnsI bs).2 * restI (turnsI bs.reverse).1 (turnsI bs.reverse).2 % ((turnsI bs).1.natAbs : Int) = 1 := by
  obtain ⟨h1, h2, _, _⟩ := turns_rev bs
  have d := turns_det bs
  rw [h1, h2]
  generalize (turnsI bs).1 = t at *
  generalize (turnsI bs).2 = r at *
  generalize (turns2 bs).1 = l at *
  generalize (turns2 bs).2 = m at *
  have ht : t ≠ 0 := by omega
  unfold restI
  rw [if_neg ht, if_neg ht, ← Int.mul_emod]
  have key : ∃ k, (if t < 0 then -r else r) * (if t < 0 then - -l else -l) = 1 + (t.natAbs : Int) * k := by
    by_cases hn : t < 0
    · rw [if_pos hn, if_pos hn, show (t.natAbs : Int) = -t by omega]
      exact ⟨m, by grind⟩
    · rw [if_neg hn, if_neg hn, show (t.natAbs : Int) = t by omega]
      exact ⟨-m, by grind⟩
  obtain ⟨k, e⟩ := key
  rw [e, Int.add_mul_emod_self_left]
  exact Int.emod_eq_of_lt (by decide) (by omega)
theorem inv_gcd {p q r : Int} (h : q * r % p = 1) : Int.gcd p q = 1 := by
  have d : ((Int.gcd p q : Nat) : Int) ∣ 1 := by
    have h1 : ((Int.gcd p q : Nat) : Int) ∣ p := Int.gcd_dvd_left ..
    have h2 : ((Int.gcd p q : Nat) : Int) ∣ q := Int.gcd_dvd_right ..
    have e := Int.emod_add_mul_ediv (q * r) p
    rw [h] at e
    have h3 : ((Int.gcd p q : Nat) : Int) ∣ q * r := Int.dvd_trans h2 (Int.dvd_mul_right q r)
    have h4 : ((Int.gcd p q : Nat) : Int) ∣ p * (q * r / p) := Int.dvd_trans h1 (Int.dvd_mul_right p _)
    have : (1 : Int) = q * r - p * (q * r / p) := by omega
    rw [this]
    exact Int.dvd_sub h3 h4
  have := Int.natAbs_dvd_natAbs.mpr d
  simpa using this
theorem restI_bounds (t r : Int) (h : t ≠ 0) : 0 ≤ restI t r ∧ restI t r < (t.natAbs : Int) := by
  unfold restI
  rw [if_neg h]
  exact ⟨Int.emod_nonneg _ (by omega), Int.emod_lt_of_pos _ (by omega)⟩

theorem mulD_g {a b : Int} (h : a.natAbs.log2 + b.natAbs.log2 < 1000000) : mulD (.int a) (.int b) = some (.int (a * b)) := by
  refine if_pos ?_
  unfold mulOk
  rw [decide_eq_true h, Bool.or_true]
theorem log2_le_of {n k : Nat} (h : n < 2 ^ (k + 1)) : n.log2 ≤ k := by
  by_cases z : n = 0
  · rw [z]
    exact Nat.zero_le _
  · have := (Nat.log2_lt z).mpr h
    omega

/-- the pair of a string -/
def pQ (r : List Int) : Nat × Nat := ((turnsI r).1.natAbs, (restI (turnsI r).1 (turnsI r).2).toNat)
abbrev pE (p : Nat × Nat) : D := D2 (p.1 : Int) (p.2 : Int)
theorem restI_nn (t r : Int) : 0 ≤ restI t r := by
  by_cases h : t = 0
  · unfold restI
    rw [if_pos h]
    decide
  · exact (restI_bounds t r h).1
theorem pairB_turns (r : List Int) : pairB ((turnsI r).1.natAbs : Int) (restI (turnsI r).1 (turnsI r).2) = true := by
  by_cases h0 : (turnsI r).1 = 0
  · unfold pairB restI
    rw [if_pos (by omega), if_pos h0]
    rfl
  · have b := restI_bounds (turnsI r).1 (turnsI r).2 h0
    by_cases h1 : (turnsI r).1.natAbs = 1
    · have e : restI (turnsI r).1 (turnsI r).2 = 0 := by omega
      rw [e, h1]
      rfl
    · have i := rests_inv (bs := r) (by omega)
      have g := inv_gcd i
      unfold pairB
      rw [if_neg (by omega), decide_eq_true b.1, decide_eq_true b.2, decide_eq_true g]
      rfl
theorem ipn_kind {x : D} (h : isiD .tup x = some (.bl false)) : G_is_pair [.val x] = .ok (.v (.bl false)) [] := by
  cases x <;> first | (cases h; done) | simp_arith only [G_is_pair, g_is_pair]
theorem isi_tupP (xs : List D) : isiD .tup (.tup xs) = some (.bl true) := rfl
theorem ipn_len {xs : List D} (h : xs.length ≠ 2) : G_is_pair [.val (.tup xs)] = .ok (.v (.bl false)) [] := by
  have h' : ¬ (xs.length : Int) = 2 := by omega
  simp_arith only [G_is_pair, g_is_pair, isi_tupP, h']
theorem ip2_0 (a b : D) : ixD (.tup [a, b]) (.int 0) = some a := rfl
theorem ip2_1 (a b : D) : ixD (.tup [a, b]) (.int 1) = some b := rfl
theorem ipn_el {a b : D} (ha : (typD a).isSome = true) (hb : (typD b).isSome = true) (h : isInt a = false ∨ isInt b = false) : G_is_pair [.val (.tup [a, b])] = .ok (.v (.bl false)) [] := by
  have ea := is_integer_ok ha
  have eb := is_integer_ok hb
  cases ia : isInt a with
  | false =>
    rw [ia] at ea
    simp_arith only [G_is_pair, g_is_pair, isi_tupP, ip2_0, ip2_1, ea]
  | true =>
    rw [ia] at ea
    have ib : isInt b = false := by
      rcases h with h | h
      · rw [ia] at h; cases h
      · exact h
    rw [ib] at eb
    simp_arith only [G_is_pair, g_is_pair, isi_tupP, ip2_0, ip2_1, ea, eb]
/-- whether a value is the pair of a string -/
def Elt (r : List Int) (x : D) : Prop := ∃ b : Bool, G_is_pair_of [.val x, .val (SD r)] = .ok (.v (.bl b)) [] ∧ (b = true ↔ x = pE (pQ r))
theorem elt_no {r : List Int} (hr : ∀ b ∈ r, b.natAbs < 18446744073709551616) {x : D} (h : G_is_pair [.val x] = .ok (.v (.bl false)) []) (hx : ∀ a b : Int, x ≠ D2 a b) : Elt r x := by
  have t := turns_of_ok hr
  refine ⟨false, ?_, ⟨(fun z => by cases z), fun z => absurd z (hx _ _)⟩⟩
  simp_arith only [G_is_pair_of, g_is_pair_of, t, h]
theorem elt_pair {r : List Int} (hr : ∀ b ∈ r, b.natAbs < 18446744073709551616) (p q : Int) : Elt r (D2 p q) := by
  have t := turns_of_ok hr
  have ip := is_pair_ok p q
  have a0 : ixD (D2 p q) (.int 0) = some (.int p) := rfl
  have a1 : ixD (D2 p q) (.int 1) = some (.int q) := rfl
  have hd : ∀ a b : Int, D2 p q = D2 a b ↔ p = a ∧ q = b := fun a b => by
    constructor
    · intro z
      cases z
      exact ⟨rfl, rfl⟩
    · rintro ⟨rfl, rfl⟩
      rfl
  have hpE : D2 p q = pE (pQ r) ↔ p = ((turnsI r).1.natAbs : Int) ∧ q = restI (turnsI r).1 (turnsI r).2 := by
    rw [hd]
    show _ ∧ q = ((restI (turnsI r).1 (turnsI r).2).toNat : Int) ↔ _
    rw [Int.toNat_of_nonneg (restI_nn _ _)]
    exact Iff.rfl
  have hpb := pairB_turns r
  unfold Elt
  rw [hpE]
  generalize (turnsI r).1 = tt at *
  generalize (turnsI r).2 = rr at *
  cases hb : pairB p q with
  | false =>
    rw [hb] at ip
    refine ⟨false, by simp_arith only [G_is_pair_of, g_is_pair_of, t, ip], ⟨(fun z => by cases z), ?_⟩⟩
    rintro ⟨rfl, rfl⟩
    rw [hpb] at hb
    cases hb
  | true =>
    rw [hb] at ip
    by_cases h0 : p = (tt.natAbs : Int)
    · by_cases h2 : p < 2
      · refine ⟨true, ?_, ⟨fun _ => ⟨h0, ?_⟩, fun _ => rfl⟩⟩
        · subst h0
          simp_arith only [G_is_pair_of, g_is_pair_of, t, ip, a0, a1, h2]
        unfold pairB at hb
        unfold restI
        by_cases z : p = 0
        · rw [if_pos z] at hb
          rw [if_pos (by omega)]
          exact of_decide_eq_true hb
        · rw [if_neg z, Bool.and_eq_true, Bool.and_eq_true, decide_eq_true_eq, decide_eq_true_eq] at hb
          have p1 : p = 1 := by omega
          rw [if_neg (by omega), ← h0, p1, Int.emod_one]
          omega
      · have hp : 0 < p := by omega
        unfold pairB at hb
        rw [if_neg (by omega), Bool.and_eq_true, Bool.and_eq_true, decide_eq_true_eq, decide_eq_true_eq] at hb
        obtain ⟨⟨q0, q1⟩, _⟩ := hb
        have tn : tt ≠ 0 := by omega
        have re : restI tt rr = (if tt < 0 then -rr else rr) % p := by
          unfold restI
          rw [if_neg tn, ← h0]
        have key : ∀ s : Int, ((q - s) % p = 0 ↔ q = s % p) := fun s => by
          constructor
          · intro z
            have := Int.emod_emod_of_dvd q (Int.dvd_refl p)
            have e : q % p = s % p := Int.emod_eq_emod_iff_emod_sub_eq_zero.mpr z
            rw [Int.emod_eq_of_lt q0 q1] at e
            exact e
          · intro z
            refine Int.emod_eq_emod_iff_emod_sub_eq_zero.mp ?_
            rw [Int.emod_eq_of_lt q0 q1]
            exact z
        by_cases ht : 0 < tt
        · have nt : ¬ tt < 0 := by omega
          rw [if_neg nt] at re
          have m : modD (.int (q - rr)) (.int p) = some (.int ((q - rr) % p)) := modD_pos hp
          refine ⟨decide ((q - rr) % p = 0), ?_, ?_⟩
          · subst h0
            simp_arith only [G_is_pair_of, g_is_pair_of, t, ip, a0, a1, h2, ht, m]
          · rw [decide_eq_true_eq, key, re]
            exact ⟨fun z => ⟨h0, z⟩, fun z => z.2⟩
        · have nt : tt < 0 := by omega
          rw [if_pos nt] at re
          have m : modD (.int (q - -rr)) (.int p) = some (.int ((q - -rr) % p)) := modD_pos hp
          refine ⟨decide ((q - -rr) % p = 0), ?_, ?_⟩
          · subst h0
            simp_arith only [G_is_pair_of, g_is_pair_of, t, ip, a0, a1, h2, ht, m]
          · rw [decide_eq_true_eq, key, re]
            exact ⟨fun z => ⟨h0, z⟩, fun z => z.2⟩
    · refine ⟨false, ?_, ⟨(fun z => by cases z), fun z => absurd z.1 h0⟩⟩
      simp_arith only [G_is_pair_of, g_is_pair_of, t, ip, a0, a1, h0]

def signB : D → Bool
  | .int i => decide (i = 1) || decide (i = -1)
  | _ => false
theorem is_sign_int (i : Int) : G_is_sign [.val (.int i)] = .ok (.v (.bl (decide (i = 1) || decide (i = -1)))) [] := by
  simp_arith only [G_is_sign, g_is_sign, is_integer_int, inA_int2, small]
theorem is_sign_ok {d : D} (h : (typD d).isSome = true) : G_is_sign [.val d] = .ok (.v (.bl (signB d))) [] := by
  by_cases z : isInt d = true
  · obtain ⟨i, rfl⟩ := isInt_of z
    exact is_sign_int i
  · have z : isInt d = false := by simpa using z
    have e : signB d = false := by cases d <;> first | rfl | cases z
    rw [e]
    simp_arith only [G_is_sign, g_is_sign, is_integer_ok h, z]

theorem are_same_size_ok (p q p' q' : Int) : G_are_same_size [.val (D2 p q), .val (D2 p' q')] = .ok (.v (.bl (pairB p q && (pairB p' q' && decide (p = p'))))) [] := by
  have a0 : ∀ p q : Int, ixD (D2 p q) (.int 0) = some (.int p) := fun _ _ => rfl
  cases h1 : pairB p q with
  | false => simp_arith only [G_are_same_size, g_are_same_size, is_pair_ok, h1, Bool.false_and]
  | true =>
    cases h2 : pairB p' q' with
    | false => simp_arith only [G_are_same_size, g_are_same_size, is_pair_ok, h1, h2, Bool.false_and]
    | true => simp_arith only [G_are_same_size, g_are_same_size, is_pair_ok, h1, h2, a0]

theorem shows_alike_no {p q p' q' : Int} {x : D} (h : (typD x).isSome = true) (hs : signB x = false) : G_shows_alike [.val (D2 p q), .val (D2 p' q'), .val x] = .ok (.v (.bl false)) [] := by
  have a0 : ixD (D2 p q) (.int 0) = some (.int p) := rfl
  simp_arith only [G_shows_alike, g_shows_alike, a0, is_sign_ok h, hs]
theorem shows_alike_one {p q p' q' i : Int} (hi : i = 1 ∨ i = -1) (hp : p < 2) : G_shows_alike [.val (D2 p q), .val (D2 p' q'), .val (.int i)] = .ok (.v (.bl (decide (i = 1) && (decide (p = p') && decide (q = q'))))) [] := by
  have a0 : ixD (D2 p q) (.int 0) = some (.int p) := rfl
  have hs : (decide (i = 1) || decide (i = -1)) = true := by rcases hi with rfl | rfl <;> rfl
  by_cases h1 : i = 1
  · subst h1
    simp_arith only [G_shows_alike, g_shows_alike, a0, is_sign_int, hs, hp, eqA_D2]
  · have h2 := hi.resolve_left h1
    subst h2
    simp_arith only [G_shows_alike, g_shows_alike, a0, is_sign_int, hs, hp, Bool.false_and]
theorem shows_alike_big {p q p' q' i : Int} (hi : i = 1 ∨ i = -1) (hp : 2 ≤ p) (b1 : q.natAbs < 2 ^ 200) (b2 : q'.natAbs < 2 ^ 200) : G_shows_alike [.val (D2 p q), .val (D2 p' q'), .val (.int i)] = .ok (.v (.bl (decide ((i * q - q') % p = 0) || decide ((q * q' - i) % p = 0)))) [] := by
  have a0 : ∀ p q : Int, ixD (D2 p q) (.int 0) = some (.int p) := fun _ _ => rfl
  have a1 : ∀ p q : Int, ixD (D2 p q) (.int 1) = some (.int q) := fun _ _ => rfl
  have hs : (decide (i = 1) || decide (i = -1)) = true := by rcases hi with rfl | rfl <;> rfl
  have hp' : ¬ p < 2 := by omega
  have m1 : mulD (.int i) (.int q) = some (.int (i * q)) := mulD_l (by omega)
  have m2 : mulD (.int q) (.int q') = some (.int (q * q')) := mulD_w b1 b2
  have f : ∀ x : Int, modD (.int x) (.int p) = some (.int (x % p)) := fun x => modD_pos (by omega)
  by_cases h1 : (i * q - q') % p = 0
  · simp_arith only [G_shows_alike, g_shows_alike, a0, a1, is_sign_int, hs, hp', m1, m2, f, h1, Bool.true_or]
  · simp_arith only [G_shows_alike, g_shows_alike, a0, a1, is_sign_int, hs, hp', m1, m2, f, h1, Bool.false_or]

theorem loops_not {p q p' q' : Int} {x : D} (h : (typD x).isSome = true) (hx : ∀ u v, x ≠ .tup [u, v]) : G_shows_loops [.val (D2 p q), .val (D2 p' q'), .val x] = .ok (.v (.bl false)) [] := by
  cases x with
  | tup xs =>
    have hl : ¬ (xs.length : Int) = 2 := fun z => by
      have z : xs.length = 2 := by omega
      match xs, z with
      | [u, v], _ => exact hx u v rfl
    simp_arith only [G_shows_loops, g_shows_loops, g_shows_loops_1, g_shows_loops_2, g_shows_loops_3, g_shows_loops_4, hl]
  | fn _ => cases h
  | exc _ _ => cases h
  | clo _ _ => cases h
  | dcf _ => cases h
  | err n C fs => cases h
  | _ => simp_arith only [G_shows_loops, g_shows_loops, g_shows_loops_1, g_shows_loops_2, g_shows_loops_3, g_shows_loops_4]
theorem loops_nosign {p q p' q' : Int} {u v : D} (h : (typD u).isSome = true) (hs : signB u = false) : G_shows_loops [.val (D2 p q), .val (D2 p' q'), .val (.tup [u, v])] = .ok (.v (.bl false)) [] := by
  have a0 : ixD (.tup [u, v]) (.int 0) = some u := rfl
  simp_arith only [G_shows_loops, g_shows_loops, g_shows_loops_1, g_shows_loops_2, g_shows_loops_3, g_shows_loops_4, a0, is_sign_ok h, hs]
theorem loops_noint {p q p' q' : Int} {i : Int} {v : D} (hi : i = 1 ∨ i = -1) (h : (typD v).isSome = true) (hv : isInt v = false) : G_shows_loops [.val (D2 p q), .val (D2 p' q'), .val (.tup [.int i, v])] = .ok (.v (.bl false)) [] := by
  have a0 : ixD (.tup [.int i, v]) (.int 0) = some (.int i) := rfl
  have a1 : ixD (D2 p q) (.int 0) = some (.int p) := rfl
  have hs : (decide (i = 1) || decide (i = -1)) = true := by rcases hi with rfl | rfl <;> rfl
  by_cases hp : p < 2
  · cases he : (decide (p = p') && decide (q = q')) with
    | true => simp_arith only [G_shows_loops, g_shows_loops, g_shows_loops_1, g_shows_loops_2, g_shows_loops_3, g_shows_loops_4, a0, a1, is_sign_int, hs, hp, small, eqA_D2, he, is_between_no h hv]
    | false => simp_arith only [G_shows_loops, g_shows_loops, g_shows_loops_1, g_shows_loops_2, g_shows_loops_3, g_shows_loops_4, a0, a1, is_sign_int, hs, hp, small, eqA_D2, he]
  · simp_arith only [G_shows_loops, g_shows_loops, g_shows_loops_1, g_shows_loops_2, g_shows_loops_3, g_shows_loops_4, a0, a1, is_sign_int, hs, hp, small, is_between_no h hv]
theorem loops_one {p q p' q' i b : Int} (hi : i = 1 ∨ i = -1) (hp : p < 2) (hq : p = p') (hqq : q = q') : G_shows_loops [.val (D2 p q), .val (D2 p' q'), .val (D2 i b)] = .ok (.v (.bl (decide (b = 1) && decide (i = 1)))) [] := by
  have a0 : ixD (D2 i b) (.int 0) = some (.int i) := rfl
  have a1 : ixD (D2 p q) (.int 0) = some (.int p) := rfl
  have hs : (decide (i = 1) || decide (i = -1)) = true := by rcases hi with rfl | rfl <;> rfl
  have he : (decide (p = p') && decide (q = q')) = true := by rw [decide_eq_true hq, decide_eq_true hqq]; rfl
  have hb : (decide (1 ≤ b) && decide (b ≤ 1)) = decide (b = 1) := by
    rw [Bool.eq_iff_iff, Bool.and_eq_true, decide_eq_true_eq, decide_eq_true_eq, decide_eq_true_eq]
    omega
  by_cases h1 : b = 1
  · subst h1
    simp_arith only [G_shows_loops, g_shows_loops, g_shows_loops_1, g_shows_loops_2, g_shows_loops_3, g_shows_loops_4, a0, a1, is_sign_int, hs, hp, small, eqA_D2, he, is_between_int]
  · simp_arith only [G_shows_loops, g_shows_loops, g_shows_loops_1, g_shows_loops_2, g_shows_loops_3, g_shows_loops_4, a0, a1, is_sign_int, hs, hp, small, eqA_D2, he, is_between_int, hb, h1, Bool.false_and]
/-! any values as claims and as pages: what accepts answers, exactly -/
/-- what the law may hand over, of nesting below n -/
def Gd : Nat → D → Prop
  | 0, _ => False
  | _ + 1, .non => True
  | _ + 1, .bl _ => True
  | _ + 1, .int i => i.natAbs < 2 ^ 140
  | _ + 1, .str _ => True
  | n + 1, .tup xs => xs.length ≤ 100 ∧ ∀ x ∈ xs, Gd n x
  | n + 1, .lst xs => xs.length ≤ 100 ∧ ∀ x ∈ xs, Gd n x
  | _ + 1, .dct [] => True
  | n + 1, .dl1 h k d => h = FE.hs k ∧ Gd n d
  | _, _ => False
theorem gd_typ {n : Nat} {d : D} (h : Gd n d) : (typD d).isSome = true := by
  cases n with
  | zero => exact False.elim h
  | succ n => cases d <;> first | rfl | exact False.elim h
theorem gd_wild : ∀ {n : Nat} {d : D}, Gd n d → Wild n d
  | 0, _, h => False.elim h
  | n + 1, d, h => by
    cases d with
    | non => exact True.intro
    | bl b => exact True.intro
    | int i => exact True.intro
    | str x => exact True.intro
    | tup xs => exact fun x hx => gd_wild (h.2 x hx)
    | lst xs => exact fun x hx => gd_wild (h.2 x hx)
    | dct kvs =>
      cases kvs with
      | nil => exact True.intro
      | cons _ _ => exact False.elim h
    | dl1 a k d => exact ⟨h.1, gd_wild h.2⟩
    | _ => exact False.elim h
theorem gd_mono : ∀ {n m : Nat} {d : D}, Gd n d → n ≤ m → Gd m d
  | 0, _, _, h, _ => False.elim h
  | n + 1, 0, _, _, l => by omega
  | n + 1, m + 1, d, h, l => by
    cases d with
    | non => exact True.intro
    | bl b => exact True.intro
    | int i => exact h
    | str x => exact True.intro
    | tup xs => exact ⟨h.1, fun x hx => gd_mono (h.2 x hx) (by omega)⟩
    | lst xs => exact ⟨h.1, fun x hx => gd_mono (h.2 x hx) (by omega)⟩
    | dct kvs =>
      cases kvs with
      | nil => exact True.intro
      | cons _ _ => exact False.elim h
    | dl1 a k d => exact ⟨h.1, gd_mono h.2 (by omega)⟩
    | _ => exact False.elim h
theorem gd_strB {n : Nat} {d : D} (h : Gd n d) : strB d = true := by
  cases n with
  | zero => exact False.elim h
  | succ n =>
    cases d with
    | tup xs => exact Bool.and_eq_true_iff.mpr ⟨decide_eq_true (Nat.le_trans h.1 (by decide)), List.all_eq_true.mpr fun x hx => gd_typ (h.2 x hx)⟩
    | _ => exact gd_typ h
theorem gd_paper {n : Nat} {d : D} (h : Gd n d) : paperB d = true := by
  cases n with
  | zero => exact False.elim h
  | succ n =>
    cases d with
    | tup xs => exact Bool.and_eq_true_iff.mpr ⟨decide_eq_true (Nat.le_trans h.1 (by decide)), List.all_eq_true.mpr fun x hx => gd_strB (h.2 x hx)⟩
    | _ => exact gd_typ h
/-! pairs -/
def pairQ : D → Bool
  | .tup [.int p, .int q] => pairB p q
  | _ => false
theorem pairQ_of {d : D} (h : pairQ d = true) : ∃ p q : Int, d = D2 p q ∧ pairB p q = true := by
  unfold pairQ at h
  split at h
  · exact ⟨_, _, rfl, h⟩
  · cases h
theorem pairQ_no {a b : D} (h : isInt a = false ∨ isInt b = false) : pairQ (.tup [a, b]) = false := by
  unfold pairQ
  split
  · rename_i e
    cases e
    rcases h with h | h <;> cases h
  · rfl
theorem pairQ_len {xs : List D} (h : xs.length ≠ 2) : pairQ (.tup xs) = false := by
  unfold pairQ
  split
  · rename_i e
    cases e
    exact absurd rfl h
  · rfl
theorem is_pair_any {n : Nat} {d : D} (h : Gd n d) : G_is_pair [.val d] = .ok (.v (.bl (pairQ d))) [] := by
  cases n with
  | zero => exact False.elim h
  | succ n =>
    cases d with
    | tup xs =>
      by_cases hl : xs.length = 2
      · match xs, hl, h with
        | [a, b], _, h =>
          have ha := gd_typ (h.2 a List.mem_cons_self)
          have hb := gd_typ (h.2 b (List.mem_cons_of_mem _ List.mem_cons_self))
          cases ia : isInt a with
          | false =>
            rw [pairQ_no (.inl ia)]
            exact ipn_el ha hb (.inl ia)
          | true =>
            cases ib : isInt b with
            | false =>
              rw [pairQ_no (.inr ib)]
              exact ipn_el ha hb (.inr ib)
            | true =>
              obtain ⟨p, rfl⟩ := isInt_of ia
              obtain ⟨q, rfl⟩ := isInt_of ib
              exact is_pair_ok p q
      · rw [pairQ_len hl]
        exact ipn_len hl
    | non => exact ipn_kind rfl
    | bl b => exact ipn_kind rfl
    | int i => exact ipn_kind rfl
    | str x => exact ipn_kind rfl
    | lst xs => exact ipn_kind rfl
    | dct kvs => exact ipn_kind rfl
    | dl1 a k d => exact ipn_kind rfl
    | _ => exact False.elim h
def headI : D → Int
  | .tup (.int p :: _) => p
  | _ => 0
def sameQ (a b : D) : Bool := pairQ a && (pairQ b && decide (headI a = headI b))
theorem same_any {n : Nat} {a b : D} (ha : Gd n a) (hb : Gd n b) : G_are_same_size [.val a, .val b] = .ok (.v (.bl (sameQ a b))) [] := by
  have ea := is_pair_any ha
  have eb := is_pair_any hb
  unfold sameQ
  cases pa : pairQ a with
  | false =>
    rw [pa] at ea
    simp_arith only [G_are_same_size, g_are_same_size, ea, Bool.false_and]
  | true =>
    cases pb : pairQ b with
    | false =>
      rw [pa] at ea
      rw [pb] at eb
      simp_arith only [G_are_same_size, g_are_same_size, ea, eb, Bool.false_and]
    | true =>
      obtain ⟨p, q, rfl, h1⟩ := pairQ_of pa
      obtain ⟨p', q', rfl, h2⟩ := pairQ_of pb
      rw [are_same_size_ok, h1, h2]
      rfl
theorem sameQ_of {a b : D} (h : sameQ a b = true) : ∃ p q q' : Int, a = D2 p q ∧ b = D2 p q' ∧ pairB p q = true ∧ pairB p q' = true := by
  unfold sameQ at h
  rw [Bool.and_eq_true, Bool.and_eq_true, decide_eq_true_eq] at h
  obtain ⟨p, q, rfl, h1⟩ := pairQ_of h.1
  obtain ⟨p', q', rfl, h2⟩ := pairQ_of h.2.1
  have e : p = p' := h.2.2
  subst e
  exact ⟨p, q, q', rfl, rfl, h1, h2⟩
/-! claims -/
def claimB : D → Bool
  | .tup [.str t, a, b] => if t = "led" ∨ t = "apart" then rightB a && rightB b else decide (t = "alike" ∨ t = "for loops" ∨ t = "not for loops") && sameQ a b
  | _ => false
theorem eqv_str (x y : Str) : eqd (.str x) (.str y) = decide (x = y) := by
  show (x == y) = _
  rw [Bool.eq_iff_iff, beq_iff_eq, decide_eq_true_eq]
theorem in_2 (t a b : Str) : inA (.str t) (.tup [.str a, .str b]) = some (.bl (decide (t = a ∨ t = b))) := by
  show some (D.bl (eqd (.str a) (.str t) || (eqd (.str b) (.str t) || false))) = _
  rw [eqv_str, eqv_str]
  congr 2
  rw [Bool.eq_iff_iff]
  simp only [Bool.or_false, Bool.or_eq_true, decide_eq_true_eq]
  constructor <;> rintro (rfl | rfl) <;> simp
theorem in_3 (t a b c : Str) : inA (.str t) (.tup [.str a, .str b, .str c]) = some (.bl (decide (t = a ∨ t = b ∨ t = c))) := by
  show some (D.bl (eqd (.str a) (.str t) || (eqd (.str b) (.str t) || (eqd (.str c) (.str t) || false)))) = _
  rw [eqv_str, eqv_str, eqv_str]
  congr 2
  rw [Bool.eq_iff_iff]
  simp only [Bool.or_false, Bool.or_eq_true, decide_eq_true_eq]
  constructor <;> rintro (rfl | rfl | rfl) <;> simp
theorem ip3_0 (a b c : D) : ixD (.tup [a, b, c]) (.int 0) = some a := rfl
theorem ip3_1 (a b c : D) : ixD (.tup [a, b, c]) (.int 1) = some b := rfl
theorem ip3_2 (a b c : D) : ixD (.tup [a, b, c]) (.int 2) = some c := rfl
theorem claimB_len {xs : List D} (h : xs.length ≠ 3) : claimB (.tup xs) = false := by
  unfold claimB
  split
  · rename_i e
    cases e
    exact absurd rfl h
  · rfl
theorem claimB_of {d : D} (h : claimB d = true) : ∃ (t : Str) (a b : D), d = .tup [.str t, a, b] := by
  unfold claimB at h
  split at h
  · exact ⟨_, _, _, rfl⟩
  · cases h
theorem is_claim_any {n : Nat} {d : D} (h : Gd (n + 1) d) : G_is_claim [.val d] = .ok (.v (.bl (claimB d))) [] := by
  cases d with
  | tup xs =>
    by_cases hl : xs.length = 3
    · match xs, hl, h with
      | [x, a, b], _, h =>
        have hx := h.2 x List.mem_cons_self
        have ha := h.2 a (List.mem_cons_of_mem _ List.mem_cons_self)
        have hb := h.2 b (List.mem_cons_of_mem _ (List.mem_cons_of_mem _ List.mem_cons_self))
        have tx := gd_typ hx
        cases x with
        | str t =>
          have i2 := in_2 t "led" "apart"
          have i3 := in_3 t "alike" "for loops" "not for loops"
          have sa := is_string_ok (gd_strB ha)
          have sb := is_string_ok (gd_strB hb)
          have ss := same_any ha hb
          unfold claimB
          dsimp only
          by_cases c1 : t = "led" ∨ t = "apart"
          · rw [if_pos c1]
            rw [decide_eq_true c1] at i2
            cases ra : rightB a with
            | false =>
              rw [ra] at sa
              simp_arith only [G_is_claim, g_is_claim, ip3_0, ip3_1, ip3_2, i2, sa, Bool.false_and]
            | true =>
              rw [ra] at sa
              simp_arith only [G_is_claim, g_is_claim, ip3_0, ip3_1, ip3_2, i2, sa, sb]
          · rw [if_neg c1]
            rw [decide_eq_false c1] at i2
            by_cases c2 : t = "alike" ∨ t = "for loops" ∨ t = "not for loops"
            · rw [decide_eq_true c2] at i3 ⊢
              simp_arith only [G_is_claim, g_is_claim, ip3_0, ip3_1, ip3_2, i2, i3, ss]
            · rw [decide_eq_false c2] at i3 ⊢
              simp_arith only [G_is_claim, g_is_claim, ip3_0, ip3_1, ip3_2, i2, i3, Bool.false_and]
        | _ => first | (cases tx; done) | simp_arith only [G_is_claim, g_is_claim, ip3_0, claimB]
    · have hl' : ¬ (xs.length : Int) = 3 := by omega
      rw [claimB_len hl]
      simp_arith only [G_is_claim, g_is_claim, hl']
  | _ => first | exact False.elim h | simp_arith only [G_is_claim, g_is_claim, claimB]
/-! == of any two values -/
theorem eqA_bl {x y d : D} (h : eqA x y = some d) : ∃ b : Bool, d = .bl b := by
  unfold eqA at h
  split at h
  · cases h
    exact ⟨_, rfl⟩
  · split at h
    · cases h
      exact ⟨_, rfl⟩
    · unfold eqD at h
      split at h
      · cases h
        exact ⟨_, rfl⟩
      · cases h
theorem eqW_of {x y d : D} (h : eqA x y = some d) : eqW x y = some d := by
  unfold eqW
  rw [h]
theorem eqW_str (a b : Str) : eqW (.str a) (.str b) = some (.bl (decide (a = b))) := eqW_of rfl
theorem eqW_any {x y : D} (hx : Gd 16 x) (hy : Gd 16 y) : ∃ b : Bool, eqW x y = some (.bl b) := by
  cases h : eqA x y with
  | some d =>
    obtain ⟨b, rfl⟩ := eqA_bl h
    exact ⟨b, eqW_of h⟩
  | none =>
    refine ⟨eqwB 16 x y, ?_⟩
    unfold eqW
    rw [h]
    exact if_pos ⟨gd_wild hx, gd_wild hy⟩
theorem eqW_nil {xs : List D} (hx : Gd 16 (.tup xs)) : eqW (.tup xs) (.tup []) = some (.bl xs.isEmpty) := by
  cases xs with
  | nil => exact eqW_of rfl
  | cons x xs =>
    cases h : eqA (.tup (x :: xs)) (.tup []) with
    | some d =>
      rw [eqW_of h]
      have h : eqD (.tup (x :: xs)) (.tup []) = some d := h
      unfold eqD at h
      split at h
      · exact h.symm.trans rfl
      · cases h
    | none =>
      unfold eqW
      rw [h]
      exact (if_pos ⟨gd_wild hx, (show Wild 16 (.tup []) from fun z hz => absurd hz List.not_mem_nil)⟩).trans rfl

theorem elt_any {n : Nat} {r : List Int} (hr : ∀ b ∈ r, b.natAbs < 18446744073709551616) {x : D} (h : Gd n x) : Elt r x := by
  have ip := is_pair_any h
  by_cases hx : ∃ a b : Int, x = D2 a b
  · obtain ⟨a, b, rfl⟩ := hx
    exact elt_pair hr a b
  · have e : pairQ x = false := by
      cases pq : pairQ x with
      | false => rfl
      | true =>
        obtain ⟨p, q, rfl, _⟩ := pairQ_of pq
        exact absurd ⟨p, q, rfl⟩ hx
    rw [e] at ip
    exact elt_no hr ip fun a b z => hx ⟨a, b, z⟩
/-- is it the pair of a string -/
def pofB (r : List Int) : D → Bool
  | .tup [.int p, .int q] => decide (p = ((pQ r).1 : Int)) && decide (q = ((pQ r).2 : Int))
  | _ => false
theorem pofB_iff {r : List Int} {x : D} : pofB r x = true ↔ x = pE (pQ r) := by
  constructor
  · intro h
    unfold pofB at h
    split at h
    · rw [Bool.and_eq_true, decide_eq_true_eq, decide_eq_true_eq] at h
      rw [h.1, h.2]
    · cases h
  · rintro rfl
    show (decide (((pQ r).1 : Int) = ((pQ r).1 : Int)) && decide (((pQ r).2 : Int) = ((pQ r).2 : Int))) = true
    rw [decide_eq_true rfl, decide_eq_true rfl]
    rfl
theorem pof_any {n : Nat} {r : List Int} (hr : ∀ b ∈ r, b.natAbs < 18446744073709551616) {x : D} (h : Gd n x) : G_is_pair_of [.val x, .val (SD r)] = .ok (.v (.bl (pofB r x))) [] := by
  obtain ⟨b, e, hb⟩ := elt_any hr h
  rw [e, show b = pofB r x from by rw [Bool.eq_iff_iff, hb, pofB_iff]]
def apartB (a b : List Int) : D → Bool
  | .tup [x, y] => pofB a x && (pofB b y && !decide (pQ a = pQ b))
  | _ => false
theorem apartB_len {a b : List Int} {xs : List D} (h : xs.length ≠ 2) : apartB a b (.tup xs) = false := by
  unfold apartB
  split
  · rename_i e
    cases e
    exact absurd rfl h
  · rfl
theorem apart_any {n : Nat} {a b : List Int} (ha : ∀ x ∈ a, x.natAbs < 18446744073709551616) (hb : ∀ x ∈ b, x.natAbs < 18446744073709551616) {d : D} (h : Gd 16 d) : G_shows_apart [.val (SD a), .val (SD b), .val d] = .ok (.v (.bl (apartB a b d))) [] := by
  cases d with
  | tup xs =>
    by_cases hl : xs.length = 2
    · match xs, hl, h with
      | [x, y], _, h =>
        have hx := h.2 x List.mem_cons_self
        have hy := h.2 y (List.mem_cons_of_mem _ List.mem_cons_self)
        obtain ⟨b0, eb⟩ := eqW_any (gd_mono hx (by decide)) (gd_mono hy (by decide))
        have ea := pof_any ha hx
        have ec := pof_any hb hy
        unfold apartB
        dsimp only
        cases pa : pofB a x with
        | false =>
          rw [pa] at ea
          cases b0 with
          | true => simp_arith only [G_shows_apart, g_shows_apart, ip2_0, ip2_1, eb, Bool.false_and]
          | false => simp_arith only [G_shows_apart, g_shows_apart, ip2_0, ip2_1, eb, ea, Bool.false_and]
        | true =>
          rw [pa] at ea
          cases pb : pofB b y with
          | false =>
            rw [pb] at ec
            cases b0 with
            | true => simp_arith only [G_shows_apart, g_shows_apart, ip2_0, ip2_1, eb, Bool.false_and]
            | false => simp_arith only [G_shows_apart, g_shows_apart, ip2_0, ip2_1, eb, ea, ec, Bool.false_and]
          | true =>
            rw [pb] at ec
            have qx := pofB_iff.mp pa
            have qy := pofB_iff.mp pb
            have eq : eqW (pE (pQ a)) (pE (pQ b)) = _ := eqW_of (eqA_D2 (pQ a).1 (pQ a).2 (pQ b).1 (pQ b).2)
            have e0 : (decide (((pQ a).1 : Int) = (pQ b).1) && decide (((pQ a).2 : Int) = (pQ b).2)) = decide (pQ a = pQ b) := by
              rw [Bool.eq_iff_iff, Bool.and_eq_true, decide_eq_true_eq, decide_eq_true_eq, decide_eq_true_eq, Prod.ext_iff]
              omega
            rw [e0] at eq
            rw [qx, qy] at eb
            rw [eq] at eb
            have eb : decide (pQ a = pQ b) = b0 := by
              cases eb
              rfl
            rw [← qx, ← qy, eb] at eq
            rw [eb]
            cases b0 with
            | true => simp_arith only [G_shows_apart, g_shows_apart, ip2_0, ip2_1, eq]
            | false => simp_arith only [G_shows_apart, g_shows_apart, ip2_0, ip2_1, eq, ea, ec]
    · have hl' : ¬ (xs.length : Int) = 2 := by omega
      rw [apartB_len hl]
      simp_arith only [G_shows_apart, g_shows_apart, hl']
  | _ => first | exact False.elim h | simp_arith only [G_shows_apart, g_shows_apart, apartB]
/-! alike -/
def alikeP (p q q' : Int) : D → Bool
  | .int i => (decide (i = 1) || decide (i = -1)) && (if p < 2 then decide (i = 1) && decide (q = q') else decide ((i * q - q') % p = 0) || decide ((q * q' - i) % p = 0))
  | _ => false
theorem pair_bound {p q : Int} (h : pairB p q = true) : 0 ≤ p ∧ 0 ≤ q ∧ (q < p ∨ q = 1) := by
  unfold pairB at h
  split at h
  · have := of_decide_eq_true h
    omega
  · rw [Bool.and_eq_true, Bool.and_eq_true, decide_eq_true_eq, decide_eq_true_eq] at h
    omega
theorem p140 : (2 : Nat) ^ 140 ≤ 2 ^ 200 := by decide
theorem alike_any {n : Nat} {p q q' : Int} (h1 : pairB p q = true) (h2 : pairB p q' = true) (hp : p.natAbs < 2 ^ 140) {x : D} (h : Gd n x) : G_shows_alike [.val (D2 p q), .val (D2 p q'), .val x] = .ok (.v (.bl (alikeP p q q' x))) [] := by
  have ty := gd_typ h
  have b1 := pair_bound h1
  have b2 := pair_bound h2
  cases hs : signB x with
  | false =>
    rw [shows_alike_no ty hs]
    unfold alikeP
    split
    · rename_i i
      have hs : (decide (i = 1) || decide (i = -1)) = false := hs
      rw [hs]
      rfl
    · rfl
  | true =>
    cases x with
    | int i =>
      have hs : (decide (i = 1) || decide (i = -1)) = true := hs
      have hi : i = 1 ∨ i = -1 := by simpa using hs
      unfold alikeP
      dsimp only
      rw [hs, Bool.true_and]
      by_cases c : p < 2
      · rw [shows_alike_one hi c, if_pos c, decide_eq_true (rfl : p = p), Bool.true_and]
      · have := p140
        rw [shows_alike_big hi (by omega) (by omega) (by omega), if_neg c]
    | _ => cases hs
/-! for loops -/
def loopsP (p q q' : Int) : D → Bool
  | .tup [.int i, .int b] => (decide (i = 1) || decide (i = -1)) && (if p < 2 then decide (b = 1) && decide (i = 1) else decide (1 ≤ b) && (decide (b ≤ p) && (decide (Int.gcd p b = 1) && decide ((i * q * b * b - q') % p = 0))))
  | _ => false
theorem lg_of {x : Int} {k : Nat} (h : x.natAbs < 2 ^ (k + 1)) : x.natAbs.log2 ≤ k := log2_le_of h
theorem mul_bd {x y : Int} {k l : Nat} (h1 : x.natAbs < 2 ^ k) (h2 : y.natAbs < 2 ^ l) : (x * y).natAbs < 2 ^ (k + l) := by
  rw [Int.natAbs_mul, Nat.pow_add]
  exact Nat.mul_lt_mul'' h1 h2
theorem loops_great {p q p' q' i b : Int} (hi : i = 1 ∨ i = -1) (hp : 2 ≤ p) (hpb : p.natAbs < 2 ^ 140) (hq : q.natAbs < 2 ^ 140) : G_shows_loops [.val (D2 p q), .val (D2 p' q'), .val (D2 i b)] =
    .ok (.v (.bl (decide (1 ≤ b) && (decide (b ≤ p) && (decide (Int.gcd p b = 1) && decide ((i * q * b * b - q') % p = 0)))))) [] := by
  have a1 : ∀ p q : Int, ixD (D2 p q) (.int 0) = some (.int p) := fun _ _ => rfl
  have a2 : ∀ p q : Int, ixD (D2 p q) (.int 1) = some (.int q) := fun _ _ => rfl
  have hs : (decide (i = 1) || decide (i = -1)) = true := by rcases hi with rfl | rfl <;> rfl
  have hp' : ¬ p < 2 := by omega
  have m1 : mulD (.int i) (.int q) = some (.int (i * q)) := mulD_l (by omega)
  have f : ∀ x : Int, modD (.int x) (.int p) = some (.int (x % p)) := fun x => modD_pos (by omega)
  by_cases h1 : 1 ≤ b
  · by_cases h2 : b ≤ p
    · have g := common_ok (a := p) (b := b) (by omega) (by omega)
      have hb : b.natAbs < 2 ^ 140 := by omega
      have hiq : (i * q).natAbs < 2 ^ 140 := by rcases hi with rfl | rfl <;> simpa using hq
      have m2 : mulD (.int (i * q)) (.int b) = some (.int (i * q * b)) := mulD_w (by have := p140; omega) (by have := p140; omega)
      have m3 : mulD (.int (i * q * b)) (.int b) = some (.int (i * q * b * b)) := mulD_g (by
        have l0 : (i * q * b).natAbs < 2 ^ (279 + 1) := mul_bd (k := 140) (l := 140) hiq hb
        have l1 := lg_of (k := 279) l0
        have l2 := lg_of (k := 139) hb
        omega)
      have ei : ((Int.gcd p b : Nat) : Int) = 1 ↔ Int.gcd p b = 1 := by omega
      by_cases h3 : Int.gcd p b = 1
      · simp_arith only [G_shows_loops, g_shows_loops, g_shows_loops_1, g_shows_loops_2, g_shows_loops_3, g_shows_loops_4, a1, a2, is_sign_int, hs, hp', small, is_between_int, h1, h2, g, ei, h3, m1, m2, m3, f]
      · simp_arith only [G_shows_loops, g_shows_loops, g_shows_loops_1, g_shows_loops_2, g_shows_loops_3, g_shows_loops_4, a1, a2, is_sign_int, hs, hp', small, is_between_int, h1, h2, g, ei, h3, Bool.false_and]
    · simp_arith only [G_shows_loops, g_shows_loops, g_shows_loops_1, g_shows_loops_2, g_shows_loops_3, g_shows_loops_4, a1, a2, is_sign_int, hs, hp', small, is_between_int, h1, h2, Bool.false_and, Bool.and_false]
  · simp_arith only [G_shows_loops, g_shows_loops, g_shows_loops_1, g_shows_loops_2, g_shows_loops_3, g_shows_loops_4, a1, a2, is_sign_int, hs, hp', small, is_between_int, h1, Bool.false_and]
theorem loopsP_no {p q q' : Int} {d : D} (h : ∀ i b : Int, d = .tup [.int i, .int b] → (decide (i = 1) || decide (i = -1)) = false) : loopsP p q q' d = false := by
  unfold loopsP
  split
  · rename_i i b
    rw [h i b rfl]
    rfl
  · rfl
theorem loops_any {n : Nat} {p q q' : Int} (h1 : pairB p q = true) (h2 : pairB p q' = true) (hp : p.natAbs < 2 ^ 140) {x : D} (h : Gd n x) : G_shows_loops [.val (D2 p q), .val (D2 p q'), .val x] = .ok (.v (.bl (loopsP p q q' x))) [] := by
  have ty := gd_typ h
  have b1 := pair_bound h1
  have b2 := pair_bound h2
  by_cases hx : ∃ u v, x = .tup [u, v]
  · obtain ⟨u, v, rfl⟩ := hx
    cases n with
    | zero => exact False.elim h
    | succ n =>
      have hu := gd_typ (h.2 u List.mem_cons_self)
      have hv := gd_typ (h.2 v (List.mem_cons_of_mem _ List.mem_cons_self))
      cases hs : signB u with
      | false =>
        rw [loops_nosign hu hs, loopsP_no fun i b e => by
          cases e
          exact hs]
      | true =>
        cases u with
        | int i =>
          have hs : (decide (i = 1) || decide (i = -1)) = true := hs
          have hi : i = 1 ∨ i = -1 := by simpa using hs
          cases iv : isInt v with
          | false =>
            rw [loops_noint hi hv iv, show loopsP p q q' (.tup [.int i, v]) = false from by
              unfold loopsP
              split
              · rename_i e
                cases e
                cases iv
              · rfl]
          | true =>
            obtain ⟨b, rfl⟩ := isInt_of iv
            show _ = RG.ok (Res.v (D.bl ((decide (i = 1) || decide (i = -1)) && _))) []
            rw [hs, Bool.true_and]
            by_cases c : p < 2
            · rw [if_pos c]
              refine loops_one hi c rfl ?_
              unfold pairB at h1 h2
              by_cases z : p = 0
              · rw [if_pos z] at h1 h2
                have e1 := of_decide_eq_true h1
                have e2 := of_decide_eq_true h2
                omega
              · rw [if_neg z, Bool.and_eq_true, Bool.and_eq_true, decide_eq_true_eq, decide_eq_true_eq] at h1
                rw [if_neg z, Bool.and_eq_true, Bool.and_eq_true, decide_eq_true_eq, decide_eq_true_eq] at h2
                omega
            · rw [if_neg c]
              exact loops_great hi (by omega) hp (by omega)
        | _ => cases hs
  · rw [loops_not ty fun u v e => hx ⟨u, v, e⟩, loopsP_no fun i b e => absurd ⟨_, _, e⟩ hx]

/-! not for loops -/
def unitP (p q q' : Int) (k : Nat) : Bool := decide (Int.gcd p (k : Int) = 1) && (decide (q * k * k % p = q') || decide (q * k * k % p = p - q'))
def notP (p q q' : Int) : Bool := (decide (2 ≤ p) && decide (p ≤ 2000)) && (List.range (p.toNat - 1)).all fun k => !unitP p q q' (k + 1)
theorem not_any {p q p' q' : Int} (hq : q.natAbs < 2 ^ 140) : G_are_apart_for_loops [.val (D2 p q), .val (D2 p' q')] = .ok (.v (.bl (notP p q q'))) [] := by
  have a0 : ixD (D2 p q) (.int 0) = some (.int p) := rfl
  have a1 : ∀ p q : Int, ixD (D2 p q) (.int 1) = some (.int q) := fun _ _ => rfl
  unfold notP
  by_cases c1 : 2 ≤ p
  · by_cases c2 : p ≤ 2000
    · have f : ∀ x : Int, modD (.int x) (.int p) = some (.int (x % p)) := fun x => modD_pos (by omega)
      have r := rng2_ok (g := cnsA (cst (.int 1)) (cnsA (vr 2) nilA)) (ρ := [.val (D2 p q), .val (D2 p' q'), .val (.int p), .no]) (ρ' := [.val (D2 p q), .val (D2 p' q'), .val (.int p), .no]) (m := 1) (n := p) (by simp_arith only []) (rgOk_of (by omega) (by omega)) (rgOk_of (by omega) (by omega))
      have key := forL_find (ks := []) (g := nmG 3) (b := b_are_apart_for_loops_1) (fun ρ => ∃ c3, ρ = [.val (D2 p q), .val (D2 p' q'), .val (.int p), c3]) (fun k => unitP p q q' (k + 1)) (.v (.bl false)) (rangeL 1 (p - 1).toNat) 0 [.val (D2 p q), .val (D2 p' q'), .val (.int p), .no] ⟨.no, rfl⟩ (by
        rintro i d ρ ⟨c3, rfl⟩ hd
        obtain ⟨hi, rfl⟩ := rangeL_get _ _ _ _ hd
        rw [Nat.zero_add, show (1 : Int) + (i : Int) = ((i + 1 : Nat) : Int) by omega]
        have hk : i + 1 ≤ 2000 := by omega
        generalize i + 1 = k at *
        have g := common_ok (a := p) (b := (k : Int)) (by omega) (by omega)
        have ei : ((Int.gcd p (k : Int) : Nat) : Int) = 1 ↔ Int.gcd p (k : Int) = 1 := by omega
        have m : ∀ x : Int, mulD (.int x) (.int (k : Int)) = some (.int (x * k)) := fun x => mulD_r (by omega)
        refine ⟨[.val (D2 p q), .val (D2 p' q'), .val (.int p), .val (.int k)], rfl, ?_, ?_⟩
        · intro h
          unfold unitP at h
          rw [Bool.and_eq_true, decide_eq_true_eq] at h
          have h2 := h.2
          refine ⟨[.val (D2 p q), .val (D2 p' q'), .val (.int p), .val (.int k)], ?_⟩
          simp_arith only [b_are_apart_for_loops_1, a1, g, ei, h.1, m, f, inA_int2, h2, small]
        · intro h
          refine ⟨[.val (D2 p q), .val (D2 p' q'), .val (.int p), .val (.int k)], ?_, .val (.int k), rfl⟩
          unfold unitP at h
          by_cases h1 : Int.gcd p (k : Int) = 1
          · rw [decide_eq_true h1, Bool.true_and] at h
            simp_arith only [b_are_apart_for_loops_1, a1, g, ei, h1, m, f, inA_int2, h, small]
          · simp_arith only [b_are_apart_for_loops_1, a1, g, ei, h1])
      rw [rangeL_length] at key
      have el : (p - 1).toNat = p.toNat - 1 := by omega
      rw [el] at key r
      rw [decide_eq_true c1, decide_eq_true c2, Bool.true_and]
      have p1 := decide_eq_true c1
      have p2 := decide_eq_true c2
      rcases key with ⟨⟨i, hi, hu⟩, ρ', e⟩ | ⟨hall, ρ', e, c3, rfl⟩
      · have en : ((List.range (p.toNat - 1)).all fun k => !unitP p q q' (k + 1)) = false := by
          rw [Bool.eq_false_iff]
          intro z
          have := List.all_eq_true.mp z i (List.mem_range.mpr hi)
          rw [Nat.zero_add] at hu
          rw [hu] at this
          cases this
        rw [en, Bool.true_and]
        simp_arith only [G_are_apart_for_loops, g_are_apart_for_loops, g_are_apart_for_loops_1, g_are_apart_for_loops_2, g_are_apart_for_loops_3, a0, p1, p2, forS_eq, r, e]
      · have en : ((List.range (p.toNat - 1)).all fun k => !unitP p q q' (k + 1)) = true := by
          rw [List.all_eq_true]
          intro i hi
          have := hall i (List.mem_range.mp hi)
          rw [Nat.zero_add] at this
          rw [this]
          rfl
        rw [en, Bool.true_and]
        simp_arith only [G_are_apart_for_loops, g_are_apart_for_loops, g_are_apart_for_loops_1, g_are_apart_for_loops_2, g_are_apart_for_loops_3, a0, p1, p2, forS_eq, r, e]
    · have p1 := decide_eq_true c1
      have p2 := decide_eq_false c2
      rw [p1, p2]
      simp_arith only [G_are_apart_for_loops, g_are_apart_for_loops, g_are_apart_for_loops_1, g_are_apart_for_loops_2, g_are_apart_for_loops_3, a0, p1, p2, Bool.false_and, Bool.and_false]
  · have p1 := decide_eq_false c1
    rw [p1]
    simp_arith only [G_are_apart_for_loops, g_are_apart_for_loops, g_are_apart_for_loops_1, g_are_apart_for_loops_2, g_are_apart_for_loops_3, a0, p1, Bool.false_and]
/-! what accepts answers -/
def emptyB : D → Bool
  | .tup [] => true
  | _ => false
def tailI : D → Int
  | .tup [_, .int q] => q
  | _ => 0
def accB (c p : D) : Bool := claimB c && match c with
  | .tup [.str t, a, b] => if t = "led" then rowB (intsOf a) (intsOf b) p else if t = "apart" then apartB (intsOf a) (intsOf b) p else if t = "alike" then alikeP (headI a) (tailI a) (tailI b) p else if t = "for loops" then loopsP (headI a) (tailI a) (tailI b) p else emptyB p && notP (headI a) (tailI a) (tailI b)
  | _ => false
theorem accepts_any {c p : D} (hc : Gd 16 c) (hp : Gd 16 p) : G_accepts [.val c, .val p] = .ok (.v (.bl (accB c p))) [] := by
  have ic := is_claim_any hc
  unfold accB
  cases hb : claimB c with
  | false =>
    rw [hb] at ic
    rw [Bool.false_and]
    simp_arith only [G_accepts, g_accepts, g_accepts_1, g_accepts_2, g_accepts_3, g_accepts_4, g_accepts_5, g_accepts_6, ic]
  | true =>
    rw [hb] at ic
    obtain ⟨t, a, b, rfl⟩ := claimB_of hb
    have ga : Gd 15 a := hc.2 a (List.mem_cons_of_mem _ List.mem_cons_self)
    have gb : Gd 15 b := hc.2 b (List.mem_cons_of_mem _ (List.mem_cons_of_mem _ List.mem_cons_self))
    rw [Bool.true_and]
    dsimp only
    unfold claimB at hb
    dsimp only at hb
    have w1 := eqW_str t "led"
    have w2 := eqW_str t "apart"
    have w3 := eqW_str t "alike"
    have w4 := eqW_str t "for loops"
    by_cases c1 : t = "led"
    · rw [if_pos (.inl c1), Bool.and_eq_true] at hb
      rw [if_pos c1]
      rw [decide_eq_true c1] at w1
      obtain ⟨e1, _⟩ := right_SD hb.1
      obtain ⟨e2, _⟩ := right_SD hb.2
      have s := shows_led_ok (a := intsOf a) (b := intsOf b) (gd_paper hp)
      rw [← e1, ← e2] at s
      simp_arith only [G_accepts, g_accepts, g_accepts_1, g_accepts_2, g_accepts_3, g_accepts_4, g_accepts_5, g_accepts_6, ic, w1, s]
    · rw [if_neg c1]
      rw [decide_eq_false c1] at w1
      by_cases c2 : t = "apart"
      · rw [if_pos (.inr c2), Bool.and_eq_true] at hb
        rw [if_pos c2]
        rw [decide_eq_true c2] at w2
        obtain ⟨e1, _, b1⟩ := right_SD hb.1
        obtain ⟨e2, _, b2⟩ := right_SD hb.2
        have s := apart_any (n := 0) (a := intsOf a) (b := intsOf b) (fun x hx => by have := b1 x hx; omega) (fun x hx => by have := b2 x hx; omega) hp
        rw [← e1, ← e2] at s
        simp_arith only [G_accepts, g_accepts, g_accepts_1, g_accepts_2, g_accepts_3, g_accepts_4, g_accepts_5, g_accepts_6, ic, w1, w2, s]
      · rw [if_neg (fun z => z.elim c1 c2), Bool.and_eq_true] at hb
        rw [if_neg c2]
        rw [decide_eq_false c2] at w2
        obtain ⟨q0, q, q', rfl, rfl, h1, h2⟩ := sameQ_of hb.2
        have hq0 : q0.natAbs < 2 ^ 140 := ga.2 _ List.mem_cons_self
        have hq : q.natAbs < 2 ^ 140 := ga.2 _ (List.mem_cons_of_mem _ List.mem_cons_self)
        show _ = RG.ok (Res.v (D.bl (if t = "alike" then alikeP q0 q q' p else if t = "for loops" then loopsP q0 q q' p else emptyB p && notP q0 q q'))) []
        by_cases c3 : t = "alike"
        · rw [if_pos c3]
          rw [decide_eq_true c3] at w3
          have s := alike_any h1 h2 hq0 hp
          simp_arith only [G_accepts, g_accepts, g_accepts_1, g_accepts_2, g_accepts_3, g_accepts_4, g_accepts_5, g_accepts_6, ic, w1, w2, w3, s]
        · rw [if_neg c3]
          rw [decide_eq_false c3] at w3
          by_cases c4 : t = "for loops"
          · rw [if_pos c4]
            rw [decide_eq_true c4] at w4
            have s := loops_any h1 h2 hq0 hp
            simp_arith only [G_accepts, g_accepts, g_accepts_1, g_accepts_2, g_accepts_3, g_accepts_4, g_accepts_5, g_accepts_6, ic, w1, w2, w3, w4, s]
          · rw [if_neg c4]
            rw [decide_eq_false c4] at w4
            have s := not_any (p := q0) (q := q) (p' := q0) (q' := q') hq
            cases p with
            | tup xs =>
              have w5 := eqW_nil hp
              cases xs with
              | nil =>
                have s0 : small 0 = true := rfl
                have w5 : eqW (.tup []) (.tup []) = some (.bl true) := w5
                simp_arith only [G_accepts, g_accepts, g_accepts_1, g_accepts_2, g_accepts_3, g_accepts_4, g_accepts_5, g_accepts_6, ic, w1, w2, w3, w4, s0, w5, s, emptyB]
              | cons y ys =>
                have s0 : small 0 = true := rfl
                have w5 : eqW (.tup (y :: ys)) (.tup []) = some (.bl false) := w5
                simp_arith only [G_accepts, g_accepts, g_accepts_1, g_accepts_2, g_accepts_3, g_accepts_4, g_accepts_5, g_accepts_6, ic, w1, w2, w3, w4, s0, w5, emptyB, Bool.false_and]
            | _ => first | exact False.elim hp | simp_arith only [G_accepts, g_accepts, g_accepts_1, g_accepts_2, g_accepts_3, g_accepts_4, g_accepts_5, g_accepts_6, ic, w1, w2, w3, w4, emptyB, Bool.false_and]

/-! what the law hands over, and that accepts refuses it: by reckoning -/
def unL : RG → List D
  | .ok (.v (.lst xs)) [] => xs
  | _ => []
def isL : RG → Bool
  | .ok (.v (.lst _)) [] => true
  | _ => false
theorem isL_of {r : RG} (h : isL r = true) : r = .ok (.v (.lst (unL r))) [] := by
  unfold isL at h
  split at h
  · rfl
  · cases h
def bankL : List D := unL (G__law_bank [])
theorem bank_ok : G__law_bank [] = .ok (.v (.lst bankL)) [] := isL_of (by decide +kernel)
def othL (d : D) : List D := unL (G__law_others [.val d])
def gdB : Nat → D → Bool
  | 0, _ => false
  | _ + 1, .non => true
  | _ + 1, .bl _ => true
  | _ + 1, .int i => decide (i.natAbs < 2 ^ 140)
  | _ + 1, .str _ => true
  | n + 1, .tup xs => decide (xs.length ≤ 100) && xs.all (gdB n)
  | n + 1, .lst xs => decide (xs.length ≤ 100) && xs.all (gdB n)
  | _ + 1, .dct [] => true
  | _, _ => false
theorem gdB_of : ∀ {n : Nat} {d : D}, gdB n d = true → Gd n d
  | 0, _, h => by cases h
  | n + 1, d, h => by
    cases d with
    | non => exact True.intro
    | bl b => exact True.intro
    | int i => exact (of_decide_eq_true h : i.natAbs < 2 ^ 140)
    | str x => exact True.intro
    | tup xs =>
      obtain ⟨h1, h2⟩ := Bool.and_eq_true_iff.mp h
      exact ⟨of_decide_eq_true h1, fun x hx => gdB_of (List.all_eq_true.mp h2 x hx)⟩
    | lst xs =>
      obtain ⟨h1, h2⟩ := Bool.and_eq_true_iff.mp h
      exact ⟨of_decide_eq_true h1, fun x hx => gdB_of (List.all_eq_true.mp h2 x hx)⟩
    | dct kvs =>
      cases kvs with
      | nil => exact True.intro
      | cons _ _ => cases h
    | _ => cases h
/-- claims that are none -/
def wrongL (x a b y : D) (k : Nat) : List D :=
  [.tup ([x, a, b].take k ++ [x, a, b].drop (k + 1)), .tup ([x, a, b].take (k + 1) ++ [x, a, b].drop k), .tup [x, a, b, .tup []], .tup [.tup [x, a, b]], .tup [b, a, x], .lst [x, a, b]] ++
  ([.str "", .str "Led", .str "loops", .non, .int 0, .tup [x], .lst [x], .dct [], y, .str "alike with sides"] : List D).map (fun k => .tup [k, a, b]) ++
  ([.non, .str "", .int 0, .dct [], .tup [.non], .tup [.str "a"], .tup [.bl true], .tup [.int 1000000001, .int 1000000001], .tup [.int 1, .int 1, .non], .tup [.tup []], .tup [.int 6, .int 4], .lst [.int 1, .int 0]] : List D).map (fun v => .tup [x, v, b]) ++
  ([.non, .str "", .int 0, .dct [], .tup [.non], .tup [.str "a"], .tup [.bl true], .tup [.int 1000000001, .int 1000000001], .tup [.int 1, .int 1, .non], .tup [.tup []], .tup [.int 6, .int 4], .lst [.int 1, .int 0]] : List D).map (fun v => .tup [x, a, v])
/-- pages that no claim takes -/
def oddP (p : D) : List D := [.non, .int 0, .bl true, .bl false, .str "", .dct [], .lst [p], .tup [.non], .tup [p, .non], .int 2, .int (-2)]
def spcD (t : Str) : D := match addD (.str t) (.str " ") with
  | some d => d
  | none => .non
def isSp (t : Str) : Bool := match addD (.str t) (.str " ") with
  | some _ => true
  | none => false
theorem isSp_of {t : Str} (h : isSp t = true) : addD (.str t) (.str " ") = some (spcD t) := by
  unfold isSp at h
  unfold spcD
  split at h
  · rename_i e
    rw [e]
  · cases h
def noC (c p : D) : Bool := gdB 8 c && (gdB 8 p && !accB c p)
/-- a row of the bank -/
def rowOk : D → Bool
  | .tup [c, p] => match c with
    | .tup [.str t, a, b] => (gdB 4 c && gdB 4 p) && (accB c p && (isSp t && (((isL (G__law_others [.val c]) && isL (G__law_others [.val p])) && (decide ((othL c).length ≤ 1000) && decide ((othL p).length ≤ 1000))) && (((List.range 3).all (fun k => (wrongL (.str t) a b (spcD t) k).all fun w => noC w p) && ((othL c).drop 1).all fun w => noC w p) && (othL p ++ oddP p).all fun w => noC c w))))
    | _ => false
  | _ => false
theorem bank_all : bankL.all rowOk = true := by decide +kernel
theorem bank_len : bankL.length = 23 := by decide +kernel

/-- a spring that was drawn from at most n times -/
def Sp (n : Nat) (s : M) : Prop := ∃ h m c : Int, s = .lst [.int h, .int m, .int c] ∧ 0 ≤ c ∧ c ≤ n
theorem Sp.mono {m n : Nat} {s : M} (h : Sp m s) (l : m ≤ n) : Sp n s := by
  obtain ⟨a, b, c, e, h0, h1⟩ := h
  exact ⟨a, b, c, e, h0, by omega⟩
theorem drip_ok {n : Nat} {s : M} (hs : Sp n s) {k : Int} (h0 : 0 < k) (h1 : k < 1073741824) (hn : n ≤ 1000000000) : ∃ (d : Int) (s' : M), G__law_drip [.io s, .val (.int k)] = .ok (.v (.int d)) [s'] ∧ 0 ≤ d ∧ d < k ∧ Sp (n + 1) s' := by
  obtain ⟨h, m, c, rfl, c0, c1⟩ := hs
  have i2 : ixN 3 2 = some 2 := rfl
  have i1 : ixN 3 1 = some 1 := rfl
  have i0 : ixN 3 0 = some 0 := rfl
  have a2 : ∀ x y z : D, atI [x, y, z] 2 = some z := fun _ _ _ => rfl
  have a1 : ∀ x y z : D, atI [x, y, z] 1 = some y := fun _ _ _ => rfl
  have a0 : ∀ x y z : D, atI [x, y, z] 0 = some x := fun _ _ _ => rfl
  by_cases hp : 0 < h
  · refine ⟨h % k, .lst [.int (h / k), .int m, .int (c + 1)], ?_, Int.emod_nonneg _ (by omega), Int.emod_lt_of_pos _ h0, _, _, _, rfl, by omega, by omega⟩
    simp_arith only [G__law_drip, g__law_drip, g__law_drip_1, g__law_drip_2, g__law_drip_3, g__law_drip_4, i0, i1, i2, a0, a1, a2, dmC_pos h0 h1, hp]
  · have m1 : mulD (.int 6271) (.int (c + 1)) = some (.int (6271 * (c + 1))) := mulD_l (by decide)
    have m2 : mulD (.int 5) (.int (c + 1)) = some (.int (5 * (c + 1))) := mulD_l (by decide)
    have m3 : mulD (.int (5 * (c + 1))) (.int (c + 1)) = some (.int (5 * (c + 1) * (c + 1))) := mulD_r (by omega)
    have m4 : mulD (.int m) (.int 39119) = some (.int (m * 39119)) := mulD_r (by decide)
    have f1 : ∀ x : Int, modD (.int x) (.int 2147483543) = some (.int (x % 2147483543)) := fun x => modD_pos (by decide)
    have f2 : ∀ x : Int, modD (.int x) (.int k) = some (.int (x % k)) := fun x => modD_pos h0
    have f3 : ∀ x : Int, fdivD (.int x) (.int 3079) = some (.int (x / 3079)) := fun x => fdivD_pos (by decide) (by decide)
    refine ⟨(m * 39119 + (6271 * (c + 1) + 5 * (c + 1) * (c + 1))) % 2147483543 / 3079 % k, .lst [.int h, .int ((m * 39119 + (6271 * (c + 1) + 5 * (c + 1) * (c + 1))) % 2147483543), .int (c + 1)], ?_, Int.emod_nonneg _ (by omega), Int.emod_lt_of_pos _ h0, _, _, _, rfl, by omega, by omega⟩
    simp_arith only [G__law_drip, g__law_drip, g__law_drip_1, g__law_drip_2, g__law_drip_3, g__law_drip_4, i0, i1, i2, a0, a1, a2, hp, m1, m2, m3, m4, f1, f2, f3]

theorem any_ok {n : Nat} {s : M} (hs : Sp n s) {xs : List D} (h0 : xs ≠ []) (h1 : xs.length ≤ 100000) (hn : n ≤ 1000000000) : ∃ (d : D) (s' : M), d ∈ xs ∧ G__law_any [.io s, .val (.lst xs)] = .ok (.v d) [s'] ∧ Sp (n + 1) s' := by
  have hl : 0 < xs.length := List.length_pos_iff.mpr h0
  obtain ⟨i, s', e, i0, i1, hs'⟩ := drip_ok hs (k := xs.length) (by omega) (by omega) hn
  obtain ⟨d, hd, ed⟩ := ixD_lst (xs := xs) i0 i1
  exact ⟨d, s', hd, by simp_arith only [G__law_any, g__law_any, e, ed], hs'⟩

theorem isi_t3 (x a b : D) : ixD (.tup [x, a, b]) (.int 0) = some x := rfl
theorem wrong_ok {t : Str} {a b : D} {s s' : M} {i : Int} (hi : i = 0 ∨ i = 1 ∨ i = 2) (e : G__law_drip [.io s, .val (.int 3)] = .ok (.v (.int i)) [s']) (ht : addD (.str t) (.str " ") = some (spcD t)) : G__law_wrong [.io s, .val (.tup [.str t, a, b])] = .ok (.v (.lst (wrongL (.str t) a b (spcD t) i.toNat))) [s'] := by
  have s0 : small 0 = true := rfl
  have s1 : small 1 = true := rfl
  have s2 : small 2 = true := rfl
  have s3 : small 3 = true := rfl
  have s6 : small 6 = true := rfl
  have s10 : small 10 = true := rfl
  have s11 : small 11 = true := rfl
  have s12 : small 12 = true := rfl
  have pw : powD (.int 10) (.int 9) = some (.int 1000000000) := rfl
  have x0 := isi_t3 (.str t) a b
  have rv : revD (.tup [.str t, a, b]) = some (.tup [b, a, .str t]) := rfl
  have ls : lstC [.tup [.str t, a, b]] = some (.lst [.str t, a, b]) := rfl
  have q1 : ∀ k : D, addD (.tup [k]) (.tup [a, b]) = some (.tup [k, a, b]) := fun _ => rfl
  have q2 : ∀ k : D, addD (.tup [.str t]) (.tup [k]) = some (.tup [.str t, k]) := fun _ => rfl
  have q3 : ∀ k : D, addD (.tup [.str t, k]) (.tup [b]) = some (.tup [.str t, k, b]) := fun _ => rfl
  have q4 : ∀ k : D, addD (.tup [.str t, a]) (.tup [k]) = some (.tup [.str t, a, k]) := fun _ => rfl
  have q5 : addD (.tup [.str t, a, b]) (.tup [.tup []]) = some (.tup [.str t, a, b, .tup []]) := rfl
  have d1 : cutD (.tup [.str t, a, b]) (some 1) none = some (.tup [a, b]) := rfl
  have d2 : cutD (.tup [.str t, a, b]) none (some 1) = some (.tup [.str t]) := rfl
  have d3 : cutD (.tup [.str t, a, b]) (some 2) none = some (.tup [b]) := rfl
  have d4 : cutD (.tup [.str t, a, b]) none (some 2) = some (.tup [.str t, a]) := rfl
  obtain ⟨L1, L2, L3, L4, w1, w2, w3, w4, a1, a2, hL, hL'⟩ : ∃ L1 L2 L3 L4 : List D, cutD (.tup [.str t, a, b]) none (some i) = some (.tup L1) ∧ cutD (.tup [.str t, a, b]) (some (i + 1)) none = some (.tup L2) ∧ cutD (.tup [.str t, a, b]) none (some (i + 1)) = some (.tup L3) ∧ cutD (.tup [.str t, a, b]) (some i) none = some (.tup L4) ∧ addD (.tup L1) (.tup L2) = some (.tup (L1 ++ L2)) ∧ addD (.tup L3) (.tup L4) = some (.tup (L3 ++ L4)) ∧ L1 ++ L2 = [.str t, a, b].take i.toNat ++ [.str t, a, b].drop (i.toNat + 1) ∧ L3 ++ L4 = [.str t, a, b].take (i.toNat + 1) ++ [.str t, a, b].drop i.toNat := by
    rcases hi with rfl | rfl | rfl <;> exact ⟨_, _, _, _, rfl, rfl, rfl, rfl, rfl, rfl, rfl, rfl⟩
  have hd : wrongL (.str t) a b (spcD t) i.toNat = [.tup (L1 ++ L2), .tup (L3 ++ L4), .tup [.str t, a, b, .tup []], .tup [.tup [.str t, a, b]], .tup [b, a, .str t], .lst [.str t, a, b]] ++
      ([.str "", .str "Led", .str "loops", .non, .int 0, .tup [.str t], .lst [.str t], .dct [], spcD t, .str "alike with sides"] : List D).map (fun k => .tup [k, a, b]) ++
      ([.non, .str "", .int 0, .dct [], .tup [.non], .tup [.str "a"], .tup [.bl true], .tup [.int 1000000001, .int 1000000001], .tup [.int 1, .int 1, .non], .tup [.tup []], .tup [.int 6, .int 4], .lst [.int 1, .int 0]] : List D).map (fun v => .tup [.str t, v, b]) ++
      ([.non, .str "", .int 0, .dct [], .tup [.non], .tup [.str "a"], .tup [.bl true], .tup [.int 1000000001, .int 1000000001], .tup [.int 1, .int 1, .non], .tup [.tup []], .tup [.int 6, .int 4], .lst [.int 1, .int 0]] : List D).map (fun v => .tup [.str t, a, v]) := by
    unfold wrongL
    rw [hL, hL']
  rw [hd]
  generalize L1 ++ L2 = P1 at *
  generalize L3 ++ L4 = P2 at *
  generalize spcD t = sp at *
  have f1 := fun (c2 c3 c5 : Slot) (ks : List D) (hk : ks.length ≤ 100000) => cmpM_m (ks := [6]) (it := seqI (vr 4)) (g := nmG 6) (f := op2 addD (dTup (cnsA (vr 6) nilA)) (slF (vr 1) (smO (cst (.int 1))) noO)) (ρ := [.io s', .val (.tup [.str t, a, b]), c2, c3, .val (.lst ks), c5, .no, .no]) (ds := ks) (fun k => .tup [k, a, b]) rfl rfl rfl hk (fun d hd => ⟨[.io s', .val (.tup [.str t, a, b]), c2, c3, .val (.lst ks), c5, .val d, .no], rfl, rfl, by simp_arith only [s1, d1, q1]⟩)
  have f2 := fun (c2 c3 c4 c6 : Slot) (ks : List D) (hk : ks.length ≤ 100000) => cmpM_m (ks := [7]) (it := seqI (vr 5)) (g := nmG 7) (f := op2 addD (op2 addD (slF (vr 1) noO (smO (cst (.int 1)))) (dTup (cnsA (vr 7) nilA))) (slF (vr 1) (smO (cst (.int 2))) noO)) (ρ := [.io s', .val (.tup [.str t, a, b]), c2, c3, c4, .val (.lst ks), c6, .no]) (ds := ks) (fun v => .tup [.str t, v, b]) rfl rfl rfl hk (fun d hd => ⟨[.io s', .val (.tup [.str t, a, b]), c2, c3, c4, .val (.lst ks), c6, .val d], rfl, rfl, by simp_arith only [s1, d2, d3, q2, q3]⟩)
  have f3 := fun (c2 c3 c4 c6 : Slot) (ks : List D) (hk : ks.length ≤ 100000) => cmpM_m (ks := [7]) (it := seqI (vr 5)) (g := nmG 7) (f := op2 addD (slF (vr 1) noO (smO (cst (.int 2)))) (dTup (cnsA (vr 7) nilA))) (ρ := [.io s', .val (.tup [.str t, a, b]), c2, c3, c4, .val (.lst ks), c6, .no]) (ds := ks) (fun v => .tup [.str t, a, v]) rfl rfl rfl hk (fun d hd => ⟨[.io s', .val (.tup [.str t, a, b]), c2, c3, c4, .val (.lst ks), c6, .val d], rfl, rfl, by simp_arith only [s1, d4, q4]⟩)
  have g1 := fun c2 c3 c5 => f1 c2 c3 c5 [.str "", .str "Led", .str "loops", .non, .int 0, .tup [.str t], .lst [.str t], .dct [], sp, .str "alike with sides"] (by simp)
  have g2 := fun c2 c3 c4 c6 => f2 c2 c3 c4 c6 [.non, .str "", .int 0, .dct [], .tup [.non], .tup [.str "a"], .tup [.bl true], .tup [.int 1000000001, .int 1000000001], .tup [.int 1, .int 1, .non], .tup [.tup []], .tup [.int 6, .int 4], .lst [.int 1, .int 0]] (by simp)
  have g3 := fun c2 c3 c4 c6 => f3 c2 c3 c4 c6 [.non, .str "", .int 0, .dct [], .tup [.non], .tup [.str "a"], .tup [.bl true], .tup [.int 1000000001, .int 1000000001], .tup [.int 1, .int 1, .non], .tup [.tup []], .tup [.int 6, .int 4], .lst [.int 1, .int 0]] (by simp)
  have ap : appO [.non, .str "", .int 0, .dct [], .tup [.non], .tup [.str "a"], .tup [.bl true], .tup [.int 1000000001, .int 1000000001], .tup [.int 1, .int 1, .non], .tup [.tup []], .tup [.int 6, .int 4]] (.lst [.int 1, .int 0]) = some [.non, .str "", .int 0, .dct [], .tup [.non], .tup [.str "a"], .tup [.bl true], .tup [.int 1000000001, .int 1000000001], .tup [.int 1, .int 1, .non], .tup [.tup []], .tup [.int 6, .int 4], .lst [.int 1, .int 0]] := rfl
  generalize hks : ([.str "", .str "Led", .str "loops", .non, .int 0, .tup [.str t], .lst [.str t], .dct [], sp, .str "alike with sides"] : List D) = ks at g1
  generalize hvs : ([.non, .str "", .int 0, .dct [], .tup [.non], .tup [.str "a"], .tup [.bl true], .tup [.int 1000000001, .int 1000000001], .tup [.int 1, .int 1, .non], .tup [.tup []], .tup [.int 6, .int 4], .lst [.int 1, .int 0]] : List D) = vs at g2 g3 ap
  have lk : ks.length = 10 := by rw [← hks]; rfl
  have lv : vs.length = 12 := by rw [← hvs]; rfl
  have h1 : addD (.lst [.tup P1, .tup P2, .tup [.str t, a, b, .tup []], .tup [.tup [.str t, a, b]], .tup [b, a, .str t], .lst [.str t, a, b]]) (.lst (ks.map fun k => .tup [k, a, b])) = some (.lst ([.tup P1, .tup P2, .tup [.str t, a, b, .tup []], .tup [.tup [.str t, a, b]], .tup [b, a, .str t], .lst [.str t, a, b]] ++ ks.map fun k => .tup [k, a, b])) := if_pos (decide_eq_true (by simp [lk]))
  have h2 : addD (.lst ([.tup P1, .tup P2, .tup [.str t, a, b, .tup []], .tup [.tup [.str t, a, b]], .tup [b, a, .str t], .lst [.str t, a, b]] ++ ks.map fun k => .tup [k, a, b])) (.lst (vs.map fun v => .tup [.str t, v, b])) = some (.lst ([.tup P1, .tup P2, .tup [.str t, a, b, .tup []], .tup [.tup [.str t, a, b]], .tup [b, a, .str t], .lst [.str t, a, b]] ++ (ks.map fun k => .tup [k, a, b]) ++ vs.map fun v => .tup [.str t, v, b])) := if_pos (decide_eq_true (by simp [lk, lv]))
  have h3 : addD (.lst ([.tup P1, .tup P2, .tup [.str t, a, b, .tup []], .tup [.tup [.str t, a, b]], .tup [b, a, .str t], .lst [.str t, a, b]] ++ (ks.map fun k => .tup [k, a, b]) ++ vs.map fun v => .tup [.str t, v, b])) (.lst (vs.map fun v => .tup [.str t, a, v])) = some (.lst ([.tup P1, .tup P2, .tup [.str t, a, b, .tup []], .tup [.tup [.str t, a, b]], .tup [b, a, .str t], .lst [.str t, a, b]] ++ (ks.map fun k => .tup [k, a, b]) ++ (vs.map fun v => .tup [.str t, v, b]) ++ vs.map fun v => .tup [.str t, a, v])) := if_pos (decide_eq_true (by simp [lk, lv]))
  generalize ([.tup P1, .tup P2, .tup [.str t, a, b, .tup []], .tup [.tup [.str t, a, b]], .tup [b, a, .str t], .lst [.str t, a, b]] ++ (ks.map fun k => D.tup [k, a, b]) ++ (vs.map fun v => D.tup [.str t, v, b]) ++ vs.map fun v => D.tup [.str t, a, v]) = R3 at h3 ⊢
  generalize ([.tup P1, .tup P2, .tup [.str t, a, b, .tup []], .tup [.tup [.str t, a, b]], .tup [b, a, .str t], .lst [.str t, a, b]] ++ (ks.map fun k => D.tup [k, a, b]) ++ vs.map fun v => D.tup [.str t, v, b]) = R2 at h2 h3
  generalize ([.tup P1, .tup P2, .tup [.str t, a, b, .tup []], .tup [.tup [.str t, a, b]], .tup [b, a, .str t], .lst [.str t, a, b]] ++ ks.map fun k => D.tup [k, a, b]) = R1 at h1 h2
  generalize (ks.map fun k => D.tup [k, a, b]) = M1 at g1 h1
  generalize (vs.map fun v => D.tup [.str t, v, b]) = M2 at g2 h2
  generalize (vs.map fun v => D.tup [.str t, a, v]) = M3 at g3 h3
  simp_arith only [G__law_wrong, g__law_wrong, g__law_wrong_1, g__law_wrong_2, g__law_wrong_3, g__law_wrong_4, g__law_wrong_5, g__law_wrong_6, g__law_wrong_7, e, s0, s1, s2, s3, s6, s10, s11, s12, pw, x0, rv, ls, w1, w2, w3, w4, a1, a2, q5, ht, hks, lk, g1, h1, hvs, g2, h2, g3, h3]

/-! a wild value -/
theorem tupC_lst (ys : List D) : tupC [.lst ys] = some (.tup ys) := rfl
theorem dl1E_eq {f g : EF} {ρ ρ1 ρ2 : Rho} {y v : D} {k : Option Key} (h1 : f ρ = .ok y ρ1) (h2 : keyW y = some k) (h3 : g ρ1 = .ok v ρ2) : dl1E f g ρ = .ok (.dl1 (FE.hs k) k v) ρ2 := by
  unfold dl1E
  rw [h1, R.ok_bind, h2]
  show (g ρ1).bind _ = _
  rw [h3]
  rfl
theorem wild_ok {vs : List D} (v0 : vs ≠ []) (vl : vs.length ≤ 1000) (hv : ∀ v ∈ vs, Gd 2 v) : ∀ (deep k : Nat) {n : Nat} {s : M}, deep < k → Sp n s → n + 4 ^ (deep + 1) ≤ 1000000000 → ∃ (d : D) (s' : M), At__law_wild k [.io s, .val (.int (deep : Int)), .val (.lst vs)] = .ok (.v d) [s'] ∧ Gd (2 * deep + 2) d ∧ Sp (n + 4 ^ (deep + 1)) s'
  | deep, 0, _, _, h, _, _ => by omega
  | deep, k + 1, n, s, hk, hs, hn => by
    have hp : 1 ≤ 4 ^ deep := Nat.pow_pos (by decide)
    have hp1 : 4 ^ (deep + 1) = 4 * 4 ^ deep := by rw [Nat.pow_succ, Nat.mul_comm]
    obtain ⟨q, s1, e1, q0, q1, h1⟩ := drip_ok hs (k := 9) (by decide) (by decide) (by omega)
    by_cases c0 : deep = 0
    · subst c0
      obtain ⟨d, s2, hd, e2, h2⟩ := any_ok h1 v0 (by omega) (by omega)
      exact ⟨d, s2, by simp_arith only [At__law_wild, g__law_wild, g__law_wild_1, g__law_wild_2, g__law_wild_3, g__law_wild_4, e1, e2], gd_mono (hv d hd) (by omega), h2.mono (by omega)⟩
    · have cz : ¬ (deep : Int) = 0 := by omega
      by_cases c4 : 4 < q
      · obtain ⟨d, s2, hd, e2, h2⟩ := any_ok h1 v0 (by omega) (by omega)
        exact ⟨d, s2, by simp_arith only [At__law_wild, g__law_wild, g__law_wild_1, g__law_wild_2, g__law_wild_3, g__law_wild_4, e1, e2, cz, c4], gd_mono (hv d hd) (by omega), h2.mono (by omega)⟩
      · obtain ⟨m, rfl⟩ : ∃ m, deep = m + 1 := ⟨deep - 1, by omega⟩
        obtain ⟨j, s2, e2, j0, j1, h2⟩ := drip_ok h1 (k := 4) (by decide) (by decide) (by omega)
        generalize hD : (((m + 1 : Nat) : Int)) = Dp at *
        have es : Dp - 1 = (m : Int) := by omega
        have hr : rng1 (cnsA (callE 2 G__law_drip (slB 0 (cnsB (cst (.int 4)) nilB))) nilA) [.io s1, .val (.int Dp), .val (.lst vs), .val (.int q), .no, .no] = .ok (rangeL 0 j.toNat) [.io s2, .val (.int Dp), .val (.lst vs), .val (.int q), .no, .no] := by
          have g : rgOk j = true := rgOk_of (by omega) (by omega)
          simp_arith only [rng1, e2, g]
        have hp2 : 4 ^ (m + 1 + 1) = 4 * 4 ^ (m + 1) := by rw [Nat.pow_succ, Nat.mul_comm]
        have hp3 : 4 ≤ 4 ^ (m + 1) := by rw [Nat.pow_succ]; have : 1 ≤ 4 ^ m := Nat.pow_pos (by decide); omega
        have jl : j.toNat ≤ 3 := by omega
        obtain ⟨ys, ρ', e, hpd, s3, rfl, h3⟩ := cmpL_y (ks := [5]) (g := nmG 5) (f := callE 3 (At__law_wild k) (slB 0 (cnsB (op2 subD (vr 1) (cst (.int 1))) (cnsB (vr 2) nilB)))) (fun i ρ => ∃ s, ρ = [.io s, .val (.int Dp), .val (.lst vs), .val (.int q), .no, .no] ∧ Sp (n + 2 + i * 4 ^ (m + 1)) s) (fun _ y => Gd (2 * m + 2) y)
          (rangeL 0 j.toNat) 0 [] [.io s2, .val (.int Dp), .val (.lst vs), .val (.int q), .no, .no] (by rw [rangeL_length, List.length_nil]; omega) ⟨s2, rfl, by rw [Nat.zero_mul]; exact h2⟩ (fun i d ρ h hd => by
            obtain ⟨s, rfl, h⟩ := h
            obtain ⟨hi, rfl⟩ := rangeL_get _ _ _ _ hd
            rw [Nat.zero_add] at h
            have hi2 : i * 4 ^ (m + 1) ≤ 2 * 4 ^ (m + 1) := Nat.mul_le_mul_right _ (by omega)
            obtain ⟨y, s', ey, gy, hs'⟩ := wild_ok v0 vl hv m k (by omega) h (by omega)
            refine ⟨[.io s, .val (.int Dp), .val (.lst vs), .val (.int q), .no, .val (.int (0 + i))], rfl, y, [.io s', .val (.int Dp), .val (.lst vs), .val (.int q), .no, .val (.int (0 + i))], by simp_arith only [es, ey], gy, s', rfl, hs'.mono ?_⟩
            rw [Nat.zero_add, Nat.succ_mul]
            omega)
        rw [List.nil_append] at e
        have hc := cmpM_of (ks := [5]) hr e (by rfl)
        have ly := paired_len hpd
        rw [rangeL_length] at ly
        rw [Nat.zero_add, rangeL_length] at h3
        have h3 : Sp (n + 2 + 3 * 4 ^ (m + 1)) s3 := h3.mono (Nat.add_le_add_left (Nat.mul_le_mul_right _ jl) _)
        have gy : ∀ y ∈ ys, Gd (2 * m + 2) y := fun y hy => by
          obtain ⟨_, _, h⟩ := paired_back hpd y hy
          exact h
        by_cases c3 : q = 3
        · subst c3
          exact ⟨.lst ys, s3, by simp_arith only [At__law_wild, g__law_wild, g__law_wild_1, g__law_wild_2, g__law_wild_3, g__law_wild_4, e1, cz, hc], (⟨by omega, fun y hy => gd_mono (gy y hy) (by omega)⟩ : Gd (2 * m + 3 + 1) (.lst ys)), h3.mono (by omega)⟩
        · by_cases c5 : q = 4
          · subst c5
            have s3' : small 3 = true := rfl
            obtain ⟨kd, s4, hkd, e4, h4⟩ := any_ok h3 (xs := [.int 0, .str "a", .non]) (by simp) (by simp) (by omega)
            obtain ⟨kk, ek⟩ : ∃ kk, keyW kd = some kk := by
              simp only [List.mem_cons, List.not_mem_nil, or_false] at hkd
              rcases hkd with rfl | rfl | rfl <;> exact ⟨_, rfl⟩
            have hd := dl1E_eq (f := callE 2 G__law_any (slB 0 (cnsB (frz (dLst (cnsA (cst (.int 0)) (cnsA (cst (.str "a")) (cnsA (cst .non) nilA))))) nilB))) (g := vr 4) (ρ := [.io s3, .val (.int Dp), .val (.lst vs), .val (.int 4), .val (.lst ys), .no]) (ρ1 := [.io s4, .val (.int Dp), .val (.lst vs), .val (.int 4), .val (.lst ys), .no]) (ρ2 := [.io s4, .val (.int Dp), .val (.lst vs), .val (.int 4), .val (.lst ys), .no]) (by simp_arith only [s3', e4]) ek (v := .lst ys) (by simp_arith only [])
            exact ⟨.dl1 (FE.hs kk) kk (.lst ys), s4, by simp_arith only [At__law_wild, g__law_wild, g__law_wild_1, g__law_wild_2, g__law_wild_3, g__law_wild_4, e1, cz, hc, hd], (⟨rfl, by omega, fun y hy => gy y hy⟩ : Gd (2 * m + 3 + 1) (.dl1 (FE.hs kk) kk (.lst ys))), h4.mono (by omega)⟩
          · exact ⟨.tup ys, s3, by simp_arith only [At__law_wild, g__law_wild, g__law_wild_1, g__law_wild_2, g__law_wild_3, g__law_wild_4, e1, cz, c4, c3, c5, hc, tupC_lst], (⟨by omega, fun y hy => gd_mono (gy y hy) (by omega)⟩ : Gd (2 * m + 3 + 1) (.tup ys)), h3.mono (by omega)⟩
theorem wild4 {vs : List D} (v0 : vs ≠ []) (vl : vs.length ≤ 1000) (hv : ∀ v ∈ vs, Gd 2 v) {i : Int} (hi : i = 3 ∨ i = 4) {n : Nat} {s : M} (hs : Sp n s) (hn : n ≤ 900000000) : ∃ (d : D) (s' : M), G__law_wild [.io s, .val (.int i), .val (.lst vs)] = .ok (.v d) [s'] ∧ Gd 10 d ∧ Sp (n + 1024) s' := by
  rcases hi with rfl | rfl
  · obtain ⟨d, s', e, g, h⟩ := wild_ok v0 vl hv 3 8 (by decide) hs (by omega)
    exact ⟨d, s', e, gd_mono g (by decide), h.mono (by omega)⟩
  · obtain ⟨d, s', e, g, h⟩ := wild_ok v0 vl hv 4 8 (by decide) hs (by omega)
    exact ⟨d, s', e, g, h.mono (by omega)⟩

/-! the law's turns -/
structure Row (t : Str) (a b p : D) : Prop where
  gc : Gd 4 (.tup [.str t, a, b])
  gp : Gd 4 p
  acc : accB (.tup [.str t, a, b]) p = true
  sp : addD (.str t) (.str " ") = some (spcD t)
  oc : G__law_others [.val (.tup [.str t, a, b])] = .ok (.v (.lst (othL (.tup [.str t, a, b])))) []
  op : G__law_others [.val p] = .ok (.v (.lst (othL p))) []
  lc : (othL (.tup [.str t, a, b])).length ≤ 1000
  lp : (othL p).length ≤ 1000
  w1 : ∀ k < 3, ∀ w ∈ wrongL (.str t) a b (spcD t) k, noC w p = true
  w2 : ∀ w ∈ (othL (.tup [.str t, a, b])).drop 1, noC w p = true
  w3 : ∀ w ∈ othL p ++ oddP p, noC (.tup [.str t, a, b]) w = true
theorem row_of {e : D} (h : rowOk e = true) : ∃ (t : Str) (a b p : D), e = .tup [.tup [.str t, a, b], p] ∧ Row t a b p := by
  unfold rowOk at h
  split at h
  · rename_i c p
    split at h
    · rename_i t a b
      simp only [Bool.and_eq_true, decide_eq_true_eq] at h
      obtain ⟨⟨h1, h2⟩, h3, h4, ⟨⟨h5, h6⟩, h7, h8⟩, ⟨h9, h10⟩, h11⟩ := h
      exact ⟨t, a, b, p, rfl, gdB_of h1, gdB_of h2, h3, isSp_of h4, isL_of h5, isL_of h6, h7, h8, fun k hk w hw => List.all_eq_true.mp (List.all_eq_true.mp h9 k (List.mem_range.mpr hk)) w hw, fun w hw => List.all_eq_true.mp h10 w hw, fun w hw => List.all_eq_true.mp h11 w hw⟩
    · cases h
  · cases h
theorem noC_of {c p : D} (h : noC c p = true) : G_accepts [.val c, .val p] = .ok (.v (.bl false)) [] := by
  unfold noC at h
  rw [Bool.and_eq_true, Bool.and_eq_true, Bool.not_eq_true'] at h
  rw [accepts_any (gd_mono (gdB_of h.1) (by decide)) (gd_mono (gdB_of h.2.1) (by decide)), h.2.2]
theorem cmpM_none {ks : List Nat} {it : IF} {g : GF} {t : TF} {f : EF} {ρ : Rho} {ds : List D} (h1 : it ρ = .ok ds ρ) (hw : wipeR ks ρ = ρ) (hr : resR ks ρ ρ = some ρ) (hl : ds.length ≤ 100000) (st : ∀ d ∈ ds, ∃ ρ1, g d ρ = some ρ1 ∧ t ρ1 = .ok false ρ1 ∧ wipeR ks ρ1 = ρ) : cmpM ks it g t f ρ = .ok (.lst []) ρ := by
  have := cmpM_p (f := f) (t := t) (fun _ => false) (fun d => d) h1 hw hr hl fun d hd => by
    obtain ⟨ρ1, a, b, c⟩ := st d hd
    exact ⟨ρ1, a, b, c, fun z => by cases z⟩
  rw [show ds.filter (fun _ => false) = [] from List.filter_eq_nil_iff.mpr fun _ _ => by simp] at this
  exact this
theorem nis_ff : nisD (.bl false) (.bl false) = some (.bl false) := rfl
theorem nis_tt : nisD (.bl true) (.bl true) = some (.bl false) := rfl
theorem nis_ft : nisD (.bl false) (.bl true) = some (.bl true) := rfl
theorem ne_nil : neA (.lst []) (.lst []) = some (.bl false) := rfl
theorem wrong_len {x a b y : D} (k : Nat) : (wrongL x a b y k).length = 40 := by simp [wrongL]
theorem cutL1 (xs : List D) : cutD (.lst xs) (some 1) none = some (.lst (xs.drop 1)) := by
  show some (D.lst (FL.cut xs (some 1) none)) = _
  rw [cut_drop _ (by decide)]
  rfl
theorem addL {xs ys : List D} (h : xs.length + ys.length ≤ 100000) : addD (.lst xs) (.lst ys) = some (.lst (xs ++ ys)) := if_pos (decide_eq_true (by simpa using h))
theorem turn_ok {vs : List D} (v0 : vs ≠ []) (vl : vs.length ≤ 1000) (hv : ∀ v ∈ vs, Gd 2 v) {n : Nat} {s : M} (hs : Sp n s) (hn : n ≤ 800000000) (k : D) (c3 c4 c5 c6 c7 c8 c9 : Slot) : ∃ (s' : M) (d3 d4 d5 d6 d7 d8 d9 : Slot), b__law_right_1 [.io s, .val (.lst vs), .val k, c3, c4, c5, c6, c7, c8, c9, .no, .no] = .ok .nx [.io s', .val (.lst vs), .val k, d3, d4, d5, d6, d7, d8, d9, .no, .no] ∧ Sp (n + 3000) s' := by
  have s0 : small 0 = true := rfl
  have s1' : small 1 = true := rfl
  have s2' : small 2 = true := rfl
  have s3' : small 3 = true := rfl
  have s11 : small 11 = true := rfl
  obtain ⟨e, s1, hmem, ea, h1⟩ := any_ok hs (xs := bankL) (by intro z; have := bank_len; rw [z] at this; cases this) (by rw [bank_len]; decide) (by omega)
  obtain ⟨t, a, b, p, rfl, rw0⟩ := row_of (List.all_eq_true.mp bank_all e hmem)
  have acc := accepts_any (gd_mono rw0.gc (by decide)) (gd_mono rw0.gp (by decide))
  rw [rw0.acc] at acc
  obtain ⟨i, s2, e2, i0, i1, h2⟩ := drip_ok h1 (k := 3) (by decide) (by decide) (by omega)
  have hi : i = 0 ∨ i = 1 ∨ i = 2 := by omega
  obtain ⟨o, s3, e3, go, h3⟩ := wild4 v0 vl hv (i := 4) (.inr rfl) h2 (by omega)
  obtain ⟨x, s4, e4, gx, h4⟩ := wild4 v0 vl hv (i := 3) (.inl rfl) h3 (by omega)
  obtain ⟨i', s5, e5, j0, j1, h5⟩ := drip_ok h4 (k := 3) (by decide) (by decide) (by omega)
  have hw := wrong_ok (a := a) (b := b) (by omega) e5 rw0.sp
  have hpair : Gd 5 (.tup [.tup [.str t, a, b], p]) := ⟨by simp, fun y hy => by
    simp only [List.mem_cons, List.not_mem_nil, or_false] at hy
    rcases hy with rfl | rfl
    · exact rw0.gc
    · exact rw0.gp⟩
  have hparts : Gd 3 (.str t) ∧ Gd 3 a ∧ Gd 3 b := ⟨rw0.gc.2 _ List.mem_cons_self, rw0.gc.2 _ (List.mem_cons_of_mem _ List.mem_cons_self), rw0.gc.2 _ (List.mem_cons_of_mem _ (List.mem_cons_of_mem _ List.mem_cons_self))⟩
  obtain ⟨L1, L2, c', k1, k2, k3, k4, gc'⟩ : ∃ (L1 L2 : List D) (c' : D), cutD (.tup [.str t, a, b]) none (some i) = some (.tup L1) ∧ cutD (.tup [.str t, a, b]) (some (i + 1)) none = some (.tup L2) ∧ addD (.tup L1) (.tup [o]) = some (.tup (L1 ++ [o])) ∧ addD (.tup (L1 ++ [o])) (.tup L2) = some c' ∧ Gd 11 c' := by
    obtain ⟨g1, g2, g3⟩ := hparts
    have key : ∀ u v w : D, Gd 10 u → Gd 10 v → Gd 10 w → Gd 11 (.tup [u, v, w]) := fun u v w gu gv gw => ⟨by simp, fun y hy => by
      simp only [List.mem_cons, List.not_mem_nil, or_false] at hy
      rcases hy with rfl | rfl | rfl
      · exact gu
      · exact gv
      · exact gw⟩
    rcases hi with rfl | rfl | rfl
    · exact ⟨[], [a, b], .tup [o, a, b], rfl, rfl, rfl, rfl, key _ _ _ go (gd_mono g2 (by decide)) (gd_mono g3 (by decide))⟩
    · exact ⟨[.str t], [b], .tup [.str t, o, b], rfl, rfl, rfl, rfl, key _ _ _ (gd_mono g1 (by decide)) go (gd_mono g3 (by decide))⟩
    · exact ⟨[.str t, a], [], .tup [.str t, a, o], rfl, rfl, rfl, rfl, key _ _ _ (gd_mono g1 (by decide)) (gd_mono g2 (by decide)) go⟩
  have t1 := accepts_any (gd_mono go (by decide)) (gd_mono gx (by decide))
  have t2 := accepts_any (gd_mono gc' (by decide)) (gd_mono rw0.gp (by decide))
  have t3 := accepts_any (gd_mono rw0.gc (by decide)) (gd_mono go (by decide))
  have t4 := accepts_any (gd_mono go (by decide)) (gd_mono rw0.gp (by decide))
  have t5 := accepts_any (gd_mono hpair (by decide)) (gd_mono go (by decide))
  generalize accB o x = b1 at t1
  generalize accB c' p = b2 at t2
  generalize accB (.tup [.str t, a, b]) o = b3 at t3
  generalize accB o p = b4 at t4
  generalize accB (.tup [.tup [.str t, a, b], p]) o = b5 at t5
  -- what is told
  have f1 := cmpM_none (ks := [10]) (it := seqI (vr 7)) (g := nmG 10) (t := anT (tst (op2 nisD (vr 10) (cst (.bl true)))) (tst (op2 nisD (vr 10) (cst (.bl false))))) (f := vr 10) (ρ := [.io s4, .val (.lst vs), .val k, .val (.tup [.str t, a, b]), .val p, .val (.int i), .val o, .val (.lst [.bl b1, .bl b2, .bl b3, .bl b4, .bl b5]), c8, c9, .no, .no]) (ds := [.bl b1, .bl b2, .bl b3, .bl b4, .bl b5]) rfl rfl rfl (by simp) (fun d hd => by
    obtain ⟨bb, rfl⟩ : ∃ bb : Bool, d = .bl bb := by
      simp only [List.mem_cons, List.not_mem_nil, or_false] at hd
      rcases hd with rfl | rfl | rfl | rfl | rfl <;> exact ⟨_, rfl⟩
    refine ⟨[.io s4, .val (.lst vs), .val k, .val (.tup [.str t, a, b]), .val p, .val (.int i), .val o, .val (.lst [.bl b1, .bl b2, .bl b3, .bl b4, .bl b5]), c8, c9, .val (.bl bb), .no], rfl, ?_, rfl⟩
    cases bb
    · simp_arith only [nis_ft, nis_ff]
    · simp_arith only [nis_tt])
  have a1 : addD (.lst [.bl b1, .bl b2]) (.lst [.bl b3, .bl b4, .bl b5]) = some (.lst [.bl b1, .bl b2, .bl b3, .bl b4, .bl b5]) := rfl
  -- claims that are none
  have w1 := rw0.w1 i'.toNat (by omega)
  have wl := wrong_len (x := .str t) (a := a) (b := b) (y := spcD t) i'.toNat
  have ol := rw0.lc
  have oc := rw0.oc
  have w2 := rw0.w2
  generalize wrongL (.str t) a b (spcD t) i'.toNat = W at hw w1 wl
  generalize othL (.tup [.str t, a, b]) = O at ol oc w2
  have cO := cutL1 O
  have a2 : addD (.lst W) (.lst (O.drop 1)) = some (.lst (W ++ O.drop 1)) := addL (by rw [List.length_drop]; omega)
  have hWl : (W ++ O.drop 1).length ≤ 100000 := by rw [List.length_append, List.length_drop]; omega
  have hW : ∀ w ∈ W ++ O.drop 1, noC w p = true := fun w hw => by
    rcases List.mem_append.mp hw with h | h
    · exact w1 w h
    · exact w2 w h
  generalize W ++ O.drop 1 = WO at a2 hWl hW
  generalize O.drop 1 = O1 at cO a2
  have f2 := cmpM_none (ks := [10]) (it := seqI (vr 8)) (g := nmG 10) (t := tst (op2 nisD (callE 2 G_accepts (cnsB (vr 10) (cnsB (vr 4) nilB))) (cst (.bl false)))) (f := vr 10) (ρ := [.io s5, .val (.lst vs), .val k, .val (.tup [.str t, a, b]), .val p, .val (.int i), .val o, .val (.lst [.bl b1, .bl b2, .bl b3, .bl b4, .bl b5]), .val (.lst WO), c9, .no, .no]) (ds := WO) rfl rfl rfl hWl (fun d hd => by
    have ed := noC_of (hW d hd)
    exact ⟨[.io s5, .val (.lst vs), .val k, .val (.tup [.str t, a, b]), .val p, .val (.int i), .val o, .val (.lst [.bl b1, .bl b2, .bl b3, .bl b4, .bl b5]), .val (.lst WO), c9, .val d, .no], rfl, by simp_arith only [ed, nis_ff], rfl⟩)
  -- pages that are none
  have pl := rw0.lp
  have op := rw0.op
  have w3 := rw0.w3
  generalize othL p = P at pl op w3
  have a3 : addD (.lst P) (.lst [.non, .int 0, .bl true, .bl false, .str "", .dct [], .lst [p], .tup [.non], .tup [p, .non], .int 2, .int (-2)]) = some (.lst (P ++ oddP p)) := addL (by simp; omega)
  have hPl : (P ++ oddP p).length ≤ 100000 := by simp [oddP]; omega
  generalize P ++ oddP p = PO at a3 hPl w3
  have f3 := cmpM_none (ks := [11]) (it := seqI (vr 9)) (g := nmG 11) (t := tst (op2 nisD (callE 2 G_accepts (cnsB (vr 3) (cnsB (vr 11) nilB))) (cst (.bl false)))) (f := vr 11) (ρ := [.io s5, .val (.lst vs), .val k, .val (.tup [.str t, a, b]), .val p, .val (.int i), .val o, .val (.lst [.bl b1, .bl b2, .bl b3, .bl b4, .bl b5]), .val (.lst WO), .val (.lst PO), .no, .no]) (ds := PO) rfl rfl rfl hPl (fun d hd => by
    have ed := noC_of (w3 d hd)
    exact ⟨[.io s5, .val (.lst vs), .val k, .val (.tup [.str t, a, b]), .val p, .val (.int i), .val o, .val (.lst [.bl b1, .bl b2, .bl b3, .bl b4, .bl b5]), .val (.lst WO), .val (.lst PO), .no, .val d], rfl, by simp_arith only [ed, nis_ff], rfl⟩)
  have bk := bank_ok
  refine ⟨s5, .val (.tup [.str t, a, b]), .val p, .val (.int i), .val o, .val (.lst [.bl b1, .bl b2, .bl b3, .bl b4, .bl b5]), .val (.lst WO), .val (.lst PO), ?_, h5.mono (by omega)⟩
  simp_arith only [b__law_right_1, b__law_right_1_1, b__law_right_1_2, b__law_right_1_3, b__law_right_1_4, b__law_right_1_5, b__law_right_1_6, b__law_right_1_7, b__law_right_1_8, b__law_right_1_9, bk, ea, acc, nis_tt, e2, e3, e4, t1, t2, t3, t4, t5, k1, k2, k3, k4, a1, f1, ne_nil, hw, oc, cO, a2, f2, op, a3, f3, s0, s1', s2', s3', s11]

theorem spring_ok (ns : List Int) (t : Int) (h0 : 0 ≤ t) : ∃ s : M, G__law_spring [.val (.scr ns), .val (.int t)] = .ok (.m s) [] ∧ Sp 0 s := by
  have m1 : mulD (.int 141421) (.int t) = some (.int (141421 * t)) := mulD_l (by decide)
  have m2 : mulD (.int 17) (.int t) = some (.int (17 * t)) := mulD_l (by decide)
  have f : ∀ x : Int, modD (.int x) (.int 2147483543) = some (.int (x % 2147483543)) := fun x => modD_pos (by decide)
  have pw : powD (.int 10) (.int 18) = some (.int 1000000000000000000) := rfl
  have hit : seqI (slF (vr 0) noO (smO (cst (.int 61)))) [.val (.scr ns), .val (.int t), .val (.int (2236067 + 141421 * t)), .no, .no, .no] = .ok ((cut ns none (some 61)).map D.int) [.val (.scr ns), .val (.int t), .val (.int (2236067 + 141421 * t)), .no, .no, .no] := rfl
  have key : ∀ (ds : List D), (∀ d ∈ ds, ∃ i, d = .int i) → ∀ (m : Int) (e : Slot), ∃ (m' : Int) (e' : Slot), forL [] (nmG 3) b__law_spring_1 ds [.val (.scr ns), .val (.int t), .val (.int m), e, .no, .no] = .ok .nx [.val (.scr ns), .val (.int t), .val (.int m'), e', .no, .no] := by
    intro ds
    induction ds with
    | nil => exact fun _ m e => ⟨m, e, rfl⟩
    | cons d ds ih =>
      intro h m e
      obtain ⟨i, rfl⟩ := h d List.mem_cons_self
      have m1 : mulD (.int m) (.int 48679) = some (.int (m * 48679)) := mulD_r (by decide)
      have m2 : mulD (.int i) (.int 13) = some (.int (i * 13)) := mulD_r (by decide)
      have f : ∀ x : Int, modD (.int x) (.int 2147483549) = some (.int (x % 2147483549)) := fun x => modD_pos (by decide)
      obtain ⟨m', e', ih⟩ := ih (fun d hd => h d (List.mem_cons_of_mem _ hd)) ((m * 48679 + i * 13 + 101) % 2147483549) (.val (.int i))
      have eb : b__law_spring_1 [.val (.scr ns), .val (.int t), .val (.int m), .val (.int i), .no, .no] = .ok .nx [.val (.scr ns), .val (.int t), .val (.int ((m * 48679 + i * 13 + 101) % 2147483549)), .val (.int i), .no, .no] := by simp_arith only [b__law_spring_1, m1, m2, f]
      exact ⟨m', e', by simp_arith only [forL_cons, eb, aftF, ih]⟩
  obtain ⟨m', e', el⟩ := key ((cut ns none (some 61)).map D.int) (fun d hd => by obtain ⟨i, _, rfl⟩ := List.mem_map.mp hd; exact ⟨i, rfl⟩) (2236067 + 141421 * t) .no
  have m3 : mulD (.int m') (.int 7) = some (.int (m' * 7)) := mulD_r (by decide)
  by_cases hl : t < ns.length
  · have g : ∃ o, ixD (.scr ns) (.int t) = some (.int o) := by
      have hl' : t.toNat < ns.length := by omega
      refine ⟨ns[t.toNat], ?_⟩
      show (atI ns t).map D.int = _
      rw [atI_nat h0 (List.getElem?_eq_getElem hl')]
      rfl
    obtain ⟨o, ho⟩ := g
    by_cases c1 : o < 0
    · refine ⟨.lst [.int (o).natAbs, .int ((m' * 7 + (o)) % 2147483543), .int 0], ?_, _, _, _, rfl, by omega, by omega⟩
      simp_arith only [G__law_spring, g__law_spring, g__law_spring_1, g__law_spring_2, g__law_spring_3, g__law_spring_4, seqS_eq, m1, m2, forS_eq, hit, el, hl, ho, m3, f, small, c1]
    · by_cases c2 : 1000000000000000000 ≤ o
      · refine ⟨.lst [.int (o).natAbs, .int ((m' * 7 + (o)) % 2147483543), .int 0], ?_, _, _, _, rfl, by omega, by omega⟩
        simp_arith only [G__law_spring, g__law_spring, g__law_spring_1, g__law_spring_2, g__law_spring_3, g__law_spring_4, seqS_eq, m1, m2, forS_eq, hit, el, hl, ho, m3, f, small, c1, c2, pw]
      · refine ⟨.lst [.int 0, .int ((m' * 7 + (o)) % 2147483543), .int 0], ?_, _, _, _, rfl, by omega, by omega⟩
        simp_arith only [G__law_spring, g__law_spring, g__law_spring_1, g__law_spring_2, g__law_spring_3, g__law_spring_4, seqS_eq, m1, m2, forS_eq, hit, el, hl, ho, m3, f, small, c1, c2, pw]
  · skip
    by_cases c1 : 17 * t + 3 < 0
    · refine ⟨.lst [.int (17 * t + 3).natAbs, .int ((m' * 7 + (17 * t + 3)) % 2147483543), .int 0], ?_, _, _, _, rfl, by omega, by omega⟩
      simp_arith only [G__law_spring, g__law_spring, g__law_spring_1, g__law_spring_2, g__law_spring_3, g__law_spring_4, seqS_eq, m1, m2, forS_eq, hit, el, hl, m3, f, small, c1]
    · by_cases c2 : 1000000000000000000 ≤ 17 * t + 3
      · refine ⟨.lst [.int (17 * t + 3).natAbs, .int ((m' * 7 + (17 * t + 3)) % 2147483543), .int 0], ?_, _, _, _, rfl, by omega, by omega⟩
        simp_arith only [G__law_spring, g__law_spring, g__law_spring_1, g__law_spring_2, g__law_spring_3, g__law_spring_4, seqS_eq, m1, m2, forS_eq, hit, el, hl, m3, f, small, c1, c2, pw]
      · refine ⟨.lst [.int 0, .int ((m' * 7 + (17 * t + 3)) % 2147483543), .int 0], ?_, _, _, _, rfl, by omega, by omega⟩
        simp_arith only [G__law_spring, g__law_spring, g__law_spring_1, g__law_spring_2, g__law_spring_3, g__law_spring_4, seqS_eq, m1, m2, forS_eq, hit, el, hl, m3, f, small, c1, c2, pw]

def valsL : List D := [.non, .bl true, .bl false, .int 0, .int 1, .int (-1), .int 2, .int (10 ^ 40), .str "", .str "a", .str "led", .str "apart", .str "alike", .tup [], .lst [], .dct [], .tup [.int 0], .tup [.int 1], .tup [.int 7, .int 2], .tup [.int 1, .int 0], .tup [.int 0, .int 1], .tup [.int 7, .int 3], .tup [.tup []], .tup [.int 2, .int 1, .int 3], .str "for loops", .str "not for loops", .tup [.int 1, .int 1]]
theorem vals_gd : ∀ v ∈ valsL, Gd 2 v := fun v hv => gdB_of (List.all_eq_true.mp (show valsL.all (gdB 2) = true by decide +kernel) v hv)
theorem right_ok {n : Nat} {s : M} (hs : Sp n s) (hn : n ≤ 100000000) : ∃ s', G__law_right [.io s] = .ok (.v (.bl true)) [s'] := by
  have s0 : small 0 = true := rfl
  have s1' : small 1 = true := rfl
  have s2' : small 2 = true := rfl
  have s3' : small 3 = true := rfl
  have s8' : small 8 = true := rfl
  have s19 : small 19 = true := rfl
  have pw : powD (.int 10) (.int 40) = some (.int 10000000000000000000000000000000000000000) := rfl
  have r := rng1_ok (g := cnsA (cst (.int 8)) nilA) (ρ := [.io s, .val (.lst valsL), .no, .no, .no, .no, .no, .no, .no, .no, .no, .no]) (ρ' := [.io s, .val (.lst valsL), .no, .no, .no, .no, .no, .no, .no, .no, .no, .no]) (n := 8) (by simp_arith only []) rfl
  obtain ⟨ρ', e, s', d2, d3, d4, d5, d6, d7, d8, d9, rfl, hs'⟩ := forL_nx (ks := []) (g := nmG 2) (b := b__law_right_1) (fun i ρ => ∃ (s : M) (c2 c3 c4 c5 c6 c7 c8 c9 : Slot), ρ = [.io s, .val (.lst valsL), c2, c3, c4, c5, c6, c7, c8, c9, .no, .no] ∧ Sp (n + 3000 * i) s) (rangeL 0 8) [.io s, .val (.lst valsL), .no, .no, .no, .no, .no, .no, .no, .no, .no, .no] ⟨s, .no, .no, .no, .no, .no, .no, .no, .no, rfl, hs⟩ (by
    rintro i d ρ ⟨s, c2, c3, c4, c5, c6, c7, c8, c9, rfl, h⟩ hd
    obtain ⟨hi, rfl⟩ := rangeL_get _ _ _ _ hd
    obtain ⟨s', d3, d4, d5, d6, d7, d8, d9, e, h'⟩ := turn_ok (by simp [valsL]) (by simp [valsL]) vals_gd h (by omega) (.int (0 + i)) c3 c4 c5 c6 c7 c8 c9
    exact ⟨_, rfl, _, e, s', _, d3, d4, d5, d6, d7, d8, d9, rfl, h'.mono (by omega)⟩)
  refine ⟨s', ?_⟩
  have a1 : addD (.lst [.non, .bl true, .bl false, .int 0, .int 1, .int (-1), .int 2, .int 10000000000000000000000000000000000000000, .str "", .str "a", .str "led", .str "apart", .str "alike", .tup [], .lst [], .dct [], .tup [.int 0], .tup [.int 1], .tup [.int 7, .int 2]]) (.lst [.tup [.int 1, .int 0], .tup [.int 0, .int 1], .tup [.int 7, .int 3], .tup [.tup []], .tup [.int 2, .int 1, .int 3], .str "for loops", .str "not for loops", .tup [.int 1, .int 1]]) = some (.lst valsL) := rfl
  generalize valsL = V at *
  rw [show (8 : Int).toNat = 8 from rfl] at r
  simp_arith only [G__law_right, g__law_right, g__law_right_1, g__law_right_2, g__law_right_3, forS_eq, r, e, pw, a1, s0, s1', s2', s3', s8', s19]

theorem all_true : ∀ ys : List D, (∀ y ∈ ys, y = D.bl true) → allC [.lst ys] = some (.bl true) := by
  have key : ∀ ys : List D, (∀ y ∈ ys, y = D.bl true) → ∃ bs, bools ys = some bs ∧ bs.all id = true := by
    intro ys
    induction ys with
    | nil => exact fun _ => ⟨[], rfl, rfl⟩
    | cons y ys ih =>
      intro h
      obtain ⟨bs, e, hb⟩ := ih fun z hz => h z (List.mem_cons_of_mem _ hz)
      have hy := h y List.mem_cons_self
      subst hy
      refine ⟨true :: bs, ?_, by simpa using hb⟩
      show (bools ys).map (true :: ·) = _
      rw [e]
      rfl
  intro ys h
  obtain ⟨bs, e, hb⟩ := key ys h
  show (bools ys).map (fun bs => D.bl (bs.all id)) = _
  rw [e]
  show some (D.bl (bs.all id)) = _
  rw [hb]
theorem law_true (ns : List Int) (hl : ns.length ≤ 63) : G_law [.val (.scr ns)] = .ok (.v (.bl true)) [] := by
  have r : rng1 (cnsA (opC maxC (cnsA (cst (.int 2)) (cnsA (opC minC (cnsA (opC lenC (cnsA (vr 0) nilA)) (cnsA (cst (.int 5)) nilA))) nilA))) nilA) [.val (.scr ns), .no] = .ok (rangeL 0 (max 2 (min (ns.length : Int) 5)).toNat) [.val (.scr ns), .no] := by
    have g : rgOk (max 2 (min (ns.length : Int) 5)) = true := rgOk_of (by omega) (by omega)
    simp_arith only [rng1, g]
  obtain ⟨ys, ρ', e, hy, rfl⟩ := cmpL_of (ks := [1]) (g := nmG 1) (t := yesT) (f := callFE G__law_right (callM 2 G__law_spring (cnsB (vr 0) (cnsB (vr 1) nilB)))) (fun _ ρ => ρ = [.val (.scr ns), .no]) (fun _ y => y = .bl true)
    (rangeL 0 (max 2 (min (ns.length : Int) 5)).toNat) 0 [] [.val (.scr ns), .no] (by rw [rangeL_length, List.length_nil]; omega) rfl (fun i d ρ h hd => by
      subst h
      obtain ⟨_, rfl⟩ := rangeL_get _ _ _ _ hd
      obtain ⟨s, es, hs⟩ := spring_ok ns (0 + i) (by omega)
      obtain ⟨s', er⟩ := right_ok hs (by omega)
      refine ⟨[.val (.scr ns), .val (.int (0 + i))], by simp_arith only [], .inr ⟨[.val (.scr ns), .val (.int (0 + i))], .bl true, [.val (.scr ns), .val (.int (0 + i))], rfl, ?_, rfl, by simp_arith only []⟩⟩
      simp_arith only [callFE, callF, es, er])
  rw [List.nil_append] at e
  have ha := all_true ys fun y hy' => by
    obtain ⟨_, _, h⟩ := hy y hy'
    exact h
  simp_arith only [G_law, g_law, cmpM, r, e, resR, ha]


end
end Wk
theorem Wk.law_trueE (fe : FL.FE) (ns : List Int) (hl : ns.length ≤ 63) : @Wk.G_law fe [.val (.scr ns)] = .ok (.v (.bl true)) [] := @Wk.law_true fe ns hl
open PySem PySem.W PyProof.Rows in
set_option maxRecDepth 100000 in
set_option maxHeartbeats 0 in
theorem PySem.Challenge.cw_lenspairs_k73_any_values_in_claims_holds : PySem.Challenge.rw_lenspairs_k73_any_values_in_claims.Holds := by
  w_on; o_law; k_head; (case hw => w_witness2)
  k_fill
  refine FL.walkG (l := PySem.Challenge.rw_lenspairs_k73_any_values_in_claims) (n := 63) (k := 12) (G := fun _ _ => FL.trueG 63) (x := "_law_script") rfl (by decide) rfl (by decide) (fun w h Y => PySem.W.kIn_of Y) ?F
  case F =>
    intro w mg fa h Y KX G XP hmg
    have y_MOST_BEADS : ∃ t : PySem.Tok, mg "MOST_BEADS" = some (.int 200 t) := by
      exact ⟨_, PySem.W.mg_of KX G (by k_is)⟩
    have y_MOST_GONE : ∃ t : PySem.Tok, mg "MOST_GONE" = some (.int 2000 t) := by
      exact ⟨_, PySem.W.mg_of KX G (by k_is)⟩
    have y_MOST_NUMBER : ∃ t : PySem.Tok, mg "MOST_NUMBER" = some (.int 1000000000 t) := by
      exact FL.loose_int XP (by simp)
    have y_MOST_ROWS : ∃ t : PySem.Tok, mg "MOST_ROWS" = some (.int 4000 t) := by
      exact ⟨_, PySem.W.mg_of KX G (by k_is)⟩
    refine' Wk.all_mk (l := PySem.Challenge.rw_lenspairs_k73_any_values_in_claims) (fe := FL.feOfH _ _ _) (Wk.law_trueE _) KX G hmg ?a1 ?l1 ?c1 ?k1 ?a2 ?l2 ?c2 ?k2 ?a3 ?l3 ?c3 ?k3 ?a4 ?l4 ?c4 ?k4 ?a5 ?l5 ?c5 ?k5 ?a6 ?l6 ?c6 ?k6 ?a7 ?l7 ?c7 ?k7 ?a8 ?l8 ?c8 ?k8 ?a9 ?l9 ?c9 ?k9 ?a10 ?l10 ?c10 ?k10 ?a11 ?l11 ?c11 ?k11 ?a12 ?l12 ?c12 ?k12 ?a13 ?l13 ?c13 ?k13 ?a14 ?l14 ?c14 ?k14 ?a15 ?l15 ?c15 ?k15 ?a16 ?l16 ?c16 ?k16 ?a17 ?l17 ?c17 ?k17 ?a18 ?l18 ?c18 ?k18 ?a19 ?l19 ?c19 ?k19 ?a20 ?l20 ?c20 ?k20 ?a21 ?l21 ?c21 ?k21 ?a22 ?l22 ?c22 ?k22 ?a23 ?l23 ?c23 ?k23 ?a24 ?l24 ?c24 ?k24 ?a25 ?l25 ?c25 ?k25 ?a26 ?l26 ?c26 ?k26 ?a27 ?l27 ?c27 ?k27 ?a28 ?l28 ?c28 ?k28 ?a29 ?l29 ?c29 ?k29 ?a30 ?l30 ?c30 ?k30 ?z_abs ?z_all ?z_bool ?z_divmod ?z_enumerate ?z_int ?z_isinstance ?z_len ?z_list ?z_max ?z_min ?z_range ?z_str ?z_tuple y_MOST_BEADS y_MOST_GONE y_MOST_NUMBER y_MOST_ROWS ?x_OF_PAIRS ?v_OF_PAIRS ?x_OF_STRINGS ?v_OF_STRINGS rfl
    (case a1 => k_is)
    (case l1 => k_is)
    (case c1 => k_is)
    (case k1 => k_is)
    (case a2 => k_is)
    (case l2 => k_is)
    (case c2 => k_is)
    (case k2 => k_is)
    (case a3 => k_is)
    (case l3 => k_is)
    (case c3 => k_is)
    (case k3 => k_is)
    (case a4 => k_is)
    (case l4 => k_is)
    (case c4 => k_is)
    (case k4 => k_is)
    (case a5 => k_is)
    (case l5 => k_is)
    (case c5 => k_is)
    (case k5 => k_is)
    (case a6 => k_is)
    (case l6 => k_is)
    (case c6 => k_is)
    (case k6 => k_is)
    (case a7 => k_is)
    (case l7 => k_is)
    (case c7 => k_is)
    (case k7 => k_is)
    (case a8 => k_is)
    (case l8 => k_is)
    (case c8 => k_is)
    (case k8 => k_is)
    (case a9 => k_is)
    (case l9 => k_is)
    (case c9 => k_is)
    (case k9 => k_is)
    (case a10 => k_is)
    (case l10 => k_is)
    (case c10 => k_is)
    (case k10 => k_is)
    (case a11 => k_is)
    (case l11 => k_is)
    (case c11 => k_is)
    (case k11 => k_is)
    (case a12 => k_is)
    (case l12 => k_is)
    (case c12 => k_is)
    (case k12 => k_is)
    (case a13 => k_is)
    (case l13 => k_is)
    (case c13 => k_is)
    (case k13 => k_is)
    (case a14 => k_is)
    (case l14 => k_is)
    (case c14 => k_is)
    (case k14 => k_is)
    (case a15 => k_is)
    (case l15 => k_is)
    (case c15 => k_is)
    (case k15 => k_is)
    (case a16 => k_is)
    (case l16 => k_is)
    (case c16 => k_is)
    (case k16 => k_is)
    (case a17 => k_is)
    (case l17 => k_is)
    (case c17 => k_is)
    (case k17 => k_is)
    (case a18 => k_is)
    (case l18 => k_is)
    (case c18 => k_is)
    (case k18 => k_is)
    (case a19 => k_is)
    (case l19 => k_is)
    (case c19 => k_is)
    (case k19 => k_is)
    (case a20 => k_is)
    (case l20 => k_is)
    (case c20 => k_is)
    (case k20 => k_is)
    (case a21 => k_is)
    (case l21 => k_is)
    (case c21 => k_is)
    (case k21 => k_is)
    (case a22 => k_is)
    (case l22 => k_is)
    (case c22 => k_is)
    (case k22 => k_is)
    (case a23 => k_is)
    (case l23 => k_is)
    (case c23 => k_is)
    (case k23 => k_is)
    (case a24 => k_is)
    (case l24 => k_is)
    (case c24 => k_is)
    (case k24 => k_is)
    (case a25 => k_is)
    (case l25 => k_is)
    (case c25 => k_is)
    (case k25 => k_is)
    (case a26 => k_is)
    (case l26 => k_is)
    (case c26 => k_is)
    (case k26 => k_is)
    (case a27 => k_is)
    (case l27 => k_is)
    (case c27 => k_is)
    (case k27 => k_is)
    (case a28 => k_is)
    (case l28 => k_is)
    (case c28 => k_is)
    (case k28 => k_is)
    (case a29 => k_is)
    (case l29 => k_is)
    (case c29 => k_is)
    (case k29 => k_is)
    (case a30 => k_is)
    (case l30 => k_is)
    (case c30 => k_is)
    (case k30 => k_is)
    (case z_abs => k_is)
    (case z_all => k_is)
    (case z_bool => k_is)
    (case z_divmod => k_is)
    (case z_enumerate => k_is)
    (case z_int => k_is)
    (case z_isinstance => k_is)
    (case z_len => k_is)
    (case z_list => k_is)
    (case z_max => k_is)
    (case z_min => k_is)
    (case z_range => k_is)
    (case z_str => k_is)
    (case z_tuple => k_is)
    (case x_OF_PAIRS => k_is)
    (case v_OF_PAIRS => k_is)
    (case x_OF_STRINGS => k_is)
    (case v_OF_STRINGS => k_is)
