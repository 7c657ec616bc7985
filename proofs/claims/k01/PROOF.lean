import PyProof.Rows.All
import HandS.ForMost
import HandS.Exc
import HandS.Deep
import HandS.Wide
import HandS.TupAny
import HandS.TupMul
import HandS.IsInst
import HandS.SortInts
import HandS.Style
import HandS.Zip
import HandS.CallSlots
import HandS.Lambda
import HandS.ExcCtx
import HandS.Dict
import HandS.Star
import HandS.MakeKwOnly
import PyProof.NeKinds
import HandS.EndBits
import HandS.SetFor
import HandS.Strs
import KE.KExcInit
import HandS.ExcInit
import HandS.Small
import KE.KExcIs
import HandS.ExcField
import HandS.HotCalls
import KE.KNestM
import HandS.DictComp
import HandS.More
import HandS.List
import PyProof.P3Eq
import PyProof.ReprLen
import PyProof.TupleOfSeq
import PyProof.Rows.Digits
import HandS.NoneIn
import HandS.Property
import HandS.MakeKw
import HandS.Iter
import HandS.Walk
import PyProof.DictUpdate
import PyProof.DictDisplay
import KE.KDictDisplayH
import HandS.ExcValue
import HandS.Text
import PyProof.ListStr
import HandS.DictEq
import PyProof.EqAt
import HandS.Call
import HandS.Hot
import HandS.Conv
import HandS.SortOrd
import HandS.SortRule
import KE.DataMinMax
import HandS.NamedTupSort
import KE.KDictPairs
import HandS.TupSets
import PyProof.DictTable
import HandS.ListItems
import PySem.Challenge.RW_lenspairs_k01_limits_and_errors
set_option Elab.async false
set_option linter.all false
set_option maxRecDepth 100000
set_option maxHeartbeats 4000000
/-! FL1: pure data D, the state of a def's body over it (Sta), the readings by functions. -/
namespace FL
open PySem PySem.Spec PyProof.Rows L2

/-- what holds of the whole law: the tables of code objects, where its classes stand -/
class FE where
  tabs : List (Addr × Str)
  cl : Str → Addr
/-- a caught exception: its object, its dict, its class -/
structure EId where
  a : Addr
  d : Option Addr
  C : Str
deriving DecidableEq
/-- pure data -/
inductive D where
  | non
  | bl (b : Bool)
  | int (i : Int)
  | str (x : Str)
  | tup (xs : List D)
  | lst (xs : List D)
  | scr (ns : List Int)
  | fn (a : Addr)
  | dct (kvs : List (Key × D))
  | exc (x : EId) (fs : List (Str × D))
  | clo (a : Addr) (R : Hp → Prop)
  | dcf (kvs : List (Key × D))
  | err (n : Str) (C : Addr) (fs : List (Str × D))

instance : Inhabited D := ⟨.non⟩

/-- an exception's dict -/
def XD (F : Hp) (d : Option Addr) (fsV : List (Str × V)) : Prop := match d with
  | some d => F d = some (.xd fsV)
  | none => fsV = []
theorem XD.mono {F F' : Hp} {d : Option Addr} {fsV : List (Str × V)} (h : XD F d fsV) (e : Same F F') : XD F' d fsV := by
  cases d with
  | none => exact h
  | some d => exact e _ _ h
/-- an exception object of the class at C that has been made, its dict at d -/
def exV (e C : Addr) (d : Option Addr) : HO := .ext fun h => ∃ (oe : Obj) (vs : Array Value), h.get? e = some oe ∧ oe.cls = .ref C ∧ oe.dict = d ∧ oe.data = .fields vs
/-- no table -/
def NT (o : HO) : Prop := ∀ ps, o ≠ .tbl ps
/-- no tuple of which only the items are known: a tuple is told with its object, which has no dict -/
def PlO (o : HO) : Prop := (∀ xs, o ≠ .tup xs) ∧ ∀ u xs, o = .frz u (.tup xs) → u.dict = none
def NoT (F : Hp) : Prop := ∀ q o, F q = some o → NT o ∧ PlO o

mutual
inductive Rep (K : PySem.W.Frag) (F : Hp) : V → D → Prop
  | non : Rep K F .non .non
  | bl (b : Bool) : Rep K F (.bl b) (.bl b)
  | int (i : Int) : Rep K F (.int i) (.int i)
  | str (x : Str) : Rep K F (.str x) (.str x)
  | fn (a : Addr) : Rep K F (.ref a) (.fn a)
  | tup {a : Addr} {xs : List V} {ds : List D} : SqT K F a xs → Reps K F xs ds → Rep K F (.ref a) (.tup ds)
  | lst {a : Addr} {xs : List V} {ds : List D} : F a = some (.lst xs) → Reps K F xs ds → Rep K F (.ref a) (.lst ds)
  | scr {a : Addr} {ns : List Int} : SqL K F a (ns.map V.int) → Rep K F (.ref a) (.scr ns)
  | dct {a : Addr} {kvs : List (Key × V)} {ds : List (Key × D)} : F a = some (.dK kvs) → kvs.map (·.1) = ds.map (·.1) → Reps K F (kvs.map (·.2)) (ds.map (·.2)) → Rep K F (.ref a) (.dct ds)
  | exc {x : EId} {fsV : List (Str × V)} {fs : List (Str × D)} : XD F x.d fsV → fsV.map (·.1) = fs.map (·.1) → Reps K F (fsV.map (·.2)) (fs.map (·.2)) → Rep K F (.ref x.a) (.exc x fs)
  | clo {a : Addr} {R : Hp → Prop} : (∀ G G' : Hp, Same G G' → R G → R G') → R F → Rep K F (.ref a) (.clo a R)
  | dcf {a : Addr} {o : Obj} {kvs : List (Key × V)} {ds : List (Key × D)} : F a = some (.frz o (.dK kvs)) → kvs.map (·.1) = ds.map (·.1) → Reps K F (kvs.map (·.2)) (ds.map (·.2)) → Rep K F (.ref a) (.dcf ds)
  | err {e C : Addr} {d : Option Addr} {n : Str} {fsV : List (Str × V)} {fs : List (Str × D)} : F e = some (exV e C d) → XD F d fsV → fsV.map (·.1) = fs.map (·.1) → Reps K F (fsV.map (·.2)) (fs.map (·.2)) → Rep K F (.ref e) (.err n C fs)
inductive Reps (K : PySem.W.Frag) (F : Hp) : List V → List D → Prop
  | nil : Reps K F [] []
  | cons {v : V} {vs : List V} {d : D} {ds : List D} : Rep K F v d → Reps K F vs ds → Reps K F (v :: vs) (d :: ds)
end

theorem sm_rd {H H' : Hp} {a : Addr} {u : HO} (e : Same H H') (h : Rd H a u) : Rd H' a u := by
  rcases h with h | ⟨o, h⟩
  · exact .inl (e _ _ h)
  · exact .inr ⟨o, e _ _ h⟩
theorem sm_tup {K : PySem.W.Frag} {H H' : Hp} {a : Addr} {xs : List V} (e : Same H H') (h : SqT K H a xs) : SqT K H' a xs := by
  rcases h with h | h
  · exact .inl (sm_rd e h)
  · exact .inr h

section
variable {K : PySem.W.Frag} {F F' : Hp}
mutual
theorem Rep.mono (e : Same F F') : ∀ {v : V} {d : D}, Rep K F v d → Rep K F' v d
  | _, _, .non => .non
  | _, _, .bl b => .bl b
  | _, _, .int i => .int i
  | _, _, .str x => .str x
  | _, _, .fn a => .fn a
  | _, _, .tup h r => .tup (sm_tup e h) (Reps.mono e r)
  | _, _, .lst h r => .lst (e _ _ h) (Reps.mono e r)
  | _, _, .scr h => .scr (Same.seq e h)
  | _, _, .dct h k r => .dct (e _ _ h) k (Reps.mono e r)
  | _, _, .exc h1 k r => .exc (h1.mono e) k (Reps.mono e r)
  | _, _, .clo m h => .clo m (m _ _ e h)
  | _, _, .dcf h k r => .dcf (e _ _ h) k (Reps.mono e r)
  | _, _, .err h1 h2 k r => .err (e _ _ h1) (h2.mono e) k (Reps.mono e r)
theorem Reps.mono (e : Same F F') : ∀ {vs : List V} {ds : List D}, Reps K F vs ds → Reps K F' vs ds
  | _, _, .nil => .nil
  | _, _, .cons h r => .cons (Rep.mono e h) (Reps.mono e r)
end
theorem Reps.length : ∀ {vs : List V} {ds : List D}, Reps K F vs ds → vs.length = ds.length
  | _, _, .nil => rfl
  | _, _, .cons _ r => congrArg (· + 1) (Reps.length r)
theorem Reps.append : ∀ {vs ws : List V} {ds es : List D}, Reps K F vs ds → Reps K F ws es → Reps K F (vs ++ ws) (ds ++ es)
  | _, _, _, _, .nil, q => q
  | _, _, _, _, .cons h r, q => .cons h (Reps.append r q)
theorem Reps.get : ∀ {vs : List V} {ds : List D} {i : Nat} {d : D}, Reps K F vs ds → ds[i]? = some d → ∃ v, vs[i]? = some v ∧ Rep K F v d
  | _, _, _, _, .nil, e => by simp at e
  | _, _, 0, _, .cons h r, e => by
    simp at e
    subst e
    exact ⟨_, rfl, h⟩
  | _, _, i + 1, d, .cons h r, e => by
    obtain ⟨v, h1, h2⟩ := Reps.get (i := i) (d := d) r (by simpa using e)
    exact ⟨v, by simpa using h1, h2⟩
theorem Reps.take : ∀ {vs : List V} {ds : List D} (n : Nat), Reps K F vs ds → Reps K F (vs.take n) (ds.take n)
  | _, _, 0, _ => .nil
  | _, _, _ + 1, .nil => .nil
  | _, _, n + 1, .cons h r => .cons h (Reps.take n r)
theorem Reps.drop : ∀ {vs : List V} {ds : List D} (n : Nat), Reps K F vs ds → Reps K F (vs.drop n) (ds.drop n)
  | _, _, 0, r => r
  | _, _, _ + 1, .nil => .nil
  | _, _, n + 1, .cons h r => Reps.drop n r
theorem Reps.set {v : V} {d : D} (h : Rep K F v d) : ∀ {vs : List V} {ds : List D} (i : Nat), Reps K F vs ds → Reps K F (vs.set i v) (ds.set i d)
  | _, _, _, .nil => .nil
  | _, _, 0, .cons _ r => .cons h r
  | _, _, i + 1, .cons q r => .cons q (Reps.set h i r)
theorem Reps.ints : ∀ (ns : List Int), Reps K F (ns.map V.int) (ns.map D.int)
  | [] => .nil
  | n :: ns => .cons (.int n) (Reps.ints ns)
theorem Reps.snoc {vs : List V} {ds : List D} {v : V} {d : D} (r : Reps K F vs ds) (h : Rep K F v d) : Reps K F (vs ++ [v]) (ds ++ [d]) := r.append (.cons h .nil)
theorem Reps.reverse : ∀ {vs : List V} {ds : List D}, Reps K F vs ds → Reps K F vs.reverse ds.reverse
  | _, _, .nil => .nil
  | _, _, .cons h r => by
    rw [List.reverse_cons, List.reverse_cons]
    exact (Reps.reverse r).append (.cons h .nil)
end

/-! ### slots -/
/-- an entry: the key, where it stands, the value -/
abbrev Ent := List Key × Addr × Value
def DTt (P : Program) (w : World) (a : Addr) (xs : List Ent) (h : Heap) : Prop :=
  ∃ ob rows ep, h.get? a = some ob ∧ ob.ExactDict ∧ ob.data = .dict rows ep ∧ rows.toList = xs.map (entryOfKey (tupleKind (mixKind P w))) ∧ (xs.map fun e => e.1).Nodup
def DTo (P : Program) (w : World) (a : Addr) (xs : List Ent) : HO := .ext fun h => xs.length ≤ sizeLine ∧ (a == sysModules) = false ∧ DTt P w a xs h
/-- a dict is no code object -/
theorem dto_not_code {P : Program} {w : World} {D c : Addr} {xs : List Ent} {q : Str} : DTo P w D xs ≠ LamX.CodeO c q := fun z => by
  let o : Obj := { cls := .none, data := .fields #[.none, .str q 0] }
  let g : Heap := Heap.push ⟨Array.replicate c o, {}⟩ o
  have there : g.get? c = some o := by
    have := Heap.get?_push_size (⟨Array.replicate c o, {}⟩ : Heap) (show o.isFreed = false from rfl)
    rwa [show (Heap.mk (Array.replicate c o) {}).objs.size = c from Array.size_replicate ..] at this
  have only : ∀ b u, g.get? b = some u → u = o := fun b u e => by
    rcases Heap.get?_push_cases e with ⟨_, e⟩ | e
    · exact e
    · obtain ⟨e, _⟩ := Heap.get?_some_iff.mp e
      have e : (Array.replicate c o)[b]? = some u := e
      rw [Array.getElem?_replicate] at e
      split at e
      · exact (Option.some.inj e).symm
      · cases e
  have k : (∃ (oc : Obj) (vs : Array Value) (t : Tok), g.get? c = some oc ∧ oc.data = .fields vs ∧ vs[1]? = some (.str q t)) := ⟨o, _, _, there, rfl, rfl⟩
  obtain ⟨_, _, o', es, ep, g', _, d, _⟩ := (congrFun (HO.ext.inj z) g).mpr k
  cases only _ _ g'
  cases d
/-- the entries of a dict whose keys are tuples of whole numbers -/
abbrev EntU (K : PySem.W.Frag) (F : Hp) (xs : List Ent) (kvs : List (List Int × D)) : Prop := Paired (fun x p => SqT K F x.2.1 (p.1.map V.int) ∧ x.1 = p.1.map Sum.inl ∧ ∃ v, RelV v x.2.2 ∧ Rep K F v p.2) xs kvs
/-- what a mutable thing holds: a list, an instance, a dict -/
inductive M where
  | lst (ds : List D)
  | ins (C : Addr) (fs : List (Str × D))
  | dct (kvs : List (Key × D))
  | dtu (kvs : List (List Int × D))
def MRep (K : PySem.W.Frag) (F H : Hp) (p : Addr) : M → Prop
  | .lst ds => ∃ vs, H p = some (.lst vs) ∧ Reps K F vs ds
  | .ins C fs => ∃ dx fsV, H p = some (.ins C dx fsV) ∧ fsV.map (·.1) = fs.map (·.1) ∧ Reps K F (fsV.map (·.2)) (fs.map (·.2))
  | .dct ds => ∃ kvs, H p = some (.dK kvs) ∧ kvs.map (·.1) = ds.map (·.1) ∧ Reps K F (kvs.map (·.2)) (ds.map (·.2))
  | .dtu ds => ∃ P w xs, H p = some (DTo P w p xs) ∧ EntU K F xs ds
theorem MRep.here {K : PySem.W.Frag} {F H : Hp} {p : Addr} {m : M} (h : MRep K F H p m) : ∃ o, H p = some o := by
  cases m with
  | lst ds => obtain ⟨vs, e, _⟩ := h; exact ⟨_, e⟩
  | ins C fs => obtain ⟨dx, fsV, e, _⟩ := h; exact ⟨_, e⟩
  | dct ds => obtain ⟨kvs, e, _⟩ := h; exact ⟨_, e⟩
  | dtu ds => obtain ⟨P, w, xs, e, _⟩ := h; exact ⟨_, e⟩
/-- a thing that may be changed -/
def Mut (o : HO) : Prop := (∃ vs, o = .lst vs) ∨ (∃ C dx fs, o = .ins C dx fs) ∨ (∃ kvs, o = .dK kvs) ∨ ∃ P w a xs, o = DTo P w a xs
theorem Mut.nt {o : HO} (h : Mut o) : NT o := fun ps z => by
  subst z
  rcases h with ⟨_, h⟩ | ⟨_, _, _, h⟩ | ⟨_, h⟩ | ⟨_, _, _, _, h⟩ <;> cases h
theorem MRep.mut {K : PySem.W.Frag} {F H : Hp} {p : Addr} {m : M} (h : MRep K F H p m) : ∃ o, H p = some o ∧ Mut o := by
  cases m with
  | lst ds => obtain ⟨vs, e, _⟩ := h; exact ⟨_, e, .inl ⟨_, rfl⟩⟩
  | ins C fs => obtain ⟨dx, fsV, e, _⟩ := h; exact ⟨_, e, .inr (.inl ⟨_, _, _, rfl⟩)⟩
  | dct ds => obtain ⟨kvs, e, _⟩ := h; exact ⟨_, e, .inr (.inr (.inl ⟨_, rfl⟩))⟩
  | dtu ds => obtain ⟨P, w, xs, e, _⟩ := h; exact ⟨_, e, .inr (.inr (.inr ⟨_, _, _, _, rfl⟩))⟩
theorem tabs_upd {T : List (Addr × Str)} {H : Hp} {p : Addr} {o o' : HO} (t : LamX.Tabs T H) (h : H p = some o) (m : Mut o) : LamX.Tabs T (upd H p o') := fun q hq => by
  obtain ⟨ps, h1, h2, h3⟩ := t q hq
  have nx : ∀ {b : Addr} {u : HO}, H b = some u → ¬ Mut u → b ≠ p := fun {b u} e n z => by
    subst z
    rw [h] at e
    cases e
    exact n m
  refine ⟨ps, by rw [upd_ne (nx h1 fun z => z.nt _ rfl)]; exact h1, h2, fun pos cv hc => ?_⟩
  obtain ⟨c, e1, e2⟩ := h3 pos cv hc
  refine ⟨c, e1, ?_⟩
  rw [upd_ne (nx e2 fun z => by
    rcases z with ⟨_, h⟩ | ⟨_, _, _, h⟩ | ⟨_, h⟩ | ⟨_, _, _, _, h⟩ <;> first | exact dto_not_code h.symm | (unfold LamX.CodeO at h; cases h))]
  exact e2
theorem Mut.pl {o : HO} (h : Mut o) : PlO o := by
  rcases h with ⟨_, rfl⟩ | ⟨_, _, _, rfl⟩ | ⟨_, rfl⟩ | ⟨_, _, _, _, rfl⟩ <;> exact ⟨fun _ z => (nomatch z), fun _ _ z => (nomatch z)⟩
theorem MRep.mono {K : PySem.W.Frag} {F F' H H' : Hp} {p : Addr} {m : M} (h : MRep K F H p m) (e : Same F F') (k : ∀ o, H p = some o → H' p = some o) : MRep K F' H' p m := by
  cases m with
  | lst ds => obtain ⟨vs, e1, r⟩ := h; exact ⟨vs, k _ e1, r.mono e⟩
  | ins C fs => obtain ⟨dx, fsV, e1, l, r⟩ := h; exact ⟨dx, fsV, k _ e1, l, r.mono e⟩
  | dct ds => obtain ⟨kvs, e1, l, r⟩ := h; exact ⟨kvs, k _ e1, l, r.mono e⟩
  | dtu ds => obtain ⟨P, w, xs, e1, r⟩ := h; exact ⟨P, w, xs, k _ e1, Paired.mapP r fun _ _ ⟨a, b, v, c, d⟩ => ⟨sm_tup e a, b, v, c, d.mono e⟩⟩

inductive Slot where
  /-- not known -/
  | no
  /-- data, never changed -/
  | val (d : D)
  /-- a thing of our own -/
  | own (m : M)
  /-- a thing that was handed to us, at the place π i -/
  | io (m : M)
abbrev Rho := List Slot

/-- what the state is compared with: the heap at a beginning, its frozen part, what may be changed of it: handed in, own -/
structure Cfg where
  H0 : Hp
  F0 : Hp
  io : List Addr
  ow : List Addr

def SlotOk (K : PySem.W.Frag) (π : Nat → Addr) (c : Cfg) (F H : Hp) (σ : L2.St) (i : Nat) : Slot → Prop
  | .no => True
  | .val d => ∃ v, σ[i]? = some (some v) ∧ Rep K F v d
  | .own m => ∃ p, σ[i]? = some (some (.ref p)) ∧ F p = none ∧ (c.H0 p = none ∨ p ∈ c.ow) ∧ MRep K F H p m
  | .io m => σ[i]? = some (some (.ref (π i))) ∧ F (π i) = none ∧ π i ∈ c.io ∧ MRep K F H (π i) m
/-- slot i is at p, ours to change -/
def OwnAt (σ : L2.St) (ρ : Rho) (i : Nat) (p : Addr) : Prop := σ[i]? = some (some (.ref p)) ∧ ∃ m, ρ[i]? = some (.own m) ∨ ρ[i]? = some (.io m)

/-- the tables, in a state -/
structure StT [FE] (c : Cfg) (F H : Hp) : Prop where
  tb : LamX.Tabs FE.tabs H
  tk : ∀ q ps, c.H0 q = some (.tbl ps) → ∃ ps', H q = some (.tbl ps')
  nt : NoT F
section
variable [FE]
structure Sta (K : PySem.W.Frag) (π : Nat → Addr) (c : Cfg) (F H : Hp) (σ : L2.St) (ρ : Rho) : Prop where
  h0 : ∀ q o, c.H0 q = some o → q ∉ c.io → q ∉ c.ow → NT o → H q = some o
  hio : ∀ q, q ∈ c.io ∨ q ∈ c.ow → ∃ o, H q = some o
  f0 : Same c.F0 F
  f : Same F H
  nf : ∀ q o, c.H0 q = some o → c.F0 q = none → F q = none
  len : σ.length = ρ.length
  rep : ∀ i s, ρ[i]? = some s → SlotOk K π c F H σ i s
  dis : ∀ i j p, OwnAt σ ρ i p → OwnAt σ ρ j p → i = j
  t : StT c F H

/-- the heap has grown, nothing has changed -/
structure GrT (F H F' H' : Hp) : Prop where
  tb : LamX.Tabs FE.tabs H → LamX.Tabs FE.tabs H'
  tk : ∀ q ps, H q = some (.tbl ps) → ∃ ps', H' q = some (.tbl ps')
  nt : NoT F → NoT F'
theorem GrT.of {F H F' H' : Hp} (h : Same H H') (n : NoT F → NoT F') : GrT F H F' H' := ⟨fun t => t.ext h, fun q ps e => ⟨ps, h _ _ e⟩, n⟩
theorem NoT.upd {F : Hp} {p : Addr} {o : HO} (h : NoT F) (n : NT o ∧ PlO o) : NoT (upd F p o) := fun q u e => by
  by_cases z : q = p
  · subst z
    rw [upd_same] at e
    cases e
    exact n
  · rw [upd_ne z] at e
    exact h _ _ e
structure Grw (F H F' H' : Hp) : Prop where
  f : Same F F'
  h : LamX.ExtN H H'
  fh : Same F' H'
  nf : ∀ q o, H q = some o → F q = none → F' q = none
  t : GrT F H F' H'
theorem extN {H H' : Hp} (h : Same H H') : LamX.ExtN H H' := fun b o e _ => h b o e
theorem Grw.refl {F H : Hp} (h : Same F H) : Grw F H F H := ⟨Same.refl _, extN (Same.refl _), h, fun _ _ _ e => e, .of (Same.refl _) fun n => n⟩
theorem sm_new {H : Hp} {p : Addr} {o : HO} (h : H p = none) : Same H (upd H p o) := fun a u e => by
  rw [upd_ne (ne_of_none e h)]
  exact e
theorem sm_upd2 {F H : Hp} (e : Same F H) {p : Addr} {o : HO} : Same (upd F p o) (upd H p o) := fun a u h => by
  by_cases q : a = p
  · subst q
    rw [upd_same] at h ⊢
    exact h
  · rw [upd_ne q] at h ⊢
    exact e _ _ h
theorem sm_updR {F H : Hp} (e : Same F H) {p : Addr} {o : HO} (h : F p = none) : Same F (upd H p o) := fun a u q => by
  rw [upd_ne (ne_of_none q h)]
  exact e _ _ q
/-- a new thing, frozen at once -/
theorem Grw.newF {F H : Hp} {p : Addr} {o : HO} (h : Same F H) (e : H p = none) (n : NT o := by intro ps z; cases z) (m : PlO o := by exact ⟨fun _ z => (nomatch z), fun _ _ z => (nomatch z)⟩) : Grw F H (upd F p o) (upd H p o) :=
  ⟨sm_new (Same.free h e), extN (sm_new e), sm_upd2 h, fun q u h1 h2 => by rw [upd_ne (ne_of_none h1 e)]; exact h2, .of (sm_new e) fun x => x.upd ⟨n, m⟩⟩
/-- a new thing, not frozen -/
theorem Grw.newO {F H : Hp} {p : Addr} {o : HO} (h : Same F H) (e : H p = none) : Grw F H F (upd H p o) :=
  ⟨Same.refl _, extN (sm_new e), sm_updR h (Same.free h e), fun _ _ _ q => q, .of (sm_new e) fun x => x⟩
/-- a new tuple, told with its object -/
theorem Grw.newT {F H : Hp} {p : Addr} {o : Obj} {xs : List V} (h : Same F H) (e : H p = none) (d : o.dict = none) : Grw F H (upd F p (.frz o (.tup xs))) (upd H p (.frz o (.tup xs))) :=
  Grw.newF h e (m := ⟨fun _ z => (nomatch z), fun u ys z => by
    cases z
    exact d⟩)
theorem Grw.trans {F H F1 H1 F2 H2 : Hp} (a : Grw F H F1 H1) (b : Grw F1 H1 F2 H2) : Grw F H F2 H2 :=
  ⟨a.f.trans b.f, a.h.trans b.h, b.fh, fun q o h e => by
    by_cases z : ∃ ps, o = .tbl ps
    · obtain ⟨ps, rfl⟩ := z
      obtain ⟨ps', e'⟩ := a.t.tk q ps h
      exact b.nf q _ e' (a.nf q _ h e)
    · exact b.nf q o (a.h _ _ h fun ps y => z ⟨ps, y⟩) (a.nf q o h e),
   ⟨fun t => b.t.tb (a.t.tb t), fun q ps e => by
    obtain ⟨ps', e'⟩ := a.t.tk q ps e
    exact b.t.tk q ps' e', fun n => b.t.nt (a.t.nt n)⟩⟩
/-- what stood stands, of its kind -/
theorem Grw.any {F H F' H' : Hp} (g : Grw F H F' H') {q : Addr} {o : HO} (e : H q = some o) : ∃ o', H' q = some o' := by
  by_cases z : ∃ ps, o = .tbl ps
  · obtain ⟨ps, rfl⟩ := z
    obtain ⟨ps', e'⟩ := g.t.tk q ps e
    exact ⟨_, e'⟩
  · exact ⟨o, g.h _ _ e fun ps y => z ⟨ps, y⟩⟩

section
variable {K : PySem.W.Frag} {π : Nat → Addr} {c : Cfg} {F H F' H' : Hp} {σ σ' : L2.St} {ρ ρ' : Rho}
theorem Sta.any (S : Sta K π c F H σ ρ) {q : Addr} {o : HO} (e : c.H0 q = some o) : ∃ o', H q = some o' := by
  by_cases h1 : q ∈ c.io
  · exact S.hio q (.inl h1)
  · by_cases h2 : q ∈ c.ow
    · exact S.hio q (.inr h2)
    · by_cases z : ∃ ps, o = .tbl ps
      · obtain ⟨ps, rfl⟩ := z
        obtain ⟨ps', e'⟩ := S.t.tk q ps e
        exact ⟨_, e'⟩
      · exact ⟨o, S.h0 q o e h1 h2 fun ps y => z ⟨ps, y⟩⟩
theorem Sta.grow (S : Sta K π c F H σ ρ) (g : Grw F H F' H') : Sta K π c F' H' σ ρ := by
  refine ⟨fun q o e n n' nt => g.h _ _ (S.h0 q o e n n' nt) nt, fun q hq => ?_, S.f0.trans g.f, g.fh, fun q o e n => ?_, S.len, fun i s hs => ?_, S.dis, ⟨g.t.tb S.t.tb, fun q ps e => ?_, g.t.nt S.t.nt⟩⟩
  · obtain ⟨o, e⟩ := S.hio q hq
    exact g.any e
  · obtain ⟨o', e'⟩ := S.any e
    exact g.nf q o' e' (S.nf q o e n)
  · have z := S.rep i s hs
    cases s with
    | no => trivial
    | val d =>
      obtain ⟨v, e, r⟩ := z
      exact ⟨v, e, r.mono g.f⟩
    | own m =>
      obtain ⟨p, e, n, fr, r⟩ := z
      obtain ⟨o, ho, hm⟩ := r.mut
      exact ⟨p, e, g.nf p o ho n, fr, r.mono g.f fun o' ho' => g.h _ _ ho' (by rw [ho] at ho'; cases ho'; exact hm.nt)⟩
    | io m =>
      obtain ⟨e, n, fr, r⟩ := z
      obtain ⟨o, ho, hm⟩ := r.mut
      exact ⟨e, g.nf _ o ho n, fr, r.mono g.f fun o' ho' => g.h _ _ ho' (by rw [ho] at ho'; cases ho'; exact hm.nt)⟩
  · obtain ⟨ps', e'⟩ := S.t.tk q ps e
    exact g.t.tk q ps' e'
theorem Sta.val (S : Sta K π c F H σ ρ) {i : Nat} {d : D} (h : ρ[i]? = some (.val d)) : ∃ v, σ[i]? = some (some v) ∧ Rep K F v d := S.rep i _ h

/-- what may be changed now -/
def isO : Slot → Bool
  | .own _ => true
  | _ => false
def isI : Slot → Bool
  | .io _ => true
  | _ => false
def adr : Option (Option V) → Option Addr
  | some (some (.ref p)) => some p
  | _ => none
theorem adr_eq {x : Option (Option V)} {p : Addr} (h : adr x = some p) : x = some (some (.ref p)) := by
  unfold adr at h
  split at h
  · cases h
    rfl
  · cases h
def adrs (t : Slot → Bool) (σ : L2.St) (ρ : Rho) : List Addr := (List.range ρ.length).filterMap fun i => if (ρ[i]?.map t).getD false = true then adr σ[i]? else none
theorem mem_adrs {t : Slot → Bool} {p : Addr} : p ∈ adrs t σ ρ ↔ ∃ (i : Nat) (s : Slot), σ[i]? = some (some (V.ref p)) ∧ ρ[i]? = some s ∧ t s = true := by
  constructor
  · intro h
    obtain ⟨i, hi, e⟩ := List.mem_filterMap.mp h
    cases h2 : ρ[i]? with
    | none => rw [h2] at e; cases e
    | some s =>
      rw [h2] at e
      by_cases z : t s = true
      · rw [if_pos (show ((some s).map t).getD false = true from z)] at e
        exact ⟨i, s, adr_eq e, h2, z⟩
      · rw [if_neg (show ¬ ((some s).map t).getD false = true from z)] at e
        cases e
  · rintro ⟨i, s, h1, h2, h3⟩
    refine List.mem_filterMap.mpr ⟨i, List.mem_range.mpr (List.getElem?_eq_some_iff.mp h2).1, ?_⟩
    rw [h2, if_pos (show ((some s).map t).getD false = true from h3), h1]
    rfl
/-- the state as its own beginning -/
def cfg (F H : Hp) (σ : L2.St) (ρ : Rho) : Cfg := ⟨H, F, adrs isI σ ρ, adrs isO σ ρ⟩
theorem Sta.ownO (S : Sta K π c F H σ ρ) {p : Addr} (h : p ∈ adrs isO σ ρ) : F p = none ∧ (c.H0 p = none ∨ p ∈ c.ow) ∧ ∃ o, H p = some o := by
  obtain ⟨i, s, e, hs, z⟩ := mem_adrs.mp h
  cases s with
  | own m =>
    obtain ⟨q, e', n, fr, r⟩ := S.rep i _ hs
    rw [e] at e'
    cases e'
    exact ⟨n, fr, r.here⟩
  | no => cases z
  | val d => cases z
  | io m => cases z
theorem Sta.ownI (S : Sta K π c F H σ ρ) {p : Addr} (h : p ∈ adrs isI σ ρ) : F p = none ∧ p ∈ c.io ∧ ∃ o, H p = some o := by
  obtain ⟨i, s, e, hs, z⟩ := mem_adrs.mp h
  cases s with
  | io m =>
    obtain ⟨e', n, fr, r⟩ := S.rep i _ hs
    rw [e] at e'
    cases e'
    exact ⟨n, fr, r.here⟩
  | no => cases z
  | val d => cases z
  | own m => cases z
theorem Sta.self (S : Sta K π c F H σ ρ) : Sta K π (cfg F H σ ρ) F H σ ρ := by
  refine ⟨fun q o e _ _ _ => e, fun q hq => ?_, Same.refl _, S.f, fun q o _ n => n, S.len, fun i s hs => ?_, S.dis, ⟨S.t.tb, fun q ps e => ⟨ps, e⟩, S.t.nt⟩⟩
  · rcases hq with hq | hq
    · exact (S.ownI hq).2.2
    · exact (S.ownO hq).2.2
  · have z := S.rep i s hs
    cases s with
    | no => trivial
    | val d => exact z
    | own m =>
      obtain ⟨p, e, n, fr, r⟩ := z
      exact ⟨p, e, n, .inr (mem_adrs.mpr ⟨i, _, e, hs, rfl⟩), r⟩
    | io m =>
      obtain ⟨e, n, fr, r⟩ := z
      exact ⟨e, n, mem_adrs.mpr ⟨i, _, e, hs, rfl⟩, r⟩
/-- from a part's end to the whole's -/
theorem Sta.back (S : Sta K π c F H σ ρ) (T : Sta K π (cfg F H σ ρ) F' H' σ' ρ') : Sta K π c F' H' σ' ρ' := by
  have ne : ∀ q o, c.H0 q = some o → q ∉ c.io → q ∉ c.ow → q ∉ adrs isI σ ρ ∧ q ∉ adrs isO σ ρ := fun q o e n1 n2 => ⟨fun h => n1 (S.ownI h).2.1, fun h => by
    rcases (S.ownO h).2.1 with z | z
    · rw [e] at z
      cases z
    · exact n2 z⟩
  have sm : ∀ q, (∃ o, H q = some o) → ∃ o, H' q = some o := fun q ⟨o, e⟩ => T.any e
  refine ⟨fun q o e n n' nt => T.h0 q o (S.h0 q o e n n' nt) (ne q o e n n').1 (ne q o e n n').2 nt, fun q hq => sm q (S.hio q hq), S.f0.trans T.f0, T.f, fun q o e n => ?_, T.len, fun i s hs => ?_, T.dis, ⟨T.t.tb, fun q ps e => by
    obtain ⟨ps', e'⟩ := S.t.tk q ps e
    exact T.t.tk q ps' e', T.t.nt⟩⟩
  · obtain ⟨o', e'⟩ := S.any e
    exact T.nf q o' e' (S.nf q o e n)
  · have z := T.rep i s hs
    cases s with
    | no => trivial
    | val d => exact z
    | own m =>
      obtain ⟨p, e, n, f, r⟩ := z
      refine ⟨p, e, n, ?_, r⟩
      rcases f with f | f
      · refine .inl ?_
        cases e : c.H0 p with
        | none => rfl
        | some o =>
          obtain ⟨o', e'⟩ := S.any e
          have f : H p = none := f
          rw [e'] at f
          cases f
      · exact (S.ownO f).2.1
    | io m =>
      obtain ⟨e, n, f, r⟩ := z
      exact ⟨e, n, (S.ownI f).2.1, r⟩

theorem Sta.ownAt (S : Sta K π c F H σ ρ) {i : Nat} {p : Addr} (h : OwnAt σ ρ i p) : F p = none ∧ (c.H0 p = none ∨ p ∈ c.ow ∨ p ∈ c.io) ∧ ∃ o, H p = some o := by
  obtain ⟨e, m, h | h⟩ := h
  · obtain ⟨q, e', n, fr, r⟩ := S.rep i _ h
    rw [e] at e'
    cases e'
    exact ⟨n, fr.elim .inl fun z => .inr (.inl z), r.here⟩
  · obtain ⟨e', n, fr, r⟩ := S.rep i _ h
    rw [e] at e'
    cases e'
    exact ⟨n, .inr (.inr fr), r.here⟩
theorem Sta.ownMut (S : Sta K π c F H σ ρ) {i : Nat} {p : Addr} (h : OwnAt σ ρ i p) : ∃ o, H p = some o ∧ Mut o := by
  obtain ⟨e, m, h | h⟩ := h
  · obtain ⟨q, e', n, fr, r⟩ := S.rep i _ h
    rw [e] at e'
    cases e'
    exact r.mut
  · obtain ⟨e', n, fr, r⟩ := S.rep i _ h
    rw [e] at e'
    cases e'
    exact r.mut
/-- a slot gets data -/
theorem Sta.set (S : Sta K π c F H σ ρ) {i : Nat} (hi : i < ρ.length) {v : V} {d : D} (r : Rep K F v d) : Sta K π c F H (σ.set i (some v)) (ρ.set i (.val d)) := by
  have hl : i < σ.length := by rw [S.len]; exact hi
  refine ⟨S.h0, S.hio, S.f0, S.f, S.nf, by simpa using S.len, fun j s hs => ?_, fun j k p h1 h2 => ?_, S.t⟩
  · by_cases e : j = i
    · subst e
      rw [List.getElem?_set_self hi] at hs
      cases hs
      exact ⟨v, List.getElem?_set_self hl, r⟩
    · rw [List.getElem?_set_ne (Ne.symm e)] at hs
      have z := S.rep j s hs
      have g : (σ.set i (some v))[j]? = σ[j]? := List.getElem?_set_ne (Ne.symm e)
      cases s with
      | no => trivial
      | val d => obtain ⟨w, e1, r1⟩ := z; exact ⟨w, g.trans e1, r1⟩
      | own m => obtain ⟨p, e1, r1⟩ := z; exact ⟨p, g.trans e1, r1⟩
      | io m => obtain ⟨e1, r1⟩ := z; exact ⟨g.trans e1, r1⟩
  · have key : ∀ j, OwnAt (σ.set i (some v)) (ρ.set i (.val d)) j p → OwnAt σ ρ j p := fun j h => by
      obtain ⟨e, m, h⟩ := h
      by_cases q : j = i
      · subst q
        rw [List.getElem?_set_self hi] at h
        rcases h with h | h <;> cases h
      · rw [List.getElem?_set_ne (Ne.symm q)] at e h
        exact ⟨e, m, h⟩
    exact S.dis j k p (key j h1) (key k h2)
/-- a slot is forgotten -/
theorem Sta.forget (S : Sta K π c F H σ ρ) (i : Nat) : Sta K π c F H σ (ρ.set i .no) := by
  refine ⟨S.h0, S.hio, S.f0, S.f, S.nf, by simpa using S.len, fun j s hs => ?_, fun j k p h1 h2 => ?_, S.t⟩
  · by_cases e : j = i
    · subst e
      by_cases hi : j < ρ.length
      · rw [List.getElem?_set_self hi] at hs
        cases hs
        trivial
      · have z : (ρ.set j Slot.no)[j]? = none := by simp; omega
        rw [z] at hs
        cases hs
    · rw [List.getElem?_set_ne (Ne.symm e)] at hs
      exact S.rep j s hs
  · have key : ∀ j, OwnAt σ (ρ.set i .no) j p → OwnAt σ ρ j p := fun j h => by
      obtain ⟨e, m, h⟩ := h
      by_cases q : j = i
      · subst q
        by_cases hi : j < ρ.length
        · rw [List.getElem?_set_self hi] at h
          rcases h with h | h <;> cases h
        · have z : (ρ.set j Slot.no)[j]? = none := by simp; omega
          rw [z] at h
          rcases h with h | h <;> cases h
      · rw [List.getElem?_set_ne (Ne.symm q)] at h
        exact ⟨e, m, h⟩
    exact S.dis j k p (key j h1) (key k h2)
/-- a slot gets a new thing of its own -/
theorem Sta.setOwn (S : Sta K π c F H σ ρ) {i : Nat} (hi : i < ρ.length) {p : Addr} {m : M} (n : F p = none) (fr : c.H0 p = none ∨ p ∈ c.ow) (r : MRep K F H p m) (nw : ∀ j, ¬ OwnAt σ ρ j p) :
    Sta K π c F H (σ.set i (some (.ref p))) (ρ.set i (.own m)) := by
  have hl : i < σ.length := by rw [S.len]; exact hi
  refine ⟨S.h0, S.hio, S.f0, S.f, S.nf, by simpa using S.len, fun j s hs => ?_, fun j k q h1 h2 => ?_, S.t⟩
  · by_cases e : j = i
    · subst e
      rw [List.getElem?_set_self hi] at hs
      cases hs
      exact ⟨p, List.getElem?_set_self hl, n, fr, r⟩
    · rw [List.getElem?_set_ne (Ne.symm e)] at hs
      have z := S.rep j s hs
      have g : (σ.set i (some (V.ref p)))[j]? = σ[j]? := List.getElem?_set_ne (Ne.symm e)
      cases s with
      | no => trivial
      | val d => obtain ⟨w, e1, r1⟩ := z; exact ⟨w, g.trans e1, r1⟩
      | own m => obtain ⟨p, e1, r1⟩ := z; exact ⟨p, g.trans e1, r1⟩
      | io m => obtain ⟨e1, r1⟩ := z; exact ⟨g.trans e1, r1⟩
  · have key : ∀ j, OwnAt (σ.set i (some (.ref p))) (ρ.set i (.own m)) j q → (j = i ∧ q = p) ∨ (j ≠ i ∧ OwnAt σ ρ j q) := fun j h => by
      obtain ⟨e, m', h⟩ := h
      by_cases z : j = i
      · subst z
        rw [List.getElem?_set_self hl] at e
        cases e
        exact .inl ⟨rfl, rfl⟩
      · rw [List.getElem?_set_ne (Ne.symm z)] at e h
        exact .inr ⟨z, e, m', h⟩
    rcases key j h1 with ⟨a, b⟩ | ⟨a, b⟩
    · rcases key k h2 with ⟨a', b'⟩ | ⟨a', b'⟩
      · rw [a, a']
      · rw [b] at b'
        exact absurd b' (nw k)
    · rcases key k h2 with ⟨a', b'⟩ | ⟨a', b'⟩
      · rw [b'] at b
        exact absurd b (nw j)
      · exact S.dis j k q b b'
/-- our own thing has changed -/
theorem Sta.change (S : Sta K π c F H σ ρ) {i : Nat} {p : Addr} {m : M} {o : HO} (h : OwnAt σ ρ i p) (r : MRep K F (upd H p o) p m) (s' : Slot) (hs' : (s' = .own m ∧ ∃ m0, ρ[i]? = some (.own m0)) ∨ (s' = .io m ∧ ∃ m0, ρ[i]? = some (.io m0))) :
    Sta K π c F (upd H p o) σ (ρ.set i s') := by
  obtain ⟨n, fr, o0, ho⟩ := S.ownAt h
  have hi : i < ρ.length := by
    obtain ⟨_, m0, z | z⟩ := h <;> exact (List.getElem?_eq_some_iff.mp z).1
  obtain ⟨om, hom, mm⟩ := S.ownMut h
  refine ⟨fun q u e nq nq' nt => ?_, fun q hq => ?_, S.f0, sm_updR S.f n, S.nf, by simpa using S.len, fun j s hs => ?_, fun j k q h1 h2 => ?_, ⟨tabs_upd S.t.tb hom mm, fun q ps e => ?_, S.t.nt⟩⟩
  · have z : q ≠ p := fun z => by
      subst z
      rcases fr with z | z | z
      · rw [e] at z; cases z
      · exact nq' z
      · exact nq z
    rw [upd_ne z]
    exact S.h0 q u e nq nq' nt
  · by_cases z : q = p
    · subst z
      exact ⟨o, upd_same⟩
    · rw [upd_ne z]
      exact S.hio q hq
  · by_cases e : j = i
    · subst e
      rw [List.getElem?_set_self hi] at hs
      cases hs
      rcases hs' with ⟨rfl, m0, z⟩ | ⟨rfl, m0, z⟩
      · obtain ⟨p', e1, e2, e3, e4⟩ := S.rep j _ z
        have hp := h.1
        rw [e1] at hp
        cases hp
        exact ⟨p, e1, n, e3, r⟩
      · obtain ⟨e1, e2, e3, e4⟩ := S.rep j _ z
        have hp : p = π j := by
          have := h.1
          rw [e1] at this
          cases this
          rfl
        subst hp
        exact ⟨e1, e2, e3, r⟩
    · rw [List.getElem?_set_ne (Ne.symm e)] at hs
      have z := S.rep j s hs
      cases s with
      | no => trivial
      | val d => exact z
      | own m' =>
        obtain ⟨q, e1, e2, e3, r1⟩ := z
        have nq : q ≠ p := fun z => by
          subst z
          exact e (S.dis j i q ⟨e1, m', .inl hs⟩ h)
        exact ⟨q, e1, e2, e3, r1.mono (Same.refl _) fun u hu => by rw [upd_ne nq]; exact hu⟩
      | io m' =>
        obtain ⟨e1, e2, e3, r1⟩ := z
        have nq : π j ≠ p := fun z => by
          rw [z] at e1
          exact e (S.dis j i p ⟨e1, m', .inr hs⟩ h)
        exact ⟨e1, e2, e3, r1.mono (Same.refl _) fun u hu => by rw [upd_ne nq]; exact hu⟩
  · have key : ∀ j, OwnAt σ (ρ.set i s') j q → OwnAt σ ρ j q := fun j hj => by
      obtain ⟨e, m', hj⟩ := hj
      by_cases z : j = i
      · subst z
        rcases hs' with ⟨_, m0, y⟩ | ⟨_, m0, y⟩
        · exact ⟨e, m0, .inl y⟩
        · exact ⟨e, m0, .inr y⟩
      · rw [List.getElem?_set_ne (Ne.symm z)] at hj
        exact ⟨e, m', hj⟩
    exact S.dis j k q (key j h1) (key k h2)
  · obtain ⟨ps', e'⟩ := S.t.tk q ps e
    exact ⟨ps', by rw [upd_ne (fun z => by subst z; rw [hom] at e'; cases e'; exact mm.nt _ rfl)]; exact e'⟩
/-- our own list is frozen -/
theorem Sta.freezeG (S : Sta K π c F H σ ρ) {i : Nat} {m : M} {d : D} (h : ρ[i]? = some (.own m)) (hn : c.ow = []) (hd : ∀ p, MRep K F H p m → ∃ o, NT o ∧ H p = some o ∧ ∀ G : Hp, Same F G → G p = some o → Rep K G (.ref p) d) :
    ∃ F', Grw F F F' F' ∧ Same F F' ∧ Sta K π c F' H σ (ρ.set i (.val d)) := by
  obtain ⟨p, e, n, fr, hm⟩ := S.rep i _ h
  obtain ⟨o, nt, ho, hr⟩ := hd p hm
  have hi : i < ρ.length := (List.getElem?_eq_some_iff.mp h).1
  have hp : c.H0 p = none := by
    rcases fr with z | z
    · exact z
    · rw [hn] at z
      cases z
  have sm : Same F (upd F p o) := sm_new n
  have pl : PlO o := by
    obtain ⟨o', e', mu⟩ := hm.mut
    rw [ho] at e'
    cases e'
    exact mu.pl
  refine ⟨upd F p o, ⟨sm, extN sm, Same.refl _, fun q o h1 h2 => (by rw [h1] at h2; cases h2), .of sm fun x => x.upd ⟨nt, pl⟩⟩, sm, S.h0, S.hio, S.f0.trans sm, fun a u q => ?_, fun q o e1 e2 => ?_, by simpa using S.len, fun j s hs => ?_, fun j k q h1 h2 => ?_, ⟨S.t.tb, S.t.tk, S.t.nt.upd ⟨nt, pl⟩⟩⟩
  · by_cases z : a = p
    · subst z
      rw [upd_same] at q
      cases q
      exact ho
    · rw [upd_ne z] at q
      exact S.f _ _ q
  · rw [upd_ne (fun z => by subst z; rw [hp] at e1; cases e1)]
    exact S.nf q o e1 e2
  · by_cases z : j = i
    · subst z
      rw [List.getElem?_set_self hi] at hs
      cases hs
      exact ⟨_, e, hr _ sm upd_same⟩
    · rw [List.getElem?_set_ne (Ne.symm z)] at hs
      have y := S.rep j s hs
      cases s with
      | no => trivial
      | val d => obtain ⟨w, e1, r1⟩ := y; exact ⟨w, e1, r1.mono sm⟩
      | own m' =>
        obtain ⟨q, e1, e2, e3, r1⟩ := y
        have nq : q ≠ p := fun w => by
          subst w
          exact z (S.dis j i q ⟨e1, m', .inl hs⟩ ⟨e, _, .inl h⟩)
        exact ⟨q, e1, by rw [upd_ne nq]; exact e2, e3, r1.mono sm fun _ hu => hu⟩
      | io m' =>
        obtain ⟨e1, e2, e3, r1⟩ := y
        have nq : π j ≠ p := fun w => by
          rw [w] at e1
          exact z (S.dis j i p ⟨e1, m', .inr hs⟩ ⟨e, _, .inl h⟩)
        exact ⟨e1, by rw [upd_ne nq]; exact e2, e3, r1.mono sm fun _ hu => hu⟩
  · have key : ∀ j, OwnAt σ (ρ.set i (.val d)) j q → OwnAt σ ρ j q := fun j hj => by
      obtain ⟨e, m', hj⟩ := hj
      by_cases z : j = i
      · subst z
        rw [List.getElem?_set_self hi] at hj
        rcases hj with hj | hj <;> cases hj
      · rw [List.getElem?_set_ne (Ne.symm z)] at hj
        exact ⟨e, m', hj⟩
    exact S.dis j k q (key j h1) (key k h2)
theorem Sta.freeze (S : Sta K π c F H σ ρ) {i : Nat} {ds : List D} (h : ρ[i]? = some (.own (.lst ds))) (hn : c.ow = []) :
    ∃ F', Grw F F F' F' ∧ Same F F' ∧ Sta K π c F' H σ (ρ.set i (.val (.lst ds))) :=
  S.freezeG h hn fun p ⟨vs, ho, r⟩ => ⟨_, (by intro ps z; cases z), ho, fun G sm e => .lst e (r.mono sm)⟩
theorem Sta.freezeD (S : Sta K π c F H σ ρ) {i : Nat} {ds : List (Key × D)} (h : ρ[i]? = some (.own (.dct ds))) (hn : c.ow = []) :
    ∃ F', Grw F F F' F' ∧ Same F F' ∧ Sta K π c F' H σ (ρ.set i (.val (.dct ds))) :=
  S.freezeG h hn fun p ⟨kvs, ho, hk, r⟩ => ⟨_, (by intro ps z; cases z), ho, fun G sm e => .dct e hk (r.mono sm)⟩
/-- a new thing is frozen -/
theorem frz_newG (S : Sta K π c F H σ ρ) {p : Addr} {o : HO} (nt : NT o) (ho : H p = some o) (f1 : F p = none) (f2 : c.H0 p = none) (f3 : ∀ j, ¬ OwnAt σ ρ j p) (pl : PlO o := by exact ⟨fun _ z => (nomatch z), fun _ _ z => (nomatch z)⟩) : Same F (upd F p o) ∧ Sta K π c (upd F p o) H σ ρ := by
  have sm : Same F (upd F p o) := sm_new f1
  refine ⟨sm, S.h0, S.hio, S.f0.trans sm, fun a u q => ?_, fun q o e n => ?_, S.len, fun i s hs => ?_, S.dis, ⟨S.t.tb, S.t.tk, S.t.nt.upd ⟨nt, pl⟩⟩⟩
  · by_cases z : a = p
    · subst z
      rw [upd_same] at q
      cases q
      exact ho
    · rw [upd_ne z] at q
      exact S.f _ _ q
  · rw [upd_ne (fun z => by subst z; rw [f2] at e; cases e)]
    exact S.nf q _ e n
  · have z := S.rep i s hs
    cases s with
    | no => trivial
    | val d => obtain ⟨w, e1, q⟩ := z; exact ⟨w, e1, q.mono sm⟩
    | own m' =>
      obtain ⟨q, e1, e2, e3, q1⟩ := z
      have nq : q ≠ p := fun w => by subst w; exact f3 i ⟨e1, m', .inl hs⟩
      exact ⟨q, e1, by rw [upd_ne nq]; exact e2, e3, q1.mono sm fun _ hu => hu⟩
    | io m' =>
      obtain ⟨e1, e2, e3, q1⟩ := z
      have nq : π i ≠ p := fun w => by rw [w] at e1; exact f3 i ⟨e1, m', .inr hs⟩
      exact ⟨e1, by rw [upd_ne nq]; exact e2, e3, q1.mono sm fun _ hu => hu⟩
end
end
/-! ### new tuples: plain ones -/
/-- a new tuple with these items, its object has no dict -/
def NewT (H : Hp) (xs : List V) (Q : VK) : Prop := ∀ (p : Addr) (o : Obj), H p = none → o.dict = none → Q (.ref p) (upd H p (.frz o (.tup xs)))
theorem sqT_new {K : PySem.W.Frag} {H : Hp} {p : Addr} {o : Obj} {xs : List V} (h : H p = some (.frz o (.tup xs))) : SqT K H p xs := .inl (.inr ⟨o, h⟩)
section
variable {X : Cx} {pins : List (Addr × Obj)} {σ : L2.St} {H : Hp} {s : Shared}
theorem newT_ep {xs : List V} {its : List Value} {h' : Heap} {tk : Nat} {Q : VK} (I : Inv X pins σ H s) (z : xs.length ≤ sizeLine) (r : Vals xs its) (k : ∀ b ob, s.heap.get? b = some ob → h'.get? b = some ob) (q : NewT H xs Q) : EP X pins σ Q (.ref h'.objs.size) { s with heap := h'.push { cls := .type "tuple", data := .seq its.toArray }, toks := tk } := by
  let ob : Obj := { cls := .type "tuple", data := .seq its.toArray }
  have told : (h'.push ob).get? h'.objs.size = some ob := Heap.get?_push_size _ rfl
  have I1 : Inv X pins σ H { s with heap := h' } := I.kept (t' := s.toks) k
  have free : H h'.objs.size = none := I1.hok.fresh (Nat.le_refl _)
  have good : ObjOk X.prog X.w (upd H h'.objs.size (.frz ob (.tup xs))) (h'.push ob) h'.objs.size (.frz ob (.tup xs)) := ⟨told, z, its, r, IsTup.new _ _⟩
  have J := I1.laid (t' := tk) (h' := h'.push ob) (fun b u e => Heap.get?_push_of_some _ e) (Nat.le_refl _) good
  exact ⟨.ref h'.objs.size, _, J, rfl, q _ ob free rfl⟩
def tTupN (t : TA) : TE := fun σ H Q => t σ H fun xs H1 => xs.length ≤ sizeLine ∧ NewT H1 xs Q
end
end FL
/-! FL2: readings by functions, rules for expressions and tests. -/
namespace FL
open PySem PySem.Spec PyProof.Rows L2

inductive R (α : Type) where
  | ok (a : α) (ρ : Rho)
  | exc (C : Str) (fs : List (Str × D)) (ρ : Rho)
  | stuck
def R.bind {α β : Type} (x : R α) (k : α → Rho → R β) : R β := match x with
  | .ok a ρ => k a ρ
  | .exc C fs ρ => .exc C fs ρ
  | .stuck => .stuck
def R.of {α : Type} (x : Option α) (ρ : Rho) : R α := match x with
  | some a => .ok a ρ
  | none => .stuck
theorem R.ok_bind {α β : Type} (a : α) (ρ : Rho) (k : α → Rho → R β) : (R.ok a ρ).bind k = k a ρ := rfl
theorem R.stuck_bind {α β : Type} (k : α → Rho → R β) : (R.stuck : R α).bind k = .stuck := rfl
theorem R.of_some {α : Type} (a : α) (ρ : Rho) : R.of (some a) ρ = .ok a ρ := rfl
abbrev EF := Rho → R D
abbrev TF := Rho → R Bool

/-- how results lie -/
abbrev Rel (β α : Type) := Cfg → Hp → Hp → L2.St → Rho → β → α → Prop
section
variable [FE]
section
variable (K : PySem.W.Frag) (π : Nat → Addr) (W : WX)
def relE : Rel V D := fun _ F _ _ _ v d => Rep K F v d
def relT : Rel Bool Bool := fun _ _ _ _ _ b c => b = c
def relA : Rel (List V) (List D) := fun _ F _ _ _ vs ds => Reps K F vs ds
def relM : Rel V M := fun c F H σ ρ v m => ∃ p, v = .ref p ∧ F p = none ∧ c.H0 p = none ∧ (∀ j, ¬ OwnAt σ ρ j p) ∧ MRep K F H p m

def Po {α β : Type} (rel : Rel β α) (c : Cfg) (F : Hp) (σ : L2.St) (Q : β → Hp → Prop) : R α → Prop
  | .ok a ρ' => ∀ v F' H', Same F F' → Sta K π c F' H' σ ρ' → rel c F' H' σ ρ' v a → Q v H'
  | .exc C fs ρ' => ∀ d fsV F' H', Same F F' → Sta K π c F' H' σ ρ' → XD F' d fsV → fsV.map (·.1) = fs.map (·.1) → Reps K F' (fsV.map (·.2)) (fs.map (·.2)) → W (.ref (FE.cl C)) d σ H'
  | .stuck => False
def tG {α β : Type} (rel : Rel β α) (f : Rho → R α) : L2.St → Hp → (β → Hp → Prop) → Prop := fun σ H Q => ∃ c F ρ, Sta K π c F H σ ρ ∧ Po K π W rel c F σ Q (f ρ)
abbrev tE (f : EF) : TE := tG K π W (relE K) f
abbrev tT (f : TF) : TT := tG K π W relT f
abbrev tA (f : Rho → R (List D)) : TA := tG K π W (relA K) f
abbrev tM (f : Rho → R M) : TE := tG K π W (relM K) f
end

section
variable {K : PySem.W.Frag} {π : Nat → Addr} {W : WX} {α β α' β' : Type} {rel : Rel β α} {rel' : Rel β' α'} {c : Cfg} {F F' H H' : Hp} {σ : L2.St} {ρ ρ' : Rho}
theorem Po.mono {Q : β → Hp → Prop} (s : Same F F') : ∀ {r : R α}, Po K π W rel c F σ Q r → Po K π W rel c F' σ Q r
  | .ok a ρ', h => fun v F2 H2 s2 => h v F2 H2 (s.trans s2)
  | .exc C fs ρ', h => fun dd fsV F2 H2 s2 => h dd fsV F2 H2 (s.trans s2)
  | .stuck, h => h
theorem Po.imp {Q Q' : β → Hp → Prop} {r : R α} (h : Po K π W rel c F σ Q r) (k : ∀ v F' H' ρ' a, Same F F' → Sta K π c F' H' σ ρ' → rel c F' H' σ ρ' v a → Q v H' → Q' v H') : Po K π W rel c F σ Q' r := by
  cases r with
  | ok a ρ' => exact fun v F2 H2 s2 S r => k v F2 H2 ρ' a s2 S r (h v F2 H2 s2 S r)
  | exc C fs ρ' => exact h
  | stuck => exact h
/-- what follows a part -/
theorem po_bind {f : Rho → R α} {k : α → Rho → R α'} {Q : β' → Hp → Prop} {Q1 : β → Hp → Prop} (S : Sta K π c F H σ ρ) (h : Po K π W rel' c F σ Q ((f ρ).bind k))
    (cont : ∀ v F' H' ρ' a, Same F F' → Sta K π c F' H' σ ρ' → rel c F' H' σ ρ' v a → Po K π W rel' c F' σ Q (k a ρ') → Q1 v H') : tG K π W rel f σ H Q1 := by
  refine ⟨c, F, ρ, S, ?_⟩
  cases e : f ρ with
  | ok a ρ' =>
    rw [e] at h
    have h : Po K π W rel' c F σ Q (k a ρ') := h
    exact fun v F2 H2 s2 S2 r => cont v F2 H2 ρ' a s2 S2 r (h.mono s2)
  | exc C fs ρ' =>
    rw [e] at h
    exact h
  | stuck =>
    rw [e] at h
    exact h
/-- what a pure operation asks, at the end -/
theorem po_of {x : Option α} {Q : β → Hp → Prop} (h : Po K π W rel c F σ Q (R.of x ρ)) : ∃ a, x = some a ∧ ∀ v F' H', Same F F' → Sta K π c F' H' σ ρ → rel c F' H' σ ρ v a → Q v H' := by
  cases x with
  | none => exact h.elim
  | some a => exact ⟨a, rfl, h⟩
end

section
variable {X : Cx} {π : Nat → Addr} {W : WX} {e a b d : Expr} {es : List Expr} {pos p : Pos}
theorem PE.imp {t t' : TE} (h : PE X e t) (k : ∀ σ H Q, t' σ H Q → t σ H Q) : PE X e t' := ⟨fun pins s σ H Q I q => h.run pins s σ H Q I (k σ H Q q)⟩
theorem PT.imp {t t' : TT} (h : PT X e t) (k : ∀ σ H Q, t' σ H Q → t σ H Q) : PT X e t' := ⟨fun pins s σ H Q I q => h.run pins s σ H Q I (k σ H Q q)⟩
theorem PW.imp {t t' : TT} (h : PW X e t) (k : ∀ σ H Q, t' σ H Q → t σ H Q) : PW X e t' := ⟨fun wh pins s σ H Q I q => h.run wh pins s σ H Q I (k σ H Q q)⟩
theorem PA.imp {t t' : TA} (h : PA X es t) (k : ∀ σ H Q, t' σ H Q → t σ H Q) : PA X es t' := ⟨fun ps pins s σ H Q I q => h.run ps pins s σ H Q I (k σ H Q q)⟩

/-! ### names, constants -/
def vr (i : Nat) : EF := fun ρ => match ρ[i]? with
  | some (.val d) => .ok d ρ
  | _ => .stuck
def cst (d : D) : EF := fun ρ => .ok d ρ
theorem fe_vr {i : Nat} {x : Str} (h : PE X (.Name x pos) (tVar i)) : PE X (.Name x pos) (tE X.K π W (vr i)) := PE.imp h fun σ H Q ⟨c, F, ρ, S, q⟩ => by
  unfold vr at q
  split at q
  · rename_i d e
    obtain ⟨v, e1, r⟩ := S.val e
    exact ⟨v, e1, q v F H (Same.refl _) S r⟩
  · exact q.elim
theorem fe_cst {v : V} {d : D} (h : PE X e (tC v)) (hr : ∀ F, Rep X.K F v d) : PE X e (tE X.K π W (cst d)) := PE.imp h fun σ H Q ⟨c, F, ρ, S, q⟩ => q v F H (Same.refl _) S (hr F)
theorem fe_int {i : Int} {j : Nat} : PE X (.Constant (.int i) j pos) (tE X.K π W (cst (.int i))) := fe_cst pe_int fun _ => .int i
theorem fe_bl {i : Bool} {j : Nat} : PE X (.Constant (.bool i) j pos) (tE X.K π W (cst (.bl i))) := fe_cst pe_bl fun _ => .bl i
theorem fe_non {j : Nat} : PE X (.Constant .none j pos) (tE X.K π W (cst .non)) := fe_cst pe_non fun _ => .non
theorem fe_str {i : Str} {j : Nat} : PE X (.Constant (.str i) j pos) (tE X.K π W (cst (.str i))) := fe_cst pe_str fun _ => .str i
/-- a module's int -/
theorem fe_gint {x : Str} {i : Int} {t : Tok} (hg : Gl X x) (hm : X.mg x = some (.int i t)) (hd : (x == ("__debug__" : Str)) = false := by decide) : PE X (.Name x pos) (tE X.K π W (cst (.int i))) := fe_cst (pe_glob (v := .int i) hg hm ⟨t, rfl⟩ hd) fun _ => .int i
/-! ### operators -/
def op1 (o : D → Option D) (f : EF) : EF := fun ρ => (f ρ).bind fun x ρ => R.of (o x) ρ
def op2 (o : D → D → Option D) (f g : EF) : EF := fun ρ => (f ρ).bind fun x ρ => (g ρ).bind fun y ρ => R.of (o x y) ρ
def Op1 (K : PySem.W.Frag) (o : D → Option D) (r : V → Hp → VK → Prop) : Prop := ∀ {F H : Hp} {x : V} {dx d : D} {Q : VK}, Same F H → Rep K F x dx → o dx = some d → (∀ v F' H', Grw F H F' H' → Rep K F' v d → Q v H') → r x H Q
def Op2 (K : PySem.W.Frag) (o : D → D → Option D) (r : R2) : Prop := ∀ {F H : Hp} {x y : V} {dx dy d : D} {Q : VK}, Same F H → Rep K F x dx → Rep K F y dy → o dx dy = some d → (∀ v F' H', Grw F H F' H' → Rep K F' v d → Q v H') → r x y H Q
section
variable {K : PySem.W.Frag} {r r' : R2} {o o' : D → D → Option D} {f g h : EF}
/-- the reading of two operands and an operation -/
theorem rd_op2 {σ : L2.St} {H : Hp} {Q : VK} (q : Op2 K o r) (t : tE K π W (op2 o f g) σ H Q) : tOp r (tE K π W f) (tE K π W g) σ H Q := by
  obtain ⟨c, F, ρ, S, P⟩ := t
  refine po_bind S P fun x F1 H1 ρ1 dx s1 S1 r1 P1 => ?_
  refine po_bind S1 P1 fun y F2 H2 ρ2 dy s2 S2 r2 P2 => ?_
  obtain ⟨d, e, P3⟩ := po_of P2
  exact q S2.f (Rep.mono s2 r1) r2 e fun v F3 H3 gr rv => P3 v F3 H3 gr.f (S2.grow gr) rv
theorem rd_op1 {ru : V → Hp → VK → Prop} {o : D → Option D} {σ : L2.St} {H : Hp} {Q : VK} (q : Op1 K o ru) (t : tE K π W (op1 o f) σ H Q) : tUn ru (tE K π W f) σ H Q := by
  obtain ⟨c, F, ρ, S, P⟩ := t
  refine po_bind S P fun x F1 H1 ρ1 dx s1 S1 r1 P1 => ?_
  obtain ⟨d, e, P3⟩ := po_of P1
  exact q S1.f r1 e fun v F3 H3 gr rv => P3 v F3 H3 gr.f (S1.grow gr) rv
end
theorem fe_bin {op : Operator} {r : R2} {o : D → D → Option D} {f g : EF} (ho : OpR X (binaryOp op) r) (q : Op2 X.K o r) (ha : PE X a (tE X.K π W f)) (hb : PE X b (tE X.K π W g)) : PE X (.BinOp a op b pos) (tE X.K π W (op2 o f g)) :=
  PE.imp (pe_op ho ha hb) fun _ _ _ => rd_op2 q
theorem fe_un {op : UnaryOp} {r : V → Hp → VK → Prop} {o : D → Option D} {f : EF} (ho : UnR X (unaryOp op) r) (q : Op1 X.K o r) (ha : PE X a (tE X.K π W f)) : PE X (.UnaryOp op a pos) (tE X.K π W (op1 o f)) :=
  PE.imp (pe_un ho ha) fun _ _ _ => rd_op1 q
theorem fe_cmp {op : CmpOp} {r : R2} {o : D → D → Option D} {f g : EF} (ho : OpR X (compareOp op) r) (q : Op2 X.K o r) (ha : PE X a (tE X.K π W f)) (hb : PE X b (tE X.K π W g)) (hm : behindInMarks op b = false) : PE X (.Compare a [op] [b] pos) (tE X.K π W (op2 o f g)) :=
  PE.imp (pe_cmpR ho ha hb hm) fun _ _ _ => rd_op2 q
def tst (f : EF) : TF := fun ρ => (f ρ).bind fun x ρ => R.of (match x with | .bl b => some b | _ => none) ρ
theorem rd_tst {K : PySem.W.Frag} {f : EF} {σ : L2.St} {H : Hp} {Q : Bool → Hp → Prop} (t : tT K π W (tst f) σ H Q) : (tE K π W f) σ H fun x H1 => ∃ k, x = .bl k ∧ Q k H1 := by
  obtain ⟨c, F, ρ, S, P⟩ := t
  refine po_bind S P fun x F1 H1 ρ1 dx s1 S1 r1 P1 => ?_
  obtain ⟨d, e, P3⟩ := po_of P1
  cases r1 with
  | bl b =>
    cases e
    exact ⟨_, rfl, P3 _ F1 H1 (Same.refl _) S1 rfl⟩
  | _ => cases e
theorem ft_cmp {op : CmpOp} {r : R2} {o : D → D → Option D} {f g : EF} (ho : OpR X (compareOp op) r) (q : Op2 X.K o r) (ha : PE X a (tE X.K π W f)) (hb : PE X b (tE X.K π W g)) (hm : behindInMarks op b = false) : PT X (.Compare a [op] [b] pos) (tT X.K π W (tst (op2 o f g))) :=
  PT.imp (pt_cmpR ho ha hb hm) fun σ H Q t => by
    obtain ⟨c, F, ρ, S, P⟩ := t
    exact rd_op2 (π := π) (W := W) q (rd_tst ⟨c, F, ρ, S, P⟩)
/-- a chain of two comparisons -/
def chn (o o' : D → D → Option D) (f g h : EF) : EF := fun ρ => (f ρ).bind fun x ρ => (g ρ).bind fun y ρ => (R.of (o x y) ρ).bind fun z ρ => match z with
  | .bl true => (h ρ).bind fun w ρ => R.of (o' y w) ρ
  | .bl false => .ok (.bl false) ρ
  | _ => .stuck
/-! ### and, or, not, if -/
def anT (f g : TF) : TF := fun ρ => (f ρ).bind fun b ρ => if b = true then g ρ else .ok false ρ
def orT (f g : TF) : TF := fun ρ => (f ρ).bind fun b ρ => if b = true then .ok true ρ else g ρ
def noT (f : TF) : TF := fun ρ => (f ρ).bind fun b ρ => .ok (!b) ρ
def blE (f : TF) : EF := fun ρ => (f ρ).bind fun b ρ => .ok (.bl b) ρ
def ifE (t : TF) (f g : EF) : EF := fun ρ => (t ρ).bind fun b ρ => if b = true then f ρ else g ρ
def anE (f g : EF) : EF := fun ρ => (tst f ρ).bind fun b ρ => if b = true then g ρ else .ok (.bl false) ρ
def orE (f g : EF) : EF := fun ρ => (tst f ρ).bind fun b ρ => if b = true then .ok (.bl true) ρ else g ρ
section
variable {f g : TF} {rest : List Expr}
theorem fe_and {f g : EF} (ha : PE X a (tE X.K π W f)) (hb : PE X (.BoolOp .And (b :: rest) pos) (tE X.K π W g)) : PE X (.BoolOp .And (a :: b :: rest) pos) (tE X.K π W (anE f g)) :=
  PE.imp (pe_and ha hb) fun σ H Q ⟨c, F, ρ, S, P⟩ => by
    have z : tT X.K π W (tst f) σ H fun k H1 => if k = true then (tE X.K π W g) σ H1 Q else Q (.bl false) H1 := by
      refine po_bind S P fun b' F1 H1 ρ1 b1 s1 S1 r1 P1 => ?_
      cases r1
      cases b' with
      | true =>
        rw [if_pos rfl] at P1 ⊢
        exact ⟨c, F1, ρ1, S1, P1⟩
      | false =>
        rw [if_neg Bool.false_ne_true] at P1 ⊢
        exact P1 _ F1 H1 (Same.refl _) S1 (.bl false)
    exact rd_tst z
theorem fe_if {t : TF} {f g : EF} (hc : PT X d (tT X.K π W t)) (ha : PE X a (tE X.K π W f)) (hb : PE X b (tE X.K π W g)) : PE X (.IfExp d a b pos) (tE X.K π W (ifE t f g)) :=
  PE.imp (pe_ifExp hc ha hb) fun σ H Q ⟨c, F, ρ, S, P⟩ => by
    refine po_bind S P fun b' F1 H1 ρ1 b1 s1 S1 r1 P1 => ?_
    cases r1
    cases b' with
    | true =>
      rw [if_pos rfl] at P1 ⊢
      exact ⟨c, F1, ρ1, S1, P1⟩
    | false =>
      rw [if_neg Bool.false_ne_true] at P1 ⊢
      exact ⟨c, F1, ρ1, S1, P1⟩
/-- truth of any value -/
def truD : D → Option Bool
  | .non => some false
  | .bl b => some b
  | .int i => some (i != 0)
  | .str x => if x.length ≤ 100000 then some (x.length != 0) else none
  | .tup xs => some (!xs.isEmpty)
  | .lst xs => some (!xs.isEmpty)
  | _ => none
def tru (f : EF) : TF := fun ρ => (f ρ).bind fun x ρ => R.of (truD x) ρ
theorem le_line {n : Nat} (h : n ≤ 100000) : n ≤ sizeLine := Nat.le_trans h (by decide)
theorem lt_line {n : Nat} (h : n ≤ 100000) : n < sizeLine := Nat.lt_of_le_of_lt h (by decide)
end

/-! ### argument lists, displays -/
def nilA : Rho → R (List D) := fun ρ => .ok [] ρ
def cnsA (f : EF) (g : Rho → R (List D)) : Rho → R (List D) := fun ρ => (f ρ).bind fun x ρ => (g ρ).bind fun xs ρ => .ok (x :: xs) ρ
theorem fa_nil : PA X [] (tA X.K π W nilA) := PA.imp pa_nil fun σ H Q ⟨c, F, ρ, S, P⟩ => P [] F H (Same.refl _) S .nil
theorem fa_cons {f : EF} {g : Rho → R (List D)} (ha : PE X e (tE X.K π W f)) (hr : PA X es (tA X.K π W g)) (hs : starEach (e :: es) X.env = (false, eval e X.env) :: starEach es X.env := by rfl) : PA X (e :: es) (tA X.K π W (cnsA f g)) :=
  PA.imp (pa_cons ha hr hs) fun σ H Q ⟨c, F, ρ, S, P⟩ => by
    refine po_bind S P fun x F1 H1 ρ1 dx s1 S1 r1 P1 => ?_
    refine po_bind S1 P1 fun xs F2 H2 ρ2 ds s2 S2 r2 P2 => ?_
    exact P2 (x :: xs) F2 H2 (Same.refl _) S2 (.cons (Rep.mono s2 r1) r2)
def small (n : Nat) : Bool := decide (n ≤ 100000)
theorem small_le {n : Nat} (h : small n = true) : n ≤ 100000 := of_decide_eq_true h
def dTup (g : Rho → R (List D)) : EF := fun ρ => (g ρ).bind fun xs ρ => if small xs.length = true then .ok (.tup xs) ρ else .stuck
def dLst (g : Rho → R (List D)) : Rho → R M := fun ρ => (g ρ).bind fun xs ρ => if small xs.length = true then .ok (.lst xs) ρ else .stuck
theorem pe_tupN {x1} {t : TA} (h : PA X es t) : PE X (.Tuple es x1 pos) (tTupN t) := by
  constructor
  intro pins s σ H Q I q
  apply wpAny_Tuple_spliced
  refine thn (h.run pos pins s σ H _ I q) fun us s1 ⟨xs, H1, I1, r, z, n⟩ => ?_
  have sz : us.length ≤ sizeLine := r.length ▸ z
  exact ⟨sz, newT_ep (tk := s1.toks) I1 z r (fun _ _ e => e) n⟩
theorem fe_tup {x1} {g : Rho → R (List D)} (h : PA X es (tA X.K π W g)) : PE X (.Tuple es x1 pos) (tE X.K π W (dTup g)) :=
  PE.imp (pe_tupN h) fun σ H Q ⟨c, F, ρ, S, P⟩ => by
    refine po_bind S P fun xs F1 H1 ρ1 ds s1 S1 r1 P1 => ?_
    split at P1
    · rename_i hz
      have hl : xs.length ≤ 100000 := by rw [Reps.length r1]; exact small_le hz
      refine ⟨le_line hl, fun p o hp hd => ?_⟩
      have gr := Grw.newT (xs := xs) S1.f hp hd
      exact P1 _ _ _ gr.f (S1.grow gr) (.tup (sqT_new upd_same) (Reps.mono gr.f r1))
    · exact P1.elim
theorem Sta.fresh {K : PySem.W.Frag} {c : Cfg} {F H : Hp} {σ : L2.St} {ρ : Rho} (S : Sta K π c F H σ ρ) {q : Addr} (h : H q = none) : F q = none ∧ c.H0 q = none ∧ ∀ j, ¬ OwnAt σ ρ j q := by
  refine ⟨Same.free S.f h, ?_, fun j hj => ?_⟩
  · cases e : c.H0 q with
    | none => rfl
    | some o =>
      obtain ⟨o', e'⟩ := S.any e
      rw [h] at e'
      cases e'
  · obtain ⟨o, e⟩ := (S.ownAt hj).2.2
    rw [h] at e
    cases e
theorem fm_lst {g : Rho → R (List D)} (h : PA X es (tA X.K π W g)) : PE X (.List es pos) (tM X.K π W (dLst g)) :=
  PE.imp (pe_lst h) fun σ H Q ⟨c, F, ρ, S, P⟩ => by
    refine po_bind S P fun xs F1 H1 ρ1 ds s1 S1 r1 P1 => ?_
    split at P1
    · rename_i hz
      have hl : xs.length ≤ 100000 := by rw [Reps.length r1]; exact small_le hz
      refine ⟨le_line hl, fun p hp => ?_⟩
      have gr := Grw.newO (o := .lst xs) S1.f hp
      obtain ⟨f1, f2, f3⟩ := S1.fresh hp
      exact P1 _ _ _ gr.f (S1.grow gr) ⟨p, rfl, f1, f2, f3, xs, upd_same, r1⟩
    · exact P1.elim
/-- a new list, as data -/
def frz (f : Rho → R M) : EF := fun ρ => (f ρ).bind fun m ρ => match m with
  | .lst ds => .ok (.lst ds) ρ
  | .dct ds => .ok (.dct ds) ρ
  | _ => .stuck
theorem fe_frz {f : Rho → R M} (h : PE X e (tM X.K π W f)) : PE X e (tE X.K π W (frz f)) :=
  PE.imp h fun σ H Q ⟨c, F, ρ, S, P⟩ => by
    refine po_bind S P fun v F1 H1 ρ1 m s1 S1 r1 P1 => ?_
    obtain ⟨p, rfl, f1, f2, f3, hm⟩ := r1
    cases m with
    | ins C fs => exact P1.elim
    | dtu ds => exact P1.elim
    | lst ds =>
      obtain ⟨vs, ho, r⟩ := hm
      obtain ⟨sm, S'⟩ := frz_newG S1 (by intro ps z; cases z) ho f1 f2 f3
      exact P1 (.ref p) _ H1 sm S' (.lst upd_same (Reps.mono sm r))
    | dct ds =>
      obtain ⟨kvs, ho, hk, r⟩ := hm
      obtain ⟨sm, S'⟩ := frz_newG S1 (by intro ps z; cases z) ho f1 f2 f3
      exact P1 (.ref p) _ H1 sm S' (.dct upd_same hk (Reps.mono sm r))
end
end
end FL
/-! FL3: operations on data. -/
namespace FL
open PySem PySem.Spec PyProof.Rows L2

/-! ### data as the library's data -/
mutual
def toP : D → PyData
  | .non => .none
  | .bl b => .bool b
  | .int i => .int i
  | .str x => .str x
  | .tup xs => .tuple (toPs xs)
  | .lst xs => .list (toPs xs)
  | .scr _ => .none
  | .fn _ => .none
  | .dct _ => .none
  | .exc _ _ => .none
  | .clo _ _ => .none
  | .dcf _ => .none
  | .err _ _ _ => .none
def toPs : List D → List PyData
  | [] => []
  | x :: xs => toP x :: toPs xs
end
/-- plain data, at most n deep -/
def shp : Nat → D → Bool
  | _, .non => true
  | _, .bl _ => true
  | _, .int _ => true
  | _, .str x => PyData.strOk x
  | n + 1, .tup xs => xs.all (shp n)
  | n + 1, .lst xs => xs.all (shp n)
  | _, _ => false
theorem shp_all {n : Nat} : ∀ {xs : List D}, (∀ x, shp n x = true → (toP x).canLay0 = true ∧ (toP x).depth ≤ n) → xs.all (shp n) = true → PyData.canLayAll0 (toPs xs) = true ∧ PyData.depthAll (toPs xs) ≤ n
  | [], _, _ => ⟨by simp [toPs, PyData.canLayAll0], by simp [toPs, PyData.depthAll]⟩
  | x :: xs, h, e => by
    rw [List.all_cons, Bool.and_eq_true] at e
    obtain ⟨h1, h2⟩ := h x e.1
    obtain ⟨h3, h4⟩ := shp_all (n := n) h e.2
    simp only [toPs, PyData.canLayAll0, PyData.depthAll, h1, h3, Bool.and_self, true_and]
    omega
theorem shp_ok : ∀ (n : Nat) (d : D), shp n d = true → (toP d).canLay0 = true ∧ (toP d).depth ≤ n
  | n, .non, _ => ⟨by simp [toP, PyData.canLay0], by simp [toP, PyData.depth]⟩
  | n, .bl _, _ => ⟨by simp [toP, PyData.canLay0], by simp [toP, PyData.depth]⟩
  | n, .int _, _ => ⟨by simp [toP, PyData.canLay0], by simp [toP, PyData.depth]⟩
  | n, .str x, h => ⟨by simpa [toP, PyData.canLay0, shp] using h, by simp [toP, PyData.depth]⟩
  | n + 1, .tup xs, h => by
    obtain ⟨h1, h2⟩ := shp_all (n := n) (shp_ok n) (by simpa [shp] using h)
    simp only [toP, PyData.canLay0, PyData.depth, h1, true_and]
    omega
  | n + 1, .lst xs, h => by
    obtain ⟨h1, h2⟩ := shp_all (n := n) (shp_ok n) (by simpa [shp] using h)
    simp only [toP, PyData.canLay0, PyData.depth, h1, true_and]
    omega
  | 0, .tup xs, h => by simp [shp] at h
  | 0, .lst xs, h => by simp [shp] at h
  | n, .scr _, h => by cases n <;> simp [shp] at h
  | n, .fn _, h => by cases n <;> simp [shp] at h
  | n, .dct _, h => by cases n <;> simp [shp] at h
  | n, .exc _ _, h => by cases n <;> simp [shp] at h
  | n, .clo _ _, h => by cases n <;> simp [shp] at h
  | n, .dcf _, h => by cases n <;> simp [shp] at h
  | n, .err _ _ _, h => by cases n <;> simp [shp] at h
section
variable {K : PySem.W.Frag} {F H : Hp}
theorem dpAll_of {n : Nat} (h : ∀ v d, shp n d = true → Rep K F v d → Dp K H v (toP d)) : ∀ {vs : List V} {ds : List D}, ds.all (shp n) = true → Reps K F vs ds → DpAll K H vs (toPs ds)
  | _, _, _, .nil => by rw [toPs]; exact .nil
  | _, _, e, .cons r rs => by
    rw [List.all_cons, Bool.and_eq_true] at e
    rw [toPs]
    exact .cons (h _ _ e.1 r) (dpAll_of h e.2 rs)
theorem dp_of (s : Same F H) : ∀ (n : Nat) (v : V) (d : D), shp n d = true → Rep K F v d → Dp K H v (toP d)
  | n, _, .non, _, .non => by rw [toP]; exact .non
  | n, _, .bl _, _, .bl _ => by rw [toP]; exact .bl _
  | n, _, .int _, _, .int _ => by rw [toP]; exact .int _
  | n, _, .str _, _, .str _ => by rw [toP]; exact .str _
  | n + 1, _, .tup xs, h, .tup q r => by rw [toP]; exact .tup (sm_tup s q) (dpAll_of (dp_of s n) (by simpa [shp] using h) r)
  | n + 1, _, .lst xs, h, .lst q r => by rw [toP]; exact .lst (SqL.of (s _ _ q)) (dpAll_of (dp_of s n) (by simpa [shp] using h) r)
  | 0, _, .tup xs, h, _ => by simp [shp] at h
  | 0, _, .lst xs, h, _ => by simp [shp] at h
  | n, _, .scr _, h, _ => by cases n <;> simp [shp] at h
  | n, _, .fn _, h, _ => by cases n <;> simp [shp] at h
  | n, _, .dct _, h, _ => by cases n <;> simp [shp] at h
  | n, _, .exc _ _, h, _ => by cases n <;> simp [shp] at h
  | n, _, .clo _ _, h, _ => by cases n <;> simp [shp] at h
  | n, _, .dcf _, h, _ => by cases n <;> simp [shp] at h
  | n, _, .err _ _ _, h, _ => by cases n <;> simp [shp] at h
end
theorem shaped_of {d : D} (h : shp 8 d = true) : SeqAt.shaped (toP d) = true := by
  obtain ⟨h1, h2⟩ := shp_ok 8 d h
  unfold SeqAt.shaped
  rw [h1, Bool.true_and]
  exact decide_eq_true (by omega)
def eqd (x y : D) : Bool := PyData.eqv (toP x) (toP y)
def eqD (x y : D) : Option D := if shp 8 x = true ∧ shp 8 y = true then some (.bl (eqd x y)) else none
def neD (x y : D) : Option D := if shp 8 x = true ∧ shp 8 y = true then some (.bl (!eqd x y)) else none

/-! ### arithmetic -/
def addD : D → D → Option D
  | .int a, .int b => some (.int (a + b))
  | .str a, .str b => if small (a.length + b.length) = true then some (.str (a ++ b)) else none
  | .lst xs, .lst ys => if small (xs.length + ys.length) = true then some (.lst (xs ++ ys)) else none
  | .tup xs, .tup ys => if small (xs.length + ys.length) = true then some (.tup (xs ++ ys)) else none
  | _, _ => none
def subD : D → D → Option D
  | .int a, .int b => some (.int (a - b))
  | _, _ => none
def mulOk (a b : Int) : Bool := decide (a.natAbs < 2 ^ 64) || decide (b.natAbs < 2 ^ 64) || decide (a.natAbs.log2 + b.natAbs.log2 < 1000000)
def mulD : D → D → Option D
  | .int a, .int b => if mulOk a b = true then some (.int (a * b)) else none
  | .lst xs, .int k => if 0 ≤ k ∧ k ≤ 100000 ∧ xs.length * k.toNat ≤ 100000 then some (.lst (List.replicate k.toNat xs).flatten) else none
  | .tup xs, .int k => if 2 ≤ k ∧ k ≤ 1000 ∧ xs.length ≤ 1000 ∧ xs ≠ [] then some (.tup (List.replicate k.toNat xs).flatten) else none
  | _, _ => none
def modD : D → D → Option D
  | .int a, .int b => if b ≠ 0 then some (.int (a.fmod b)) else none
  | _, _ => none
def powD : D → D → Option D
  | .int a, .int b => if 0 ≤ b ∧ b ≤ 1000000 ∧ a.natAbs < 2 ^ 64 then some (.int (a ^ b.toNat)) else none
  | _, _ => none
def negD : D → Option D
  | .int a => some (.int (-a))
  | _ => none
def cmpD (p : Int → Int → Bool) : D → D → Option D
  | .int a, .int b => some (.bl (p a b))
  | _, _ => none
def ltD := cmpD fun a b => decide (a < b)
def leD := cmpD fun a b => decide (a ≤ b)
def gtD := cmpD fun a b => decide (b < a)
def geD := cmpD fun a b => decide (b ≤ a)
/-- t + u: where one of both is empty the other one itself -/
def rCatN (K : PySem.W.Frag) : R2 := fun x y H Q => ∃ (a b : Addr) (xs ys : List V), x = .ref a ∧ y = .ref b ∧ SqT K H a xs ∧ SqT K H b ys ∧ xs.length + ys.length ≤ sizeLine ∧
  (xs = [] → Q (.ref b) H) ∧ (xs ≠ [] → ys = [] → Q (.ref a) H) ∧ (xs ≠ [] → ys ≠ [] → NewT H (xs ++ ys) Q)
theorem o_catN {X : Cx} : OpR X (binaryOp .Add) (rCatN X.K) := by
  rintro pins s σ H x y v u Q I rx ry ⟨a, b, xs, ys, rfl, rfl, ta, tb, z, left, right, both⟩
  cases rx
  cases ry
  obtain ⟨its, r1, p1, _⟩ := I.tuple ta
  obtain ⟨jts, r2, p2, _⟩ := I.tuple tb
  match xs, its, r1, p1 with
  | [], _, .nil, p1 => exact cat_tup0 p1 p2 ⟨.ref b, H, I, rfl, left rfl⟩
  | x :: xs, w :: ws, r1, p1 =>
    have l1 := r1.length
    have l2 := r2.length
    refine HT.cat_tup p1 p2 (by simp) (fun e => ?_) (fun e => newT_ep (tk := s.toks) I (by rw [List.length_append]; exact z) (r1.append r2) (fun _ _ e => e) (both (by simp) fun e' => ?_)) (by omega)
    · exact ⟨.ref a, H, I, rfl, right (by simp) (r2.nil_iff.mp e)⟩
    · subst e'
      exact e (r2.nil_iff.mpr rfl)
/-- a tuple times a number, as long as it stays within the bounds -/
def rTimes (K : PySem.W.Frag) : R2 := fun x y H Q => ∃ (a : Addr) (m : Nat) (vs : List V), x = .ref a ∧ y = .int m ∧ SqT K H a vs ∧ vs ≠ [] ∧ 2 ≤ m ∧ m ≤ 1000000 ∧ vs.length * m ≤ 1000000 ∧
    NewT H (List.replicate m vs).flatten Q
theorem o_times {X : Cx} : OpR X (binaryOp .Mult) (rTimes X.K) := by
  rintro pins s σ H x y v u Q I rx ry ⟨a, m, vs, rfl, rfl, ht, h0, h2, h3, h4, q⟩
  cases rx
  obtain ⟨tk, rfl⟩ := ry
  obtain ⟨us, rv, ⟨⟨c, od, dt, slo⟩, hob, hcl, nn, hdt⟩, _⟩ := I.tuple ht
  dsimp only at hcl hdt
  subst hcl
  subst hdt
  have el : us.length = vs.length := rv.length.symm
  have hpos : 0 < us.length := by
    rw [el]
    exact List.length_pos_iff.mpr h0
  have sz : us.toArray.size = vs.length := List.size_toArray.trans el
  have hemp : us.toArray.isEmpty = false := by
    match us, hpos with
    | _ :: _, _ => rfl
  have prod : ((us.toArray.size : Nat) : Int) * (m : Int) ≤ 1000000 := by
    rw [sz]
    have : ((vs.length * m : Nat) : Int) ≤ 1000000 := by omega
    rwa [Int.natCast_mul] at this
  have flat : (List.replicate m us).flatten.length ≤ 1000000 := by
    rw [PyProof.Rows.lm_len_rep_flat, el, Nat.mul_comm]
    exact h4
  have line : 1000000 ≤ sizeLine := by decide
  have b0 : (decide ((m : Int) < -(2 ^ 63)) || decide ((m : Int) ≥ 2 ^ 63)) = false :=
    Bool.or_eq_false_iff.mpr ⟨decide_eq_false (by omega), decide_eq_false (by omega)⟩
  have b1 : (us.toArray.isEmpty || (m : Int) == 1) = false :=
    Bool.or_eq_false_iff.mpr ⟨hemp, beq_eq_false_iff_ne.mpr (by omega)⟩
  have b2 : (decide ((m : Int) ≤ 0) || us.toArray.isEmpty) = false :=
    Bool.or_eq_false_iff.mpr ⟨decide_eq_false (by omega), hemp⟩
  have b4 : Builtin.Tuple.tupleTooMany (((us.toArray.size : Nat) : Int) * (m : Int)) = false := by
    unfold Builtin.Tuple.tupleTooMany
    have := line
    exact decide_eq_false (by rw [sizeLine_eq]; omega)
  have fold := size_rep us m
  have hs2 : (List.foldl (fun x1 x2 => x1 ++ x2) #[] (List.replicate (m : Int).toNat us.toArray)).size ≤ sizeLine := by
    rw [Int.toNat_natCast, fold, List.size_toArray]
    exact Nat.le_trans flat line
  have body := tuple_mulW a us.toArray nn od slo (m : Int) tk b0 b1 b2 (by omega) b4 hs2
  have back := int_rmul_tuple (m : Int) tk a us.toArray nn od slo
  have is_t : s.heap.get? a = some { cls := .type "tuple", dict := od, data := .seq us.toArray nn, slots := slo } := hob
  refine wpAny_binaryOp_repeat_ref (U := "int") (T := "tuple") (by decide) ⟨_, is_t, rfl⟩ (fun s' => typeIs_int s' _ tk) noFill_tuple_mul F.fills_int_mul F.slot_int_rmul repeat_tuple F.slot_int_index.lookup ?_
  refine call_meets F.slot_int_rmul (typeIs_int s _ tk) F.entry_int_rmul (F.args_int_rmul_2 _ _) back ⟨is_t, rfl, ⟨_, is_t, rfl⟩, ?_⟩
  refine call_meets F.slot_tuple_mul ⟨_, is_t, rfl⟩ F.entry_tuple_mul (F.args_tuple_mul_2 _ _) body ⟨is_t, ?_⟩
  rw [Int.toNat_natCast, fold]
  have lv : (List.replicate m vs).flatten.length ≤ sizeLine := by
    rw [PyProof.Rows.lm_len_rep_flat, Nat.mul_comm]
    exact Nat.le_trans h4 line
  exact newT_ep (tk := s.toks) I lv (rv.rep m) (fun _ _ e => e) q
section
variable [FE]
variable {X : Cx} {K : PySem.W.Frag}
theorem q_add : Op2 K addD (fun x y H Q => (rI0 fun i j => .int (i + j)) x y H Q ∨ (∃ i j, x = V.str i ∧ y = V.str j ∧ i.length + j.length ≤ sizeLine ∧ Q (.str (i ++ j)) H) ∨ rCat x y H Q ∨ rCatN K x y H Q) := by
  intro F H x y dx dy d Q s rx ry e k
  cases rx <;> cases ry <;> first | (cases e; done) | skip
  · rename_i i j
    cases e
    exact .inl ⟨i, j, rfl, rfl, k _ F H (Grw.refl s) (.int _)⟩
  · rename_i i j
    simp only [addD] at e
    split at e
    · rename_i hz
      cases e
      exact .inr (.inl ⟨i, j, rfl, rfl, le_line (small_le hz), k _ F H (Grw.refl s) (.str _)⟩)
    · cases e
  · rename_i a xs ds h1 r1 b ys es h2 r2
    simp only [addD] at e
    split at e
    · rename_i hz
      cases e
      have hl : xs.length + ys.length ≤ 100000 := by rw [Reps.length r1, Reps.length r2]; exact small_le hz
      refine .inr (.inr (.inr ⟨a, b, xs, ys, rfl, rfl, sm_tup s h1, sm_tup s h2, le_line hl, fun z => ?_, fun z1 z2 => ?_, fun z1 z2 p o hp hd => ?_⟩))
      · subst z
        cases r1
        exact k _ F H (Grw.refl s) (.tup h2 r2)
      · subst z2
        cases r2
        rw [List.append_nil] at *
        exact k _ F H (Grw.refl s) (.tup h1 r1)
      · have g := Grw.newT (xs := xs ++ ys) s hp hd
        exact k _ _ _ g (.tup (sqT_new upd_same) ((Reps.mono g.f r1).append (Reps.mono g.f r2)))
    · cases e
  · rename_i a xs ds h1 r1 b ys es h2 r2
    simp only [addD] at e
    split at e
    · rename_i hz
      cases e
      have hl : xs.length + ys.length ≤ 100000 := by rw [Reps.length r1, Reps.length r2]; exact small_le hz
      refine .inr (.inr (.inl ⟨a, b, xs, ys, rfl, rfl, s _ _ h1, s _ _ h2, le_line hl, fun p hp => ?_⟩))
      have g := Grw.newF (o := .lst (xs ++ ys)) s hp
      exact k _ _ _ g (.lst upd_same ((Reps.mono g.f r1).append (Reps.mono g.f r2)))
    · cases e
theorem o_add : OpR X (binaryOp .Add) (fun x y H Q => (rI0 fun i j => .int (i + j)) x y H Q ∨ (∃ i j, x = V.str i ∧ y = V.str j ∧ i.length + j.length ≤ sizeLine ∧ Q (.str (i ++ j)) H) ∨ rCat x y H Q ∨ rCatN X.K x y H Q) :=
  op_add.or (op_add_str.or (op_cat.or o_catN))
theorem q_sub : Op2 K subD (rI0 fun i j => .int (i - j)) := by
  intro F H x y dx dy d Q s rx ry e k
  cases rx <;> cases ry <;> first | (cases e; done) | skip
  rename_i i j
  cases e
  exact ⟨i, j, rfl, rfl, k _ F H (Grw.refl s) (.int _)⟩
theorem Reps.rep {F : Hp} {vs : List V} {ds : List D} (r : Reps K F vs ds) : ∀ n : Nat, Reps K F (List.replicate n vs).flatten (List.replicate n ds).flatten
  | 0 => .nil
  | n + 1 => by
    rw [List.replicate_succ, List.replicate_succ, List.flatten_cons, List.flatten_cons]
    exact r.append (Reps.rep r n)
theorem q_mul : Op2 K mulD (fun x y H Q => (rI CMul fun i j => .int (i * j)) x y H Q ∨ (rI CMulW fun i j => .int (i * j)) x y H Q ∨ rRep x y H Q ∨ rTimes K x y H Q) := by
  intro F H x y dx dy d Q s rx ry e k
  cases rx <;> cases ry <;> first | (cases e; done) | skip
  · rename_i i j
    simp only [mulD] at e
    split at e
    · rename_i hz
      cases e
      have q := k _ F H (Grw.refl s) (.int (i * j))
      unfold mulOk at hz
      rw [Bool.or_eq_true, Bool.or_eq_true, decide_eq_true_eq, decide_eq_true_eq, decide_eq_true_eq] at hz
      rcases hz with (hz | hz) | hz
      · exact .inl ⟨i, j, rfl, rfl, .inl (by omega), q⟩
      · exact .inl ⟨i, j, rfl, rfl, .inr (by omega), q⟩
      · exact .inr (.inl ⟨i, j, rfl, rfl, hz, q⟩)
    · cases e
  · rename_i a xs ds h1 r1 j
    simp only [mulD] at e
    split at e
    · rename_i hz
      cases e
      obtain ⟨z1, z2, z3, z4⟩ := hz
      have hl := Reps.length r1
      have hm : xs.length * j.toNat ≤ 1000 * 1000 := Nat.mul_le_mul (by omega) (by omega)
      refine .inr (.inr (.inr ⟨a, j.toNat, xs, rfl, by rw [show ((j.toNat : Nat) : Int) = j by omega], sm_tup s h1, fun z => ?_, by omega, by omega, by omega, fun p o hp hd => ?_⟩))
      · subst z
        cases r1
        exact z4 rfl
      · have g := Grw.newT (xs := (List.replicate j.toNat xs).flatten) s hp hd
        exact k _ _ _ g (.tup (sqT_new upd_same) ((Reps.mono g.f r1).rep _))
    · cases e
  · rename_i a xs ds h1 r1 j
    simp only [mulD] at e
    split at e
    · rename_i hz
      cases e
      obtain ⟨z1, z2, z3⟩ := hz
      refine .inr (.inr (.inl ⟨a, j, xs, rfl, rfl, s _ _ h1, by omega, by omega, le_line (by rw [Reps.length r1]; exact z3), fun p hp => ?_⟩))
      have g := Grw.newF (o := .lst (List.replicate j.toNat xs).flatten) s hp
      exact k _ _ _ g (.lst upd_same ((Reps.mono g.f r1).rep _))
    · cases e
theorem o_mul : OpR X (binaryOp .Mult) (fun x y H Q => (rI CMul fun i j => .int (i * j)) x y H Q ∨ (rI CMulW fun i j => .int (i * j)) x y H Q ∨ rRep x y H Q ∨ rTimes X.K x y H Q) :=
  op_mul.or (op_mulW.or (op_rep.or o_times))
theorem q_mod : Op2 K modD (rI (fun _ j => j ≠ 0) fun i j => .int (i.fmod j)) := by
  intro F H x y dx dy d Q s rx ry e k
  cases rx <;> cases ry <;> first | (cases e; done) | skip
  rename_i i j
  simp only [modD] at e
  split at e
  · rename_i hz
    cases e
    exact ⟨i, j, rfl, rfl, hz, k _ F H (Grw.refl s) (.int _)⟩
  · cases e
theorem q_pow : Op2 K powD (rI CPow fun i j => .int (i ^ j.toNat)) := by
  intro F H x y dx dy d Q s rx ry e k
  cases rx <;> cases ry <;> first | (cases e; done) | skip
  rename_i i j
  simp only [powD] at e
  split at e
  · rename_i hz
    cases e
    exact ⟨i, j, rfl, rfl, hz, k _ F H (Grw.refl s) (.int _)⟩
  · cases e
theorem q_neg : Op1 K negD (rU fun i => .int (-i)) := by
  intro F H x dx d Q s rx e k
  cases rx <;> first | (cases e; done) | skip
  rename_i i
  cases e
  exact ⟨i, rfl, k _ F H (Grw.refl s) (.int _)⟩
theorem q_cmp {p : Int → Int → Bool} : Op2 K (cmpD p) (rI0 fun i j => .bl (p i j)) := by
  intro F H x y dx dy d Q s rx ry e k
  cases rx <;> cases ry <;> first | (cases e; done) | skip
  rename_i i j
  cases e
  exact ⟨i, j, rfl, rfl, k _ F H (Grw.refl s) (.bl _)⟩
theorem q_eq : Op2 K eqD (rEqD K) := by
  intro F H x y dx dy d Q s rx ry e k
  unfold eqD at e
  split at e
  · rename_i hz
    cases e
    exact ⟨_, _, dp_of s 8 _ _ hz.1 rx, dp_of s 8 _ _ hz.2 ry, shaped_of hz.1, shaped_of hz.2, k _ F H (Grw.refl s) (.bl _)⟩
  · cases e
theorem q_ne : Op2 K neD (rNeD K) := by
  intro F H x y dx dy d Q s rx ry e k
  unfold neD at e
  split at e
  · rename_i hz
    cases e
    exact ⟨_, _, dp_of s 8 _ _ hz.1 rx, dp_of s 8 _ _ hz.2 ry, shaped_of hz.1, shaped_of hz.2, k _ F H (Grw.refl s) (.bl _)⟩
  · cases e
end
end FL
/-! FL4: subscripts, slices, built-in calls. -/
namespace FL
open PySem PySem.Spec PyProof.Rows L2

/-! ### a tuple read backwards -/
section
variable {prog : Program} {w : World} {A : Around} {E : Value → Shared → Prop} {s : Shared}
end
section
variable [FE]
variable {X : Cx} {π : Nat → Addr} {W : WX}
end

/-! ### subscripts -/
def ixD : D → D → Option D
  | .tup xs, .int i => atI xs i
  | .lst xs, .int i => atI xs i
  | .scr ns, .int i => (atI ns i).map D.int
  | .str z, .int i => if z.length ≤ 100000 then (atI z.cps.toList i).map fun c => D.str ⟨#[c]⟩ else none
  | _, _ => none
theorem Reps.atI {K : PySem.W.Frag} {F : Hp} {vs : List V} {ds : List D} {i : Int} {d : D} (r : Reps K F vs ds) (h : L2.atI ds i = some d) : ∃ v, L2.atI vs i = some v ∧ Rep K F v d := by
  unfold L2.atI at h ⊢
  rw [Reps.length r]
  cases e : ixN ds.length i with
  | none => rw [e] at h; cases h
  | some j =>
    rw [e] at h
    exact r.get h
theorem atI_map {α β : Type} (f : α → β) (xs : List α) (i : Int) : L2.atI (xs.map f) i = (L2.atI xs i).map f := by
  unfold L2.atI
  rw [List.length_map]
  cases ixN xs.length i with
  | none => rfl
  | some j =>
    show (xs.map f)[j]? = (xs[j]?).map f
    rw [List.getElem?_map]
variable [FE] in
theorem q_ix {K : PySem.W.Frag} : Op2 K ixD (rIx K) := by
  intro F H x y dx dy d Q s rx ry e k
  cases rx <;> cases ry <;> first | (cases e; done) | skip
  · rename_i z i
    simp only [ixD] at e
    split at e
    · rename_i hz
      cases h : L2.atI z.cps.toList i with
      | none => rw [h] at e; cases e
      | some c =>
        rw [h] at e
        cases e
        exact .inr (.inr ⟨z, i, c, rfl, rfl, le_line hz, h, k _ F H (Grw.refl s) (.str _)⟩)
    · cases e
  · rename_i a xs ds h1 r1 i
    obtain ⟨v, h2, r2⟩ := r1.atI e
    exact .inr (.inl ⟨a, xs, i, v, rfl, rfl, sm_tup s h1, h2, k _ F H (Grw.refl s) r2⟩)
  · rename_i a xs ds h1 r1 i
    obtain ⟨v, h2, r2⟩ := r1.atI e
    exact .inl ⟨a, xs, i, v, rfl, rfl, SqL.of (s _ _ h1), h2, k _ F H (Grw.refl s) r2⟩
  · rename_i a ns h1 i
    simp only [ixD] at e
    cases h : L2.atI ns i with
    | none => rw [h] at e; cases e
    | some c =>
      rw [h] at e
      cases e
      exact .inl ⟨a, ns.map V.int, i, .int c, rfl, rfl, Same.seq s h1, by rw [atI_map, h]; rfl, k _ F H (Grw.refl s) (.int c)⟩
section
variable [FE]
variable {X : Cx} {π : Nat → Addr} {W : WX} {a b : Expr} {pos p2 : Pos}
theorem fe_ix {f g : EF} (ha : PE X a (tE X.K π W f)) (hb : PE X b (tE X.K π W g)) (hs : PlainIx b) : PE X (.Subscript a b pos) (tE X.K π W (op2 ixD f g)) := PE.imp (pe_ix ix_seq ha hb hs) fun _ _ _ => rd_op2 q_ix

/-! ### slices -/
def relO : Rel (Option Int) (Option Int) := fun _ _ _ _ _ b c => b = c
abbrev tO (K : PySem.W.Frag) (π : Nat → Addr) (W : WX) (f : Rho → R (Option Int)) : TO := tG K π W relO f
def noO : Rho → R (Option Int) := fun ρ => .ok none ρ
def smO (f : EF) : Rho → R (Option Int) := fun ρ => (f ρ).bind fun x ρ => match x with
  | .int i => .ok (some i) ρ
  | _ => .stuck
theorem PO.imp {o : Option Expr} {t t' : TO} (h : PO X o t) (k : ∀ σ H Q, t' σ H Q → t σ H Q) : PO X o t' := ⟨fun pins s σ H Q I q => h.run pins s σ H Q I (k σ H Q q)⟩
theorem fo_none : PO X none (tO X.K π W noO) := PO.imp po_none fun σ H Q ⟨c, F, ρ, S, P⟩ => P none F H (Same.refl _) S rfl
theorem fo_some {f : EF} (ha : PE X a (tE X.K π W f)) : PO X (some a) (tO X.K π W (smO f)) := PO.imp (po_some ha) fun σ H Q ⟨c, F, ρ, S, P⟩ => by
  refine po_bind S P fun x F1 H1 ρ1 dx s1 S1 r1 P1 => ?_
  cases r1 <;> first | (exact P1.elim) | skip
  rename_i i
  exact ⟨i, rfl, P1 (some i) F1 H1 (Same.refl _) S1 rfl⟩
def cut {α : Type} (xs : List α) (lo hi : Option Int) : List α := (xs.drop (HT.sIx xs.length 0 lo)).take (HT.sIx xs.length xs.length hi - HT.sIx xs.length 0 lo)
def cutD (d : D) (lo hi : Option Int) : Option D := match d with
  | .tup xs => some (.tup (cut xs lo hi))
  | .lst xs => some (.lst (cut xs lo hi))
  | .scr ns => some (.lst ((cut ns lo hi).map D.int))
  | .str z => if z.length ≤ 100000 then some (.str (cutS z lo hi)) else none
  | _ => none
def slF (f : EF) (g h : Rho → R (Option Int)) : EF := fun ρ => (f ρ).bind fun x ρ => (g ρ).bind fun l ρ => (h ρ).bind fun u ρ => R.of (cutD x l u) ρ
theorem Reps.cut {K : PySem.W.Frag} {F : Hp} {vs : List V} {ds : List D} (r : Reps K F vs ds) (lo hi : Option Int) : Reps K F (cutV vs lo hi) (FL.cut ds lo hi) := by
  unfold cutV FL.cut
  rw [Reps.length r]
  exact (r.drop _).take _
theorem cut_map {α β : Type} (f : α → β) (xs : List α) (lo hi : Option Int) : cut (xs.map f) lo hi = (cut xs lo hi).map f := by
  unfold cut
  rw [List.length_map, List.map_take, List.map_drop]
theorem cut_whole {α : Type} {xs : List α} {lo hi : Option Int} (h : HT.sIx xs.length 0 lo = 0 ∧ HT.sIx xs.length xs.length hi = xs.length) : cut xs lo hi = xs := by
  unfold cut
  rw [h.1, h.2, List.drop_zero, Nat.sub_zero, List.take_length]
/-- t[lo:hi]: t itself where that is all of it, else a new one -/
def rSlN (K : PySem.W.Frag) : V → Option Int → Option Int → Hp → VK → Prop := fun x lo hi H Q => ∃ (a : Addr) (xs : List V), x = .ref a ∧ SqT K H a xs ∧
  if HT.sIx xs.length 0 lo = 0 ∧ HT.sIx xs.length xs.length hi = xs.length then Q (.ref a) H else NewT H (cutV xs lo hi) Q
theorem sl_tupN {X : Cx} : SlR X (rSlN X.K) := by
  rintro pins s σ H x v vl vu lo hi sl Q I rx hs pl pu ⟨a, xs, rfl, tx, q⟩
  cases rx
  obtain ⟨its, r, ht, hz⟩ := I.tuple tx
  have same : its.toArray.size = xs.length := List.size_toArray.trans r.length.symm
  refine ⟨"tuple", _, PyProof.Rows.slot_tuple_getitem.lookup, ht.typeIs, ?_⟩
  split at q
  · rename_i all
    exact getItem_tuple_whole ht hs pl pu (by rw [same]; exact all) ⟨.ref a, H, I, rfl, q⟩
  · rename_i part
    refine HT.getItem_tuple_cut ht hs pl pu (by rw [same]; exact part) ?_ (by rw [same]; exact hz)
    have rc := (r.drop (HT.sIx xs.length 0 lo)).take (HT.sIx xs.length xs.length hi - HT.sIx xs.length 0 lo)
    rw [same]
    exact newT_ep (tk := s.toks) I (Nat.le_trans (cutV_length xs lo hi) hz) rc (fun _ _ e => e) q
def rSlAll (K : PySem.W.Frag) : V → Option Int → Option Int → Hp → VK → Prop := fun x lo hi H Q => rSlN K x lo hi H Q ∨ rSlL K x lo hi H Q ∨ rSlS x lo hi H Q
theorem q_cut {K : PySem.W.Frag} {F H : Hp} {x : V} {dx d : D} {lo hi : Option Int} {Q : VK} (s : Same F H) (rx : Rep K F x dx) (e : cutD dx lo hi = some d) (k : ∀ v F' H', Grw F H F' H' → Rep K F' v d → Q v H') : rSlAll K x lo hi H Q := by
  cases rx <;> first | (cases e; done) | skip
  · rename_i z
    simp only [cutD] at e
    split at e
    · rename_i hz
      cases e
      exact .inr (.inr ⟨z, rfl, le_line hz, k _ F H (Grw.refl s) (.str _)⟩)
    · cases e
  · rename_i a xs ds h1 r1
    cases e
    refine .inl ⟨a, xs, rfl, sm_tup s h1, ?_⟩
    split
    · rename_i hw
      rw [Reps.length r1] at hw
      rw [cut_whole hw] at k
      exact k _ F H (Grw.refl s) (.tup h1 r1)
    · intro p o hp hd
      have g := Grw.newT (xs := cutV xs lo hi) s hp hd
      exact k _ _ _ g (.tup (sqT_new upd_same) ((Reps.mono g.f r1).cut lo hi))
  · rename_i a xs ds h1 r1
    cases e
    refine .inr (.inl ⟨a, xs, rfl, SqL.of (s _ _ h1), fun p hp => ?_⟩)
    have g := Grw.newF (o := .lst (cutV xs lo hi)) s hp
    exact k _ _ _ g (.lst upd_same ((Reps.mono g.f r1).cut lo hi))
  · rename_i a ns h1
    cases e
    refine .inr (.inl ⟨a, ns.map V.int, rfl, Same.seq s h1, fun p hp => ?_⟩)
    have g := Grw.newF (o := .lst (cutV (ns.map V.int) lo hi)) s hp
    refine k _ _ _ g (.lst upd_same ?_)
    rw [show cutV (ns.map V.int) lo hi = (cut ns lo hi).map V.int from cut_map V.int ns lo hi]
    exact Reps.ints _
theorem fe_sl {f : EF} {g h : Rho → R (Option Int)} {lo hi : Option Expr} (ha : PE X a (tE X.K π W f)) (hl : PO X lo (tO X.K π W g)) (hu : PO X hi (tO X.K π W h)) : PE X (.Subscript a (.Slice lo hi none p2) pos) (tE X.K π W (slF f g h)) :=
  PE.imp (pe_slice (r := rSlAll X.K) (sl_tupN.or (sl_list.or sl_str)) ha hl hu) fun σ H Q ⟨c, F, ρ, S, P⟩ => by
    refine po_bind S P fun x F1 H1 ρ1 dx s1 S1 r1 P1 => ?_
    refine po_bind S1 P1 fun l F2 H2 ρ2 dl s2 S2 r2 P2 => ?_
    refine po_bind S2 P2 fun u F3 H3 ρ3 du s3 S3 r3 P3 => ?_
    obtain ⟨d, e, P4⟩ := po_of P3
    cases r2
    cases r3
    exact q_cut S3.f (Rep.mono (s2.trans s3) r1) e fun v F4 H4 gr rv => P4 v F4 H4 gr.f (S3.grow gr) rv
end

/-! ### calls of built-ins -/
variable [FE] in
def OpC (K : PySem.W.Frag) (o : List D → Option D) (r : List V → Hp → VK → Prop) : Prop := ∀ {F H : Hp} {vs : List V} {ds : List D} {d : D} {Q : VK}, Same F H → Reps K F vs ds → o ds = some d → (∀ v F' H', Grw F H F' H' → Rep K F' v d → Q v H') → r vs H Q
def opC (o : List D → Option D) (g : Rho → R (List D)) : EF := fun ρ => (g ρ).bind fun xs ρ => R.of (o xs) ρ
section
variable [FE]
variable {X : Cx} {π : Nat → Addr} {W : WX} {e : Expr} {es : List Expr} {pos p : Pos} {x : Str} {id T : String} {r : List V → Hp → VK → Prop} {o : List D → Option D} {g : Rho → R (List D)}
theorem rd_opC {K : PySem.W.Frag} {σ : L2.St} {H : Hp} {Q : VK} (q : OpC K o r) (t : tE K π W (opC o g) σ H Q) : tCB r (tA K π W g) σ H Q := by
  obtain ⟨c, F, ρ, S, P⟩ := t
  refine po_bind S P fun vs F1 H1 ρ1 ds s1 S1 r1 P1 => ?_
  obtain ⟨d, e, P2⟩ := po_of P1
  exact q S1.f r1 e fun v F2 H2 gr rv => P2 v F2 H2 gr.f (S1.grow gr) rv
theorem fe_callB (q : OpC X.K o r) (hc : CallR X (.builtin id) r) (hg : Gl X x) (hm : X.mg x = none) (hv : bootBuiltins x = some (.builtin id)) (ha : PA X (e :: es) (tA X.K π W g)) (hn : x ≠ "__name__" := by decide) (hdb : (x == ("__debug__" : Str)) = false := by decide)
    (he : starEach (e :: es) X.env = (false, eval e X.env) :: starEach es X.env := by rfl) (hpl : (backTo pos (starEach es X.env)).any (·.1) = false := by rfl) : PE X (.Call (.Name x p) (e :: es) [] pos) (tE X.K π W (opC o g)) :=
  PE.imp (pe_callB hc hg hm hv ha hn hdb he hpl) fun _ _ _ => rd_opC q
theorem fe_callTy (q : OpC X.K o r) (hc : CallR X (.type T) r) (hg : Gl X x) (hm : X.mg x = none) (hv : bootBuiltins x = some (.type T)) (ha : PA X (e :: es) (tA X.K π W g)) (hn : x ≠ "__name__" := by decide) (hdb : (x == ("__debug__" : Str)) = false := by decide)
    (he : starEach (e :: es) X.env = (false, eval e X.env) :: starEach es X.env := by rfl) (hpl : (backTo pos (starEach es X.env)).any (·.1) = false := by rfl) : PE X (.Call (.Name x p) (e :: es) [] pos) (tE X.K π W (opC o g)) :=
  PE.imp (pe_callTy hc hg hm hv ha hn hdb he hpl) fun _ _ _ => rd_opC q
end
/-- len -/
def lenC : List D → Option D
  | [.str z] => if z.length ≤ 100000 then some (.int z.length) else none
  | [.tup xs] => some (.int xs.length)
  | [.lst xs] => some (.int xs.length)
  | [.scr ns] => some (.int ns.length)
  | _ => none
def rLenA (K : PySem.W.Frag) : List V → Hp → VK → Prop := fun xs H Q => ∃ x n, xs = [x] ∧ LenV K x H n ∧ Q (.int n) H
theorem Reps.one {K : PySem.W.Frag} {F : Hp} {vs : List V} {d : D} (r : Reps K F vs [d]) : ∃ v, vs = [v] ∧ Rep K F v d := by
  cases r with
  | cons h t =>
    cases t
    exact ⟨_, rfl, h⟩
theorem Reps.two {K : PySem.W.Frag} {F : Hp} {vs : List V} {d e : D} (r : Reps K F vs [d, e]) : ∃ v w, vs = [v, w] ∧ Rep K F v d ∧ Rep K F w e := by
  cases r with
  | cons h t =>
    obtain ⟨w, rfl, h2⟩ := Reps.one t
    exact ⟨_, _, rfl, h, h2⟩
section
variable [FE]
variable {X : Cx} {K : PySem.W.Frag}
theorem q_len : OpC K lenC (rLenA K) := by
  intro F H vs ds d Q s r e k
  unfold lenC at e
  split at e
  · rename_i z
    split at e
    · rename_i hz
      cases e
      obtain ⟨v, rfl, h⟩ := Reps.one r
      cases h
      exact ⟨.str z, z.length, rfl, ⟨le_line hz, rfl⟩, k _ F H (Grw.refl s) (.int _)⟩
    · cases e
  · cases e
    obtain ⟨v, rfl, h⟩ := Reps.one r
    cases h with
    | tup h1 r1 => exact ⟨_, _, rfl, .inr ⟨_, sm_tup s h1, rfl⟩, by rw [Reps.length r1]; exact k _ F H (Grw.refl s) (.int _)⟩
  · cases e
    obtain ⟨v, rfl, h⟩ := Reps.one r
    cases h with
    | lst h1 r1 => exact ⟨_, _, rfl, .inl ⟨_, SqL.of (s _ _ h1), rfl⟩, by rw [Reps.length r1]; exact k _ F H (Grw.refl s) (.int _)⟩
  · cases e
    obtain ⟨v, rfl, h⟩ := Reps.one r
    cases h with
    | scr h1 => exact ⟨_, _, rfl, .inl ⟨_, Same.seq s h1, rfl⟩, by rw [List.length_map]; exact k _ F H (Grw.refl s) (.int _)⟩
  · cases e
theorem o_len : CallR X (.builtin "len") (rLenA X.K) := call_len
def absC : List D → Option D
  | [.int i] => some (.int (if i < 0 then -i else i))
  | _ => none
def intC : List D → Option D
  | [.int i] => some (.int i)
  | [.bl b] => some (.int (if b then 1 else 0))
  | _ => none
theorem q_int : OpC K intC (fun xs H Q => (∃ i, xs = [V.int i] ∧ Q (.int i) H) ∨ ∃ k, xs = [V.bl k] ∧ Q (.int (if k then 1 else 0)) H) := by
  intro F H vs ds d Q s r e k
  unfold intC at e
  split at e
  · cases e
    obtain ⟨v, rfl, h⟩ := Reps.one r
    cases h
    exact .inl ⟨_, rfl, k _ F H (Grw.refl s) (.int _)⟩
  · cases e
    obtain ⟨v, rfl, h⟩ := Reps.one r
    cases h
    exact .inr ⟨_, rfl, k _ F H (Grw.refl s) (.int _)⟩
  · cases e
def maxC : List D → Option D
  | [.int i, .int j] => some (.int (if j > i then j else i))
  | _ => none
def minC : List D → Option D
  | [.int i, .int j] => some (.int (if j < i then j else i))
  | _ => none
/-- all, any of a list of truths -/
def bools : List D → Option (List Bool)
  | [] => some []
  | .bl b :: r => (bools r).map (b :: ·)
  | _ :: _ => none
theorem bools_rep {F : Hp} : ∀ {vs : List V} {ds : List D} {bs : List Bool}, Reps K F vs ds → bools ds = some bs → vs = bs.map V.bl
  | _, [], _, .nil, e => by cases e; rfl
  | _, .bl b :: ds, bs, .cons h r, e => by
    cases h
    simp only [bools] at e
    cases h : bools ds with
    | none => rw [h] at e; cases e
    | some l =>
      rw [h] at e
      cases e
      rw [bools_rep r h]
      rfl
  | _, .non :: _, _, _, e => by cases e
  | _, .int _ :: _, _, _, e => by cases e
  | _, .str _ :: _, _, _, e => by cases e
  | _, .tup _ :: _, _, _, e => by cases e
  | _, .lst _ :: _, _, _, e => by cases e
  | _, .scr _ :: _, _, _, e => by cases e
  | _, .fn _ :: _, _, _, e => by cases e
  | _, .dct _ :: _, _, _, e => by cases e
  | _, .exc _ _ :: _, _, _, e => by cases e
  | _, .clo _ _ :: _, _, _, e => by cases e
  | _, .dcf _ :: _, _, _, e => by cases e
  | _, .err _ _ _ :: _, _, _, e => by cases e
def allC : List D → Option D
  | [.lst xs] => (bools xs).map fun bs => .bl (bs.all id)
  | _ => none
theorem q_all : OpC K allC (rAll K) := by
  intro F H vs ds d Q s r e k
  unfold allC at e
  split at e
  · rename_i xs
    cases hb : bools xs with
    | none => rw [hb] at e; cases e
    | some bs =>
      rw [hb] at e
      cases e
      obtain ⟨v, rfl, h⟩ := Reps.one r
      cases h with
      | lst h1 r1 =>
        rw [bools_rep r1 hb] at h1
        exact ⟨_, bs, rfl, SqL.of (s _ _ h1), k _ F H (Grw.refl s) (.bl _)⟩
  · cases e
end
end FL
/-! FL5: statements, loops. -/
namespace FL
open PySem PySem.Spec PyProof.Rows L2

inductive Res where
  | v (d : D)
  | m (m : M)
inductive Fl where
  | nx
  | rt (r : Res)
  | bk
  | ct
abbrev SF := Rho → R Fl
section
variable [FE]
variable (K : PySem.W.Frag) (π : Nat → Addr) (W : WX)
def relR (c : Cfg) (F H : Hp) (σ : L2.St) (ρ : Rho) (v : V) : Res → Prop
  | .v d => Rep K F v d
  | .m m => relM K c F H σ ρ v m
def PoS (c : Cfg) (F : Hp) (σ : L2.St) (D : Ends) : R Fl → Prop
  | .ok .nx ρ' => ∀ σ' F' H', Same F F' → Sta K π c F' H' σ' ρ' → D.nx σ' H'
  | .ok (.rt r) ρ' => ∀ v σ' F' H', Same F F' → Sta K π c F' H' σ' ρ' → relR K c F' H' σ' ρ' v r → D.rt v H'
  | .ok .bk ρ' => ∀ σ' F' H', Same F F' → Sta K π c F' H' σ' ρ' → D.bk σ' H'
  | .ok .ct ρ' => ∀ σ' F' H', Same F F' → Sta K π c F' H' σ' ρ' → D.ct σ' H'
  | .exc C fs ρ' => ∀ dd fsV σ' F' H', Same F F' → Sta K π c F' H' σ' ρ' → XD F' dd fsV → fsV.map (·.1) = fs.map (·.1) → Reps K F' (fsV.map (·.2)) (fs.map (·.2)) → W (.ref (FE.cl C)) dd σ' H'
  | .stuck => False
def tS (f : SF) : TS := fun D σ H => ∃ c F ρ, c.ow = [] ∧ Sta K π c F H σ ρ ∧ PoS K π W c F σ D (f ρ)
/-- a target -/
abbrev GF := D → Rho → Option Rho
def Off (ns : List Nat) (σ σ' : L2.St) : Prop := σ'.length = σ.length ∧ ∀ j, j ∉ ns → σ'[j]? = σ[j]?
def PoG (ns : List Nat) (c : Cfg) (F : Hp) (σ : L2.St) (Q : L2.St → Hp → Prop) : Option Rho → Prop
  | some ρ' => ∀ σ' F' H', Same F F' → Off ns σ σ' → Sta K π c F' H' σ' ρ' → Q σ' H'
  | none => False
def tGt (ns : List Nat) (g : GF) : TG := fun v σ H Q => ∃ c F ρ d, Sta K π c F H σ ρ ∧ Rep K F v d ∧ PoG K π ns c F σ Q (g d ρ)
abbrev GFs := List D → Rho → Option Rho
end
section
variable [FE]
variable {K : PySem.W.Frag} {π : Nat → Addr} {W : WX} {c : Cfg} {F F' H H' : Hp} {σ σ' : L2.St} {ρ ρ' : Rho} {D : Ends}
theorem PoS.mono (s : Same F F') : ∀ {r : R Fl}, PoS K π W c F σ D r → PoS K π W c F' σ' D r
  | .ok .nx ρ', h => fun σ2 F2 H2 s2 => h σ2 F2 H2 (s.trans s2)
  | .ok (.rt r) ρ', h => fun v σ2 F2 H2 s2 => h v σ2 F2 H2 (s.trans s2)
  | .ok .bk ρ', h => fun σ2 F2 H2 s2 => h σ2 F2 H2 (s.trans s2)
  | .ok .ct ρ', h => fun σ2 F2 H2 s2 => h σ2 F2 H2 (s.trans s2)
  | .exc C fs ρ', h => fun dd fsV σ2 F2 H2 s2 => h dd fsV σ2 F2 H2 (s.trans s2)
  | .stuck, h => h
/-- an expression, then what follows -/
theorem pos_bind {α β : Type} {rel : Rel β α} {f : Rho → R α} {k : α → Rho → R Fl} {Q1 : β → Hp → Prop} (S : Sta K π c F H σ ρ) (h : PoS K π W c F σ D ((f ρ).bind k))
    (cont : ∀ v F' H' ρ' a, Same F F' → Sta K π c F' H' σ ρ' → rel c F' H' σ ρ' v a → PoS K π W c F' σ D (k a ρ') → Q1 v H') : tG K π W rel f σ H Q1 := by
  refine ⟨c, F, ρ, S, ?_⟩
  cases e : f ρ with
  | ok a ρ' =>
    rw [e] at h
    have h : PoS K π W c F σ D (k a ρ') := h
    exact fun v F2 H2 s2 S2 r => cont v F2 H2 ρ' a s2 S2 r (h.mono s2)
  | exc C fs ρ' =>
    rw [e] at h
    exact fun dd fsV F2 H2 s2 S2 => h dd fsV σ F2 H2 s2 S2
  | stuck =>
    rw [e] at h
    exact h
theorem Off.refl {ns : List Nat} (σ : L2.St) : Off ns σ σ := ⟨rfl, fun _ _ => rfl⟩
theorem Off.trans {ns ms : List Nat} {σ1 σ2 σ3 : L2.St} (a : Off ns σ1 σ2) (b : Off ms σ2 σ3) : Off (ns ++ ms) σ1 σ3 := ⟨b.1.trans a.1, fun j hj => (b.2 j fun z => hj (List.mem_append_right _ z)).trans (a.2 j fun z => hj (List.mem_append_left _ z))⟩
theorem Off.set {i : Nat} {σ : L2.St} {x : Option V} : Off [i] σ (σ.set i x) := ⟨by simp, fun j hj => List.getElem?_set_ne (fun z => hj (by simp [z]))⟩
theorem PoG.mono {ns : List Nat} {Q : L2.St → Hp → Prop} (s : Same F F') : ∀ {r : Option Rho}, PoG K π ns c F σ Q r → PoG K π ns c F' σ Q r
  | some ρ', h => fun σ2 F2 H2 s2 => h σ2 F2 H2 (s.trans s2)
  | none, h => h.elim
end

section
variable [FE]
variable {X : Cx} {π : Nat → Addr} {W : WX} {e a b : Expr} {pos : Pos} {st : Stmt} {rest : List Stmt}
theorem PS.imp {t t' : TS} (h : PS X st t) (k : ∀ D σ H, t' D σ H → t D σ H) : PS X st t' := ⟨fun pins s σ H D I q => h.run pins s σ H D I (k D σ H q)⟩
theorem PSs.imp {t t' : TS} (h : PSs X rest t) (k : ∀ D σ H, t' D σ H → t D σ H) : PSs X rest t' := ⟨fun pins s σ H D I q => h.run pins s σ H D I (k D σ H q)⟩
theorem PG.imp {t t' : TG} (h : PG X e t) (k : ∀ v σ H Q, t' v σ H Q → t v σ H Q) : PG X e t' := ⟨fun pins s σ H v u Q I r q => h.run pins s σ H v u Q I r (k v σ H Q q)⟩
theorem PGs.imp {es : List Expr} {t t' : TGs} (h : PGs X es t) (k : ∀ v σ H Q, t' v σ H Q → t v σ H Q) : PGs X es t' := ⟨fun pins s σ H v u Q I r q => h.run pins s σ H v u Q I r (k v σ H Q q)⟩

/-! ### blocks -/
def nxS : SF := fun ρ => .ok .nx ρ
def seqS (f g : SF) : SF := fun ρ => (f ρ).bind fun fl ρ => match fl with
  | .nx => g ρ
  | o => .ok o ρ
theorem fss_nil : PSs X [] (tS X.K π W nxS) := PSs.imp pss_nil fun D σ H ⟨c, F, ρ, h0, S, P⟩ => P σ F H (Same.refl _) S
theorem fss_cons {f g : SF} (h1 : PS X st (tS X.K π W f)) (h2 : PSs X rest (tS X.K π W g)) : PSs X (st :: rest) (tS X.K π W (seqS f g)) :=
  PSs.imp (pss_cons h1 h2) fun D σ H ⟨c, F, ρ, h0, S, P⟩ => by
    refine ⟨c, F, ρ, h0, S, ?_⟩
    unfold seqS at P
    cases ef : f ρ with
    | stuck => rw [ef] at P; exact P
    | exc C fs ρ' => rw [ef] at P; exact P
    | ok fl ρ' =>
      rw [ef] at P
      cases fl with
      | nx => exact fun σ2 F2 H2 s2 S2 => ⟨c, F2, ρ', h0, S2, PoS.mono s2 P⟩
      | rt r => exact P
      | bk => exact P
      | ct => exact P
theorem fss_one {f : SF} (h1 : PS X st (tS X.K π W f)) : PSs X [st] (tS X.K π W f) := pss_one h1
/-- a slot's own list becomes data -/
def frzAt (i : Nat) (ρ : Rho) : Option Rho := match ρ[i]? with
  | some (.own (.lst ds)) => some (ρ.set i (.val (.lst ds)))
  | some (.own (.dct ds)) => some (ρ.set i (.val (.dct ds)))
  | _ => none
def frzS (i : Nat) (g : SF) : SF := fun ρ => match frzAt i ρ with
  | some ρ' => g ρ'
  | none => .stuck
theorem fss_frz {i : Nat} {g : SF} (h : PSs X rest (tS X.K π W g)) : PSs X rest (tS X.K π W (frzS i g)) :=
  PSs.imp h fun D σ H ⟨c, F, ρ, h0, S, P⟩ => by
    unfold frzS frzAt at P
    cases e : ρ[i]? with
    | none => rw [e] at P; exact P.elim
    | some s =>
      rw [e] at P
      cases s with
      | own m =>
        cases m with
        | lst ds =>
          obtain ⟨F', _, sm, S'⟩ := S.freeze e h0
          exact ⟨c, F', _, h0, S', PoS.mono sm P⟩
        | dct ds =>
          obtain ⟨F', _, sm, S'⟩ := S.freezeD e h0
          exact ⟨c, F', _, h0, S', PoS.mono sm P⟩
        | ins _ _ => exact P.elim
        | dtu _ => exact P.elim
      | no => exact P.elim
      | val _ => exact P.elim
      | io _ => exact P.elim
/-- some slots are forgotten -/
def wipeR (ks : List Nat) (ρ : Rho) : Rho := ks.foldl (fun ρ i => ρ.set i .no) ρ
theorem Sta.wipe {K : PySem.W.Frag} {c : Cfg} {F H : Hp} {σ : L2.St} : ∀ {ks : List Nat} {ρ : Rho}, Sta K π c F H σ ρ → Sta K π c F H σ (wipeR ks ρ)
  | [], _, S => S
  | k :: ks, _, S => Sta.wipe (ks := ks) (S.forget k)

/-! ### small statements -/
def exS (f : EF) : SF := fun ρ => (f ρ).bind fun _ ρ => .ok .nx ρ
def retS (f : EF) : SF := fun ρ => (f ρ).bind fun d ρ => .ok (.rt (.v d)) ρ
theorem fs_ret {f : EF} (he : PE X e (tE X.K π W f)) : PS X (.Return (some e) pos) (tS X.K π W (retS f)) :=
  PS.imp (ps_ret he) fun D σ H ⟨c, F, ρ, h0, S, P⟩ => by
    refine pos_bind S P fun v F1 H1 ρ1 d s1 S1 r1 P1 => ?_
    exact P1 v σ F1 H1 (Same.refl _) S1 r1
def retM (f : Rho → R M) : SF := fun ρ => (f ρ).bind fun d ρ => .ok (.rt (.m d)) ρ
def ifS (t : TF) (f g : SF) : SF := fun ρ => (t ρ).bind fun b ρ => if b = true then f ρ else g ρ
theorem fs_if {c : Expr} {xs ys : List Stmt} {t : TF} {f g : SF} (hc : PT X c (tT X.K π W t)) (ha : PSs X xs (tS X.K π W f)) (hb : PSs X ys (tS X.K π W g)) : PS X (.If c xs ys pos) (tS X.K π W (ifS t f g)) :=
  PS.imp (ps_if hc ha hb) fun D σ H ⟨c, F, ρ, h0, S, P⟩ => by
    refine pos_bind S P fun b F1 H1 ρ1 d s1 S1 r1 P1 => ?_
    cases r1
    cases b with
    | true =>
      rw [if_pos rfl] at P1 ⊢
      exact ⟨c, F1, ρ1, h0, S1, P1⟩
    | false =>
      rw [if_neg Bool.false_ne_true] at P1 ⊢
      exact ⟨c, F1, ρ1, h0, S1, P1⟩
def bkS : SF := fun ρ => .ok .bk ρ
def ctS : SF := fun ρ => .ok .ct ρ
/-! ### names stored -/
def setR (i : Nat) (s : Slot) (ρ : Rho) : Option Rho := if i < ρ.length then some (ρ.set i s) else none
def nxO : Option Rho → R Fl
  | some ρ => .ok .nx ρ
  | none => .stuck
def setS (i : Nat) (f : EF) : SF := fun ρ => (f ρ).bind fun d ρ => nxO (setR i (.val d) ρ)
theorem fs_set {i : Nat} {x : Str} {f : EF} {pos' : Pos} (hN : X.N.Nodup) (hi : X.N[i]? = some x) (hx : Loc X.env.scope x) (he : PE X e (tE X.K π W f)) (hs : swapsWith e (some (.Name x pos')) pos.line X.env = pure false := by rfl)
    (hf : X.fn x = true ∨ X.env.scope.names.lookup x = some .local := by first | exact .inl rfl | exact .inr rfl | assumption) : PS X (.Assign [.Name x pos'] e pos) (tS X.K π W (setS i f)) :=
  PS.imp (ps_set hN hi hx he hs hf) fun D σ H ⟨c, F, ρ, h0, S, P⟩ => by
    refine pos_bind S P fun v F1 H1 ρ1 d s1 S1 r1 P1 => ?_
    unfold setR at P1
    split at P1
    · rename_i hl
      exact P1 _ F1 H1 (Same.refl _) (S1.set hl r1)
    · exact P1.elim
def setM (i : Nat) (f : Rho → R M) : SF := fun ρ => (f ρ).bind fun m ρ => nxO (setR i (.own m) ρ)
theorem fs_setM {i : Nat} {x : Str} {f : Rho → R M} {pos' : Pos} (hN : X.N.Nodup) (hi : X.N[i]? = some x) (hx : Loc X.env.scope x) (he : PE X e (tM X.K π W f)) (hs : swapsWith e (some (.Name x pos')) pos.line X.env = pure false := by rfl)
    (hf : X.fn x = true ∨ X.env.scope.names.lookup x = some .local := by first | exact .inl rfl | exact .inr rfl | assumption) : PS X (.Assign [.Name x pos'] e pos) (tS X.K π W (setM i f)) :=
  PS.imp (ps_set hN hi hx he hs hf) fun D σ H ⟨c, F, ρ, h0, S, P⟩ => by
    refine pos_bind S P fun v F1 H1 ρ1 m s1 S1 r1 P1 => ?_
    obtain ⟨p, rfl, f1, f2, f3, hm⟩ := r1
    unfold setR at P1
    split at P1
    · rename_i hl
      exact P1 _ F1 H1 (Same.refl _) (S1.setOwn hl f1 (.inl f2) hm f3)
    · exact P1.elim
/-- targets -/
def nmG (i : Nat) : GF := fun d ρ => setR i (.val d) ρ
theorem fg_name {i : Nat} {x : Str} (hN : X.N.Nodup) (hi : X.N[i]? = some x) (hx : Loc X.env.scope x) (hf : X.fn x = true ∨ X.env.scope.names.lookup x = some .local := by first | exact .inl rfl | exact .inr rfl | assumption) : PG X (.Name x pos) (tGt X.K π [i] (nmG i)) :=
  PG.imp (pg_name hN hi hx hf) fun v σ H Q ⟨c, F, ρ, d, S, r, P⟩ => by
    unfold nmG setR at P
    split at P
    · rename_i hl
      exact P _ F H (Same.refl _) Off.set (S.set hl r)
    · exact P.elim
def nilG : GFs := fun ds ρ => match ds with
  | [] => some ρ
  | _ => none
def cnsG (g : GF) (h : GFs) : GFs := fun ds ρ => match ds with
  | d :: ds => (g d ρ).bind fun ρ => h ds ρ
  | [] => none
def tupG (n : Nat) (h : GFs) : GF := fun d ρ => match d with
  | .tup ds => if ds.length = n then h ds ρ else none
  | _ => none
def asgS (f : EF) (g : GF) : SF := fun ρ => (f ρ).bind fun d ρ => nxO (g d ρ)
/-- a, b = x, y -/
def parS (i j : Nat) (g : Rho → R (List D)) : SF := fun ρ => (g ρ).bind fun ds ρ => nxO (match ds with
  | [x, y] => (setR i (.val x) ρ).bind fun ρ => setR j (.val y) ρ
  | _ => none)
theorem fs_par {i j : Nat} {x y : Str} {px py pt : Pos} {kt k2 pt2} {g : Rho → R (List D)} (hc : X.calm = true) (hN : X.N.Nodup) (hi : X.N[i]? = some x) (hj : X.N[j]? = some y) (hij : i ≠ j)
    (hx : X.env.scope.names.lookup x = some .local) (hy : X.env.scope.names.lookup y = some .local) (ha : PA X [a, b] (tA X.K π W g))
    (hw : swappedStores [.Tuple [.Name x px, .Name y py] kt pt] (.Tuple [a, b] k2 pt2) X.env = pure (some [x, y]))
    (hs : swapsWithSole [.Tuple [.Name x px, .Name y py] kt pt] (.Tuple [a, b] k2 pt2) pos.line X.env = pure false := by rfl) :
    PS X (.Assign [.Tuple [.Name x px, .Name y py] kt pt] (.Tuple [a, b] k2 pt2) pos) (tS X.K π W (parS i j g)) :=
  PS.imp (ps_par hc hN hi hj hij hx hy ha hw hs) fun D σ H ⟨c, F, ρ, h0, S, P⟩ => by
    refine pos_bind S P fun vs F1 H1 ρ1 ds s1 S1 r1 P1 => ?_
    split at P1
    · obtain ⟨v, w, rfl, r2, r3⟩ := Reps.two r1
      unfold setR at P1
      split at P1
      · rename_i hl
        have P1 : PoS X.K π W c F1 σ D (nxO (if j < (ρ1.set i (.val _)).length then some _ else none)) := P1
        split at P1
        · rename_i hl2
          exact ⟨v, w, rfl, P1 _ F1 H1 (Same.refl _) ((S1.set hl r2).set hl2 r3)⟩
        · exact P1.elim
      · exact P1.elim
    · exact P1.elim
def par3S (i j l : Nat) (g : Rho → R (List D)) : SF := fun ρ => (g ρ).bind fun ds ρ => nxO (match ds with
  | [x, y, z] => (setR i (.val x) ρ).bind fun ρ => (setR j (.val y) ρ).bind fun ρ => setR l (.val z) ρ
  | _ => none)
/-! ### our own lists -/
/-- the list of slot i, put back by the way it stands -/
def getM (i : Nat) (ρ : Rho) : Option (List D × (List D → Slot)) := match ρ[i]? with
  | some (.own (.lst ds)) => some (ds, fun es => .own (.lst es))
  | some (.io (.lst ds)) => some (ds, fun es => .io (.lst es))
  | _ => none
theorem Sta.getM {K : PySem.W.Frag} {c : Cfg} {F H : Hp} {σ : L2.St} {ρ : Rho} (S : Sta K π c F H σ ρ) {i : Nat} {ds : List D} {k : List D → Slot} (h : FL.getM i ρ = some (ds, k)) :
    ∃ p vs, σ[i]? = some (some (.ref p)) ∧ H p = some (.lst vs) ∧ Reps K F vs ds ∧ ∀ es ws, Reps K F ws es → Sta K π c F (upd H p (.lst ws)) σ (ρ.set i (k es)) := by
  unfold FL.getM at h
  split at h
  · rename_i ds' e
    cases h
    obtain ⟨p, e1, n, fr, vs, ho, r⟩ := S.rep i _ e
    exact ⟨p, vs, e1, ho, r, fun es ws q => S.change (o := .lst ws) ⟨e1, _, .inl e⟩ (m := .lst es) ⟨ws, upd_same, q⟩ _ (.inl ⟨rfl, _, e⟩)⟩
  · rename_i ds' e
    cases h
    obtain ⟨e1, n, fr, vs, ho, r⟩ := S.rep i _ e
    exact ⟨_, vs, e1, ho, r, fun es ws q => S.change (o := .lst ws) ⟨e1, _, .inr e⟩ (m := .lst es) ⟨ws, upd_same, q⟩ _ (.inr ⟨rfl, _, e⟩)⟩
  · cases h
/-- x.append(e) -/
def mutS (i : Nat) (f : EF) (o : List D → D → Option (List D)) : SF := fun ρ => match getM i ρ with
  | none => .stuck
  | some _ => (f ρ).bind fun d ρ => match getM i ρ with
    | some (ds, k) => match o ds d with
      | some es => .ok .nx (ρ.set i (k es))
      | none => .stuck
    | none => .stuck
def appO (ds : List D) (d : D) : Option (List D) := if small (ds.length + 1) = true then some (ds ++ [d]) else none
/-- what a method of our own list asks -/
theorem rd_mut {K : PySem.W.Frag} {i : Nat} {f : EF} {o : List D → D → Option (List D)} {r : V → List V → Hp → VK → Prop} {σ : L2.St} {H : Hp} {D : Ends}
    (q : ∀ {F H : Hp} {p : Addr} {vs : List V} {ds es : List FL.D} {v : V} {d : FL.D} {Q : VK}, Same F H → H p = some (.lst vs) → Reps K F vs ds → Rep K F v d → o ds d = some es → (∀ ws, Reps K F ws es → Q .non (upd H p (.lst ws))) → r (.ref p) [v] H Q)
    (h : tS K π W (mutS i f o) D σ H) : tDrop (tBM K "list" r (tVar i) (tCons (tE K π W f) tNil)) D σ H := by
  obtain ⟨c, F, ρ, h0, S, P⟩ := h
  unfold mutS at P
  split at P
  · exact P.elim
  · rename_i z eg
    obtain ⟨ds0, k0⟩ := z
    obtain ⟨p, vs0, e0, ho0, _⟩ := S.getM eg
    refine ⟨.ref p, e0, .inl ⟨rfl, vs0, SqL.of ho0⟩, ?_⟩
    have key : tE K π W f σ H fun v H1 => r (.ref p) [v] H1 fun _ H2 => D.nx σ H2 := by
      refine pos_bind S P fun v F1 H1 ρ1 d s1 S1 r1 P1 => ?_
      split at P1
      · rename_i ds k eg2
        split at P1
        · rename_i es eo
          obtain ⟨p', vs, e1, ho, rr, fin⟩ := S1.getM eg2
          rw [e0] at e1
          cases e1
          exact q S1.f ho rr r1 eo fun ws hw => P1 _ F1 _ (Same.refl _) (fin _ _ hw)
        · exact P1.elim
      · exact P1.elim
    exact key
theorem fs_append {i : Nat} {x : Str} {f : EF} {p apos cpos : Pos} (hx : PE X (.Name x p) (tVar i)) (he : PE X e (tE X.K π W f)) (hs : swapsWith (.Call (.Attribute (.Name x p) "append" apos) [e] [] cpos) none pos.line X.env = pure false := by rfl)
    (hbase : attributeBase (.Name x p) "append" X.env (eval (.Name x p) X.env) = eval (.Name x p) X.env := by rfl)
    (hfew : ((backTo cpos (starEach [e] X.env)).all (fun x => !x.1) && (backToKw cpos (keywordEach [] X.env)).all (fun x => x.1.isSome) && decide ([e].length + ([] : List Keyword).length + (if ([] : List Keyword).isEmpty then 0 else 1) < 30)) = true := by rfl)
    (hline : (apos.endLine == cpos.line) = true := by rfl) (hst : starEach [e] X.env = (false, eval e X.env) :: starEach [] X.env := by rfl) :
    PS X (.Expr (.Call (.Attribute (.Name x p) "append" apos) [e] [] cpos) pos) (tS X.K π W (mutS i f appO)) :=
  PS.imp (ps_expr (pe_bm PySem.F.plainAttrs_list PySem.F.slot_list_append PySem.F.type_list_append mt_append hx (pa_cons he pa_nil hst) hbase hfew hline hst (by rfl)) hs) fun D σ H h =>
    rd_mut (r := rAppend) (fun {F H p vs ds es v d Q} s ho rr rv eo k => by
      unfold appO at eo
      split at eo
      · rename_i hz
        cases eo
        have hl := small_le hz
        exact ⟨p, vs, v, rfl, rfl, ho, lt_line (by rw [Reps.length rr]; omega), k _ (rr.snoc rv)⟩
      · cases eo) h
/-- x[j] = e, of our own list -/
def putO (ds : List D) (j : D) (d : D) : Option (List D) := match j with
  | .int z => match ixN ds.length z with
    | some n => some (ds.set n d)
    | none => none
  | _ => none
def subG (i : Nat) (g : EF) : D → Rho → R Unit := fun d ρ => match getM i ρ with
  | none => .stuck
  | some _ => (g ρ).bind fun j ρ => match getM i ρ with
    | some (ds, k) => match putO ds j d with
      | some es => .ok () (ρ.set i (k es))
      | none => .stuck
    | none => .stuck
def subS (i : Nat) (f g : EF) : SF := fun ρ => (f ρ).bind fun d ρ => (subG i g d ρ).bind fun _ ρ => .ok .nx ρ
/-- x[j], of our own list -/
def ixM (i : Nat) (g : EF) : EF := fun ρ => match getM i ρ with
  | none => .stuck
  | some _ => (g ρ).bind fun j ρ => match getM i ρ, j with
    | some (ds, _), .int z => R.of (atI ds z) ρ
    | _, _ => .stuck
/-- len of our own list -/
def lenM (i : Nat) : EF := fun ρ => match getM i ρ with
  | some (ds, _) => .ok (.int ds.length) ρ
  | none => .stuck
end
end FL
/-! FL6: loops, comprehensions. -/
namespace FL
open PySem PySem.Spec PyProof.Rows L2

/-! ### while -/
section
variable [FE]
variable {X : Cx} {π : Nat → Addr} {W : WX} {pos : Pos}
end

/-! ### what is walked -/
variable [FE] in
structure Wk (K : PySem.W.Frag) (F : Hp) (J : It) (ds : List D) : Prop where
  go : ∀ F' H', Same F F' → Same F' H' → ∀ i d, ds[i]? = some d → J.go i H' ∧ ∀ x H2, J.yld i H' x H2 → ∃ F2, Grw F' H' F2 H2 ∧ Rep K F2 x d
  stop : ∀ H', Same F H' → J.stop ds.length H'
variable [FE] in
theorem Wk.mono {K : PySem.W.Frag} {F F' : Hp} {J : It} {ds : List D} (w : Wk K F J ds) (s : Same F F') : Wk K F' J ds := ⟨fun F2 H2 s1 s2 => w.go F2 H2 (s.trans s1) s2, fun H2 s1 => w.stop H2 (s.trans s1)⟩
variable [FE] in
def relI (K : PySem.W.Frag) : Rel It (List D) := fun _ F _ _ _ J ds => Wk K F J ds
abbrev IF := Rho → R (List D)
variable [FE] in
abbrev tI (K : PySem.W.Frag) (π : Nat → Addr) (W : WX) (it : IF) : TI := tG K π W (relI K) it
section
variable [FE]
variable {X : Cx} {π : Nat → Addr} {W : WX} {tg e a b : Expr} {pos p : Pos}
theorem PI.imp {w w' : TI} (h : PI X tg e w) (k : ∀ σ H R, w' σ H R → w σ H R) : PI X tg e w' := ⟨fun pins s σ H R I q => h.run pins s σ H R I (k σ H R q)⟩
def seqD : D → Option (List D)
  | .tup xs => some xs
  | .lst xs => some xs
  | .scr ns => some (ns.map D.int)
  | _ => none
def seqI (f : EF) : IF := fun ρ => (f ρ).bind fun d ρ => R.of (seqD d) ρ
theorem wk_listL {K : PySem.W.Frag} {F : Hp} {q : Addr} {xs : List V} {ds : List D} (h : SqL K F q xs) (r : Reps K F xs ds) : Wk K F (Itl K q) ds := by
  refine ⟨fun F' H' s1 s2 i d hd => ?_, fun H' s => ⟨xs, Same.seq s h, by rw [Reps.length r]; exact Nat.le_refl _⟩⟩
  obtain ⟨v, hv, rv⟩ := r.get hd
  refine ⟨⟨xs, v, Same.seq (s1.trans s2) h, hv⟩, fun x H2 ⟨e1, e2⟩ => ?_⟩
  subst e1
  have := e2 xs (Same.seq (s1.trans s2) h)
  rw [hv] at this
  cases this
  exact ⟨F', Grw.refl s2, rv.mono s1⟩
theorem wk_tup {K : PySem.W.Frag} {F : Hp} {q : Addr} {xs : List V} {ds : List D} (h : SqT K F q xs) (r : Reps K F xs ds) : Wk K F (Itt K q) ds := by
  refine ⟨fun F' H' s1 s2 i d hd => ?_, fun H' s => ⟨xs, sm_tup s h, by rw [Reps.length r]; exact Nat.le_refl _⟩⟩
  obtain ⟨v, hv, rv⟩ := r.get hd
  refine ⟨⟨xs, v, sm_tup (s1.trans s2) h, hv⟩, fun x H2 ⟨e1, e2⟩ => ?_⟩
  subst e1
  have := e2 xs (sm_tup (s1.trans s2) h)
  rw [hv] at this
  cases this
  exact ⟨F', Grw.refl s2, rv.mono s1⟩
theorem PI.or {w w' : TI} (h : PI X tg e w) (h' : PI X tg e w') : PI X tg e (fun σ H R => w σ H R ∨ w' σ H R) := ⟨fun pins s σ H R I q => q.elim (h.run pins s σ H R I) (h'.run pins s σ H R I)⟩
theorem fi_seq {f : EF} (he : PE X e (tE X.K π W f)) : PI X tg e (tI X.K π W (seqI f)) :=
  PI.imp (PI.or (pi_list he) (pi_tup he)) fun σ H R ⟨c, F, ρ, S, P⟩ => by
    unfold seqI at P
    cases ef : f ρ with
    | stuck => rw [ef] at P; exact P.elim
    | exc C fs ρ1 =>
      rw [ef] at P
      exact .inl ⟨c, F, ρ, S, by rw [ef]; exact P⟩
    | ok d ρ1 =>
      rw [ef] at P
      have P : Po X.K π W (relI X.K) c F σ R (FL.R.of (seqD d) ρ1) := P
      cases d <;> first | (exact P.elim) | skip
      · rename_i xs
        refine .inr ⟨c, F, ρ, S, ?_⟩
        rw [ef]
        intro v F1 H1 s1 S1 r1
        cases r1 with
        | @tup q vs _ h1 r1 => exact ⟨q, rfl, ⟨vs, sm_tup S1.f h1⟩, P _ F1 H1 s1 S1 (wk_tup h1 r1)⟩
      · rename_i xs
        refine .inl ⟨c, F, ρ, S, ?_⟩
        rw [ef]
        intro v F1 H1 s1 S1 r1
        cases r1 with
        | @lst q vs _ h1 r1 => exact ⟨q, rfl, ⟨vs, SqL.of (S1.f _ _ h1)⟩, P _ F1 H1 s1 S1 (wk_listL (SqL.of h1) r1)⟩
      · rename_i ns
        refine .inl ⟨c, F, ρ, S, ?_⟩
        rw [ef]
        intro v F1 H1 s1 S1 r1
        cases r1 with
        | @scr q _ h1 => exact ⟨q, rfl, ⟨_, Same.seq S1.f h1⟩, P _ F1 H1 s1 S1 (wk_listL h1 (Reps.ints _))⟩
/-- range -/
def rangeL (lo : Int) : Nat → List D
  | 0 => []
  | n + 1 => .int lo :: rangeL (lo + 1) n
theorem rangeL_length : ∀ (n : Nat) (lo : Int), (rangeL lo n).length = n
  | 0, _ => rfl
  | n + 1, lo => by rw [rangeL, List.length_cons, rangeL_length n]
theorem rangeL_get : ∀ (n : Nat) (lo : Int) (i : Nat) (d : D), (rangeL lo n)[i]? = some d → i < n ∧ d = .int (lo + i)
  | 0, _, _, _, h => by simp [rangeL] at h
  | n + 1, lo, 0, d, h => by
    simp [rangeL] at h
    exact ⟨by omega, by rw [← h]; simp⟩
  | n + 1, lo, i + 1, d, h => by
    obtain ⟨h1, h2⟩ := rangeL_get n (lo + 1) i d (by simpa [rangeL] using h)
    refine ⟨by omega, ?_⟩
    rw [h2]
    congr 1
    omega
theorem wk_range {K : PySem.W.Frag} {F : Hp} {lo : Int} {n : Nat} : Wk K F (Itr lo n) (rangeL lo n) := by
  refine ⟨fun F' H' s1 s2 i d hd => ?_, fun H' s => ?_⟩
  · obtain ⟨h1, rfl⟩ := rangeL_get n lo i d hd
    refine ⟨h1, fun x H2 ⟨e1, e2⟩ => ?_⟩
    subst e1
    subst e2
    exact ⟨F', Grw.refl s2, .int _⟩
  · rw [rangeL_length]
    exact Nat.le_refl _
def rgOk (i : Int) : Bool := decide (i.natAbs < 2 ^ 62)
def rng1 (g : Rho → R (List D)) : IF := fun ρ => (g ρ).bind fun ds ρ => R.of (match ds with
  | [.int j] => if rgOk j = true then some (rangeL 0 j.toNat) else none
  | _ => none) ρ
theorem fi_range1 {g : Rho → R (List D)} (hg : Gl X "range") (hm : X.mg "range" = none) (ha : PA X [a] (tA X.K π W g)) (hs : starEach [a] X.env = [(false, eval a X.env)] := by rfl) : PI X tg (.Call (.Name "range" p) [a] [] pos) (tI X.K π W (rng1 g)) :=
  PI.imp (pi_range1 hg hm ha hs) fun σ H R ⟨c, F, ρ, S, P⟩ => by
    refine po_bind S P fun vs F1 H1 ρ1 ds s1 S1 r1 P1 => ?_
    obtain ⟨l, e, P2⟩ := po_of P1
    split at e
    · rename_i j
      split at e
      · rename_i hz
        cases e
        obtain ⟨v, rfl, h⟩ := Reps.one r1
        cases h
        have hz : j.natAbs < 2 ^ 62 := of_decide_eq_true hz
        exact ⟨j, rfl, by omega, by omega, P2 _ F1 H1 (Same.refl _) S1 wk_range⟩
      · cases e
    · cases e
/-! ### for -/
/-- behind a turn -/
def aftF (ks : List Nat) (k : Rho → R Fl) : Fl → Rho → R Fl
  | .nx, ρ => k (wipeR ks ρ)
  | .ct, ρ => k (wipeR ks ρ)
  | .bk, ρ => .ok .nx (wipeR ks ρ)
  | .rt r, ρ => .ok (.rt r) ρ
def bindO {α : Type} (x : Option Rho) (k : Rho → R α) : R α := match x with
  | some ρ => k ρ
  | none => .stuck
def forL (ks : List Nat) (g : GF) (b : SF) : List D → Rho → R Fl
  | [], ρ => .ok .nx ρ
  | d :: ds, ρ => bindO (g d ρ) fun ρ => (b ρ).bind (aftF ks (forL ks g b ds))
def forS (ks : List Nat) (it : IF) (g : GF) (b : SF) : SF := fun ρ => (it ρ).bind fun ds ρ => forL ks g b ds ρ
theorem fs_for {body : List Stmt} {it : IF} {g : GF} {b : SF} {ks ns : List Nat} (hp : PassesOwn (model X.prog X.w) X.A X.env X.xe) (hc : X.calm = true) (hi : PI X tg e (tI X.K π W it)) (hg : PG X tg (tGt X.K π ns g)) (hb : PSs X body (tS X.K π W b))
    (hs : ∀ x, foldedSetIterable e X.env x = pure x := by intro _; rfl) : PS X (.For tg e body [] pos) (tS X.K π W (forS ks it g b)) :=
  PS.imp (ps_for hp hc hi hg hb hs) fun D σ H ⟨c, F, ρ, h0, S, P⟩ => by
    refine pos_bind S P fun J F1 H1 ρ1 ds s1 S1 wk P1 => ?_
    refine ⟨fun i m σ H => i + m = ds.length ∧ ∃ F ρ, Same F1 F ∧ Sta X.K π c F H σ ρ ∧ PoS X.K π W c F σ D (forL ks g b (ds.drop i) ρ), ⟨ds.length, by omega, F1, ρ1, Same.refl _, S1, P1⟩, ?_⟩
    rintro i m σ2 H2 ⟨him, F2, ρ2, s2, S2, P2⟩
    cases m with
    | zero =>
      have hi : i = ds.length := by omega
      subst hi
      rw [List.drop_length] at P2
      exact .inl ⟨wk.stop H2 (s2.trans S2.f), P2 σ2 F2 H2 (Same.refl _) S2⟩
    | succ m =>
      have hlt : i < ds.length := by omega
      obtain ⟨hgo, hy⟩ := wk.go F2 H2 s2 S2.f i ds[i] (by simp [hlt])
      rw [List.drop_eq_getElem_cons hlt] at P2
      refine .inr ⟨hgo, fun σ3 H3 => ∃ F3 ρ3, Same F1 F3 ∧ Sta X.K π c F3 H3 σ3 ρ3 ∧ PoS X.K π W c F3 σ3 D (forL ks g b (ds.drop (i + 1)) ρ3), fun σ3 H3 ⟨F3, ρ3, a1, a2, a3⟩ => ⟨m, Nat.lt_succ_self m, by omega, F3, ρ3, a1, a2, a3⟩, fun x H3 yl => ?_⟩
      obtain ⟨F3, gr, rx⟩ := hy x H3 yl
      refine ⟨c, F3, ρ2, ds[i], S2.grow gr, rx, ?_⟩
      have P2 : PoS X.K π W c F2 σ2 D (bindO (g ds[i] ρ2) fun ρ => (b ρ).bind (aftF ks (forL ks g b (ds.drop (i + 1))))) := P2
      cases eg : g ds[i] ρ2 with
      | none => rw [eg] at P2; exact P2
      | some ρ3 =>
        rw [eg] at P2
        intro σ4 F4 H4 s4 of4 S4
        refine ⟨c, F4, ρ3, h0, S4, ?_⟩
        have P2 : PoS X.K π W c F4 σ4 D ((b ρ3).bind (aftF ks (forL ks g b (ds.drop (i + 1))))) := PoS.mono (gr.f.trans s4) P2
        have s14 : Same F1 F4 := s2.trans (gr.f.trans s4)
        cases eb : b ρ3 with
        | stuck => rw [eb] at P2; exact P2
        | exc C fs ρ4 => rw [eb] at P2; exact P2
        | ok fl ρ4 =>
          rw [eb] at P2
          cases fl with
          | nx => exact fun σ5 F5 H5 s5 S5 => ⟨F5, _, s14.trans s5, S5.wipe, PoS.mono s5 P2⟩
          | ct => exact fun σ5 F5 H5 s5 S5 => ⟨F5, _, s14.trans s5, S5.wipe, PoS.mono s5 P2⟩
          | bk => exact fun σ5 F5 H5 s5 S5 => P2 σ5 F5 H5 s5 S5.wipe
          | rt r => exact P2

end

/-! ### comprehensions -/
/-- an exception: nothing is said of it -/
def noX {α : Type} (x : R α) : R α := match x with
  | .exc _ _ _ => .stuck
  | y => y
abbrev W0 : WX := fun _ _ _ _ => False
/-- the turns of a comprehension -/
def cmpL (ks : List Nat) (g : GF) (t : TF) (f : EF) : List D → List D → Rho → R M
  | acc, [], ρ => .ok (.lst acc) ρ
  | acc, d :: ds, ρ => bindO (g d ρ) fun ρ => (noX (t ρ)).bind fun b ρ => if b = true then (noX (f ρ)).bind fun x ρ => if small (acc.length + 1) = true then cmpL ks g t f (acc ++ [x]) ds (wipeR ks ρ) else .stuck else cmpL ks g t f acc ds (wipeR ks ρ)
/-- the slots of a comprehension's names as they were -/
def resR : List Nat → Rho → Rho → Option Rho
  | [], _, ρ => some ρ
  | k :: ks, ρ0, ρ => match ρ0[k]? with
    | some (.val d) => resR ks ρ0 (ρ.set k (.val d))
    | some .no => resR ks ρ0 (ρ.set k .no)
    | none => resR ks ρ0 ρ
    | _ => none
def cmpM (ks : List Nat) (it : IF) (g : GF) (t : TF) (f : EF) : Rho → R M := fun ρ => (it ρ).bind fun ds ρ0 => (cmpL ks g t f [] ds (wipeR ks ρ0)).bind fun m ρ => bindO (resR ks ρ0 ρ) fun ρ => .ok m ρ
theorem wipe_at {σ : L2.St} {j : Nat} : ∀ {vs : List Nat}, j ∈ vs → j < σ.length → (wipe σ vs)[j]? = some none
  | v :: vs, h, hl => by
    unfold wipe
    by_cases e : v = j
    · subst e
      exact List.getElem?_set_self (by rw [wipe_length]; exact hl)
    · rw [List.getElem?_set_ne e]
      exact wipe_at ((List.mem_cons.mp h).resolve_left (fun z => e z.symm)) hl
theorem wipe_off {σ σ' : L2.St} {vs : List Nat} (h : Off vs σ σ') : wipe σ' vs = wipe σ vs := by
  refine List.ext_getElem? fun j => ?_
  by_cases hj : j ∈ vs
  · by_cases hl : j < σ.length
    · rw [wipe_at hj hl, wipe_at hj (by rw [h.1]; exact hl)]
    · rw [List.getElem?_eq_none (by rw [wipe_length, h.1]; omega), List.getElem?_eq_none (by rw [wipe_length]; omega)]
  · rw [wipe_out hj, wipe_out hj, h.2 j hj]
theorem wipe_wipe {σ : L2.St} {vs : List Nat} : wipe (wipe σ vs) vs = wipe σ vs := (wipe_off (σ := σ) (σ' := wipe σ vs) ⟨wipe_length _ _, fun j hj => wipe_out hj⟩)
theorem wipeR_get {j : Nat} : ∀ {ks : List Nat} {ρ : Rho}, (wipeR ks ρ)[j]? = if j ∈ ks ∧ j < ρ.length then some .no else ρ[j]?
  | [], ρ => by simp [wipeR]
  | k :: ks, ρ => by
    show (wipeR ks (ρ.set k .no))[j]? = _
    rw [wipeR_get, List.length_set]
    by_cases hl : j < ρ.length
    · by_cases h1 : j ∈ ks
      · rw [if_pos ⟨h1, hl⟩, if_pos ⟨List.mem_cons_of_mem _ h1, hl⟩]
      · rw [if_neg (fun z => h1 z.1)]
        by_cases h2 : k = j
        · subst h2
          rw [List.getElem?_set_self hl, if_pos ⟨List.mem_cons_self, hl⟩]
        · rw [List.getElem?_set_ne h2, if_neg (fun z => (List.mem_cons.mp z.1).elim (fun q => h2 q.symm) h1)]
    · rw [if_neg (fun z => hl z.2), if_neg (fun z => hl z.2)]
      rw [List.getElem?_eq_none (by rw [List.length_set]; omega), List.getElem?_eq_none (by omega)]
section
variable [FE]
variable {K : PySem.W.Frag} {π : Nat → Addr} {c : Cfg} {F F' H H' : Hp} {σ : L2.St} {ρ ρ' : Rho}
/-- into the block: the names of the block are not seen -/
theorem Sta.into (S : Sta K π c F H σ ρ) (ks : List Nat) : Sta K π c F H (L2.wipe σ ks) (wipeR ks ρ) := by
  have S1 : Sta K π c F H σ (wipeR ks ρ) := S.wipe
  have hl : (wipeR ks ρ).length = ρ.length := by rw [← S1.len, S.len]
  have out : ∀ j, j ∉ ks → (L2.wipe σ ks)[j]? = σ[j]? := fun j hj => wipe_out hj
  have nin : ∀ j s, (wipeR ks ρ)[j]? = some s → s ≠ .no → j ∉ ks := fun j s e hs hj => by
    rw [wipeR_get] at e
    by_cases hlt : j < ρ.length
    · rw [if_pos ⟨hj, hlt⟩] at e
      cases e
      exact hs rfl
    · rw [if_neg (fun z => hlt z.2), List.getElem?_eq_none (by omega)] at e
      cases e
  refine ⟨S1.h0, S1.hio, S1.f0, S1.f, S1.nf, by rw [L2.wipe_length]; exact S1.len, fun j s hs => ?_, fun i j p h1 h2 => ?_, S1.t⟩
  · have z := S1.rep j s hs
    cases s with
    | no => trivial
    | val d => obtain ⟨v, e, r⟩ := z; exact ⟨v, (out j (nin j _ hs (fun q => nomatch q))).trans e, r⟩
    | own m => obtain ⟨p, e, r⟩ := z; exact ⟨p, (out j (nin j _ hs (fun q => nomatch q))).trans e, r⟩
    | io m => obtain ⟨e, r⟩ := z; exact ⟨(out j (nin j _ hs (fun q => nomatch q))).trans e, r⟩
  · have key : ∀ j, OwnAt (L2.wipe σ ks) (wipeR ks ρ) j p → OwnAt σ (wipeR ks ρ) j p := fun j ⟨e, m, h⟩ => by
      have hj : j ∉ ks := by
        rcases h with h | h
        · exact nin j _ h (fun q => nomatch q)
        · exact nin j _ h (fun q => nomatch q)
      exact ⟨(out j hj).symm.trans e, m, h⟩
    exact S1.dis i j p (key i h1) (key j h2)
/-- out of the block -/
theorem Sta.outof {ks : List Nat} (S0 : Sta K π c F H σ ρ) (g : Same F F') : ∀ {ls : List Nat} {ρ1 ρ2 : Rho}, (∀ l ∈ ls, l ∈ ks) → (∀ j s, ρ1[j]? = some s → SlotOk K π c F' H' σ j s) → (∀ i j p, OwnAt σ ρ1 i p → OwnAt σ ρ1 j p → i = j) → ρ1.length = ρ.length → resR ls ρ ρ1 = some ρ2 →
    (∀ j s, ρ2[j]? = some s → SlotOk K π c F' H' σ j s) ∧ (∀ i j p, OwnAt σ ρ2 i p → OwnAt σ ρ2 j p → i = j) ∧ ρ2.length = ρ.length ∧ ∀ j p, OwnAt σ ρ2 j p → OwnAt σ ρ1 j p
  | [], ρ1, ρ2, _, h1, h2, h3, e => by
    cases e
    exact ⟨h1, h2, h3, fun _ _ h => h⟩
  | l :: ls, ρ1, ρ2, hs, h1, h2, h3, e => by
    have step : ∀ s : Slot, SlotOk K π c F' H' σ l s → isO s = false → isI s = false → resR ls ρ (ρ1.set l s) = some ρ2 → (∀ j s, ρ2[j]? = some s → SlotOk K π c F' H' σ j s) ∧ (∀ i j p, OwnAt σ ρ2 i p → OwnAt σ ρ2 j p → i = j) ∧ ρ2.length = ρ.length ∧ ∀ j p, OwnAt σ ρ2 j p → OwnAt σ ρ1 j p := fun s ok no ni e => by
      have key : ∀ j p, OwnAt σ (ρ1.set l s) j p → OwnAt σ ρ1 j p := fun j p ⟨q, m, h⟩ => by
        by_cases hj : l = j
        · subst hj
          by_cases hlt : l < ρ1.length
          · rw [List.getElem?_set_self hlt] at h
            rcases h with h | h
            · cases h; cases no
            · cases h; cases ni
          · rw [List.getElem?_eq_none (by rw [List.length_set]; omega)] at h
            rcases h with h | h <;> cases h
        · rw [List.getElem?_set_ne hj] at h
          exact ⟨q, m, h⟩
      have q1 : ∀ j s', (ρ1.set l s)[j]? = some s' → SlotOk K π c F' H' σ j s' := fun j s' e' => by
        by_cases hj : l = j
        · subst hj
          by_cases hlt : l < ρ1.length
          · rw [List.getElem?_set_self hlt] at e'
            cases e'
            exact ok
          · rw [List.getElem?_eq_none (by rw [List.length_set]; omega)] at e'
            cases e'
        · rw [List.getElem?_set_ne hj] at e'
          exact h1 j s' e'
      obtain ⟨a1, a2, a3, a4⟩ := Sta.outof S0 g (ls := ls) (ρ1 := ρ1.set l s) (fun l hl => hs l (List.mem_cons_of_mem _ hl)) q1 (fun i j p a b => h2 i j p (key i p a) (key j p b)) (by rw [List.length_set]; exact h3) e
      exact ⟨a1, a2, a3, fun j p h => key j p (a4 j p h)⟩
    unfold resR at e
    cases eq : ρ[l]? with
    | none =>
      rw [eq] at e
      exact Sta.outof S0 g (fun l hl => hs l (List.mem_cons_of_mem _ hl)) h1 h2 h3 e
    | some s =>
      rw [eq] at e
      cases s with
      | no => exact step .no trivial rfl rfl e
      | val d =>
        obtain ⟨v, e1, r⟩ := S0.rep l _ eq
        exact step (.val d) ⟨v, e1, r.mono g⟩ rfl rfl e
      | own m => cases e
      | io m => cases e
/-- a list that is no slot's changes -/
theorem Sta.other (S : Sta K π c F H σ ρ) {p : Addr} {o : HO} (n : F p = none) (n0 : c.H0 p = none) (nio : p ∉ c.io ∧ p ∉ c.ow) (nw : ∀ j, ¬ OwnAt σ ρ j p) {om : HO} (hom : H p = some om) (mm : Mut om) : Sta K π c F (upd H p o) σ ρ := by
  refine ⟨fun q u e h1 h2 nt => ?_, fun q hq => ?_, S.f0, sm_updR S.f n, S.nf, S.len, fun j s hs => ?_, S.dis, ⟨tabs_upd S.t.tb hom mm, fun q ps e => by
    obtain ⟨ps', e'⟩ := S.t.tk q ps e
    exact ⟨ps', by rw [upd_ne (fun z => by subst z; rw [hom] at e'; cases e'; exact mm.nt _ rfl)]; exact e'⟩, S.t.nt⟩⟩
  · rw [upd_ne (fun z => by subst z; rw [n0] at e; cases e)]
    exact S.h0 q u e h1 h2 nt
  · rw [upd_ne (fun z => by subst z; exact hq.elim nio.1 nio.2)]
    exact S.hio q hq
  · have z := S.rep j s hs
    cases s with
    | no => trivial
    | val d => exact z
    | own m =>
      obtain ⟨q, e1, e2, e3, r⟩ := z
      have nq : q ≠ p := fun w => by subst w; exact nw j ⟨e1, m, .inl hs⟩
      exact ⟨q, e1, e2, e3, r.mono (Same.refl _) fun u hu => by rw [upd_ne nq]; exact hu⟩
    | io m =>
      obtain ⟨e1, e2, e3, r⟩ := z
      have nq : π j ≠ p := fun w => by rw [w] at e1; exact nw j ⟨e1, m, .inr hs⟩
      exact ⟨e1, e2, e3, r.mono (Same.refl _) fun u hu => by rw [upd_ne nq]; exact hu⟩
theorem Sta.notOwn (S : Sta K π c F H σ ρ) {p : Addr} {o : HO} (hH : c.H0 p = some o) (hn : p ∉ c.io ∧ p ∉ c.ow) : ∀ j, ¬ OwnAt σ ρ j p := fun j h => by
  obtain ⟨_, z, _⟩ := S.ownAt h
  rcases z with z | z | z
  · rw [hH] at z; cases z
  · exact hn.2 z
  · exact hn.1 z
end

section
variable [FE]
variable {X : Cx} {π : Nat → Addr} {W : WX}
theorem rd_lc {it : IF} {g : GF} {t : TF} {f : EF} {ns vs : List Nat} {σ : L2.St} {H : Hp} {Q : VK} (hns : ∀ j ∈ ns, j ∈ vs) (h : tM X.K π W (cmpM vs it g t f) σ H Q) : tLc (tI X.K π W it) (tGt X.K π ns g) (tT X.K π W0 t) (tE X.K π W0 f) vs σ H Q := by
  obtain ⟨c, F, ρ, S, P⟩ := h
  refine po_bind S P fun J F1 H1 ρ1 ds s1 S1 wk P1 => ?_
  intro Dd hD
  obtain ⟨fD, hD0, nD⟩ := S1.fresh hD
  have hDio : Dd ∉ c.io ∧ Dd ∉ c.ow := by
    refine ⟨fun z => ?_, fun z => ?_⟩
    · obtain ⟨o, e⟩ := S1.hio Dd (.inl z)
      rw [hD] at e
      cases e
    · obtain ⟨o, e⟩ := S1.hio Dd (.inr z)
      rw [hD] at e
      cases e
  refine ⟨fun i m H' => i + m = ds.length ∧ ∃ F2 ρ2 accV accD, Same F1 F2 ∧ Sta X.K π c F2 H' (wipe σ vs) ρ2 ∧ H' Dd = some (.lst accV) ∧ Reps X.K F2 accV accD ∧ F2 Dd = none ∧ (∀ j, ¬ OwnAt (wipe σ vs) ρ2 j Dd) ∧
      Po X.K π W (relM X.K) c F2 σ Q ((cmpL vs g t f accD (ds.drop i) ρ2).bind fun m ρ => bindO (resR vs ρ1 ρ) fun ρ => .ok m ρ), ⟨ds.length, by omega, F1, wipeR vs ρ1, [], [], Same.refl _, ?_, upd_same, .nil, fD, ?_, P1⟩, ?_⟩
  · exact (S1.into vs).grow (Grw.newO S1.f hD)
  · intro j hj
    obtain ⟨_, _, o, e⟩ := (S1.into vs).ownAt hj
    rw [hD] at e
    cases e
  · rintro i m H2 ⟨him, F2, ρ2, accV, accD, s2, S2, hacc, racc, f2D, nw2, P2⟩
    cases m with
    | zero =>
      have hi : i = ds.length := by omega
      subst hi
      rw [List.drop_length] at P2
      refine .inl ⟨wk.stop H2 (s2.trans S2.f), ?_⟩
      have P2 : Po X.K π W (relM X.K) c F2 σ Q (bindO (resR vs ρ1 ρ2) fun ρ => .ok (.lst accD) ρ) := P2
      cases er : resR vs ρ1 ρ2 with
      | none => rw [er] at P2; exact P2.elim
      | some ρ3 =>
        rw [er] at P2
        have l12 : ρ2.length = ρ1.length := by
          have h1 := S2.len
          have h2 := S1.len
          rw [wipe_length] at h1
          omega
        have q1 : ∀ j s, ρ2[j]? = some s → SlotOk X.K π c F2 H2 σ j s := fun j s hj => by
          have z := S2.rep j s hj
          cases s with
          | no => trivial
          | val d => obtain ⟨v, e, r⟩ := z; exact ⟨v, (wipe_some e).1, r⟩
          | own m => obtain ⟨p, e, r⟩ := z; exact ⟨p, (wipe_some e).1, r⟩
          | io m => obtain ⟨e, r⟩ := z; exact ⟨(wipe_some e).1, r⟩
        have key : ∀ j p, OwnAt σ ρ2 j p → OwnAt (wipe σ vs) ρ2 j p := fun j p ⟨e, m, h⟩ => by
          refine ⟨?_, m, h⟩
          rcases h with h | h
          · obtain ⟨q, e1, _⟩ := S2.rep j _ h
            have := (wipe_some e1).1
            rw [e] at this
            cases this
            exact e1
          · obtain ⟨e1, _⟩ := S2.rep j _ h
            have := (wipe_some e1).1
            rw [e] at this
            cases this
            exact e1
        obtain ⟨a1, a2, a3, a4⟩ := S1.outof (ks := vs) (F' := F2) (H' := H2) s2 (ls := vs) (ρ1 := ρ2) (ρ2 := ρ3) (fun l hl => hl) q1 (fun i j p h1 h2 => S2.dis i j p (key i p h1) (key j p h2)) l12 er
        have S3 : Sta X.K π c F2 H2 σ ρ3 := ⟨S2.h0, S2.hio, S2.f0, S2.f, S2.nf, by rw [a3]; exact S1.len, a1, a2, S2.t⟩
        exact P2 (.ref Dd) F2 H2 (Same.refl _) S3 ⟨Dd, rfl, f2D, hD0, fun j hj => nw2 j (key j Dd (a4 j Dd hj)), accV, hacc, racc⟩
    | succ m =>
      have hlt : i < ds.length := by omega
      obtain ⟨hgo, hy⟩ := wk.go F2 H2 s2 S2.f i ds[i] (by simp [hlt])
      rw [List.drop_eq_getElem_cons hlt] at P2
      refine .inr ⟨hgo, fun H' => ∃ F2 ρ2 accV accD, Same F1 F2 ∧ Sta X.K π c F2 H' (wipe σ vs) ρ2 ∧ H' Dd = some (.lst accV) ∧ Reps X.K F2 accV accD ∧ F2 Dd = none ∧ (∀ j, ¬ OwnAt (wipe σ vs) ρ2 j Dd) ∧
        Po X.K π W (relM X.K) c F2 σ Q ((cmpL vs g t f accD (ds.drop (i + 1)) ρ2).bind fun m ρ => bindO (resR vs ρ1 ρ) fun ρ => .ok m ρ), fun H' h => ⟨m, Nat.lt_succ_self m, by omega, h⟩, fun x H3 yl => ?_⟩
      obtain ⟨F3, gr, rx⟩ := hy x H3 yl
      have T2 := S2.self
      have hT : (cfg F2 H2 (wipe σ vs) ρ2).H0 Dd = some (.lst accV) := hacc
      have hTn : Dd ∉ (cfg F2 H2 (wipe σ vs) ρ2).io ∧ Dd ∉ (cfg F2 H2 (wipe σ vs) ρ2).ow := by
        refine ⟨fun z => ?_, fun z => ?_⟩
        · obtain ⟨j, s, e, h, k⟩ := mem_adrs.mp z
          cases s with
          | io m => exact nw2 j ⟨e, m, .inr h⟩
          | no => cases k
          | val _ => cases k
          | own _ => cases k
        · obtain ⟨j, s, e, h, k⟩ := mem_adrs.mp z
          cases s with
          | own m => exact nw2 j ⟨e, m, .inl h⟩
          | no => cases k
          | val _ => cases k
          | io _ => cases k
      refine ⟨cfg F2 H2 (wipe σ vs) ρ2, F3, ρ2, ds[i], T2.grow gr, rx, ?_⟩
      have P2 : Po X.K π W (relM X.K) c F2 σ Q ((bindO (g ds[i] ρ2) fun ρ => (noX (t ρ)).bind fun b ρ => if b = true then (noX (f ρ)).bind fun x ρ => if small (accD.length + 1) = true then cmpL vs g t f (accD ++ [x]) (ds.drop (i + 1)) (wipeR vs ρ) else .stuck
        else cmpL vs g t f accD (ds.drop (i + 1)) (wipeR vs ρ)).bind fun m ρ => bindO (resR vs ρ1 ρ) fun ρ => .ok m ρ) := P2
      cases eg : g ds[i] ρ2 with
      | none => rw [eg] at P2; exact P2
      | some ρ3 =>
        rw [eg] at P2
        intro σ4 F4 H4 s4 of4 T4
        have of5 : Off vs (wipe σ vs) σ4 := ⟨of4.1, fun j hj => of4.2 j fun z => hj (hns j z)⟩
        have w4 : wipe σ4 vs = wipe σ vs := (wipe_off of5).trans wipe_wipe
        refine ⟨w4, cfg F2 H2 (wipe σ vs) ρ2, F4, ρ3, T4, ?_⟩
        have s24 : Same F2 F4 := gr.f.trans s4
        have P4 := Po.mono s24 P2
        cases et : t ρ3 with
        | stuck => simp only [bindO, et, noX, R.stuck_bind] at P4; exact P4.elim
        | exc C fs ρ4 => simp only [bindO, et, noX, R.stuck_bind] at P4; exact P4.elim
        | ok b ρ4 =>
          simp only [bindO, et, noX, R.ok_bind] at P4
          intro b' F5 H5 s5 T5 rb
          cases rb
          -- the turn's end
          have fin : ∀ {F6 H6 ρ6 acV acD}, Same F5 F6 → Sta X.K π (cfg F2 H2 (wipe σ vs) ρ2) F6 H6 σ4 ρ6 → Reps X.K F6 acV acD → Sta X.K π c F6 (upd H6 Dd (.lst acV)) (wipe σ vs) (wipeR vs ρ6) ∧ F6 Dd = none ∧ (∀ j, ¬ OwnAt (wipe σ vs) (wipeR vs ρ6) j Dd) := fun {F6 H6 ρ6 acV acD} s6 T6 r6 => by
            have n6 : F6 Dd = none := T6.nf Dd _ hT f2D
            have B6 := (S2.back T6).into vs
            have B6T := T6.into vs
            rw [w4] at B6 B6T
            have nw6 : ∀ j, ¬ OwnAt (wipe σ vs) (wipeR vs ρ6) j Dd := B6T.notOwn hT hTn
            exact ⟨B6.other n6 hD0 hDio nw6 (T6.h0 Dd _ hT hTn.1 hTn.2 (by intro ps z; cases z)) (.inl ⟨_, rfl⟩), n6, nw6⟩
          cases b with
          | false =>
            rw [if_neg Bool.false_ne_true] at P4 ⊢
            have hd5 : H5 Dd = some (.lst accV) := T5.h0 Dd _ hT hTn.1 hTn.2 (by intro ps z; cases z)
            obtain ⟨k1, k2, k3⟩ := fin (Same.refl _) T5 (racc.mono (s24.trans s5))
            have ee : upd H5 Dd (.lst accV) = H5 := by
              funext q
              by_cases z : q = Dd
              · subst z
                rw [upd_same, hd5]
              · rw [upd_ne z]
            rw [ee] at k1
            exact ⟨F5, _, accV, accD, s2.trans (s24.trans s5), k1, hd5, racc.mono (s24.trans s5), k2, k3, P4.mono s5⟩
          | true =>
            rw [if_pos rfl] at P4 ⊢
            refine ⟨cfg F2 H2 (wipe σ vs) ρ2, F5, ρ4, T5, ?_⟩
            cases ef : f ρ4 with
            | stuck => simp only [ef, noX, R.stuck_bind] at P4; exact P4.elim
            | exc C fs ρ5 => simp only [ef, noX, R.stuck_bind] at P4; exact P4.elim
            | ok d ρ5 =>
              simp only [ef, noX, R.ok_bind] at P4
              intro y F6 H6 s6 T6 ry
              split at P4
              · rename_i hz
                have hd6 : H6 Dd = some (.lst accV) := T6.h0 Dd _ hT hTn.1 hTn.2 (by intro ps z; cases z)
                have s26 : Same F2 F6 := s24.trans (s5.trans s6)
                have rr := (racc.mono s26).snoc ry
                obtain ⟨k1, k2, k3⟩ := fin s6 T6 rr
                have hl := small_le hz
                exact ⟨accV, hd6, lt_line (by rw [Reps.length racc]; omega), F6, _, _, _, s2.trans s26, k1, upd_same, rr, k2, k3, P4.mono (s5.trans s6)⟩
              · exact P4.elim
theorem fm_lc {elt tg iter : Expr} {ifs : List Expr} {scope : Scope} {own : List (Str × Nat)} {pos : Pos} {it : IF} {g : GF} {t : TF} {f : EF} {ns : List Nat} (hc : X.calm = true) (hN : X.N.Nodup) (hi : PI X tg iter (tI X.K π W it)) (ok : BlkOk X.N X.env.scope scope own)
    (hg : ∀ (s : Shared) (H : Hp) (C : Addr) (cl : List (Str × Addr)) (fp : List Addr), PG (X.blk s H scope (compEnvC scope cl C X.env) fp) tg (tGt X.K π ns g))
    (ht : ∀ (s : Shared) (H : Hp) (C : Addr) (cl : List (Str × Addr)) (fp : List Addr), PTs (X.blk s H scope (compEnvC scope cl C X.env) fp) ifs (tT X.K π W0 t))
    (he : ∀ (s : Shared) (H : Hp) (C : Addr) (cl : List (Str × Addr)) (fp : List Addr), PE (X.blk s H scope (compEnvC scope cl C X.env) fp) elt (tE X.K π W0 f))
    (hns : ∀ j ∈ ns, j ∈ own.map (·.2)) (hs : ∀ x, foldedSetIterable iter X.env x = pure x := by intro _; rfl) : PE X (.ListComp elt [⟨tg, iter, ifs, 0⟩] scope pos) (tM X.K π W (cmpM (own.map (·.2)) it g t f)) := by
  exact PE.imp (pe_lc hc hN hi ok hg ht he (hs := hs)) fun _ _ _ h => rd_lc hns h
end
end FL
/-! FL7: defs and their calls. -/
namespace FL
open PySem PySem.Spec PyProof.Rows L2

/-! ### what a def promises -/
structure RoomG (k : Nat) (A : Around) : Prop where
  r : Room k A
  g : A.guards = some []
theorem RoomG.mono {j k : Nat} {A : Around} (r : RoomG k A) (h : j ≤ k) : RoomG j A := ⟨r.r.mono h, r.g⟩
theorem RoomG.deeper {k : Nat} {A : Around} (r : RoomG (k + 1) A) (env : Env) : RoomG k (A.deeper env) := ⟨r.r.deeper env, r.g⟩
structure FnG (P : Program) (w : World) (K : PySem.W.Frag) (mg : Str → Option Value) (base : Heap) (k : Nat) (f : Addr) (fd : FuncData) (ps : List Str) (sp : Sp) : Prop where
  len : ∀ vs H Q E, sp vs H Q E → vs.length = ps.length
  run : ∀ (A : Around) (outer : List Env) (s : Shared) (H : Hp) (args : Args) (us : List Value) (vs : List V) (Q : VK) (E : XK), RoomG k A → Env0 P w K mg base A outer s H → BindsTo s fd args (ps.zip us) → Vals vs us → sp vs H Q E →
    codeAny (model P w) A (.call (.ref f) args) (CR (L2N.CX P w) outer P w H s Q E) s
theorem FnG.mono {P : Program} {w : World} {K : PySem.W.Frag} {mg : Str → Option Value} {base : Heap} {j k : Nat} {f : Addr} {fd : FuncData} {ps : List Str} {sp : Sp} (F : FnG P w K mg base j f fd ps sp) (h : j ≤ k) : FnG P w K mg base k f fd ps sp :=
  ⟨F.len, fun A outer s H args us vs Q E hr => F.run A outer s H args us vs Q E (hr.mono h)⟩

inductive Arg where
  | val (d : D)
  | io (m : M)
inductive RG where
  | ok (r : Res) (outs : List M)
  | exc (C : Str) (fs : List (Str × D)) (outs : List M)
  | stuck
inductive ArgsR (K : PySem.W.Frag) (F H : Hp) : List V → List Arg → Prop
  | nil : ArgsR K F H [] []
  | val {v : V} {d : D} {vs : List V} {as : List Arg} : Rep K F v d → ArgsR K F H vs as → ArgsR K F H (v :: vs) (.val d :: as)
  | io {p : Addr} {m : M} {vs : List V} {as : List Arg} : F p = none → MRep K F H p m → ArgsR K F H vs as → ArgsR K F H (.ref p :: vs) (.io m :: as)
def ioA : List V → List Arg → List Addr
  | v :: vs, .io _ :: as => (match v with | .ref p => [p] | _ => []) ++ ioA vs as
  | _ :: vs, .val _ :: as => ioA vs as
  | _, _ => []
theorem ioA_io {p : Addr} {m : M} {vs : List V} {as : List Arg} : ioA (.ref p :: vs) (.io m :: as) = p :: ioA vs as := rfl
variable [FE] in
structure PostG (K : PySem.W.Frag) (F H : Hp) (A : List Addr) (outs : List M) (F' H' : Hp) : Prop where
  f : Same F F'
  fh : Same F' H'
  keep : ∀ q o, H q = some o → q ∉ A → NT o → H' q = some o
  nf : ∀ q o, H q = some o → F q = none → F' q = none
  outs : Paired (fun p m => MRep K F' H' p m) A outs
  t : StT ⟨H, F, A, []⟩ F' H'
def ResR (K : PySem.W.Frag) (H F' H' : Hp) (v : V) : Res → Prop
  | .v d => Rep K F' v d
  | .m m => ∃ p, v = .ref p ∧ H p = none ∧ F' p = none ∧ MRep K F' H' p m
variable [FE] in
def PoR (K : PySem.W.Frag) (F H : Hp) (A : List Addr) (Q : VK) (E : XK) : RG → Prop
  | .ok r outs => ∀ v F' H', PostG K F H A outs F' H' → ResR K H F' H' v r → Q v H'
  | .exc C fs outs => ∀ dd fsV F' H', PostG K F H A outs F' H' → XD F' dd fsV → fsV.map (·.1) = fs.map (·.1) → Reps K F' (fsV.map (·.2)) (fs.map (·.2)) → E (.ref (FE.cl C)) dd H'
  | .stuck => False
variable [FE] in
def spG (K : PySem.W.Frag) (n : Nat) (G : List Arg → RG) : Sp := fun vs H Q E => ∃ F as, (Same F H ∧ LamX.Tabs FE.tabs H ∧ NoT F) ∧ ArgsR K F H vs as ∧ vs.length = n ∧ (ioA vs as).Nodup ∧ PoR K F H (ioA vs as) Q E (G as)
theorem ArgsR.length {K : PySem.W.Frag} {F H : Hp} : ∀ {vs : List V} {as : List Arg}, ArgsR K F H vs as → vs.length = as.length
  | _, _, .nil => rfl
  | _, _, .val _ r => congrArg (· + 1) (ArgsR.length r)
  | _, _, .io _ _ r => congrArg (· + 1) (ArgsR.length r)

/-- where a def's body runs -/
abbrev cxF (P : Program) (w : World) (K : PySem.W.Frag) (mg : Str → Option Value) (base : Heap) (N : List Str) (qual : Str) (scope : Scope) (f : Addr) (cd : Value) (A : Around) (outer : List Env) (s : Shared) (H : Hp) (E : XK) : Cx := cxOf (L2N.CX P w) P w K mg base N qual scope f cd A outer s H E
theorem RoomG.u64 {k : Nat} {A : Around} (r : RoomG k A) : A.units + 64 < cLine := by have := r.r.un; omega
/-! ### a def's body -/
def toS : Arg → Slot
  | .val d => .val d
  | .io m => .io m
def collect : List Arg → Nat → Rho → Option (List M)
  | [], _, _ => some []
  | .val _ :: as, i, ρ => collect as (i + 1) ρ
  | .io _ :: as, i, ρ => match ρ[i]? with
    | some (.io m) => (collect as (i + 1) ρ).map (m :: ·)
    | _ => none
def endG (as : List Arg) (k : List M → RG) (ρ : Rho) : RG := match collect as 0 ρ with
  | some outs => k outs
  | none => .stuck
def rho0 (l : Nat) (as : List Arg) : Rho := as.map toS ++ List.replicate (l - as.length) .no
/-- the def by its body: l names -/
def bodyG (l : Nat) (g : SF) (as : List Arg) : RG := match g (rho0 l as) with
  | .ok .nx ρ => endG as (.ok (.v .non)) ρ
  | .ok (.rt r) ρ => endG as (.ok r) ρ
  | .exc C fs ρ => endG as (.exc C fs) ρ
  | _ => .stuck
def adrV : Option V → Addr
  | some (.ref p) => p
  | _ => 0
section
variable {K : PySem.W.Frag} {F H : Hp} {vs : List V} {as : List Arg}
theorem ArgsR.at : ∀ {vs : List V} {as : List Arg} {i : Nat} {a : Arg}, ArgsR K F H vs as → as[i]? = some a → ∃ v, vs[i]? = some v ∧ match a with
    | .val d => Rep K F v d
    | .io m => ∃ p, v = .ref p ∧ F p = none ∧ MRep K F H p m ∧ p ∈ ioA vs as
  | _, _, _, _, .nil, e => by simp at e
  | _, _, 0, _, .val h r, e => by
    simp at e
    subst e
    exact ⟨_, rfl, h⟩
  | _, _, 0, _, .io n h r, e => by
    simp at e
    subst e
    exact ⟨_, rfl, _, rfl, n, h, by simp [ioA]⟩
  | _, _, i + 1, a, .val h r, e => by
    obtain ⟨v, h1, h2⟩ := ArgsR.at (i := i) (a := a) r (by simpa using e)
    exact ⟨v, by simpa using h1, h2⟩
  | _, _, i + 1, a, .io n h r, e => by
    obtain ⟨v, h1, h2⟩ := ArgsR.at (i := i) (a := a) r (by simpa using e)
    refine ⟨v, by simpa using h1, ?_⟩
    cases a with
    | val d => exact h2
    | io m =>
      obtain ⟨p, e1, e2, e3, e4⟩ := h2
      exact ⟨p, e1, e2, e3, by simp [ioA, e4]⟩
theorem ArgsR.here : ∀ {vs : List V} {as : List Arg}, ArgsR K F H vs as → ∀ q ∈ ioA vs as, ∃ o, H q = some o
  | _, _, .nil, q, h => by simp [ioA] at h
  | _, _, .val _ r, q, h => ArgsR.here r q (by simpa [ioA] using h)
  | _, _, .io n m r, q, h => by
    rw [ioA_io] at h
    rcases List.mem_cons.mp h with h | h
    · rw [h]; exact m.here
    · exact ArgsR.here r q h
/-- two places of one thing -/
theorem ArgsR.uniq : ∀ {vs : List V} {as : List Arg} {i j : Nat} {p : Addr} {m m' : M}, ArgsR K F H vs as → (ioA vs as).Nodup → as[i]? = some (.io m) → as[j]? = some (.io m') → vs[i]? = some (.ref p) → vs[j]? = some (.ref p) → i = j
  | _, _, _, _, _, _, _, .nil, _, e, _, _, _ => by simp at e
  | _, _, 0, 0, _, _, _, _, _, _, _, _, _ => rfl
  | _, _, i + 1, j + 1, p, m, m', .val _ r, nd, e1, e2, e3, e4 => by
    rw [ArgsR.uniq (i := i) (j := j) (p := p) (m := m) (m' := m') r (by simpa [ioA] using nd) (by simpa using e1) (by simpa using e2) (by simpa using e3) (by simpa using e4)]
  | _, _, i + 1, j + 1, p, m, m', .io _ _ r, nd, e1, e2, e3, e4 => by
    rw [ioA_io] at nd
    have nd := List.nodup_cons.mp nd
    rw [ArgsR.uniq (i := i) (j := j) (p := p) (m := m) (m' := m') r nd.2 (by simpa using e1) (by simpa using e2) (by simpa using e3) (by simpa using e4)]
  | _, _, 0, j + 1, p, m, m', .val _ r, nd, e1, e2, e3, e4 => by simp at e1
  | _, _, i + 1, 0, p, m, m', .val _ r, nd, e1, e2, e3, e4 => by simp at e2
  | _, _, 0, j + 1, p, m, m', .io _ _ r, nd, e1, e2, e3, e4 => by
    rw [ioA_io] at nd
    have nd := List.nodup_cons.mp nd
    obtain ⟨v, h1, q, h2, _, _, h3⟩ := r.at (i := j) (a := .io m') (by simpa using e2)
    rw [List.getElem?_cons_succ, h1] at e4
    cases e4
    cases h2
    simp at e3
    subst e3
    exact absurd h3 nd.1
  | _, _, i + 1, 0, p, m, m', .io _ _ r, nd, e1, e2, e3, e4 => by
    rw [ioA_io] at nd
    have nd := List.nodup_cons.mp nd
    obtain ⟨v, h1, q, h2, _, _, h3⟩ := r.at (i := i) (a := .io m) (by simpa using e1)
    rw [List.getElem?_cons_succ, h1] at e3
    cases e3
    cases h2
    simp at e4
    subst e4
    exact absurd h3 nd.1
theorem start_get {N : List Str} {vs : List V} {i : Nat} {v : V} (h : vs[i]? = some v) : (L2.start N vs)[i]? = some (some v) := by
  unfold L2.start
  have hl : i < vs.length := (List.getElem?_eq_some_iff.mp h).1
  rw [List.getElem?_append_left (by simpa using hl), List.getElem?_map, h]
  rfl
theorem rho0_get {l i : Nat} {as : List Arg} {s : Slot} (h : (rho0 l as)[i]? = some s) : s = .no ∨ ∃ a, as[i]? = some a ∧ s = toS a := by
  unfold rho0 at h
  by_cases hl : i < as.length
  · rw [List.getElem?_append_left (by simpa using hl), List.getElem?_map] at h
    cases e : as[i]? with
    | none => rw [e] at h; cases h
    | some a =>
      rw [e] at h
      cases h
      exact .inr ⟨a, rfl, rfl⟩
  · rw [List.getElem?_append_right (by simpa using hl), List.getElem?_replicate] at h
    split at h
    · cases h
      exact .inl rfl
    · cases h
variable [FE] in
theorem Sta.start {N : List Str} (s : Same F H ∧ LamX.Tabs FE.tabs H ∧ NoT F) (r : ArgsR K F H vs as) (nd : (ioA vs as).Nodup) (hl : vs.length ≤ N.length) :
    Sta K (fun i => adrV vs[i]?) ⟨H, F, ioA vs as, []⟩ F H (L2.start N vs) (rho0 N.length as) := by
  have hlen := r.length
  refine ⟨fun q o e _ _ _ => e, fun q hq => ?_, Same.refl _, s.1, fun q o _ n => n, ?_, fun i sl hs => ?_, fun i j p h1 h2 => ?_, ⟨s.2.1, fun q ps e => ⟨ps, e⟩, s.2.2⟩⟩
  · rcases hq with hq | hq
    · exact r.here q hq
    · cases hq
  · unfold L2.start rho0
    rw [List.length_append, List.length_append, List.length_map, List.length_map, List.length_replicate, List.length_replicate]
    omega
  · rcases rho0_get hs with rfl | ⟨a, ha, rfl⟩
    · trivial
    · obtain ⟨v, hv, z⟩ := r.at ha
      cases a with
      | val d => exact ⟨v, start_get hv, z⟩
      | io m =>
        obtain ⟨p, rfl, n, hm, hp⟩ := z
        have e : adrV vs[i]? = p := by rw [hv]; rfl
        refine ⟨?_, ?_, ?_, ?_⟩
        · show _ = some (some (V.ref (adrV vs[i]?)))
          rw [e]
          exact start_get hv
        · show F (adrV vs[i]?) = none
          rw [e]
          exact n
        · show adrV vs[i]? ∈ ioA vs as
          rw [e]
          exact hp
        · show MRep K F H (adrV vs[i]?) m
          rw [e]
          exact hm
  · have key : ∀ j, OwnAt (L2.start N vs) (rho0 N.length as) j p → ∃ m, as[j]? = some (.io m) ∧ vs[j]? = some (.ref p) := fun j ⟨e, m, h⟩ => by
      have z : ∃ m, as[j]? = some (.io m) := by
        rcases h with h | h
        · rcases rho0_get h with h | ⟨a, _, h⟩
          · cases h
          · cases a <;> cases h
        · rcases rho0_get h with h | ⟨a, ha, h⟩
          · cases h
          · cases a with
            | val d => cases h
            | io m' => exact ⟨m', ha⟩
      obtain ⟨m', ha⟩ := z
      obtain ⟨v, hv, _⟩ := r.at ha
      have := start_get (N := N) hv
      rw [e] at this
      cases this
      exact ⟨m', ha, hv⟩
    obtain ⟨m1, a1, b1⟩ := key i h1
    obtain ⟨m2, a2, b2⟩ := key j h2
    exact r.uniq nd a1 a2 b1 b2
variable [FE] in
/-- what the handed things hold at the end -/
theorem collect_ok {F' H' : Hp} {σ : L2.St} {c : Cfg} {π : Nat → Addr} {ρ : Rho} (S : Sta K π c F' H' σ ρ) : ∀ {vs : List V} {as : List Arg} {i : Nat} {outs : List M}, ArgsR K F H vs as → (∀ j v, vs[j]? = some v → π (i + j) = adrV (some v)) → collect as i ρ = some outs → Paired (fun p m => MRep K F' H' p m) (ioA vs as) outs
  | _, _, _, _, .nil, _, e => by
    cases e
    exact .nil
  | _, _, i, outs, .val _ r, h, e => by
    have := collect_ok S (i := i + 1) r (fun j v hv => by rw [← h (j + 1) v (by simpa using hv)]; congr 1; omega) (by simpa [collect] using e)
    simpa [ioA] using this
  | _, _, i, outs, .io (p := p) n m r, h, e => by
    unfold collect at e
    split at e
    · rename_i m1 e1
      cases e2 : collect _ (i + 1) ρ with
      | none => rw [e2] at e; cases e
      | some l =>
        rw [e2] at e
        cases e
        have := collect_ok S (i := i + 1) r (fun j v hv => by rw [← h (j + 1) v (by simpa using hv)]; congr 1; omega) e2
        obtain ⟨_, _, _, q⟩ := S.rep i _ e1
        have hp : π i = p := by
          have z := h 0 (.ref p) (by simp)
          simpa [adrV] using z
        rw [hp] at q
        have z : Paired (fun p m => MRep K F' H' p m) (p :: ioA _ _) (m1 :: l) := .cons q this
        simpa [ioA] using z
    · cases e
end
section
variable {P : Program} {w : World} {K : PySem.W.Frag} {mg : Str → Option Value} {base : Heap}
variable [FE] in
/-- from a body: what follows it in the def's caller -/
theorem body_end {N : List Str} {F H : Hp} {vs : List V} {as : List Arg} {Q : VK} {E : XK} {g : SF} (s : Same F H ∧ LamX.Tabs FE.tabs H ∧ NoT F) (r : ArgsR K F H vs as) (nd : (ioA vs as).Nodup) (hl : vs.length ≤ N.length) (h : PoR K F H (ioA vs as) Q E (bodyG N.length g as)) :
    tS K (fun i => adrV vs[i]?) (fun cls d _ H => E cls d H) g { nx := fun _ H' => Q .non H', rt := Q } (L2.start N vs) H := by
  refine ⟨⟨H, F, ioA vs as, []⟩, F, rho0 N.length as, rfl, Sta.start s r nd hl, ?_⟩
  unfold bodyG at h
  have post : ∀ {σ' : L2.St} {F' H' : Hp} {ρ' : Rho} {outs : List M}, Sta K (fun i => adrV vs[i]?) ⟨H, F, ioA vs as, []⟩ F' H' σ' ρ' → collect as 0 ρ' = some outs → PostG K F H (ioA vs as) outs F' H' := fun {σ' F' H' ρ' outs} S e =>
    ⟨S.f0, S.f, fun q o eq n nt => S.h0 q o eq n (fun z => by cases z) nt, fun q o eq n => S.nf q o eq n, collect_ok S r (fun j v hv => by simp [hv]) e, ⟨S.t.tb, S.t.tk, S.t.nt⟩⟩
  cases eg : g (rho0 N.length as) with
  | stuck => rw [eg] at h; exact h
  | exc C fs ρ' =>
    rw [eg] at h
    have h : PoR K F H (ioA vs as) Q E (endG as (.exc C fs) ρ') := h
    unfold endG at h
    cases ec : collect as 0 ρ' with
    | none => rw [ec] at h; exact h.elim
    | some outs =>
      rw [ec] at h
      exact fun dd fsV σ' F' H' s' S' => h dd fsV F' H' (post S' ec)
  | ok fl ρ' =>
    rw [eg] at h
    cases fl with
    | bk => exact h.elim
    | ct => exact h.elim
    | nx =>
      have h : PoR K F H (ioA vs as) Q E (endG as (.ok (.v .non)) ρ') := h
      unfold endG at h
      cases ec : collect as 0 ρ' with
      | none => rw [ec] at h; exact h.elim
      | some outs =>
        rw [ec] at h
        exact fun σ' F' H' s' S' => h .non F' H' (post S' ec) .non
    | rt rr =>
      have h : PoR K F H (ioA vs as) Q E (endG as (.ok rr) ρ') := h
      unfold endG at h
      cases ec : collect as 0 ρ' with
      | none => rw [ec] at h; exact h.elim
      | some outs =>
        rw [ec] at h
        refine fun v σ' F' H' s' S' rv => h v F' H' (post S' ec) ?_
        cases rr with
        | v d => exact rv
        | m m =>
          obtain ⟨p, e, n, n0, _, hm⟩ := rv
          exact ⟨p, e, n0, n, hm⟩
variable [FE] in
/-- THE RULE for a def -/
theorem fnG {x qual : Str} {st : Stmt} {f : Addr} {fd : FuncData} {N ps : List Str} {k : Nat} {g : SF} (Fd : Fun K x qual st f fd) (Sc : FnScope N ps (defScope st))
    (hbody : ∀ (cdv : Value) (A : Around) (outer : List Env) (s : Shared) (H : Hp) (E : XK) (π : Nat → Addr) (W : WX), RoomG k (cxF P w K mg base N qual (defScope st) f cdv A outer s H E).A → L2N.Takes (cxF P w K mg base N qual (defScope st) f cdv A outer s H E) W →
      PassesOwn (model P w) (cxF P w K mg base N qual (defScope st) f cdv A outer s H E).A (cxF P w K mg base N qual (defScope st) f cdv A outer s H E).env (cxF P w K mg base N qual (defScope st) f cdv A outer s H E).xe →
      PSs (cxF P w K mg base N qual (defScope st) f cdv A outer s H E) (defBody st) (tS K π W g)) : FnG P w K mg base (k + 1) f fd ps (spG K ps.length (bodyG N.length g)) := by
  obtain ⟨oc, od, kV, doc, pm, an, cdv, ct, osl, rfl, lk, hcd⟩ := Fd.ex
  refine ⟨fun vs H Q E ⟨_, _, _, _, h, _⟩ => h, fun A outer s H args us vs Q E hr e0 hb r hsp => ?_⟩
  obtain ⟨F, as, sm, ra, hl, nd, hP⟩ := hsp
  have KX : K.In s.heap := e0.mod.kin.keeps fun b o e => (e0.bs b o e).1
  have lim : s.heap.NoLimit := e0.mod.nolimit.keeps fun b o e => (e0.bs b o e).1
  have hps : ps.length ≤ N.length := by
    have := congrArg List.length Sc.pre
    rw [List.length_take] at this
    omega
  refine codeAny_call_function hr.r.depth (KX _ _ lk) rfl Sc.co Sc.gen rfl (PySem.W.codeRec_of KX hcd) (hb _ _ _ _ ?_)
  refine wpAny_newFunctionEnv_cells Sc.kind (fun ⟨n, v⟩ hy => ?_) fun env he s1 x => ?_
  · rcases Sc.par n (List.of_mem_zip hy).1 with q | q
    · exact .inl q
    · exact .inr ⟨q, PySem.W.cellsFrom_some _ _ _ (.inl q)⟩
  · subst he
    refine ⟨lim.keeps x.toInCall.keep, codeAny_func ?_⟩
    have hx := hbody cdv A outer s H E (fun i => adrV vs[i]?) (fun cls d _ H => E cls d H) (hr.deeper _) (L2N.takes_of rfl rfl rfl rfl) (passes_of rfl)
    have I : Inv (cxOf (L2N.CX P w) P w K mg base N qual (defScope st) f cdv A outer s H E) [] (L2.start N vs) H s1 := inv_start Sc hr.r.hd e0 hl r x
    have run := hx.run [] s1 (L2.start N vs) H { nx := fun _ H' => Q .non H', rt := Q } I (body_end sm ra nd (by omega) hP)
    refine wpAny_mono run (fun fl s' hs => ?_) fun e s' hs => hs
    cases fl with
    | ret u =>
      obtain ⟨v, σ', H', J, rv, q⟩ := hs
      exact ⟨v, H', J.os, J.bare, J.base, J.hok, rv, q⟩
    | next =>
      obtain ⟨σ', H', J, q⟩ := hs
      exact ⟨V.non, H', J.os, J.bare, J.base, J.hok, rfl, q⟩
    | brk =>
      obtain ⟨_, _, _, q⟩ := hs
      exact q.elim
    | cont =>
      obtain ⟨_, _, _, q⟩ := hs
      exact q.elim
end
end FL
/-! FL8: calls of defs. -/
namespace FL
open PySem PySem.Spec PyProof.Rows L2

/-! ### arguments -/
inductive AA where
  | val (d : D)
  | sl (i : Nat)
inductive AAs (K : PySem.W.Frag) (F : Hp) (σ : L2.St) : List V → List AA → Prop
  | nil : AAs K F σ [] []
  | val {v : V} {d : D} {vs : List V} {as : List AA} : Rep K F v d → AAs K F σ vs as → AAs K F σ (v :: vs) (.val d :: as)
  | sl {v : V} {i : Nat} {vs : List V} {as : List AA} : σ[i]? = some (some v) → AAs K F σ vs as → AAs K F σ (v :: vs) (.sl i :: as)
def relB (K : PySem.W.Frag) : Rel (List V) (List AA) := fun _ F _ σ _ vs as => AAs K F σ vs as
abbrev BF := Rho → R (List AA)
section
variable {K : PySem.W.Frag} {F F' H H' : Hp} {σ : L2.St} {vs : List V} {as : List AA}
theorem AAs.mono (e : Same F F') : ∀ {vs : List V} {as : List AA}, AAs K F σ vs as → AAs K F' σ vs as
  | _, _, .nil => .nil
  | _, _, .val h r => .val (h.mono e) (AAs.mono e r)
  | _, _, .sl h r => .sl h (AAs.mono e r)
theorem AAs.length : ∀ {vs : List V} {as : List AA}, AAs K F σ vs as → vs.length = as.length
  | _, _, .nil => rfl
  | _, _, .val _ r => congrArg (· + 1) (AAs.length r)
  | _, _, .sl _ r => congrArg (· + 1) (AAs.length r)
theorem AAs.append : ∀ {vs ws : List V} {as bs : List AA}, AAs K F σ vs as → AAs K F σ ws bs → AAs K F σ (vs ++ ws) (as ++ bs)
  | _, _, _, _, .nil, r => r
  | _, _, _, _, .val h q, r => .val h (AAs.append q r)
  | _, _, _, _, .sl h q, r => .sl h (AAs.append q r)
theorem AAs.get : ∀ {vs : List V} {as : List AA} (i : Nat), AAs K F σ vs as → (∃ v a, vs[i]? = some v ∧ as[i]? = some a ∧ AAs K F σ [v] [a]) ∨ (vs[i]? = none ∧ as[i]? = none)
  | _, _, _, .nil => .inr ⟨by simp, by simp⟩
  | _, _, 0, .val h _ => .inl ⟨_, _, rfl, rfl, .val h .nil⟩
  | _, _, 0, .sl h _ => .inl ⟨_, _, rfl, rfl, .sl h .nil⟩
  | _, _, i + 1, .val _ r => by simpa using AAs.get i r
  | _, _, i + 1, .sl _ r => by simpa using AAs.get i r
def pick {α : Type} (ord : List Nat) (l : List α) : List α := ord.filterMap fun i => l[i]?
theorem AAs.pick (r : AAs K F σ vs as) : ∀ ord : List Nat, AAs K F σ (FL.pick ord vs) (FL.pick ord as)
  | [] => .nil
  | i :: ord => by
    have z := AAs.pick r ord
    unfold FL.pick at z ⊢
    rcases r.get i with ⟨v, a, e1, e2, h⟩ | ⟨e1, e2⟩
    · rw [List.filterMap_cons, List.filterMap_cons, e1, e2]
      exact h.append z
    · rw [List.filterMap_cons, List.filterMap_cons, e1, e2]
      exact z
end
def ioM (ρ : Rho) (i : Nat) : Option M := match ρ[i]? with
  | some (.own m) => some m
  | some (.io m) => some m
  | _ => none
def toArgs (ρ : Rho) : List AA → Option (List Arg)
  | [] => some []
  | .val d :: as => (toArgs ρ as).map (.val d :: ·)
  | .sl i :: as => (ioM ρ i).bind fun m => (toArgs ρ as).map (.io m :: ·)
def slsA : List AA → List Nat
  | [] => []
  | .val _ :: as => slsA as
  | .sl i :: as => i :: slsA as
def newM : List AA → List M → Nat → Option M
  | .sl j :: as, m :: ms, i => if i = j then some m else newM as ms i
  | .val _ :: as, ms, i => newM as ms i
  | _, _, _ => none
def putM (m : M) : Slot → Slot
  | .own _ => .own m
  | .io _ => .io m
  | s => s
def putA (as : List AA) (outs : List M) (ρ : Rho) : Rho := ρ.mapIdx fun i s => match newM as outs i with
  | some m => putM m s
  | none => s
def nodN : List Nat → Bool
  | [] => true
  | a :: l => !(l.contains a) && nodN l
theorem nodN_of : ∀ {l : List Nat}, nodN l = true → l.Nodup
  | [], _ => List.nodup_nil
  | a :: l, h => by
    unfold nodN at h
    rw [Bool.and_eq_true] at h
    refine List.nodup_cons.mpr ⟨fun z => ?_, nodN_of h.2⟩
    have := h.1
    rw [List.contains_iff_mem.mpr z] at this
    cases this
section
variable [FE]
variable {K : PySem.W.Frag} {π : Nat → Addr} {c : Cfg} {F F' H H' : Hp} {σ : L2.St} {ρ : Rho} {vs : List V} {as : List AA} {gs : List Arg} {outs : List M}
theorem Sta.ioM (S : Sta K π c F H σ ρ) {i : Nat} {m : M} (h : FL.ioM ρ i = some m) : ∃ p, σ[i]? = some (some (.ref p)) ∧ F p = none ∧ MRep K F H p m ∧ OwnAt σ ρ i p := by
  unfold FL.ioM at h
  split at h
  · rename_i m' e
    cases h
    obtain ⟨p, e1, e2, _, e4⟩ := S.rep i _ e
    exact ⟨p, e1, e2, e4, e1, m, .inl e⟩
  · rename_i m' e
    cases h
    obtain ⟨e1, e2, _, e4⟩ := S.rep i _ e
    exact ⟨π i, e1, e2, e4, e1, m, .inr e⟩
  · cases h
theorem AAs.args (S : Sta K π c F H σ ρ) : ∀ {vs : List V} {as : List AA} {gs : List Arg}, AAs K F σ vs as → toArgs ρ as = some gs → ArgsR K F H vs gs
  | _, _, _, .nil, e => by
    cases e
    exact .nil
  | _, _, gs, .val (as := as) h r, e => by
    unfold toArgs at e
    cases e1 : toArgs ρ as with
    | none => rw [e1] at e; cases e
    | some l =>
      rw [e1] at e
      cases e
      exact .val h (AAs.args S r e1)
  | _, _, gs, .sl (i := i) (as := as) h r, e => by
    unfold toArgs at e
    cases e0 : FL.ioM ρ i with
    | none => rw [e0] at e; cases e
    | some m =>
      rw [e0] at e
      cases e1 : toArgs ρ as with
      | none => rw [e1] at e; cases e
      | some l =>
        rw [e1] at e
        cases e
        obtain ⟨p, a1, a2, a3, a4⟩ := S.ioM e0
        rw [h] at a1
        cases a1
        exact .io a2 a3 (AAs.args S r e1)
theorem AAs.own (S : Sta K π c F H σ ρ) {q : Addr} : ∀ {vs : List V} {as : List AA} {gs : List Arg}, AAs K F σ vs as → toArgs ρ as = some gs → q ∈ ioA vs gs → ∃ i ∈ slsA as, OwnAt σ ρ i q
  | _, _, _, .nil, e, h => by
    cases e
    simp [ioA] at h
  | _, _, gs, .val (as := as) h r, e, hq => by
    unfold toArgs at e
    cases e1 : toArgs ρ as with
    | none => rw [e1] at e; cases e
    | some l =>
      rw [e1] at e
      cases e
      obtain ⟨i, hi, o⟩ := AAs.own S r e1 (by simpa [ioA] using hq)
      exact ⟨i, by simpa [slsA] using hi, o⟩
  | _, _, gs, .sl (i := i) (as := as) h r, e, hq => by
    unfold toArgs at e
    cases e0 : FL.ioM ρ i with
    | none => rw [e0] at e; cases e
    | some m =>
      rw [e0] at e
      cases e1 : toArgs ρ as with
      | none => rw [e1] at e; cases e
      | some l =>
        rw [e1] at e
        cases e
        obtain ⟨p, a1, a2, a3, a4⟩ := S.ioM e0
        rw [h] at a1
        cases a1
        rw [ioA_io] at hq
        rcases List.mem_cons.mp hq with z | z
        · subst z
          exact ⟨i, by simp [slsA], a4⟩
        · obtain ⟨j, hj, o⟩ := AAs.own S r e1 z
          exact ⟨j, by simp [slsA, hj], o⟩
theorem AAs.nod (S : Sta K π c F H σ ρ) : ∀ {vs : List V} {as : List AA} {gs : List Arg}, AAs K F σ vs as → toArgs ρ as = some gs → (slsA as).Nodup → (ioA vs gs).Nodup
  | _, _, _, .nil, e, _ => by
    cases e
    exact List.nodup_nil
  | _, _, gs, .val (as := as) h r, e, nd => by
    unfold toArgs at e
    cases e1 : toArgs ρ as with
    | none => rw [e1] at e; cases e
    | some l =>
      rw [e1] at e
      cases e
      simpa [ioA] using AAs.nod S r e1 (by simpa [slsA] using nd)
  | _, _, gs, .sl (i := i) (as := as) h r, e, nd => by
    unfold toArgs at e
    cases e0 : FL.ioM ρ i with
    | none => rw [e0] at e; cases e
    | some m =>
      rw [e0] at e
      cases e1 : toArgs ρ as with
      | none => rw [e1] at e; cases e
      | some l =>
        rw [e1] at e
        cases e
        obtain ⟨p, a1, a2, a3, a4⟩ := S.ioM e0
        rw [h] at a1
        cases a1
        have nd := List.nodup_cons.mp (show (i :: slsA as).Nodup from nd)
        rw [ioA_io]
        refine List.nodup_cons.mpr ⟨fun z => ?_, AAs.nod S r e1 nd.2⟩
        obtain ⟨j, hj, o⟩ := AAs.own S r e1 z
        have := S.dis i j _ a4 o
        subst this
        exact nd.1 hj
theorem AAs.new (S : Sta K π c F H σ ρ) {rr : Addr → M → Prop} {i : Nat} {q : Addr} (ow : OwnAt σ ρ i q) : ∀ {vs : List V} {as : List AA} {gs : List Arg} {outs : List M}, AAs K F σ vs as → toArgs ρ as = some gs → Paired rr (ioA vs gs) outs →
    (∃ m, newM as outs i = some m ∧ rr q m) ∨ (newM as outs i = none ∧ q ∉ ioA vs gs)
  | _, _, _, _, .nil, e, pr => by
    cases e
    exact .inr ⟨rfl, by simp [ioA]⟩
  | _, _, gs, outs, .val (as := as) h r, e, pr => by
    unfold toArgs at e
    cases e1 : toArgs ρ as with
    | none => rw [e1] at e; cases e
    | some l =>
      rw [e1] at e
      cases e
      have z := AAs.new S ow r e1 (rr := rr) (outs := outs) (by simpa [ioA] using pr)
      simpa [newM, ioA] using z
  | _, _, gs, outs, .sl (i := j) (as := as) h r, e, pr => by
    unfold toArgs at e
    cases e0 : FL.ioM ρ j with
    | none => rw [e0] at e; cases e
    | some m =>
      rw [e0] at e
      cases e1 : toArgs ρ as with
      | none => rw [e1] at e; cases e
      | some l =>
        rw [e1] at e
        cases e
        obtain ⟨p, a1, a2, a3, a4⟩ := S.ioM e0
        rw [h] at a1
        cases a1
        rw [ioA_io] at pr ⊢
        cases pr with
        | @cons _ m1 _ ms h1 h2 =>
          by_cases z : i = j
          · subst z
            have : q = p := by
              have := ow.1
              rw [h] at this
              cases this
              rfl
            subst this
            exact .inl ⟨m1, by show (if i = i then _ else _) = _; rw [if_pos rfl], h1⟩
          · have e3 : newM (.sl j :: as) (m1 :: ms) i = newM as ms i := by show (if i = j then _ else _) = _; rw [if_neg z]
            rw [e3]
            rcases AAs.new S ow r e1 h2 with ⟨m2, y1, y2⟩ | ⟨y1, y2⟩
            · exact .inl ⟨m2, y1, y2⟩
            · refine .inr ⟨y1, fun w => ?_⟩
              rcases List.mem_cons.mp w with w | w
              · subst w
                exact z (S.dis i j _ ow a4)
              · exact y2 w
theorem paired_mem {α β : Type} {r : α → β → Prop} : ∀ {xs : List α} {ys : List β} {x : α}, Paired r xs ys → x ∈ xs → ∃ y, r x y
  | _, _, _, .nil, h => by cases h
  | _, _, _, .cons h t, m => by
    rcases List.mem_cons.mp m with e | m
    · subst e
      exact ⟨_, h⟩
    · exact paired_mem t m
/-- behind a call -/
theorem Sta.post (S : Sta K π c F H σ ρ) (r : AAs K F σ vs as) (e : toArgs ρ as = some gs) (P : PostG K F H (ioA vs gs) outs F' H') : Sta K π c F' H' σ (putA as outs ρ) := by
  have own : ∀ {q}, q ∈ ioA vs gs → ∃ i, OwnAt σ ρ i q := fun hq => by
    obtain ⟨i, _, o⟩ := r.own S e hq
    exact ⟨i, o⟩
  have lk : ∀ {i s}, (putA as outs ρ)[i]? = some s → ∃ s0, ρ[i]? = some s0 ∧ s = (match newM as outs i with | some m => putM m s0 | none => s0) := fun {i s} h => by
    unfold putA at h
    rw [List.getElem?_mapIdx] at h
    cases e : ρ[i]? with
    | none => rw [e] at h; cases h
    | some s0 =>
      rw [e] at h
      cases h
      exact ⟨s0, rfl, rfl⟩
  have any : ∀ {q o}, H q = some o → ∃ o', H' q = some o' := fun {q o} ho => by
    by_cases z : q ∈ ioA vs gs
    · obtain ⟨m, hm⟩ := paired_mem P.outs z
      exact hm.here
    · by_cases zt : ∃ ps, o = .tbl ps
      · obtain ⟨ps, rfl⟩ := zt
        obtain ⟨ps', e'⟩ := P.t.tk q ps ho
        exact ⟨_, e'⟩
      · exact ⟨o, P.keep q o ho z fun ps y => zt ⟨ps, y⟩⟩
  refine ⟨fun q o eq n1 n2 nt => ?_, fun q hq => ?_, S.f0.trans P.f, P.fh, fun q o e1 e2 => ?_, by unfold putA; rw [List.length_mapIdx]; exact S.len, fun i s hs => ?_, fun i j p h1 h2 => ?_, ⟨P.t.tb, fun q ps e => by
    obtain ⟨ps', e'⟩ := S.t.tk q ps e
    exact P.t.tk q ps' e', P.t.nt⟩⟩
  · refine P.keep q o (S.h0 q o eq n1 n2 nt) (fun z => ?_) nt
    obtain ⟨i, o'⟩ := own z
    rcases (S.ownAt o').2.1 with y | y | y
    · rw [eq] at y; cases y
    · exact n2 y
    · exact n1 y
  · obtain ⟨o, ho⟩ := S.hio q hq
    exact any ho
  · obtain ⟨o', e'⟩ := S.any e1
    exact P.nf q o' e' (S.nf q o e1 e2)
  · obtain ⟨s0, h0, rfl⟩ := lk hs
    have z := S.rep i s0 h0
    cases s0 with
    | no =>
      cases newM as outs i <;> trivial
    | val d =>
      obtain ⟨v, e1, r1⟩ := z
      cases newM as outs i with
      | none => exact ⟨v, e1, r1.mono P.f⟩
      | some m => exact ⟨v, e1, r1.mono P.f⟩
    | own m0 =>
      obtain ⟨p, e1, e2, e3, e4⟩ := z
      obtain ⟨o, ho, hmu⟩ := e4.mut
      rcases r.new S (i := i) (q := p) ⟨e1, m0, .inl h0⟩ e P.outs with ⟨m, y1, y2⟩ | ⟨y1, y2⟩
      · rw [y1]
        exact ⟨p, e1, P.nf p o ho e2, e3, y2⟩
      · rw [y1]
        exact ⟨p, e1, P.nf p o ho e2, e3, e4.mono P.f fun o' ho' => P.keep p o' ho' y2 (by rw [ho] at ho'; cases ho'; exact hmu.nt)⟩
    | io m0 =>
      obtain ⟨e1, e2, e3, e4⟩ := z
      obtain ⟨o, ho, hmu⟩ := e4.mut
      rcases r.new S (i := i) (q := π i) ⟨e1, m0, .inr h0⟩ e P.outs with ⟨m, y1, y2⟩ | ⟨y1, y2⟩
      · rw [y1]
        exact ⟨e1, P.nf _ o ho e2, e3, y2⟩
      · rw [y1]
        exact ⟨e1, P.nf _ o ho e2, e3, e4.mono P.f fun o' ho' => P.keep _ o' ho' y2 (by rw [ho] at ho'; cases ho'; exact hmu.nt)⟩
  · have key : ∀ j, OwnAt σ (putA as outs ρ) j p → OwnAt σ ρ j p := fun j h => by
      obtain ⟨e, m, h⟩ := h
      rcases h with h | h
      · obtain ⟨s0, h0, e0⟩ := lk h
        cases s0 with
        | own m0 => exact ⟨e, m0, .inl h0⟩
        | io m0 => exact ⟨e, m0, .inr h0⟩
        | no => cases hn : newM as outs j <;> rw [hn] at e0 <;> cases e0
        | val d => cases hn : newM as outs j <;> rw [hn] at e0 <;> cases e0
      · obtain ⟨s0, h0, e0⟩ := lk h
        cases s0 with
        | own m0 => exact ⟨e, m0, .inl h0⟩
        | io m0 => exact ⟨e, m0, .inr h0⟩
        | no => cases hn : newM as outs j <;> rw [hn] at e0 <;> cases e0
        | val d => cases hn : newM as outs j <;> rw [hn] at e0 <;> cases e0
    exact S.dis i j p (key i h1) (key j h2)
end

/-! ### the reading of a call -/
def okA (n : Nat) (as : List AA) : Bool := as.length == n && nodN (slsA as)
def callG {α : Type} (n : Nat) (G : List Arg → RG) (f : BF) (k : Res → Rho → R α) : Rho → R α := fun ρ => (f ρ).bind fun as ρ => if okA n as = true then match toArgs ρ as with
    | some gs => match G gs with
      | .ok r outs => k r (putA as outs ρ)
      | .exc C fs outs => .exc C fs (putA as outs ρ)
      | .stuck => .stuck
    | none => .stuck
  else .stuck
def asE : Res → Rho → R D
  | .v d, ρ => .ok d ρ
  | .m (.lst ds), ρ => .ok (.lst ds) ρ
  | .m (.dct ds), ρ => .ok (.dct ds) ρ
  | .m _, _ => .stuck
def asM : Res → Rho → R M
  | .m m, ρ => .ok m ρ
  | .v _, _ => .stuck
abbrev callE (n : Nat) (G : List Arg → RG) (f : BF) : EF := callG n G f asE
abbrev callM (n : Nat) (G : List Arg → RG) (f : BF) : Rho → R M := callG n G f asM
section
variable [FE]
variable {X : Cx} {π : Nat → Addr} {W : WX} {e : Expr} {es : List Expr} {pos p : Pos} {k : Nat} {f : Addr} {fd : FuncData} {ps ks : List Str} {G : List Arg → RG} {x : Str} {kws : List Keyword} {nm : Option Str} {kpos : Pos}
abbrev tB (K : PySem.W.Frag) (π : Nat → Addr) (W : WX) (f : BF) : TA := tG K π W (relB K) f
def nilB : BF := fun ρ => .ok [] ρ
def cnsB (f : EF) (g : BF) : BF := fun ρ => (f ρ).bind fun x ρ => (g ρ).bind fun xs ρ => .ok (.val x :: xs) ρ
def slB (i : Nat) (g : BF) : BF := fun ρ => match ioM ρ i with
  | some _ => (g ρ).bind fun xs ρ => .ok (.sl i :: xs) ρ
  | none => .stuck
theorem rd_nilB {K : PySem.W.Frag} {σ : L2.St} {H : Hp} {Q : List V → Hp → Prop} : tB K π W nilB σ H Q → tNil σ H Q := fun ⟨c, F, ρ, S, P⟩ => P [] F H (Same.refl _) S .nil
theorem rd_cnsB {K : PySem.W.Frag} {σ : L2.St} {H : Hp} {Q : List V → Hp → Prop} {f : EF} {g : BF} : tB K π W (cnsB f g) σ H Q → tCons (tE K π W f) (tB K π W g) σ H Q := fun ⟨c, F, ρ, S, P⟩ => by
  refine po_bind S P fun x F1 H1 ρ1 dx s1 S1 r1 P1 => ?_
  refine po_bind S1 P1 fun xs F2 H2 ρ2 ds s2 S2 r2 P2 => ?_
  exact P2 (x :: xs) F2 H2 (Same.refl _) S2 (.val (Rep.mono s2 r1) r2)
theorem fb_nil : PA X [] (tB X.K π W nilB) := PA.imp pa_nil fun σ H Q => rd_nilB
theorem fb_cons {f : EF} {g : BF} (ha : PE X e (tE X.K π W f)) (hr : PA X es (tB X.K π W g)) (hs : starEach (e :: es) X.env = (false, eval e X.env) :: starEach es X.env := by rfl) : PA X (e :: es) (tB X.K π W (cnsB f g)) :=
  PA.imp (pa_cons ha hr hs) fun σ H Q => rd_cnsB
theorem PK.imp {t t' : TA} (h : PK X kws t) (k : ∀ σ H Q, t' σ H Q → t σ H Q) : PK X kws t' := ⟨fun pos pins s σ H Q I q => h.run pos pins s σ H Q I (k σ H Q q)⟩
/-- the callee runs -/
theorem run_fnG {pins : List (Addr × Obj)} {σ : L2.St} {H : Hp} {s : Shared} {Q : VK} {us : List Value} {vs : List V} {sp : Sp} {args : Args} (F : FnG X.prog X.w X.K X.mg X.base k f fd ps sp) (hr : RoomG k X.A) (tk : L2N.Takes X W)
    (hb : BindsTo s fd args (ps.zip us)) (I : Inv X pins σ H s) (r : Vals vs us) (h : sp vs H Q fun cls d H' => W cls d σ H') : codeAny (model X.prog X.w) X.A (.call (.ref f) args) (fun r s' => match r with
      | .ok (.ret u) => EP X pins σ Q u s'
      | .ok _ => False
      | .error e => X.xe e s') s := by
  refine codeAny_mono (F.run X.A X.stack s H args us vs Q _ hr I.env0 hb r h) fun r s' hq => ?_
  cases r with
  | error e => exact L2N.passAt tk σ pins H s e s' I hq
  | ok fl =>
    cases fl with
    | ret u => exact I.after hq
    | next => exact False.elim hq
    | brk => exact False.elim hq
    | cont => exact False.elim hq
/-- from the reading of the arguments -/
theorem rd_call {α : Type} {rel : Rel V α} {σ : L2.St} {H : Hp} {Q : VK} {vs : List V} {as : List AA} {c : Cfg} {F : Hp} {ρ : Rho} {n : Nat} {kk : Res → Rho → R α}
    (hk : ∀ {r : Res} {ρ' : Rho} {v : V} {F' H' : Hp}, ResR X.K H F' H' v r → Sta X.K π c F' H' σ ρ' → c.H0 = c.H0 → (∀ q, H q = none → c.H0 q = none ∧ ∀ j, ¬ OwnAt σ ρ' j q) → Po X.K π W rel c F' σ Q (kk r ρ') → Q v H')
    (S : Sta X.K π c F H σ ρ) (ra : AAs X.K F σ vs as) (P : Po X.K π W rel c F σ Q (if okA n as = true then match toArgs ρ as with
      | some gs => match G gs with
        | .ok r outs => kk r (putA as outs ρ)
        | .exc C fs outs => .exc C fs (putA as outs ρ)
        | .stuck => .stuck
      | none => .stuck
    else .stuck)) : spG X.K n G vs H Q fun cls d H' => W cls d σ H' := by
  split at P
  · rename_i hok
    unfold okA at hok
    rw [Bool.and_eq_true] at hok
    have hl := beq_iff_eq.mp hok.1
    have hn := nodN_of hok.2
    cases e : toArgs ρ as with
    | none => rw [e] at P; exact P.elim
    | some gs =>
      rw [e] at P
      refine ⟨F, gs, ⟨S.f, S.t.tb, S.t.nt⟩, ra.args S e, ra.length.trans hl, ra.nod S e hn, ?_⟩
      have P : Po X.K π W rel c F σ Q (match G gs with
        | .ok r outs => kk r (putA as outs ρ)
        | .exc C fs outs => .exc C fs (putA as outs ρ)
        | .stuck => .stuck) := P
      cases eg : G gs with
      | stuck => rw [eg] at P; exact P
      | exc C fs outs =>
        rw [eg] at P
        exact fun dd fsV F' H' po hd hf hr => P dd fsV F' H' po.f (S.post ra e po) hd hf hr
      | ok r outs =>
        rw [eg] at P
        refine fun v F' H' po rv => hk rv (S.post ra e po) rfl (fun q hq => ?_) (Po.mono po.f P)
        refine ⟨?_, fun j hj => ?_⟩
        · cases z : c.H0 q with
          | none => rfl
          | some o =>
            obtain ⟨o', e'⟩ := S.any z
            rw [hq] at e'
            cases e'
        · have S' := S.post ra e po
          have z : ∃ m, ρ[j]? = some (.own m) ∨ ρ[j]? = some (.io m) := by
            obtain ⟨_, m, h⟩ := hj
            have lk : ∃ s0, ρ[j]? = some s0 ∧ ((∃ m, s0 = .own m) ∨ ∃ m, s0 = .io m) := by
              rcases h with h | h
              · unfold putA at h
                rw [List.getElem?_mapIdx] at h
                cases e0 : ρ[j]? with
                | none => rw [e0] at h; cases h
                | some s0 =>
                  rw [e0] at h
                  cases s0 with
                  | own m0 => exact ⟨_, rfl, .inl ⟨m0, rfl⟩⟩
                  | io m0 => exact ⟨_, rfl, .inr ⟨m0, rfl⟩⟩
                  | no => cases hn : newM as outs j <;> simp [hn, putM] at h
                  | val d => cases hn : newM as outs j <;> simp [hn, putM] at h
              · unfold putA at h
                rw [List.getElem?_mapIdx] at h
                cases e0 : ρ[j]? with
                | none => rw [e0] at h; cases h
                | some s0 =>
                  rw [e0] at h
                  cases s0 with
                  | own m0 => exact ⟨_, rfl, .inl ⟨m0, rfl⟩⟩
                  | io m0 => exact ⟨_, rfl, .inr ⟨m0, rfl⟩⟩
                  | no => cases hn : newM as outs j <;> simp [hn, putM] at h
                  | val d => cases hn : newM as outs j <;> simp [hn, putM] at h
            obtain ⟨s0, h0, ⟨m, rfl⟩ | ⟨m, rfl⟩⟩ := lk
            · exact ⟨m, .inl h0⟩
            · exact ⟨m, .inr h0⟩
          obtain ⟨o, ho⟩ := (S.ownAt ⟨hj.1, z⟩).2.2
          rw [hq] at ho
          cases ho
  · exact P.elim
theorem frz_new {K : PySem.W.Frag} {c : Cfg} {F H : Hp} {σ : L2.St} {ρ : Rho} (S : Sta K π c F H σ ρ) {p : Addr} {vs : List V} (ho : H p = some (.lst vs)) (f1 : F p = none) (f2 : c.H0 p = none) (f3 : ∀ j, ¬ OwnAt σ ρ j p) : Same F (upd F p (.lst vs)) ∧ Sta K π c (upd F p (.lst vs)) H σ ρ := by
  have sm : Same F (upd F p (.lst vs)) := sm_new f1
  refine ⟨sm, S.h0, S.hio, S.f0.trans sm, fun a u q => ?_, fun q o e n => ?_, S.len, fun i s hs => ?_, S.dis, ⟨S.t.tb, S.t.tk, S.t.nt.upd ⟨(by intro ps z; cases z), fun _ z => (nomatch z), fun _ _ z => (nomatch z)⟩⟩⟩
  · by_cases z : a = p
    · subst z
      rw [upd_same] at q
      cases q
      exact ho
    · rw [upd_ne z] at q
      exact S.f _ _ q
  · rw [upd_ne (fun z => by subst z; rw [f2] at e; cases e)]
    exact S.nf q o e n
  · have z := S.rep i s hs
    cases s with
    | no => trivial
    | val d => obtain ⟨w, e1, q⟩ := z; exact ⟨w, e1, q.mono sm⟩
    | own m' =>
      obtain ⟨q, e1, e2, e3, q1⟩ := z
      have nq : q ≠ p := fun w => by subst w; exact f3 i ⟨e1, m', .inl hs⟩
      exact ⟨q, e1, by rw [upd_ne nq]; exact e2, e3, q1.mono sm fun _ hu => hu⟩
    | io m' =>
      obtain ⟨e1, e2, e3, q1⟩ := z
      have nq : π i ≠ p := fun w => by rw [w] at e1; exact f3 i ⟨e1, m', .inr hs⟩
      exact ⟨e1, by rw [upd_ne nq]; exact e2, e3, q1.mono sm fun _ hu => hu⟩
theorem k_asE {σ : L2.St} {H : Hp} {Q : VK} {c : Cfg} {r : Res} {ρ' : Rho} {v : V} {F' H' : Hp} (rv : ResR X.K H F' H' v r) (S : Sta X.K π c F' H' σ ρ') (nw : ∀ q, H q = none → c.H0 q = none ∧ ∀ j, ¬ OwnAt σ ρ' j q) (P : Po X.K π W (relE X.K) c F' σ Q (asE r ρ')) : Q v H' := by
  cases r with
  | v d => exact P v F' H' (Same.refl _) S rv
  | m m =>
    cases m with
    | ins _ _ => exact P.elim
    | dtu _ => exact P.elim
    | lst ds =>
      obtain ⟨p, rfl, n, nF, vs, ho, r⟩ := rv
      obtain ⟨sm, S'⟩ := frz_new S ho nF (nw p n).1 (nw p n).2
      exact P _ _ H' sm S' (.lst upd_same (r.mono sm))
    | dct ds =>
      obtain ⟨p, rfl, n, nF, kvs, ho, hk, r⟩ := rv
      obtain ⟨sm, S'⟩ := frz_newG S (by intro ps z; cases z) ho nF (nw p n).1 (nw p n).2
      exact P _ _ H' sm S' (.dct upd_same hk (r.mono sm))
/-- how a def's arguments bind: n positional ones, keywords ks; the parameters in the order ord -/
def KB (K : PySem.W.Frag) (fd : FuncData) (ps ks : List Str) (n : Nat) (ord : List Nat) : Prop :=
  ∀ (s : Shared) (us ws : List Value), K.In s.heap → us.length = n → ws.length = ks.length → BindsTo s fd ⟨us, ks.zip ws⟩ (ps.zip (pick ord (us ++ ws)))
/-- f(e, ..) -/
theorem rd_bind1 {α : Type} {rel : Rel V α} {f : BF} {σ : L2.St} {H : Hp} {Q : VK} {n : Nat} {kk : Res → Rho → R α}
    (hk : ∀ {c : Cfg} {σ : L2.St} {H : Hp} {r : Res} {ρ' : Rho} {v : V} {F' H' : Hp}, ResR X.K H F' H' v r → Sta X.K π c F' H' σ ρ' → c.H0 = c.H0 → (∀ q, H q = none → c.H0 q = none ∧ ∀ j, ¬ OwnAt σ ρ' j q) → Po X.K π W rel c F' σ Q (kk r ρ') → Q v H')
    (t : tG X.K π W rel (callG n G f kk) σ H Q) : tB X.K π W f σ H fun vs H1 => spG X.K n G vs H1 Q fun cls d H' => W cls d σ H' := by
  obtain ⟨c, F, ρ, S, P⟩ := t
  refine po_bind S P fun vs F1 H1 ρ1 as s1 S1 r1 P1 => ?_
  exact rd_call hk S1 r1 P1
theorem fc_call {α : Type} {rel : Rel V α} {g : BF} {kk : Res → Rho → R α}
    (hk : ∀ {Q : VK} {c : Cfg} {σ : L2.St} {H : Hp} {r : Res} {ρ' : Rho} {v : V} {F' H' : Hp}, ResR X.K H F' H' v r → Sta X.K π c F' H' σ ρ' → c.H0 = c.H0 → (∀ q, H q = none → c.H0 q = none ∧ ∀ j, ¬ OwnAt σ ρ' j q) → Po X.K π W rel c F' σ Q (kk r ρ') → Q v H')
    (Fn : FnG X.prog X.w X.K X.mg X.base k f fd ps (spG X.K ps.length G)) (hr : RoomG k X.A) (tk : L2N.Takes X W) (hg : Gl X x) (hm : X.mg x = some (.ref f)) (hkp : PySem.W.keepIn X.K (.ref f) = true) (hb : Binds X.K fd ps [])
    (ha : PA X (e :: es) (tB X.K π W g)) (hdb : (x == ("__debug__" : Str)) = false := by decide) (he : starEach (e :: es) X.env = (false, eval e X.env) :: starEach es X.env := by rfl) (hpl : (backTo pos (starEach es X.env)).any (·.1) = false := by rfl) :
    PE X (.Call (.Name x p) (e :: es) [] pos) (tG X.K π W rel (callG ps.length G g kk)) := by
  refine ⟨fun pins s σ H Q I h => ?_⟩
  refine wpAny_Call_Name_kw (ld_glob I hg hm ?_ hdb)
  refine PySem.W.callWith_K (h₀ := X.base) I.ok.mod.kin hkp (thn (ha.run pos pins s σ H _ I (rd_bind1 hk h)) fun us s1 ⟨vs, H1, I1, r, q⟩ => ⟨I1.kIn, ?_⟩) he hpl
  have b := hb s1 us I1.kIn (by rw [List.append_nil, ← r.length]; exact Fn.len _ _ _ _ q)
  rw [List.append_nil] at b
  refine wpAny_call (codeAny_mono (run_fnG Fn hr tk b I1 r q) fun r s' hq => ?_)
  cases r with
  | error e => exact hq
  | ok fl =>
    cases fl with
    | ret u => exact hq
    | next => exact False.elim hq
    | brk => exact False.elim hq
    | cont => exact False.elim hq
/-- both lists of a call with keywords, in the parameters' order -/
def kwB (n m : Nat) (ord : List Nat) (f g : BF) : BF := fun ρ => (f ρ).bind fun as ρ => (g ρ).bind fun bs ρ => if as.length = n ∧ bs.length = m then .ok (pick ord (as ++ bs)) ρ else .stuck
end
end FL
/-! FL9: isinstance, repr, truth, displays with a star, x[j] as a target, texts compared. -/
namespace FL
open PySem PySem.Spec PyProof.Rows L2

/-! ### isinstance -/
inductive Ty where
  | non | bl | int | str | tup | lst | dct
def isTy : Ty → Ty → Bool
  | .non, .non => true
  | .bl, .bl => true
  | .bl, .int => true
  | .int, .int => true
  | .str, .str => true
  | .tup, .tup => true
  | .lst, .lst => true
  | .dct, .dct => true
  | _, _ => false
def typD : D → Option Ty
  | .non => some .non
  | .bl _ => some .bl
  | .int _ => some .int
  | .str _ => some .str
  | .tup _ => some .tup
  | .lst _ => some .lst
  | .scr _ => some .lst
  | .dct _ => some .dct
  | _ => none
def isiD (T : Ty) (d : D) : Option D := (typD d).map fun t => .bl (isTy t T)
section
variable {K : PySem.W.Frag} {F H : Hp}
end
section
variable [FE]
variable {X : Cx} {π : Nat → Addr} {W : WX} {a : Expr} {pos p p2 : Pos} {x y : Str}
theorem pe_ty {T : String} {p : Pos} (hg : Gl X y) (hm : X.mg y = none) (hv : bootBuiltins y = some (.type T)) (hn : y ≠ "__name__" := by decide) (hdb : (y == ("__debug__" : Str)) = false := by decide) : PE X (.Name y p) (tC (.ty T)) :=
  ⟨fun pins s σ H Q I h => ld_blt I hg hm hv ⟨.ty T, H, I, rfl, h⟩ hn hdb⟩
/-! ### truth -/
/-! ### texts compared -/
def twoS : D → D → Option Bool
  | .str a, .str b => some (decide (a = b))
  | _, _ => none
/-- lists of unlike lengths -/
def difL : D → D → Bool
  | .lst xs, .lst ys => xs.length != ys.length
  | _, _ => false
def eqA (x y : D) : Option D := match twoS x y with
  | some b => some (.bl b)
  | none => if difL x y = true then some (.bl false) else eqD x y
def neA (x y : D) : Option D := match twoS x y with
  | some b => some (.bl (!b))
  | none => if difL x y = true then some (.bl true) else neD x y
/-- the comparison of two lists of unlike lengths -/
def rDif (K : PySem.W.Frag) (b : Bool) : R2 := fun x y H Q => ∃ (p q : Addr) (xs ys : List V), x = .ref p ∧ y = .ref q ∧ SqL K H p xs ∧ SqL K H q ys ∧ xs.length ≠ ys.length ∧ Q (.bl b) H
theorem difL_rep {K : PySem.W.Frag} {F H : Hp} (s : Same F H) {x y : V} {dx dy : D} (rx : Rep K F x dx) (ry : Rep K F y dy) (h : difL dx dy = true) : ∃ (p q : Addr) (xs ys : List V), x = .ref p ∧ y = .ref q ∧ SqL K H p xs ∧ SqL K H q ys ∧ xs.length ≠ ys.length := by
  unfold difL at h
  split at h
  · cases rx with
    | lst h1 r1 =>
      cases ry with
      | lst h2 r2 =>
        refine ⟨_, _, _, _, rfl, rfl, SqL.of (s _ _ h1), SqL.of (s _ _ h2), ?_⟩
        rw [Reps.length r1, Reps.length r2]
        simpa using h
  · cases h
theorem op_eq_dif (hu : X.A.units + 64 < cLine) : OpR X (compareOp .Eq) (rDif X.K false) := by
  intro pins s σ H x y v u Q I rx ry h
  obtain ⟨p, q, xs, ys, rfl, rfl, h1, h2, hn, hq⟩ := h
  cases rx
  cases ry
  obtain ⟨its, r1, p1, _⟩ := I.list h1
  obtain ⟨jts, r2, p2, _⟩ := I.list h2
  refine PySem.SeqAt.eq_list_lengthsAt p1.isList p2.isList ?_ (by omega) ⟨.bl false, H, I, rfl, hq⟩
  have e1 := r1.length
  have e2 := r2.length
  simp
  omega
theorem op_ne_dif (hu : X.A.units + 64 < cLine) : OpR X (compareOp .NotEq) (rDif X.K true) := by
  intro pins s σ H x y v u Q I rx ry h
  obtain ⟨p, q, xs, ys, rfl, rfl, h1, h2, hn, hq⟩ := h
  cases rx
  cases ry
  obtain ⟨its, r1, p1, _⟩ := I.list h1
  obtain ⟨jts, r2, p2, _⟩ := I.list h2
  refine PySem.SeqAt.RcNeAt.lists_lengths p1.isList p2.isList ?_ (by omega) _ _ _ _ ⟨.bl true, H, I, rfl, hq⟩
  have e1 := r1.length
  have e2 := r2.length
  simp
  omega
theorem twoS_rep {K : PySem.W.Frag} {F : Hp} {x y : V} {dx dy : D} {b : Bool} (rx : Rep K F x dx) (ry : Rep K F y dy) (h : twoS dx dy = some b) : scal x y = true ∧ decide (x = y) = b := by
  unfold twoS at h
  split at h
  · cases rx
    cases ry
    cases h
    refine ⟨rfl, ?_⟩
    rw [decide_eq_decide]
    exact ⟨fun e => by cases e; rfl, fun e => by rw [e]⟩
  · cases h
theorem q_eqA {K : PySem.W.Frag} : Op2 K eqA (fun x y H Q => rEq x y H Q ∨ rDif K false x y H Q ∨ rEqD K x y H Q) := by
  intro F H x y dx dy d Q s rx ry e k
  unfold eqA at e
  cases es : twoS dx dy with
  | none =>
    rw [es] at e
    have e : (if difL dx dy = true then some (D.bl false) else eqD dx dy) = some d := e
    split at e
    · rename_i hz
      cases e
      obtain ⟨p, q, xs, ys, h1, h2, h3, h4, h5⟩ := difL_rep s rx ry hz
      exact .inr (.inl ⟨p, q, xs, ys, h1, h2, h3, h4, h5, k _ F H (Grw.refl s) (.bl _)⟩)
    · exact .inr (.inr (q_eq s rx ry e k))
  | some b =>
    rw [es] at e
    cases e
    obtain ⟨h1, h2⟩ := twoS_rep rx ry es
    refine .inl ⟨h1, ?_⟩
    rw [h2]
    exact k _ F H (Grw.refl s) (.bl _)
theorem q_neA {K : PySem.W.Frag} : Op2 K neA (fun x y H Q => rNe x y H Q ∨ rDif K true x y H Q ∨ rNeD K x y H Q) := by
  intro F H x y dx dy d Q s rx ry e k
  unfold neA at e
  cases es : twoS dx dy with
  | none =>
    rw [es] at e
    have e : (if difL dx dy = true then some (D.bl true) else neD dx dy) = some d := e
    split at e
    · rename_i hz
      cases e
      obtain ⟨p, q, xs, ys, h1, h2, h3, h4, h5⟩ := difL_rep s rx ry hz
      exact .inr (.inl ⟨p, q, xs, ys, h1, h2, h3, h4, h5, k _ F H (Grw.refl s) (.bl _)⟩)
    · exact .inr (.inr (q_ne s rx ry e k))
  | some b =>
    rw [es] at e
    cases e
    obtain ⟨h1, h2⟩ := twoS_rep rx ry es
    refine .inl ⟨h1, ?_⟩
    rw [h2]
    exact k _ F H (Grw.refl s) (.bl _)
theorem o_eqA (hu : X.A.units + 64 < cLine) : OpR X (compareOp .Eq) (fun x y H Q => rEq x y H Q ∨ rDif X.K false x y H Q ∨ rEqD X.K x y H Q) := op_eq.or ((op_eq_dif hu).or (op_eqD hu))
theorem o_neA (hu : X.A.units + 64 < cLine) : OpR X (compareOp .NotEq) (fun x y H Q => rNe x y H Q ∨ rDif X.K true x y H Q ∨ rNeD X.K x y H Q) := op_ne.or ((op_ne_dif hu).or (op_neD hu))

/-! ### repr -/
def showD (n : Nat) (d : D) : Bool := shp n d && (toP d).showable && small (toP d).shown.length
def reprC : List D → Option D
  | [d] => if showD 8 d = true then some (.str (toP d).shown) else none
  | _ => none
def rRepr (K : PySem.W.Frag) : List V → Hp → VK → Prop := fun xs H Q => ∃ x d, xs = [x] ∧ Dp K H x d ∧ d.canLay0 = true ∧ d.showable = true ∧ d.shown.length ≤ sizeLine ∧ d.depth ≤ 8 ∧ Q (.str d.shown) H
theorem q_repr {K : PySem.W.Frag} : OpC K reprC (rRepr K) := by
  intro F H vs ds d Q s r e k
  unfold reprC at e
  split at e
  · rename_i d0
    split at e
    · rename_i hz
      cases e
      unfold showD at hz
      rw [Bool.and_eq_true, Bool.and_eq_true] at hz
      obtain ⟨⟨z1, z2⟩, z3⟩ := hz
      obtain ⟨v, rfl, r1⟩ := Reps.one r
      obtain ⟨y1, y2⟩ := shp_ok 8 _ z1
      exact ⟨v, _, rfl, dp_of s 8 _ _ z1 r1, y1, z2, le_line (small_le z3), y2, k _ F H (Grw.refl s) (.str _)⟩
    · cases e
  · cases e
theorem o_repr (hg : X.A.guards = some []) (hu : X.A.units + 64 < cLine) : CallR X (.builtin "repr") (rRepr X.K) := by
  intro pins s σ H xs us Q I r h
  obtain ⟨x, d, rfl, dp, hc, hs, hl, hd, q⟩ := h
  cases r with
  | cons r1 rt =>
    cases rt
    have fin : ∀ {h' : Heap} {tk : Nat} {u : Tok}, (∀ b o, s.heap.get? b = some o → h'.get? b = some o) → EP X pins σ Q (.str d.shown u) { s with heap := h', toks := tk } := fun {h' tk u} hk => ⟨.str d.shown, H, I.kept (t' := tk) hk, ⟨u, rfl⟩, q⟩
    have key : ∀ a as, Reads s.heap (.ref a) d as → wpAny (model X.prog X.w) X.A (call (.builtin "repr") [.ref a]) (EP X pins σ Q) X.xe s := fun a as rd =>
      repr_of_reads' rd hs (PyData.noDict_hsm (PyData.hasDict_of_canLay d hc)) hg (by omega) (fun _ _ e => e) (fun h' u tk hk => fin hk) hl
    obtain ⟨as, rd⟩ := Dp.reads I _ _ _ dp r1
    cases dp with
    | non => cases r1; exact PySem.P.repr_of_none (fin (h' := s.heap) (fun _ _ e => e))
    | bl b =>
      cases r1
      refine PySem.P.repr_of_bool ?_
      have e : (PyData.bool b).shown = (if b then ("True" : Str) else "False") := by cases b <;> rfl
      rw [e] at fin
      exact fin (h' := s.heap) (fun _ _ e => e)
    | int i =>
      obtain ⟨t, rfl⟩ := r1
      exact PySem.P.repr_of_int (of_decide_eq_true hs) (fin (h' := s.heap) (fun _ _ e => e))
    | str y =>
      obtain ⟨t, rfl⟩ := r1
      exact PySem.P.repr_of_str (fin (h' := s.heap) (fun _ _ e => e)) hl
    | lst h1 h2 => cases r1; exact key _ _ rd
    | tup h1 h2 => cases r1; exact key _ _ rd
end

/-! ### displays with a star -/
section
variable [FE]
variable {X : Cx} {π : Nat → Addr} {W : WX} {e : Expr} {es : List Expr} {pos p : Pos}
/-! ### x[j] as a target -/
def subGO (i : Nat) (g : EF) : GF := fun d ρ => match subG i g d ρ with
  | .ok _ ρ => some ρ
  | _ => none
/-! ### {} -/
end
end FL
/-! FL10: a dict in a row of numbers. -/
namespace FL
open PySem PySem.Spec PyProof.Rows PySem.SeqAt PySem.MeetsSeq L2
section
variable {A : Around} {s : Shared}
end

open L2
section
variable [FE]
variable {X : Cx}
end
end FL
/-! FL11: from the law's def to the row. -/
namespace FL
open PySem PySem.Spec PyProof.Rows L2

abbrev scrO (vs : List Value) : Obj := { cls := .type "list", data := .seq vs.toArray }
abbrev tab0 : Obj := { cls := .none, data := .fields #[] }
/-- nothing is tracked but the script and the empty tables ts -/
structure Start (K : PySem.W.Frag) (h : Heap) (a : Addr) (vs : List Value) (ts : List Addr) (H : Hp) : Prop where
  only : ∀ b, H b = none ∨ (b = a ∧ ∃ xs, H b = some (.frz (scrO vs) (.lst xs))) ∨ (b ∈ ts ∧ H b = some (.tbl #[]))
  kn : H a ≠ none → K.lookup a = none
  tabs : ∀ b ∈ ts, H b = some (.tbl #[])
/-- the code objects cs with their empty tables -/
structure Codes (K : PySem.W.Frag) (h : Heap) (cs : List (Addr × Addr)) : Prop where
  t : ∀ p ∈ cs, h.get? p.2 = some tab0
  n : ∀ p ∈ cs, K.lookup p.2 = none
  c : ∀ p ∈ cs, PySem.W.CodeHd h p.1 p.2
abbrev Bm (mg : Str → Option Value) (h : Heap) : Prop := ∃ (bm : Addr) (ob : Obj), mg "__builtins__" = some (.ref bm) ∧ bm ≠ builtinsNs ∧ h.get? bm = some ob ∧ ob.cls = .type "module" ∧ ob.dict = some builtinsNs ∧ ob.data = .plain
section
variable {P : Program} {w : World} {K : PySem.W.Frag} {mg mb : Str → Option Value} {k : Nat} {fa a : Addr} {fd : FuncData} {x : Str} {G : List Arg → RG} {s1 : Shared} {vs : List Value} {ns : List Int} {cs : List (Addr × Addr)}
theorem Codes.at (C : Codes K s1.heap cs) {b : Addr} (h : b ∈ cs.map (·.2)) : s1.heap.get? b = some tab0 ∧ K.lookup b = none := by
  obtain ⟨p, hp, rfl⟩ := List.mem_map.mp h
  exact ⟨C.t p hp, C.n p hp⟩
theorem Start.other {H : Hp} (T : Start K s1.heap a vs (cs.map (·.2)) H) (C : Codes K s1.heap cs) (ha : s1.heap.get? a = some (scrO vs)) {b : Addr} {o : Obj} (e : s1.heap.get? b = some o) (hd : ∀ (us : Array Value) (n : Nat), o.data ≠ .seq us n) (hf : o.data ≠ .fields #[]) : H b = none := by
  rcases T.only b with z | ⟨rfl, _⟩ | ⟨z, _⟩
  · exact z
  · rw [ha] at e
    cases e
    exact absurd rfl (hd _ _)
  · rw [(C.at z).1] at e
    cases e
    exact absurd rfl hf
variable [FE] in
/-- one run of the law's def, at an abstract heap -/
theorem top_run (hr : RoomG k callerA) (KX : K.In s1.heap) (hns : s1.heap.Ns mainGlobals mg) (hb : s1.heap.Ns builtinsNs mb) (hbb : ∀ y : Str, y ≠ "__name__" → mb y = bootBuiltins y) (hlim : s1.heap.NoLimit) (hgen : s1.gens = #[])
    (C : Codes K s1.heap cs) (hbm : Bm mg s1.heap) (hFE : ∀ p ∈ FE.tabs, p.1 ∈ cs.map (·.2))
    (ha : s1.heap.get? a = some (scrO vs)) (Fn : ∀ base : Heap, K.In base → base.Ns mainGlobals mg → (∀ p ∈ cs, LamX.TabB base mg p.1 p.2) → FnG P w K mg base k fa fd [x] (spG K 1 G)) (hbind : ∀ (s : Shared) (u : Value), BindsTo s fd ⟨[u], []⟩ [(x, u)])
    (hG : G [.val (.scr ns)] = .ok (.v (.bl true)) []) {H : Hp} (T : Start K s1.heap a vs (cs.map (·.2)) H) (hS : SqL K (fun b => if b ∈ cs.map (·.2) then none else H b) a (ns.map V.int)) (hok : HOk P w H s1.heap) :
    codeAny (model P w) callerA (.call (.ref fa) ⟨[.ref a], []⟩) (fun r s' => (r = .ok (.ret (.bool true)) ∧ OldK s1.heap s'.heap) ∧ s'.os = s1.os ∧ AllBare s'.gens) s1 := by
  have lift : ∀ {b : Addr} {o : Obj}, s1.heap.get? b = some o → H b = none → (hidT s1.heap H).get? b = some o := hidT_get
  have nsUp : ∀ {b : Addr} {m : Str → Option Value}, s1.heap.Ns b m → (hidT s1.heap H).Ns b m := by
    rintro b m ⟨o, es, ep, e, d, r⟩
    refine ⟨o, es, ep, lift e (T.other C ha e (fun us n z => ?_) fun z => ?_), d, r⟩
    · rw [d] at z
      cases z
    · rw [d] at z
      cases z
  have kUp : K.In (hidT s1.heap H) := fun b o e => lift (KX b o e) (by
    rcases T.only b with z | ⟨rfl, xs, z⟩ | ⟨z, _⟩
    · exact z
    · have := T.kn (by rw [z]; simp)
      rw [this] at e
      cases e
    · rw [(C.at z).2] at e
      cases e)
  have limUp : (hidT s1.heap H).NoLimit := by
    obtain ⟨mc, l1, l2⟩ := hlim
    exact ⟨mc, nsUp l1, l2⟩
  have tbUp : ∀ p ∈ cs, LamX.TabB (hidT s1.heap H) mg p.1 p.2 := fun p hp => by
    obtain ⟨oc, us, file, tf, fl, tg, inF, txt, tt, g1, g2, g3, g4, g5, g6, g7, g8, g9, g10⟩ := C.c p hp
    obtain ⟨bm, ob, m1, m2, m3, m4, m5, m6⟩ := hbm
    obtain ⟨om, es, ep, q1, q2, q3⟩ := id hns
    have hp2 := C.t p hp
    refine ⟨⟨oc, us, file, tf, fl, tg, inF, txt, tt, lift g1 (T.other C ha g1 (fun ws n z => ?_) fun z => ?_), g2, g3, g4, g5, g6, g7, g8, g9, g10⟩, ⟨bm, ob, m1, m2, fun z => ?_, fun z => ?_, lift m3 (T.other C ha m3 (fun ws n z => ?_) fun z => ?_), m4, m5, m6⟩, fun z => ?_⟩
    · rw [g3] at z
      cases z
    · rw [g3] at z
      cases z
      simp at g4
    · subst z
      rw [q1] at m3
      cases m3
      rw [q2] at m6
      cases m6
    · subst z
      rw [hp2] at m3
      cases m3
      cases m6
    · rw [m6] at z
      cases z
    · rw [m6] at z
      cases z
    · rw [z, hp2] at q1
      cases q1
      cases q2
  have E0 : Env0 P w K mg (hidT s1.heap H) callerA [] s1 H :=
    ⟨rfl, ⟨kUp, nsUp hns, ⟨mb, nsUp hb, hbb⟩, limUp⟩, fun b o e => of_hidT e, Nat.le_of_eq (hidT_size _ _), trivial, (fun b hb => by cases hb), hok, .of_eq hgen⟩
  have want : spG K 1 G [.ref a] H (fun v _ => v = .bl true) (fun _ _ _ => False) := by
    refine ⟨fun b => if b ∈ cs.map (·.2) then none else H b, [.val (.scr ns)], ⟨fun b o e => ?_, fun p hp => LamX.TabS.nil (T.tabs _ (hFE p hp)), fun b o e => ?_⟩, .val (.scr hS) .nil, rfl, List.nodup_nil, ?_⟩
    · have e : (if b ∈ cs.map (·.2) then none else H b) = some o := e
      by_cases z : b ∈ cs.map (·.2)
      · rw [if_pos z] at e
        cases e
      · rw [if_neg z] at e
        exact e
    · have e : (if b ∈ cs.map (·.2) then none else H b) = some o := e
      by_cases z : b ∈ cs.map (·.2)
      · rw [if_pos z] at e
        cases e
      · rw [if_neg z] at e
        rcases T.only b with y | ⟨_, xs, y⟩ | ⟨y, _⟩
        · rw [y] at e
          cases e
        · rw [y] at e
          cases e
          exact ⟨fun ps q => (nomatch q), fun _ q => (nomatch q), fun _ _ q => (nomatch q)⟩
        · exact absurd y z
    · rw [hG]
      intro v F' H' _ rv
      cases rv
      rfl
  refine codeAny_mono ((Fn _ kUp (nsUp hns) tbUp).run callerA [] s1 H ⟨[.ref a], []⟩ [.ref a] [.ref a] (fun v _ => v = .bl true) (fun _ _ _ => False) hr E0 (hbind s1 (.ref a)) (.cons rfl .nil) want) fun r s' hq => ?_
  match r, hq with
  | .error e, hq =>
    obtain ⟨_, _, _, _, _, _, _, _, _, _, _, _, z⟩ := hq
    exact z.elim
  | .ok .next, hq => exact False.elim hq
  | .ok .brk, hq => exact False.elim hq
  | .ok .cont, hq => exact False.elim hq
  | .ok (.ret u), hq =>
    obtain ⟨v, H', os, bare, un, hok2, rv, e⟩ := hq
    have e : v = .bl true := e
    subst e
    cases (show u = Value.bool true from rv)
    have plain : ∀ b o, b ∉ cs.map (·.2) → s1.heap.get? b = some o → s'.heap.get? b = some o := fun b o nb eo => by
      rcases T.only b with z | ⟨rfl, xs, z⟩ | ⟨z, _⟩
      · exact un.keep b o eo z (fun y => by cases y) (fun y => by cases y)
      · obtain ⟨e1, _⟩ := hok b _ z
        obtain ⟨e2, _⟩ := hok2 b _ (un.frzs b _ _ z)
        rw [eo] at e1
        cases e1
        exact e2
      · exact absurd z nb
    have more : ∀ p ∈ cs, ∃ us : Array Value, s'.heap.get? p.2 = some { cls := .none, data := .fields us } := fun p hp => by
      obtain ⟨us, z⟩ := un.tbls p.2 #[] (T.tabs _ (List.mem_map.mpr ⟨p, hp, rfl⟩))
      exact ⟨_, hok2 p.2 _ z⟩
    refine ⟨⟨rfl, ⟨fun b o eo => ?_, fun b o eo => ?_⟩⟩, os, bare⟩
    · by_cases nb : b ∈ cs.map (·.2)
      · obtain ⟨p, hp, rfl⟩ := List.mem_map.mp nb
        obtain ⟨us, hu⟩ := more p hp
        rw [C.t p hp] at eo
        cases eo
        exact .inr (.inl ⟨((C.c p hp).tab (C.t p hp)).isCodeTable, rfl, #[], us, rfl, by rw [Array.empty_append]; exact hu⟩)
      · exact .inl (plain b o nb eo)
    · by_cases nb : b ∈ cs.map (·.2)
      · obtain ⟨p, hp, rfl⟩ := List.mem_map.mp nb
        obtain ⟨us, hu⟩ := more p hp
        exact ⟨_, hu⟩
      · exact ⟨o, plain b o nb eo⟩
variable [FE] in
theorem top_law (hr : RoomG k callerA) (KX : K.In s1.heap) (hns : s1.heap.Ns mainGlobals mg) (hb : s1.heap.Ns builtinsNs mb) (hbb : ∀ y : Str, y ≠ "__name__" → mb y = bootBuiltins y) (hlim : s1.heap.NoLimit) (hgen : s1.gens = #[])
    (C : Codes K s1.heap cs) (hbm : Bm mg s1.heap) (hFE : ∀ p ∈ FE.tabs, p.1 ∈ cs.map (·.2))
    (ha : s1.heap.get? a = some (scrO vs)) (hi : IntsAre vs ns) (hl : ns.length ≤ sizeLine) (Fn : ∀ base : Heap, K.In base → base.Ns mainGlobals mg → (∀ p ∈ cs, LamX.TabB base mg p.1 p.2) → FnG P w K mg base k fa fd [x] (spG K 1 G)) (hbind : ∀ (s : Shared) (u : Value), BindsTo s fd ⟨[u], []⟩ [(x, u)])
    (hG : G [.val (.scr ns)] = .ok (.v (.bl true)) []) : codeAny (model P w) callerA (.call (.ref fa) ⟨[.ref a], []⟩) (fun r s' => (r = .ok (.ret (.bool true)) ∧ OldK s1.heap s'.heap) ∧ s'.os = s1.os ∧ AllBare s'.gens) s1 := by
  have rv := vals_ints hi
  have hlen := hi.length
  have na : a ∉ cs.map (·.2) := fun z => by
    have y := (C.at z).1
    rw [ha] at y
    have y' : Data.seq vs.toArray _ = Data.fields #[] := congrArg Obj.data (Option.some.inj y)
    cases y'
  cases hk : K.lookup a with
  | some o =>
    have e := KX a o hk
    rw [ha] at e
    cases e
    refine top_run hr KX hns hb hbb hlim hgen C hbm hFE ha Fn hbind hG (H := fun b => if b ∈ cs.map (·.2) then some (.tbl #[]) else none) ⟨fun b => ?_, fun z => absurd (if_neg na) z, fun b hb => if_pos hb⟩ (.inr ⟨_, vs.toArray, 0, hk, rfl, rfl, rfl, ?_, ?_⟩) (fun b u z => ?_)
    · by_cases nb : b ∈ cs.map (·.2)
      · exact .inr (.inr ⟨nb, if_pos nb⟩)
      · exact .inl (if_neg nb)
    · rw [List.size_toArray, hlen]
      exact hl
    · simpa using rv
    · by_cases nb : b ∈ cs.map (·.2)
      · have z := (if_pos nb).symm.trans z
        cases z
        exact (C.at nb).1
      · have z := (if_neg nb).symm.trans z
        cases z
  | none =>
    refine top_run hr KX hns hb hbb hlim hgen C hbm hFE ha Fn hbind hG (H := upd (fun b => if b ∈ cs.map (·.2) then some (.tbl #[]) else none) a (.frz (scrO vs) (.lst (ns.map V.int)))) ⟨fun b => ?_, fun _ => hk, fun b hb => ?_⟩ (.inl (.inr ⟨scrO vs, ?_⟩)) (fun b u z => ?_)
    · by_cases q : b = a
      · subst q
        exact .inr (.inl ⟨rfl, _, upd_same⟩)
      · by_cases nb : b ∈ cs.map (·.2)
        · exact .inr (.inr ⟨nb, (upd_ne q).trans (if_pos nb)⟩)
        · exact .inl ((upd_ne q).trans (if_neg nb))
    · exact (upd_ne (show b ≠ a from fun z => na (by rw [← z]; exact hb))).trans (if_pos hb)
    · exact (if_neg na).trans upd_same
    · by_cases q : b = a
      · subst q
        rw [upd_same] at z
        cases z
        exact ⟨ha, by rw [List.length_map]; exact hl, vs, _, rv, ha⟩
      · rw [upd_ne q] at z
        by_cases nb : b ∈ cs.map (·.2)
        · have z := (if_pos nb).symm.trans z
          cases z
          exact (C.at nb).1
        · have z := (if_neg nb).symm.trans z
          cases z
end
theorem room_top {k : Nat} (h : k ≤ 200) : RoomG k callerA := by
  refine ⟨⟨rfl, ?_, ?_⟩, rfl⟩
  · have y : callerA.depth ≤ 310 := by decide +kernel
    have z : 1000 ≤ recursionLimit := by decide +kernel
    omega
  · have y : callerA.units ≤ 100 := by decide +kernel
    have z : 3700 ≤ cLine := by decide +kernel
    omega
/-- what is known of the law's def at the head's heap: without tables -/
def LawG (l : PySem.W.OpenLaw) (w : World) (K : PySem.W.Frag) (k n : Nat) (x : Str) (mg : Str → Option Value) (fa : Addr) (h : Heap) (G : List Arg → RG) : Prop :=
  ∃ (fe : FE) (fd : FuncData) (cs : List (Addr × Addr)), Codes K h cs ∧ (∀ p ∈ fe.tabs, p.1 ∈ cs.map (·.2)) ∧ (∀ (s : Shared) (u : Value), BindsTo s fd ⟨[u], []⟩ [(x, u)]) ∧
    (∀ base : Heap, K.In base → base.Ns mainGlobals mg → (∀ p ∈ cs, LamX.TabB base mg p.1 p.2) → FnG l.prog w K mg base k fa fd [x] (spG K 1 G)) ∧ ∀ ns : List Int, ns.length ≤ n → (∀ z ∈ ns, Builtin.Int.intBits z ≤ 1048576) → G [.val (.scr ns)] = .ok (.v (.bl true)) []
/-- the goal that the head leaves -/
theorem walkG {l : PySem.W.OpenLaw} {n k : Nat} {q : Program} {loose : List Str} {XP : (Str → Option Value) → Heap → Prop} {YP : World → Heap → Prop} {d : DefRec} {K : Params → PySem.W.Frag} {G : World → (Str → Option Value) → List Arg → RG} {x : Str}
    (hn : l.most = some n) (hn2 : n ≤ sizeLine) (hdf : d.params.defaults = []) (hk : k ≤ 200) (hY : ∀ (w : World) (h : Heap), YP w h → (K w.params).In h)
    (Fn : ∀ (w : World) (mg : Str → Option Value) (fa : Addr) (h : Heap), YP w h → (K w.params).In h → h.Ns mainGlobals mg → XP mg h → mg d.name = some (.ref fa) → LawG l w (K w.params) k n x mg fa h (G w mg)) :
    PySem.W.WalkO q loose XP YP l.row.toRowW d [] (fun f vs => PySem.call f vs) := by
  refine Att.attach_callB hn hdf fun w s₀ s₁ mg mb fa o pm cd doc a vs ns Gr Y ho hd hcd hmg hobj hints hlen hbits hg => ?_
  obtain ⟨fe, fd, cs, hC, hFE, hb, hF, hq⟩ := Fn w mg fa _ Y (hY w _ Y) Gr.T.g Gr.X hmg
  exact codeAny_mono (@top_law _ _ _ _ _ _ _ _ _ _ _ _ _ _ _ fe (room_top hk) (hY w _ Y) Gr.T.g Gr.T.b Gr.T.builtins Gr.T.nolimit hg hC Gr.T.bmain hFE hobj hints (Nat.le_trans hlen hn2) hF hb (hq ns hlen hbits)) fun r s' z => ⟨z.1.1, z.1.2, z.2⟩
end FL
/-! FL12: calls, as the printed terms write them. -/
namespace FL
open PySem PySem.Spec PyProof.Rows L2
section
variable [FE]
variable {X : Cx} {π : Nat → Addr} {W : WX} {e a b : Expr} {es : List Expr} {pos p : Pos} {k : Nat} {f : Addr} {fd : FuncData} {ps ks : List Str} {G : List Arg → RG} {x : Str} {kws : List Keyword} {g h : BF} {n : Nat} {ord : List Nat}
theorem fe_call {nn : Nat} (Fn : FnG X.prog X.w X.K X.mg X.base k f fd ps (spG X.K ps.length G)) (hr : RoomG k X.A) (tk : L2N.Takes X W) (hg : Gl X x) (hm : X.mg x = some (.ref f)) (hkp : PySem.W.keepIn X.K (.ref f) = true) (hb : Binds X.K fd ps [])
    (ha : PA X (e :: es) (tB X.K π W g)) (hdb : (x == ("__debug__" : Str)) = false := by decide) (he : starEach (e :: es) X.env = (false, eval e X.env) :: starEach es X.env := by rfl) (hpl : (backTo pos (starEach es X.env)).any (·.1) = false := by rfl) (hnn : ps.length = nn := by rfl) :
    PE X (.Call (.Name x p) (e :: es) [] pos) (tE X.K π W (callE nn G g)) := by
  subst hnn
  exact fc_call (fun rv S _ nw P => k_asE rv S nw P) Fn hr tk hg hm hkp hb ha hdb he hpl
/-! ### f(g(..)), the argument a new thing -/
end
variable [FE] in
/-- a def of the module that may be called by its name -/
structure Cal (P : Program) (w : World) (K : PySem.W.Frag) (mg : Str → Option Value) (base : Heap) (k : Nat) (x : Str) (ps : List Str) (kbs : List (List Str × Nat × List Nat)) (G : List Arg → RG) : Prop where
  ex : ∃ (f : Addr) (fd : FuncData), FnG P w K mg base k f fd ps (spG K ps.length G) ∧ mg x = some (.ref f) ∧ PySem.W.keepIn K (.ref f) = true ∧ Binds K fd ps [] ∧ ∀ q ∈ kbs, KB K fd ps q.1 q.2.1 q.2.2
variable [FE] in
theorem cal_of {P : Program} {w : World} {K : PySem.W.Frag} {mg : Str → Option Value} {base : Heap} {k : Nat} {x qual : Str} {st : Stmt} {f : Addr} {fd : FuncData} {ps : List Str} {kbs : List (List Str × Nat × List Nat)} {G : List Arg → RG} (Fd : Fun K x qual st f fd) (hm : mg x = some (.ref f))
    (h : FnG P w K mg base k f fd ps (spG K ps.length G))
    (hb : ∀ (kV doc pm : Value) (an : Option Addr) (cdv ct : Value) (us : List Value), us.length = ps.length → bindArgs (PySem.W.fnOf x qual (defArgs st) (defBody st) (defScope st) .none kV doc pm an cdv ct) ⟨us, []⟩ = pure (ps.zip us))
    (hk : ∀ q ∈ kbs, ∀ (kV doc pm : Value) (an : Option Addr) (cdv ct : Value) (us ws : List Value), us.length = q.2.1 → ws.length = q.1.length → bindArgs (PySem.W.fnOf x qual (defArgs st) (defBody st) (defScope st) .none kV doc pm an cdv ct) ⟨us, q.1.zip ws⟩ = pure (ps.zip (pick q.2.2 (us ++ ws)))) :
    Cal P w K mg base k x ps kbs G := by
  refine ⟨f, fd, h, hm, Fd.kp, Fd.binds hb, fun q hq => ?_⟩
  obtain ⟨oc, od, kV, doc, pm, an, cdv, ct, osl, rfl, lk, hcd⟩ := Fd.ex
  exact fun s us ws _ h1 h2 => .of_eq (hk q hq kV doc pm an cdv ct us ws h1 h2)
theorem kb_nil {P : List Str × Nat × List Nat → Prop} : ∀ q ∈ ([] : List (List Str × Nat × List Nat)), P q := fun q h => by cases h
theorem rm_mono {j k : Nat} {A : Around} (r : RoomG k A) (h : Nat.ble j k = true) : RoomG j A := r.mono (Nat.le_of_ble_eq_true h)
/-! ### the tests of a comprehension that has none; what the top has read -/
def yesT : TF := fun ρ => .ok true ρ
variable [FE] in
theorem pts_non {X : Cx} {π : Nat → Addr} {W : WX} : PTs X [] (tT X.K π W yesT) := ⟨fun pins s σ H Q I ⟨c, F, ρ, S, P⟩ => pts_nil.run pins s σ H Q I (P true F H (Same.refl _) S rfl)⟩
theorem loose_int {q : Program} {lv : List (Str × PySem.W.WData)} {mg : Str → Option Value} {h : Heap} {x : Str} {i : Int} (X : PySem.W.XL q lv mg h) (hm : (x, PySem.W.WData.int i) ∈ lv) : ∃ t : Tok, mg x = some (.int i t) := by
  obtain ⟨v, h1, h2⟩ := X.2.val _ hm
  cases h2
  exact ⟨_, h1⟩
theorem takes_0 {X : Cx} : L2N.Takes X W0 := fun _ _ x => by
  obtain ⟨_, _, _, _, _, _, _, _, _, _, _, _, _, _, _, _, z⟩ := x
  exact z.elim
end FL
/-! FL13: how readings are worked out. -/
namespace FL
open PySem PySem.Spec PyProof.Rows L2

/-- what follows a part, not looked into -/
inductive Hold {α β : Type} (k : α → Rho → R β) : Type where
  | mk : Hold k
def R.bd {α β : Type} (k : α → Rho → R β) (_ : Hold k) (x : R α) : R β := x.bind k
theorem R.bind_bd {α β : Type} (x : R α) (k : α → Rho → R β) : x.bind k = R.bd k .mk x := rfl
theorem R.bd_ok {α β : Type} (k : α → Rho → R β) (h : Hold k) (a : α) (ρ : Rho) : R.bd k h (.ok a ρ) = k a ρ := rfl
def goG {α : Type} (x : RG) (as : List AA) (k : Res → Rho → R α) (ρ : Rho) : R α := match x with
  | .ok r outs => k r (putA as outs ρ)
  | .exc C fs outs => .exc C fs (putA as outs ρ)
  | .stuck => .stuck
theorem goG_ok {α : Type} (r : Res) (outs : List M) (as : List AA) (k : Res → Rho → R α) (ρ : Rho) : goG (.ok r outs) as k ρ = k r (putA as outs ρ) := rfl
def argG {α : Type} (x : Option (List FL.Arg)) (G : List FL.Arg → RG) (as : List AA) (k : Res → Rho → R α) (ρ : Rho) : R α := match x with
  | some gs => goG (G gs) as k ρ
  | none => .stuck
theorem argG_some {α : Type} (gs : List FL.Arg) (G : List FL.Arg → RG) (as : List AA) (k : Res → Rho → R α) (ρ : Rho) : argG (some gs) G as k ρ = goG (G gs) as k ρ := rfl
theorem callG_eq {α : Type} (n : Nat) (G : List FL.Arg → RG) (f : BF) (k : Res → Rho → R α) (ρ : Rho) : callG n G f k ρ = (f ρ).bind fun as ρ => if okA n as = true then argG (toArgs ρ as) G as k ρ else .stuck := by
  unfold callG argG goG
  congr 1
def endR (as : List FL.Arg) (x : R Fl) : RG := match x with
  | .ok .nx ρ => endG as (.ok (.v .non)) ρ
  | .ok (.rt r) ρ => endG as (.ok r) ρ
  | .exc C fs ρ => endG as (.exc C fs) ρ
  | _ => .stuck
theorem bodyG_eq (l : Nat) (g : SF) (as : List FL.Arg) : bodyG l g as = endR as (g (rho0 l as)) := by
  unfold bodyG endR
  rfl
theorem endR_rt (as : List FL.Arg) (r : Res) (ρ : Rho) : endR as (.ok (.rt r) ρ) = endG as (.ok r) ρ := rfl
theorem endR_nx (as : List FL.Arg) (ρ : Rho) : endR as (.ok .nx ρ) = endG as (.ok (.v .non)) ρ := rfl
/-- behind a statement -/
def nxt (g : SF) (fl : Fl) (ρ : Rho) : R Fl := match fl with
  | .nx => g ρ
  | o => .ok o ρ
theorem seqS_eq (f g : SF) (ρ : Rho) : seqS f g ρ = (f ρ).bind (nxt g) := rfl
theorem nxt_rt (g : SF) (r : Res) (ρ : Rho) : nxt g (.rt r) ρ = .ok (.rt r) ρ := rfl
theorem nxt_bk (g : SF) (ρ : Rho) : nxt g .bk ρ = .ok .bk ρ := rfl
theorem nxt_ct (g : SF) (ρ : Rho) : nxt g .ct ρ = .ok .ct ρ := rfl
/-- a branch -/
def brR {α : Type} (f g : Rho → R α) (b : Bool) (ρ : Rho) : R α := if b = true then f ρ else g ρ
theorem ifS_eq (t : TF) (f g : SF) (ρ : Rho) : ifS t f g ρ = (t ρ).bind (brR f g) := rfl
theorem ifE_eq (t : TF) (f g : EF) (ρ : Rho) : ifE t f g ρ = (t ρ).bind (brR f g) := rfl
theorem brR_t {α : Type} (f g : Rho → R α) (ρ : Rho) : brR f g true ρ = f ρ := rfl
theorem brR_f {α : Type} (f g : Rho → R α) (ρ : Rho) : brR f g false ρ = g ρ := rfl
theorem anT_eq (f g : TF) (ρ : Rho) : anT f g ρ = (f ρ).bind (brR g fun ρ => .ok false ρ) := rfl
theorem orT_eq (f g : TF) (ρ : Rho) : orT f g ρ = (f ρ).bind (brR (fun ρ => .ok true ρ) g) := rfl
theorem anE_eq (f g : EF) (ρ : Rho) : anE f g ρ = (tst f ρ).bind (brR g fun ρ => .ok (.bl false) ρ) := rfl
theorem orE_eq (f g : EF) (ρ : Rho) : orE f g ρ = (tst f ρ).bind (brR (fun ρ => .ok (.bl true) ρ) g) := rfl
theorem brR_dec {α : Type} (f g : Rho → R α) (p : Prop) [Decidable p] (ρ : Rho) : brR f g (decide p) ρ = if p then f ρ else g ρ := by
  unfold brR
  by_cases h : p <;> simp [h]
def isB : D → Option Bool
  | .bl b => some b
  | _ => none
theorem tst_eq (f : EF) (ρ : Rho) : tst f ρ = (f ρ).bind fun x ρ => R.of (isB x) ρ := by
  unfold tst isB
  rfl
theorem isB_bl (b : Bool) : isB (.bl b) = some b := rfl
theorem eqA_int (a b : Int) : eqA (.int a) (.int b) = some (.bl (decide (a = b))) := by
  have e : (a == b) = decide (a = b) := by
    by_cases h : a = b <;> simp [h]
  rw [← e]
  rfl
theorem neA_int (a b : Int) : neA (.int a) (.int b) = some (.bl (!decide (a = b))) := by
  have e : (a == b) = decide (a = b) := by
    by_cases h : a = b <;> simp [h]
  rw [← e]
  rfl
theorem eqA_str (a b : Str) : eqA (.str a) (.str b) = some (.bl (decide (a = b))) := rfl
theorem neA_str (a b : Str) : neA (.str a) (.str b) = some (.bl (!decide (a = b))) := rfl
theorem ltD_int (a b : Int) : ltD (.int a) (.int b) = some (.bl (decide (a < b))) := rfl
theorem leD_int (a b : Int) : leD (.int a) (.int b) = some (.bl (decide (a ≤ b))) := rfl
theorem gtD_int (a b : Int) : gtD (.int a) (.int b) = some (.bl (decide (b < a))) := rfl
theorem geD_int (a b : Int) : geD (.int a) (.int b) = some (.bl (decide (b ≤ a))) := rfl
theorem addD_int (a b : Int) : addD (.int a) (.int b) = some (.int (a + b)) := rfl
theorem subD_int (a b : Int) : subD (.int a) (.int b) = some (.int (a - b)) := rfl
theorem negD_int (a : Int) : negD (.int a) = some (.int (-a)) := rfl
theorem absC_int (a : Int) : absC [.int a] = some (.int (a.natAbs : Int)) := by
  show some (D.int (if a < 0 then -a else a)) = _
  congr 2
  split <;> omega
theorem intC_int (a : Int) : intC [.int a] = some (.int a) := rfl
theorem maxC_int (a b : Int) : maxC [.int a, .int b] = some (.int (max a b)) := by
  show some (D.int (if b > a then b else a)) = _
  congr 2
  split <;> omega
theorem minC_int (a b : Int) : minC [.int a, .int b] = some (.int (min a b)) := by
  show some (D.int (if b < a then b else a)) = _
  congr 2
  split <;> omega
theorem modD_pos {a b : Int} (h : 0 < b) : modD (.int a) (.int b) = some (.int (a % b)) := by
  have h0 : b ≠ 0 := by omega
  simp only [modD, if_pos h0, Int.fmod_eq_emod_of_nonneg a (Int.le_of_lt h)]
theorem lenC_lst (xs : List D) : lenC [.lst xs] = some (.int xs.length) := rfl
theorem lenC_tup (xs : List D) : lenC [.tup xs] = some (.int xs.length) := rfl
theorem lenC_scr (xs : List Int) : lenC [.scr xs] = some (.int xs.length) := rfl
theorem atI_nat {α : Type} {xs : List α} {i : Int} {a : α} (h0 : 0 ≤ i) (h : xs[i.toNat]? = some a) : atI xs i = some a := by
  unfold atI ixN
  have hl := (List.getElem?_eq_some_iff.mp h).1
  rw [if_pos h0, if_pos (by omega)]
  exact h
/-! ### loops -/
theorem forL_cons (ks : List Nat) (g : GF) (b : SF) (d : D) (ds : List D) (ρ : Rho) : forL ks g b (d :: ds) ρ = bindO (g d ρ) fun ρ => (b ρ).bind (aftF ks (forL ks g b ds)) := rfl
/-- a loop that keeps an invariant, or returns -/
theorem forL_inv {ks : List Nat} {g : GF} {b : SF} (I : Nat → Rho → Prop) (Z : Res → Rho → Prop) : ∀ (ds : List D) (n : Nat) (ρ : Rho), I n ρ →
    (∀ (i : Nat) (d : D) (ρ : Rho), I (n + i) ρ → ds[i]? = some d → ∃ ρ1, g d ρ = some ρ1 ∧ ((∃ ρ2, (b ρ1 = .ok .nx ρ2 ∨ b ρ1 = .ok .ct ρ2) ∧ I (n + i + 1) (wipeR ks ρ2)) ∨ ∃ r ρ2, b ρ1 = .ok (.rt r) ρ2 ∧ Z r ρ2)) →
    (∃ ρ', forL ks g b ds ρ = .ok .nx ρ' ∧ I (n + ds.length) ρ') ∨ ∃ r ρ', forL ks g b ds ρ = .ok (.rt r) ρ' ∧ Z r ρ'
  | [], n, ρ, h, _ => .inl ⟨ρ, rfl, h⟩
  | d :: ds, n, ρ, h, st => by
    obtain ⟨ρ1, e1, z⟩ := st 0 d ρ h rfl
    rw [forL_cons, e1]
    show (∃ ρ', (b ρ1).bind _ = _ ∧ _) ∨ ∃ r ρ', (b ρ1).bind _ = _ ∧ _
    rcases z with ⟨ρ2, e2, hi⟩ | ⟨r, ρ2, e2, hz⟩
    · have key := forL_inv I Z ds (n + 1) (wipeR ks ρ2) hi fun i d' ρ' h1 h2 => by
        have := st (i + 1) d' ρ' (by rw [show n + (i + 1) = n + 1 + i by omega]; exact h1) (by simpa using h2)
        rw [show n + (i + 1) + 1 = n + 1 + i + 1 by omega] at this
        exact this
      rw [show n + (d :: ds).length = n + 1 + ds.length by rw [List.length_cons]; omega]
      rcases e2 with e2 | e2 <;> (rw [e2]; exact key)
    · rw [e2]
      exact .inr ⟨r, ρ2, rfl, hz⟩
/-- a loop without a return -/
theorem forL_nx {ks : List Nat} {g : GF} {b : SF} (I : Nat → Rho → Prop) (ds : List D) (ρ : Rho) (h : I 0 ρ)
    (st : ∀ (i : Nat) (d : D) (ρ : Rho), I i ρ → ds[i]? = some d → ∃ ρ1, g d ρ = some ρ1 ∧ ∃ ρ2, b ρ1 = .ok .nx ρ2 ∧ I (i + 1) (wipeR ks ρ2)) : ∃ ρ', forL ks g b ds ρ = .ok .nx ρ' ∧ I ds.length ρ' := by
  rcases forL_inv (ks := ks) (g := g) (b := b) I (fun _ _ => False) ds 0 ρ h fun i d ρ h1 h2 => by
    rw [Nat.zero_add] at h1 ⊢
    obtain ⟨ρ1, e1, ρ2, e2, hi⟩ := st i d ρ h1 h2
    exact ⟨ρ1, e1, .inl ⟨ρ2, .inl e2, hi⟩⟩ with ⟨ρ', e, hi⟩ | ⟨_, _, _, z⟩
  · rw [Nat.zero_add] at hi
    exact ⟨ρ', e, hi⟩
  · exact z.elim
theorem forS_eq (ks : List Nat) (it : IF) (g : GF) (b : SF) (ρ : Rho) : forS ks it g b ρ = (it ρ).bind fun ds ρ => forL ks g b ds ρ := rfl
/-- a comprehension whose turns keep the state: filter and map -/
theorem cmpL_pure {ks : List Nat} {g : GF} {t : TF} {f : EF} (I : Rho → Prop) (tb : D → Bool) (fx : D → D) : ∀ (ds acc : List D) (ρ : Rho), acc.length + ds.length ≤ 100000 → I ρ →
    (∀ d ∈ ds, ∀ ρ, I ρ → ∃ ρ1 ρ2, g d ρ = some ρ1 ∧ t ρ1 = .ok (tb d) ρ2 ∧ (tb d = false → I (wipeR ks ρ2)) ∧ (tb d = true → ∃ ρ3, f ρ2 = .ok (fx d) ρ3 ∧ I (wipeR ks ρ3))) →
    ∃ ρ', cmpL ks g t f acc ds ρ = .ok (.lst (acc ++ (ds.filter tb).map fx)) ρ' ∧ I ρ'
  | [], acc, ρ, hl, h, _ => ⟨ρ, by rw [List.filter_nil, List.map_nil, List.append_nil]; rfl, h⟩
  | d :: ds, acc, ρ, hl, h, st => by
    rw [List.length_cons] at hl
    obtain ⟨ρ1, ρ2, e1, e2, h1, h2⟩ := st d List.mem_cons_self ρ h
    unfold cmpL
    rw [e1]
    cases hb : tb d with
    | false =>
      obtain ⟨ρ', e, h'⟩ := cmpL_pure I tb fx ds acc _ (by omega) (h1 hb) fun d' hd => st d' (List.mem_cons_of_mem _ hd)
      refine ⟨ρ', ?_, h'⟩
      show (noX (t ρ1)).bind _ = _
      rw [e2, hb, List.filter_cons, hb, if_neg Bool.false_ne_true]
      exact e
    | true =>
      obtain ⟨ρ3, e3, h3⟩ := h2 hb
      obtain ⟨ρ', e, h'⟩ := cmpL_pure I tb fx ds (acc ++ [fx d]) _ (by rw [List.length_append, List.length_singleton]; omega) h3 fun d' hd => st d' (List.mem_cons_of_mem _ hd)
      refine ⟨ρ', ?_, h'⟩
      show (noX (t ρ1)).bind _ = _
      rw [e2, hb, List.filter_cons, hb, if_pos rfl, List.map_cons]
      show (noX (f ρ2)).bind _ = _
      rw [e3]
      show (if small (acc.length + 1) = true then _ else _) = _
      rw [if_pos (show small (acc.length + 1) = true from decide_eq_true (by omega)), e]
      simp
theorem rgOk_of {i : Int} (h : -4000000000000000000 ≤ i) (h' : i ≤ 4000000000000000000) : rgOk i = true := by
  exact decide_eq_true (by omega)
end FL
/-! FL14: enumerate, of lists and of tuples. -/
namespace FL
open PySem PySem.Spec PyProof.Rows L2 AutoSeq1
section
variable {prog : Program} {w : World} {A : Around} {E : Value → Shared → Prop} {s : Shared}
end
/-! ### the reading -/
section
variable {K : PySem.W.Frag} {F : Hp} {q : Addr} {xs : List V} {ds : List D}
end
section
variable [FE]
variable {X : Cx} {π : Nat → Addr} {W : WX} {e : Expr} {pos p tpos : Pos} {elts : List Expr} {kk : Nat} {x : Str}
end
end FL
/-! FL15: new lists of our own, comprehensions stored on one line. -/
namespace FL
open PySem PySem.Spec PyProof.Rows L2
section
variable [FE]
variable {X : Cx} {π : Nat → Addr} {W : WX}
end
section
variable [FE]
variable {X : Cx} {π : Nat → Addr} {W : WX} {a b e : Expr} {es : List Expr} {pos p p2 : Pos} {x : Str}
def litM (f : Rho → R (List D)) : Rho → R M := fun ρ => (f ρ).bind fun ds ρ => match ds with
  | [d] => (R.of (seqD d) ρ).bind fun xs ρ => .ok (.lst xs) ρ
  | _ => .stuck
/-- x + e, both lists, x our own -/
def catO (i : Nat) (f : EF) : Rho → R M := fun ρ => match getM i ρ with
  | none => .stuck
  | some _ => (f ρ).bind fun d ρ => match getM i ρ, d with
    | some (ds, _), .lst es => if small (ds.length + es.length) = true then .ok (.lst (ds ++ es)) ρ else .stuck
    | _, _ => .stuck
/-- a + b, both lists, a new list of our own -/
def catM (f g : EF) : Rho → R M := fun ρ => (f ρ).bind fun d ρ => (g ρ).bind fun e ρ => match d, e with
  | .lst ds, .lst es => if small (ds.length + es.length) = true then .ok (.lst (ds ++ es)) ρ else .stuck
  | _, _ => .stuck
/-- x[a:b] of our own list, as data -/
def slM (i : Nat) (g h : Rho → R (Option Int)) : EF := fun ρ => match getM i ρ with
  | none => .stuck
  | some _ => (g ρ).bind fun l ρ => (h ρ).bind fun u ρ => match getM i ρ with
    | some (ds, _) => .ok (.lst (cut ds l u)) ρ
    | none => .stuck
end
end FL
/-! FL16: sorted of whole numbers. -/
namespace FL
open PySem PySem.Spec PyProof.Rows L2
def asInts : List D → Option (List Int)
  | [] => some []
  | .int i :: ds => (asInts ds).map (i :: ·)
  | _ :: _ => none
end FL
/-! FL17: set of a list of whole numbers, and sorted of such a set. -/
namespace FL
open PySem PySem.Spec PyProof.Rows L2
section
variable {P : Program} {w : World} {A : Around} {E : Value → Shared → Prop} {s : Shared}
end
end FL
/-! FL18: sorted(set(x)), x a list of fewer than 64 whole numbers. -/
namespace FL
open PySem PySem.Spec PyProof.Rows L2
section
variable [FE]
variable {X : Cx} {π : Nat → Addr} {W : WX}
end
end FL
/-! FL19: index and count of a list of flat things. -/
namespace FL
open PySem PySem.Spec PyProof.Rows L2

section
variable [FE]
variable {K : PySem.W.Frag} {F : Hp}
end
section
variable [FE]
variable {X : Cx} {π : Nat → Addr} {W : WX} {a b : Expr} {p apos cpos : Pos} {x : Str} {r : V → List V → Hp → VK → Prop} {o : List D → D → Option D}
end
end FL
/-! FL20: the program's own exception classes: made, raised. -/
namespace FL
open PySem PySem.Spec PyProof.Rows L2 PySem.W PySem.HandSPX

/-- what is said of a built-in base -/
structure TlF (B nw ini : String) (tl : List Value) : Prop where
  base : ExcBaseFacts B nw ini tl
  st : StoreFacts B tl "object.__setattr__" "object"
theorem tlV : TlF "ValueError" "ValueError.__new__" "ValueError.__init__" [.type "ValueError", .type "Exception", .type "BaseException", .type "object"] := ⟨F.excBase_ValueError, F.store_ValueError⟩
theorem tlL : TlF "LookupError" "LookupError.__new__" "LookupError.__init__" [.type "LookupError", .type "Exception", .type "BaseException", .type "object"] := ⟨F.excBase_LookupError, F.store_LookupError⟩
theorem tlA : TlF "ArithmeticError" "ArithmeticError.__new__" "ArithmeticError.__init__" [.type "ArithmeticError", .type "Exception", .type "BaseException", .type "object"] := ⟨F.excBase_ArithmeticError, F.store_ArithmeticError⟩

/-- what the written part says of an own class with an __init__ that stores its arguments under fs -/
structure ExcK (K : Frag) (C fI : Addr) (nw : String) (tl : List Value) (fs : List Str) : Prop where
  q : excInitIn K C tl nw = true
  ov : excOver K C tl = true
  hd : hasDictIn K C = true
  sa : findIn K (.ref C) "__setattr__" = some (some (.builtin "object.__setattr__"))
  ex : subIn K (.ref C) (.type "BaseException") = some true
  ty : typeIn K (.ref C) = some (.type "type")
  kp : keepIn K (.ref C) = true
  ini : findIn K (.ref C) "__init__" = some (some (.ref fI))
  fn : typeIn K (.ref fI) = some (.type "function")
  tk : ∀ f ∈ fs, takerIn K C f = some none
section
variable {prog : Program} {w : World} {A : Around} {E : Value → Shared → Prop} {R : Result → Shared → Prop} {K : Frag} {C fI x t0 dx : Addr} {B nw ini : String} {tl : List Value} {fs : List Str} {name : Str} {tk : Tok} {v : Value} {hp : Heap} {g : Array GenState} {dr : Drawn} {tn : Nat} {os : OsState}
/-- the first field -/
theorem put_first (Tl : TlF B nw ini tl) (T : ExcK K C fI nw tl fs) (hf : name ∈ fs) (X : K.In hp) (hx : hp.get? x = some (excO C t0))
    (hq : ∀ h' tk' dx, (∀ b o, b ≠ x → hp.get? b = some o → h'.get? b = some o) → hp.objs.size ≤ dx → dx ≠ x → h'.get? x = some { excO C t0 with dict := some dx } → h'.Ns1 dx (fun y => if y = name then some v else none) → R (.ok (.ret .none)) ⟨h', g, dr, tk', os⟩) :
    codeAny (model prog w) A (.call (.builtin "object.__setattr__") ⟨[.ref x, .str name tk, v], []⟩) R ⟨hp, g, dr, tn, os⟩ := by
  obtain ⟨cd, hc, hd'⟩ := any_some T.hd
  have hxs : x < hp.objs.size := Heap.lt_size hx
  refine osa_openX (s := ⟨hp, g, dr, tn, os⟩) (od := none) Tl.st X ⟨hx, rfl, rfl, trivial⟩ T.ov (T.tk name hf) fun b => ?_
  refine wpAny_bind (wpAny_pure (wpAny_bind (instanceDict_exc (t := t0) (c2 := .none) hx (looks_clsIn X hc) hd' ?_)))
  show wpAny _ _ (Builtin.ObjectAttr.storeInDict hp.objs.size (.str name tk) name v) _ _ _
  have e1 : ((hp.push (dictOf [] 0)).update x fun o => { o with dict := some hp.objs.size }).get? hp.objs.size = some (dictOf [] 0) :=
    (Heap.get?_update_ne _ _ _ _ (Nat.ne_of_gt hxs)).trans (Heap.get?_push_size _ rfl)
  refine store_in_new ⟨_, #[], 0, e1, rfl, fun e he => absurd he (by simp), fun _ => rfl⟩ fun h' tk' hn hs => ?_
  refine hq h' tk' hp.objs.size (fun b o hb ho => ?_) (Nat.le_refl _) (Nat.ne_of_gt hxs) ?_ hn
  · exact (hs.2 b (Nat.ne_of_lt (Heap.lt_size ho))).trans ((Heap.get?_update_ne _ _ _ _ hb).trans (Heap.get?_push_of_some _ ho))
  · exact (hs.2 x (Nat.ne_of_lt hxs)).trans (Heap.get?_update_self _ (Heap.get?_push_of_some _ hx) rfl)
/-- a further field -/
theorem put_more {m0 : Str → Option Value} {nl : List Str} (Tl : TlF B nw ini tl) (T : ExcK K C fI nw tl fs) (hf : name ∈ fs) (X : K.In hp) (hx : hp.get? x = some { excO C t0 with dict := some dx }) (hns : hp.Ns1 dx m0) (hw : Within m0 nl) (hz : nl.length ≤ 1000)
    (hq : ∀ h' tk', (∀ b o, b ≠ dx → hp.get? b = some o → h'.get? b = some o) → h'.Ns1 dx (fun y => if y = name then some v else m0 y) → R (.ok (.ret .none)) ⟨h', g, dr, tk', os⟩) :
    codeAny (model prog w) A (.call (.builtin "object.__setattr__") ⟨[.ref x, .str name tk, v], []⟩) R ⟨hp, g, dr, tn, os⟩ := by
  obtain ⟨cd, hc, hd'⟩ := any_some T.hd
  obtain ⟨oD, _, _, hoD, _, _⟩ := hns.count hw
  refine osa_openX (s := ⟨hp, g, dr, tn, os⟩) (od := some oD) Tl.st X ⟨hx, rfl, rfl, hoD⟩ T.ov (T.tk name hf) fun b => ?_
  refine wpAny_bind (wpAny_pure (wpAny_bind (wpAny_bind (wpAny_loadPart hx (wpAny_bind ((looks_clsIn X hc).here ?_))))))
  rw [hd']
  refine wpAny_pure (a := some dx) ?_
  exact PySem.OEX.store_in_old hns hw hz fun h' tk' hn hs => hq h' tk' (fun b o hb ho => (hs.2 b hb).trans ho) hn
end
/-! ### __init__ -/
/-- def __init__(self, f): self.f = f -/
def iA1 (f : Str) (p1 p2 : Pos) : Arguments := { posonlyargs := [], args := [{ arg := "self", annotation := none, pos := p1 }, { arg := f, annotation := none, pos := p2 }], vararg := none, kwonlyargs := [], kw_defaults := [], kwarg := none, defaults := [] }
def iB1 (f : Str) (q1 q2 q3 q4 : Pos) : List Stmt := [.Assign [.Attribute (.Name "self" q1) f q2] (.Name f q3) q4]
def iS1 (f : Str) : Scope := { kind := .function, names := [(PySem.Str.ofString "self", .local), (f, .local)], isGenerator := false, isCoroutine := false, more := [] }
/-- def __init__(self, f, g): self.f = f; self.g = g -/
def iA2 (f g : Str) (p1 p2 p3 : Pos) : Arguments := { posonlyargs := [], args := [{ arg := "self", annotation := none, pos := p1 }, { arg := f, annotation := none, pos := p2 }, { arg := g, annotation := none, pos := p3 }], vararg := none, kwonlyargs := [], kw_defaults := [], kwarg := none, defaults := [] }
def iB2 (f g : Str) (q1 q2 q3 q4 q5 q6 q7 q8 : Pos) : List Stmt := [.Assign [.Attribute (.Name "self" q1) f q2] (.Name f q3) q4, .Assign [.Attribute (.Name "self" q5) g q6] (.Name g q7) q8]
def iS2 (f g : Str) : Scope := { kind := .function, names := [(PySem.Str.ofString "self", .local), (f, .local), (g, .local)], isGenerator := false, isCoroutine := false, more := [] }
/-- what __init__ leaves of a fresh exception at x -/
structure IniE (h h' : Heap) (x C dx t1 : Addr) (m : Str → Option Value) : Prop where
  keep : ∀ b o, b ≠ x → h.get? b = some o → h'.get? b = some o
  obj : h'.get? x = some { excO C t1 with dict := some dx }
  big : h.objs.size ≤ dx
  ne : dx ≠ x
  ns : h'.Ns1 dx m
/-- __init__ at fI stores its arguments under fs -/
def IniOk (K : Frag) (C fI : Addr) (fs : List Str) : Prop := ∀ {prog : Program} {w : World} {A : Around} {R : Result → Shared → Prop} {s : Shared} {x t0 : Addr} {vs : List Value}, vs.length = fs.length → K.In s.heap → s.heap.NoLimit → s.heap.get? x = some (excO C t0) → K.lookup x = none → A.depth < recursionLimit →
  (∀ h' tk dx m, IniE s.heap h' x C dx t0 m → (∀ y, m y = (fs.zip vs).lookup y) → R (.ok (.ret .none)) { s with heap := h', toks := tk }) → codeAny (model prog w) A (.call (.ref fI) ⟨.ref x :: vs, []⟩) R s
theorem lkC {M : Model} {s : Shared} {name : Str} {scope : Scope} {L a : Addr} {cd : Value} {m : Str → Option Value} {x : Str} {pos : Pos} {v : Value} {Q : Value → Shared → Prop} {A : Around} {E : Value → Shared → Prop} (hn : s.heap.Ns L m) (hv : m x = some v) (h : Q v s)
    (hk : scope.kind = .function := by rfl) (hl : (envOfC name scope L a cd).kindOf x = some .local := by rfl) (hd : (x == ("__debug__" : Str)) = false := by decide) :
    wpAny M A (eval (.Name x pos) (envOfC name scope L a cd)) Q E s := wpAny_Name (wpAny_loadName_local hk hl hn hv h) hd
section
variable {K : Frag} {C fI : Addr} {B nw ini : String} {tl : List Value} {f g q0 : Str} {oc : Value} {od : Option Addr} {doc pm : Value} {an : Option Addr} {cdv ct : Value} {osl : Array (Option Value)} {p1 p2 p3 q1 q2 q3 q4 q5 q6 q7 q8 : Pos}
theorem ini_one (Tl : TlF B nw ini tl) (T : ExcK K C fI nw tl [f]) (ho : K.lookup fI = some ⟨oc, od, .func (fnOf "__init__" q0 (iA1 f p1 p2) (iB1 f q1 q2 q3 q4) (iS1 f) .none .none doc pm an cdv ct), osl⟩) (hcd : codeIn K cdv q0 = true)
    (hb : ∀ (x : Addr) (v : Value), bindArgs (fnOf "__init__" q0 (iA1 f p1 p2) (iB1 f q1 q2 q3 q4) (iS1 f) .none .none doc pm an cdv ct) ⟨[.ref x, v], []⟩ = pure [(("self" : Str), .ref x), (f, v)])
    (nf : f ≠ "self") (nd : (f == ("__debug__" : Str)) = false) : IniOk K C fI [f] := by
  intro prog w A R s x t0 vs hl X hlim hx hnx hroom hq
  match vs, hl with
  | [v], _ =>
  have f0 : (f == ("self" : Str)) = false := by simpa using nf
  have kf : List.lookup f (iS1 f).names = some .local := by simp [iS1, List.lookup, f0]
  have ks : List.lookup ("self" : Str) (iS1 f).names = some .local := rfl
  refine Att.call_fn (binds := [("self", .ref x), (f, v)]) X hlim ho hcd hroom (BindsTo.of_eq (hb x v)) ?_ (fun s₁ IC => ?_) rfl rfl rfl
  · rw [List.all_cons, List.all_cons, kf, ks]
    rfl
  obtain ⟨h₁, tk₁, rfl⟩ := IC.toInCall.same
  have k : ∀ b o, s.heap.get? b = some o → h₁.get? b = some o := IC.toInCall.keep
  have hn := IC.toInCall.ns
  have nd2 : ([("self" : Str), f]).Nodup := by simp [Ne.symm nf]
  have mf : bindL (envOfC q0 (iS1 f) s.heap.objs.size fI cdv).kindOf ([("self" : Str), f].zip [.ref x, v]) (fun _ => none) f = some v := bindL_get (i := 1) nd2 rfl rfl kf
  have ms : bindL (envOfC q0 (iS1 f) s.heap.objs.size fI cdv).kindOf ([("self" : Str), f].zip [.ref x, v]) (fun _ => none) "self" = some (.ref x) := bindL_get (i := 0) nd2 rfl rfl ks
  have X₁ : K.In h₁ := X.keeps k
  have hx₁ := k _ _ hx
  show wpAny _ _ (execs _ _) _ _ _
  refine wpAny_execs_cons (plainObj_wpAny_Assign_Attribute ?_)
  refine lkC (v := v) hn mf (lkC (v := .ref x) hn ms ?_ rfl ks) rfl kf nd
  refine set_plain X₁ (ox := excO C t0) (od := none) ⟨hx₁, rfl, rfl, trivial⟩ T.sa ?_
  refine put_first Tl T (List.mem_singleton.mpr rfl) X₁ hx₁ fun h₃ tk₃ dx k₃ dn dne hx₃ hn₃ => ?_
  show wpAny _ _ (execs _ _) _ _ _
  have z : s.heap.objs.size < h₁.objs.size := hn.lt
  refine wpAny_execs_nil (hq h₃ tk₃ dx _ ⟨fun b o hb e => k₃ b o hb (k b o e), hx₃, Nat.le_of_lt (Nat.lt_of_lt_of_le z dn), dne, hn₃⟩ fun y => ?_)
  show _ = List.lookup y [(f, v)]
  by_cases e : y = f
  · subst e
    rw [if_pos rfl]
    simp [List.lookup]
  · have e2 : (y == f) = false := by simpa using e
    rw [if_neg e]
    simp [List.lookup, e2]
theorem ini_two (Tl : TlF B nw ini tl) (T : ExcK K C fI nw tl [f, g]) (ho : K.lookup fI = some ⟨oc, od, .func (fnOf "__init__" q0 (iA2 f g p1 p2 p3) (iB2 f g q1 q2 q3 q4 q5 q6 q7 q8) (iS2 f g) .none .none doc pm an cdv ct), osl⟩) (hcd : codeIn K cdv q0 = true)
    (hb : ∀ (x : Addr) (v u : Value), bindArgs (fnOf "__init__" q0 (iA2 f g p1 p2 p3) (iB2 f g q1 q2 q3 q4 q5 q6 q7 q8) (iS2 f g) .none .none doc pm an cdv ct) ⟨[.ref x, v, u], []⟩ = pure [(("self" : Str), .ref x), (f, v), (g, u)])
    (nf : f ≠ "self") (ng : g ≠ "self") (nfg : f ≠ g) (nd : (f == ("__debug__" : Str)) = false) (nd' : (g == ("__debug__" : Str)) = false) : IniOk K C fI [f, g] := by
  intro prog w A R s x t0 vs hl X hlim hx hnx hroom hq
  match vs, hl with
  | [v, u], _ =>
  have f0 : (f == ("self" : Str)) = false := by simpa using nf
  have g0 : (g == ("self" : Str)) = false := by simpa using ng
  have g1 : (g == f) = false := by simpa using Ne.symm nfg
  have kf : List.lookup f (iS2 f g).names = some .local := by simp [iS2, List.lookup, f0]
  have kg : List.lookup g (iS2 f g).names = some .local := by simp [iS2, List.lookup, g0, g1]
  have ks : List.lookup ("self" : Str) (iS2 f g).names = some .local := rfl
  refine Att.call_fn (binds := [("self", .ref x), (f, v), (g, u)]) X hlim ho hcd hroom (BindsTo.of_eq (hb x v u)) ?_ (fun s₁ IC => ?_) rfl rfl rfl
  · rw [List.all_cons, List.all_cons, List.all_cons, kf, kg, ks]
    rfl
  obtain ⟨h₁, tk₁, rfl⟩ := IC.toInCall.same
  have k : ∀ b o, s.heap.get? b = some o → h₁.get? b = some o := IC.toInCall.keep
  have hn := IC.toInCall.ns
  have nd2 : ([("self" : Str), f, g]).Nodup := by simp [Ne.symm nf, Ne.symm ng, nfg]
  have mf : bindL (envOfC q0 (iS2 f g) s.heap.objs.size fI cdv).kindOf ([("self" : Str), f, g].zip [.ref x, v, u]) (fun _ => none) f = some v := bindL_get (i := 1) nd2 rfl rfl kf
  have mg : bindL (envOfC q0 (iS2 f g) s.heap.objs.size fI cdv).kindOf ([("self" : Str), f, g].zip [.ref x, v, u]) (fun _ => none) g = some u := bindL_get (i := 2) nd2 rfl rfl kg
  have ms : bindL (envOfC q0 (iS2 f g) s.heap.objs.size fI cdv).kindOf ([("self" : Str), f, g].zip [.ref x, v, u]) (fun _ => none) "self" = some (.ref x) := bindL_get (i := 0) nd2 rfl rfl ks
  have X₁ : K.In h₁ := X.keeps k
  have hx₁ := k _ _ hx
  have z : s.heap.objs.size < h₁.objs.size := hn.lt
  show wpAny _ _ (execs _ _) _ _ _
  refine wpAny_execs_cons (plainObj_wpAny_Assign_Attribute ?_)
  refine lkC (v := v) hn mf (lkC (v := .ref x) hn ms ?_ rfl ks) rfl kf nd
  refine set_plain X₁ (ox := excO C t0) (od := none) ⟨hx₁, rfl, rfl, trivial⟩ T.sa ?_
  refine put_first Tl T (List.mem_cons_self ..) X₁ hx₁ fun h₃ tk₃ dx k₃ dn dne hx₃ hn₃ => ?_
  have nL : s.heap.objs.size ≠ x := Nat.ne_of_gt (Heap.lt_size hx)
  have hn' : h₃.Ns s.heap.objs.size _ := hn.at fun o e => k₃ _ o nL e
  have X₃ : K.In h₃ := fun a o e => k₃ a o (fun z => by rw [z, hnx] at e; cases e) (X₁ a o e)
  obtain ⟨oD, esD, epD, hoD, hdD, _⟩ := id hn₃
  show wpAny _ _ (execs _ _) _ _ _
  refine wpAny_execs_cons (plainObj_wpAny_Assign_Attribute ?_)
  refine lkC (v := u) hn' mg (lkC (v := .ref x) hn' ms ?_ rfl ks) rfl kg nd'
  refine set_plain X₃ (ox := { excO C t0 with dict := some dx }) (od := some oD) ⟨hx₃, rfl, rfl, hoD⟩ T.sa ?_
  refine put_more Tl T (List.mem_cons_of_mem _ (List.mem_cons_self ..)) X₃ hx₃ hn₃ (nl := [f]) (fun y hy => ?_) (by simp) fun h₅ tk₅ k₅ hn₅ => ?_
  · by_cases e : y = f
    · rw [e]
      exact List.mem_singleton.mpr rfl
    · rw [if_neg e] at hy
      exact absurd rfl hy
  show wpAny _ _ (execs _ _) _ _ _
  refine wpAny_execs_nil (hq h₅ tk₅ dx _ ⟨fun b o hb e => k₅ b o ?_ (k₃ b o hb (k b o e)), k₅ _ _ (Ne.symm dne) hx₃, Nat.le_of_lt (Nat.lt_of_lt_of_le z dn), dne, hn₅⟩ fun y => ?_)
  · exact Nat.ne_of_lt (Nat.lt_of_lt_of_le (Heap.lt_size (k b o e)) dn)
  show _ = List.lookup y [(f, v), (g, u)]
  by_cases e : y = g
  · subst e
    rw [if_pos rfl]
    simp [List.lookup, g1]
  · have e2 : (y == g) = false := by simpa using e
    rw [if_neg e]
    by_cases e' : y = f
    · subst e'
      rw [if_pos rfl]
      simp [List.lookup]
    · have e3 : (y == f) = false := by simpa using e'
      rw [if_neg e']
      simp [List.lookup, e2, e3]
end
/-- an exception of the class at C, made -/
structure MadeE (h h' : Heap) (e C d : Addr) (m : Str → Option Value) : Prop where
  keep : ∀ b o, h.get? b = some o → h'.get? b = some o
  new : h.objs.size ≤ e
  obj : ∃ oe vs, h'.get? e = some oe ∧ oe.cls = .ref C ∧ oe.dict = some d ∧ oe.data = .fields vs ∧ vs[1]? = some .none ∧ vs[2]? = some .none
  big : h.objs.size ≤ d
  ne : d ≠ e
  ns : h'.Ns1 d m
section
variable {prog : Program} {w : World} {A : Around} {E : Value → Shared → Prop} {R : Result → Shared → Prop} {s : Shared} {K : Frag} {C fI : Addr} {B nw ini : String} {tl : List Value} {fs : List Str}
theorem exc_made (Tl : TlF B nw ini tl) (T : ExcK K C fI nw tl fs) (In : IniOk K C fI fs) {us : List Value} (hl : us.length = fs.length) (hz : fs.length ≤ 100) (X : K.In s.heap) (hlim : s.heap.NoLimit) (hroom : A.depth + 1 < recursionLimit)
    (hq : ∀ h' tk e d m, MadeE s.heap h' e C d m → (∀ y, m y = (fs.zip us).lookup y) → R (.ok (.ret (.ref e))) { s with heap := h', toks := tk }) :
    codeAny (model prog w) A (.call (.ref C) ⟨us, []⟩) R s := by
  obtain ⟨nm, N, qn, bs, bm, hdct, sn, sub, ab, col, dd, k0, k1, k2, k3, k5, hC, hT⟩ := excInit_of X T.q
  obtain ⟨hp, g, dr, tk, os⟩ := s
  have k : ∀ b o, hp.get? b = some o → ((hp.push (kdv_tup us)).push (excO C hp.objs.size)).get? b = some o := fun b o e => Heap.get?_push_of_some _ (Heap.get?_push_of_some _ e)
  have hget : ((hp.push (kdv_tup us)).push (excO C hp.objs.size)).get? (hp.objs.size + 1) = some (excO C hp.objs.size) := by heap_get
  have hnx : K.lookup (hp.objs.size + 1) = none := by
    cases e : K.lookup (hp.objs.size + 1) with
    | none => rfl
    | some o =>
      have z : hp.get? (hp.objs.size + 1) = some o := X _ _ e
      exact absurd (Nat.lt_of_succ_lt (Heap.lt_size z)) (Nat.lt_irrefl _)
  refine call_own Tl.base hT hC (looks_findIn X T.ini) (fun self => bind_fn X self T.fn) (by rw [sizeLine_eq]; omega) ?_
  refine In (s := ⟨(hp.push (kdv_tup us)).push (excO C hp.objs.size), g, dr, tk, os⟩) hl (X.keeps k) (hlim.keeps k) hget hnx ?_ fun h' tk' dx m I hm => ?_
  · show A.depth + 1 < recursionLimit
    exact hroom
  · have old : ∀ b o, hp.get? b = some o → h'.get? b = some o := fun b o e => I.keep b o (Nat.ne_of_lt (Nat.lt_succ_of_lt (Heap.lt_size e))) (k b o e)
    have z : hp.objs.size + 1 + 1 ≤ dx := by
      first
        | (simpa only [Heap.size_push] using I.big)
        | exact I.big
        | (have q := I.big; rw [Heap.size_push, Heap.size_push] at q; exact q)
    exact ⟨rfl, hq h' tk' (hp.objs.size + 1) dx m ⟨old, Nat.le_succ _, ⟨_, _, I.obj, rfl, rfl, rfl, rfl, rfl⟩, Nat.le_trans (Nat.le_trans (Nat.le_succ _) (Nat.le_succ _)) z, I.ne, I.ns⟩ hm⟩
end
theorem relO_zip : ∀ {fs : List Str} {vs : List V} {us : List Value}, Vals vs us → ∀ y, RelO ((fs.zip vs).lookup y) ((fs.zip us).lookup y)
  | [], _, _, _, y => by simp [List.lookup, RelO]
  | f :: fs, _, _, .nil, y => by simp [List.lookup, RelO]
  | f :: fs, v :: vs, u :: us, .cons r rs, y => by
    show RelO (List.lookup y ((f, v) :: fs.zip vs)) (List.lookup y ((f, u) :: fs.zip us))
    by_cases h : (y == f) = true
    · rw [List.lookup_cons, List.lookup_cons, h]
      exact r
    · have h : (y == f) = false := by simpa using h
      rw [List.lookup_cons, List.lookup_cons, h]
      exact relO_zip rs y
section
variable {X : Cx} {C fI : Addr} {B nw ini : String} {tl : List Value} {fs : List Str} {a : Expr} {as : List Expr} {ta : TA} {x : Str} {p pos pos2 : Pos} {k : Nat}
theorem pmk_X (Tl : TlF B nw ini tl) (T : ExcK X.K C fI nw tl fs) (In : IniOk X.K C fI fs) (hz : fs.length ≤ 100) (hr : Room k X.A) (hg : Gl X x) (hm : X.mg x = some (.ref C)) (ha : PA X (a :: as) ta) (hd : (x == ("__debug__" : Str)) = false := by decide)
    (he : starEach (a :: as) X.env = (false, eval a X.env) :: starEach as X.env := by rfl) (hpl : (backTo pos (starEach as X.env)).any (·.1) = false := by rfl) :
    L2N.PMk X (.Call (.Name x p) (a :: as) [] pos) (fun σ H Q => ta σ H fun vs H1 => vs.length = fs.length ∧ ∀ d, H1 d = none → Q (.ref C) (some d) (upd H1 d (.xd (fs.zip vs)))) := by
  intro pins s σ H Q I h
  refine wpAny_Call_Name_kw (ld_glob I hg hm ?_ hd)
  refine PySem.W.callWith_K (h₀ := X.base) I.ok.mod.kin T.kp (thn (ha.run pos pins s σ H _ I h) fun us s1 hh => ?_) he hpl
  obtain ⟨vs, H1, I1, r1, hl, q1⟩ := hh
  refine ⟨I1.kIn, ?_⟩
  show wpAny _ _ (call (.ref C) us) _ _ _
  have hlim := I1.nolimit
  obtain ⟨hp, g, dr, tk, os⟩ := s1
  refine wpAny_call (exc_made Tl T In (by rw [← r1.length]; exact hl) hz I1.kIn hlim (by have := hr.dp; omega) fun h' tk' e d m M hm => ?_)
  show L2N.MkP X pins σ Q (.ref e) ⟨h', g, dr, tk', os⟩
  obtain ⟨oe, fv, hoe, hc, hd, hdat, h1, h2⟩ := M.obj
  have hns := M.ns
  obtain ⟨G', g1, g2⟩ := restrict h' fun b => decide (b ≠ e)
  have gk : ∀ b, b ≠ e → G'.get? b = h'.get? b := fun b hb => g1 b (decide_eq_true hb)
  have ge : G'.get? e = none := g2 e (by simp)
  have old : ∀ b o, hp.get? b = some o → G'.get? b = some o := fun b o q => (gk b (Nat.ne_of_lt (Nat.lt_of_lt_of_le (Heap.lt_size q) M.new))).trans (M.keep b o q)
  have ob : ObjOk X.prog X.w (upd H1 d (.xd (fs.zip vs))) G' d (.xd (fs.zip vs)) :=
    ⟨_, hns.at (fun o q => (gk d M.ne).trans q), fun f => by rw [hm f]; exact relO_zip r1 f⟩
  have J : Inv X pins σ (upd H1 d (.xd (fs.zip vs))) ⟨G', g, dr, tk', os⟩ := I1.laid (t' := tk') old M.big ob
  refine ⟨e, oe, fv, ⟨G', g, dr, tk', os⟩, _, .ref C, some d, rfl, J, fun b o q => ?_, ge, hoe, ⟨hc, hd, fun us eu => by rw [hdat] at eu; cases eu; exact h2⟩, hdat, h1, ?_, rfl, I1.bare, raises_own T.ex T.ty, q1 d (I1.hok.fresh M.big)⟩
  · by_cases hb : b = e
    · have q' : G'.get? b = some o := q
      rw [hb, ge] at q'
      cases q'
    · exact (gk b hb).symm.trans q
  · rw [upd_ne (Ne.symm M.ne)]
    exact I1.hok.fresh M.new
end
/-! ### raise -/
/-- raise n(e, ..) -/
def raiS (n : Str) (fs : List Str) (g : Rho → R (List D)) : SF := fun ρ => (g ρ).bind fun ds ρ => if ds.length = fs.length then .exc n (fs.zip ds) ρ else .stuck
theorem zip_fst {α β : Type} : ∀ {fs : List α} {vs : List β}, vs.length = fs.length → (fs.zip vs).map (·.1) = fs
  | [], [], _ => rfl
  | f :: fs, v :: vs, h => by
    rw [List.zip_cons_cons, List.map_cons, zip_fst (by simpa using h)]
theorem zip_snd {α β : Type} : ∀ {fs : List α} {vs : List β}, vs.length = fs.length → (fs.zip vs).map (·.2) = vs
  | [], [], _ => rfl
  | f :: fs, v :: vs, h => by
    rw [List.zip_cons_cons, List.map_cons, zip_snd (by simpa using h)]
section
variable [FE]
variable {X : Cx} {π : Nat → Addr} {W : WX} {C fI : Addr} {B nw ini : String} {tl : List Value} {fs : List Str} {a : Expr} {as : List Expr} {x : Str} {p pos pos2 : Pos} {k : Nat}
theorem fs_raise {g : Rho → R (List D)} (hc : X.calm = true) (tk : L2N.Takes X W) (Tl : TlF B nw ini tl) (T : ExcK X.K C fI nw tl fs) (In : IniOk X.K C fI fs) (hz : fs.length ≤ 100) (hcl : FE.cl x = C) (hr : Room k X.A) (hg : Gl X x) (hm : X.mg x = some (.ref C)) (ha : PA X (a :: as) (tA X.K π W g)) (hd : (x == ("__debug__" : Str)) = false := by decide)
    (he : starEach (a :: as) X.env = (false, eval a X.env) :: starEach as X.env := by rfl) (hpl : (backTo pos (starEach as X.env)).any (·.1) = false := by rfl) :
    PS X (.Raise (some (.Call (.Name x p) (a :: as) [] pos)) none pos2) (tS X.K π W (raiS x fs g)) :=
  PS.imp (L2N.ps_raise hc tk (pmk_X Tl T In hz hr hg hm ha hd he hpl)) fun D σ H ⟨c, F, ρ, h0, S, P⟩ => by
    refine pos_bind S P fun vs F1 H1 ρ1 ds s1 S1 r1 P1 => ?_
    split at P1
    · rename_i hl
      have hl' : vs.length = fs.length := by rw [Reps.length r1]; exact hl
      refine ⟨hl', fun d hd => ?_⟩
      have gr := Grw.newF (o := .xd (fs.zip vs)) S1.f hd
      have z := P1 (some d) (fs.zip vs) σ _ _ gr.f (S1.grow gr) upd_same (by rw [zip_fst hl', zip_fst hl]) (by rw [zip_snd hl', zip_snd hl]; exact Reps.mono gr.f r1)
      rw [hcl] at z
      exact z
    · exact P1.elim
end
end FL
/-! FL21: where an exception is handled: defs, isinstance, fields. -/
namespace FL
open PySem PySem.Spec PyProof.Rows L2

/-! ### classes -/
structure ExcI (K : PySem.W.Frag) (C : Addr) : Prop where
  cl : (PySem.W.clsIn K C).isSome = true
  ga : PySem.W.findIn K (.ref C) "__getattribute__" = some (some (.builtin "BaseException.__getattribute__"))
  gg : PySem.W.findIn K (.ref C) "__getattr__" = some none
  sb : PySem.W.subIn K (.ref C) (.type "BaseException") = some true
  ha : PySem.W.findIn K (.ref C) "__class__" = some (some (.builtin "object.__class__"))
  hn : PySem.W.specialIn K (.builtin "object.__class__") "__get__" = some (some (.builtin "getset_descriptor.__get__"))
  tk : PySem.W.takesIn K (.builtin "object.__class__") = some true
  hm : PySem.W.mroIn K C (.type "object") = some true
  hd : PySem.W.hasDictIn K C = true
/-- the classes: each with its bases (itself among them) and its fields -/
abbrev CT := List (Str × List Str × List Str)
/-- a class that is asked of: built-in or own -/
def cval [FE] (b : List (Str × String)) (m : Str) : Value := match b.lookup m with
  | some t => .type t
  | none => .ref (FE.cl m)
structure ClsT [FE] (K : PySem.W.Frag) (ct : CT) (tests : List Str) (b : List (Str × String)) : Prop where
  i : ∀ n v, ct.lookup n = some v → ExcI K (FE.cl n)
  t : ∀ n v, ct.lookup n = some v → ∀ m ∈ tests, PySem.W.kitOne K (.ref (FE.cl n)) (cval b m) = some (v.1.contains m)
  f : ∀ n v, ct.lookup n = some v → ∀ f ∈ v.2, PySem.W.findIn K (.ref (FE.cl n)) f = some none
/-- the same, to be computed -/
def clsB (K : PySem.W.Frag) (C : Addr) (fs : List Str) (ts : List (Value × Bool)) : Bool :=
  (PySem.W.clsIn K C).isSome && (PySem.W.findIn K (.ref C) "__getattribute__" == some (some (.builtin "BaseException.__getattribute__"))) && (PySem.W.findIn K (.ref C) "__getattr__" == some none) && (PySem.W.subIn K (.ref C) (.type "BaseException") == some true) &&
  (PySem.W.findIn K (.ref C) "__class__" == some (some (.builtin "object.__class__"))) && (PySem.W.specialIn K (.builtin "object.__class__") "__get__" == some (some (.builtin "getset_descriptor.__get__"))) && (PySem.W.takesIn K (.builtin "object.__class__") == some true) &&
  (PySem.W.mroIn K C (.type "object") == some true) && PySem.W.hasDictIn K C && fs.all (fun f => PySem.W.findIn K (.ref C) f == some none) && ts.all fun p => PySem.W.kitOne K (.ref C) p.1 == some p.2
theorem clsB_ok {K : PySem.W.Frag} {C : Addr} {fs : List Str} {ts : List (Value × Bool)} (h : clsB K C fs ts = true) : ExcI K C ∧ (∀ f ∈ fs, PySem.W.findIn K (.ref C) f = some none) ∧ ∀ p ∈ ts, PySem.W.kitOne K (.ref C) p.1 = some p.2 := by
  unfold clsB at h
  simp only [Bool.and_eq_true, beq_iff_eq, List.all_eq_true] at h
  obtain ⟨⟨⟨⟨⟨⟨⟨⟨⟨⟨h1, h2⟩, h3⟩, h4⟩, h5⟩, h6⟩, h7⟩, h8⟩, h9⟩, h10⟩, h11⟩ := h
  exact ⟨⟨h1, h2, h3, h4, h5, h6, h7, h8, h9⟩, h10, h11⟩

/-! ### where x is handled -/
structure HotX [FE] (X : Cx) (x : EId) : Prop where
  ex : ∃ oe : Obj, X.A.handled = some (.ref x.a) ∧ (x.a, oe) ∈ X.pn ∧ L2N.Zn (.ref (FE.cl x.C)) x.d oe ∧ ∃ vs, oe.data = .fields vs
section
variable [FE]
variable {X : Cx} {x0 : EId} {π : Nat → Addr} {W : WX}
theorem HotX.inst {pins : List (Addr × Obj)} {σ : L2.St} {H : Hp} {s : Shared} (h : HotX X x0) (I : Inv X pins σ H s) {F : Hp} {fsV : List (Str × V)} (sm : Same F H) (xd : XD F x0.d fsV) :
    ∃ ox od, PySem.W.InstAt s.heap x0.a ox (FE.cl x0.C) od ∧ ∀ n v, fsV.lookup n = some v → ∃ u, ∃ ob, od = some ob ∧ PySem.W.lookIn n ob = some (some u) ∧ RelV v u := by
  obtain ⟨oe, _, hp, hz, vs, hv⟩ := h.ex
  obtain ⟨hget, _⟩ := I.pin (x0.a, oe) (List.mem_append.mpr (.inl hp))
  have nc : PySem.W.notCls oe = true := by unfold PySem.W.notCls; rw [hv] <;> rfl
  cases ed : x0.d with
  | none =>
    rw [ed] at xd
    refine ⟨oe, none, ⟨hget, hz.1, nc, ?_⟩, fun n v e => ?_⟩
    · rw [hz.2.1, ed]
      trivial
    · rw [show fsV = [] from xd] at e
      cases e
  | some dd =>
    rw [ed] at xd
    have hx : ObjOk X.prog X.w H s.heap dd (.xd fsV) := I.hok dd _ (sm _ _ xd)
    obtain ⟨mA, hns, hr⟩ := hx
    obtain ⟨od, ho, hl⟩ := lookIn_ns hns
    refine ⟨oe, some od, ⟨hget, hz.1, nc, ?_⟩, fun n v e => ?_⟩
    · rw [hz.2.1, ed]
      exact ho
    · obtain ⟨u, hu, ru⟩ := RelO.some_of (v := v) (o := mA n) (by rw [← e]; exact hr n)
      exact ⟨u, od, rfl, by rw [hl, hu], ru⟩
/-! ### isinstance -/
/-- the second argument: the class -/
theorem pe_own {y : Str} {p : Pos} {C : Addr} (hg : Gl X y) (hm : X.mg y = some (.ref C)) (hd : (y == ("__debug__" : Str)) = false := by decide) : PE X (.Name y p) (tC (.ref C)) := pe_glob (v := .ref C) hg hm rfl hd
/-! ### a field -/
def efld (x0 : EId) (ct : CT) (n : Str) (f : EF) : EF := fun ρ => (f ρ).bind fun v ρ => match v with
  | .exc x fs => if x = x0 ∧ (ct.lookup x.C).any (fun p => p.2.contains n) = true then R.of (fs.lookup n) ρ else .stuck
  | _ => .stuck
theorem Reps.look {K : PySem.W.Frag} {F : Hp} {n : Str} {d : D} : ∀ {fsV : List (Str × V)} {fs : List (Str × D)}, fsV.map (·.1) = fs.map (·.1) → Reps K F (fsV.map (·.2)) (fs.map (·.2)) → fs.lookup n = some d → ∃ v, fsV.lookup n = some v ∧ Rep K F v d
  | [], [], _, _, h => by cases h
  | (a, v) :: fsV, (b, e) :: fs, hk, .cons r rs, h => by
    have hk1 : a = b ∧ fsV.map (·.1) = fs.map (·.1) := by simpa using hk
    obtain ⟨rfl, hk2⟩ := hk1
    by_cases c : (n == a) = true
    · rw [List.lookup_cons, c] at h ⊢
      cases h
      exact ⟨v, rfl, r⟩
    · have c : (n == a) = false := by simpa using c
      rw [List.lookup_cons, c] at h ⊢
      exact Reps.look hk2 rs h
theorem fe_efld {ct : CT} {tests : List Str} {bb : List (Str × String)} {n : Str} {f : EF} {e : Expr} {pos : Pos} (hx : HotX X x0) (T : ClsT X.K ct tests bb) (he : PE X e (tE X.K π W f)) (hb : attributeBase e n X.env (eval e X.env) = eval e X.env := by rfl) :
    PE X (.Attribute e n pos) (tE X.K π W (efld x0 ct n f)) := by
  refine ⟨fun pins s σ H Q I t => ?_⟩
  obtain ⟨c0, F, ρ, S, P⟩ := t
  refine attr_of hb (thn (he.run pins s σ H _ I (po_bind S P fun v F1 H1 ρ1 d s1 S1 r1 P1 => (show ∃ c F ρ, Sta X.K π c F H1 σ ρ ∧ ∃ (fs : List (Str × D)) (fsV : List (Str × V)), v = .ref x0.a ∧ XD F x0.d fsV ∧ fsV.map (·.1) = fs.map (·.1) ∧ Reps X.K F (fsV.map (·.2)) (fs.map (·.2)) ∧
    (∃ p, ct.lookup x0.C = some p ∧ n ∈ p.2) ∧ Po X.K π W (relE X.K) c F σ Q (R.of (fs.lookup n) ρ) from ?_))) fun u s1 hh => ?_)
  · cases r1 <;> first | (exact P1.elim) | skip
    rename_i x fsV fs xd hk rs
    have P9 : Po X.K π W (relE X.K) c0 F1 σ Q (if x = x0 ∧ (ct.lookup x.C).any (fun p => p.2.contains n) = true then R.of (fs.lookup n) ρ1 else .stuck) := P1
    clear P1
    split at P9
    · rename_i hc
      obtain ⟨rfl, hc⟩ := hc
      refine ⟨c0, F1, ρ1, S1, fs, fsV, rfl, xd, hk, rs, ?_, P9⟩
      cases el : ct.lookup x.C with
      | none => rw [el] at hc; cases hc
      | some p =>
        rw [el] at hc
        exact ⟨p, rfl, by simpa using hc⟩
    · exact P9.elim
  · obtain ⟨x, H1, I1, rx, c, F1, ρ1, S1, fs, fsV, ex, xd, hk, rs, ⟨p, hp, hn⟩, P2⟩ := hh
    subst ex
    obtain rfl : u = Value.ref x0.a := rx
    obtain ⟨d, ed, P3⟩ := po_of P2
    obtain ⟨v, hv, rv⟩ := Reps.look hk rs ed
    obtain ⟨ox, od, J, hl⟩ := hx.inst I1 S1.f xd
    obtain ⟨w, ob, rfl, h2, r2⟩ := hl n v hv
    have hI := T.i _ _ hp
    exact HandSPX.exc_get I1.kIn J hI.ga hI.gg hI.sb (PySem.W.findObj_own hI.hd (T.f _ _ hp n hn) rfl h2) (handed_of r2) ⟨v, H1, I1.tok _, r2, P3 v F1 H1 (Same.refl _) S1 rv⟩
end
end FL
/-! FL22: defs called where an exception is handled. -/
namespace FL
open PySem PySem.Spec PyProof.Rows L2

section
variable [FE]
/-- what a def promises where x is handled -/
structure FnH (P : Program) (w : World) (K : PySem.W.Frag) (mg : Str → Option Value) (base : Heap) (ct : CT) (k : Nat) (f : Addr) (fd : FuncData) (ps : List Str) (sp : EId → Sp) : Prop where
  len : ∀ x vs H Q E, sp x vs H Q E → vs.length = ps.length
  run : ∀ (x : EId) (A : Around) (outer : List Env) (s : Shared) (H : Hp) (args : Args) (us : List Value) (vs : List V) (Q : VK) (E : XK) (oe : Obj), (∃ v, ct.lookup x.C = some v) → L2H.RoomH k A → A.handled = some (.ref x.a) → L2H.PinOk outer H s (x.a, oe) → L2N.Zn (.ref (FE.cl x.C)) x.d oe → (∃ vs, oe.data = .fields vs) →
    Env0 P w K mg base A outer s H → BindsTo s fd args (ps.zip us) → Vals vs us → sp x vs H Q E → codeAny (model P w) A (.call (.ref f) args) (CR (L2N.CX P w) outer P w H s Q E) s
theorem FnH.mono {P : Program} {w : World} {K : PySem.W.Frag} {mg : Str → Option Value} {base : Heap} {ct : CT} {j k : Nat} {f : Addr} {fd : FuncData} {ps : List Str} {sp : EId → Sp} (F : FnH P w K mg base ct j f fd ps sp) (h : j ≤ k) : FnH P w K mg base ct k f fd ps sp :=
  ⟨F.len, fun x A outer s H args us vs Q E oe hk hr => F.run x A outer s H args us vs Q E oe hk (hr.mono h)⟩
section
variable {P : Program} {w : World} {K : PySem.W.Frag} {mg : Str → Option Value} {base : Heap} {ct : CT}
end
section
variable {X : Cx} {x0 : EId} {ct : CT} {π : Nat → Addr} {k : Nat} {f : Addr} {fd : FuncData} {ps : List Str} {G : EId → List Arg → RG} {x : Str} {e : Expr} {es : List Expr} {p pos : Pos} {g : BF}
end
end
end FL
/-! FL23: a lambda without parameters, made; its call in the def that got it. -/
namespace FL
open PySem PySem.Spec PyProof.Rows L2

section
variable {X : Cx} {pins : List (Addr × Obj)} {σ : L2.St} {H : Hp} {s : Shared}
end
/-! ### the lambda's body -/
section
variable {X : Cx} {pins : List (Addr × Obj)} {σ : L2.St} {H : Hp} {s : Shared}
end
end FL
/-! FL24: try: back = act() / except (A, B, C) as e: suite / rest; a lambda handed to such a def. -/
namespace FL
open PySem PySem.Spec PyProof.Rows L2

section
variable {K : PySem.W.Frag}
end
section
variable {X : Cx} {x1 x2 x3 n : Str} {C1 C2 C3 : Addr} {i : Nat} {body suite : List Stmt} {b₀ : Stmt} {q1 q2 q3 tp pos pos' : Pos} {kk : Nat} {tb : WX → TS} {ts : Addr → Value → Option Addr → TS} {Wout : WX}
end
end FL
/-! FL25: caught(lambda: e). -/
namespace FL
open PySem PySem.Spec PyProof.Rows L2

/-! ### the reading -/
open Classical in
/-- what the suite gives, whatever the object -/
noncomputable def sutR (l ie : Nat) (gs : EId → SF) (C : Str) (fs : List (Str × D)) : Option Res :=
  if h : ∃ r : Res, ∀ x : EId, x.C = C → ∃ ρ : Rho, gs x ((List.replicate l Slot.no).set ie (.val (.exc x fs))) = .ok (.rt r) ρ then some h.choose else none
def caught (ct : CT) (cs : List Str) (C : Str) : Bool := match ct.lookup C with
  | some v => cs.any fun m => v.1.contains m
  | none => false
/-- how a def that catches is made: its slots, that of what came back and of the exception; the classes; the suite; the rest -/
structure CG where
  l : Nat
  ib : Nat
  ie : Nat
  ct : CT
  cs : List Str
  gs : EId → SF
  ge : SF
noncomputable def CG.cau (c : CG) : R D → R D
  | .ok d ρ => match c.ge ((List.replicate c.l Slot.no).set c.ib (.val d)) with
    | .ok (.rt r) _ => asE r ρ
    | _ => .stuck
  | .exc C fs ρ => if caught c.ct c.cs C = true then match sutR c.l c.ie c.gs C fs with
      | some r => asE r ρ
      | none => .stuck
    else .stuck
  | .stuck => .stuck
noncomputable def cauE (c : CG) (f : EF) : EF := fun ρ => c.cau (f ρ)
/-! ### a def's slots, all unknown -/
section
variable [FE]
variable {K : PySem.W.Frag} {π : Nat → Addr} {F H : Hp}
/-- behind it the caller's state -/
theorem Sta.behind {c : Cfg} {σ σ' : L2.St} {ρ ρ' : Rho} {F' H' : Hp} (S : Sta K π c F H σ ρ) {π' : Nat → Addr} (T : Sta K π' ⟨H, F, [], []⟩ F' H' σ' ρ') : Sta K π c F' H' σ ρ :=
  S.grow ⟨T.f0, fun b o e n => T.h0 b o e (fun z => by cases z) (fun z => by cases z) n, T.f, fun q o e n => T.nf q o e n, ⟨fun _ => T.t.tb, T.t.tk, fun _ => T.t.nt⟩⟩
end
section
variable [FE]
structure CauT (K : PySem.W.Frag) (ct : CT) (cs : List Str) : Prop where
  e : ∀ n v, ct.lookup n = some v → ∀ m ∈ cs, PySem.W.exmOne K (.ref (FE.cl n)) (.ref (FE.cl m)) = some (v.1.contains m)
theorem CauT.any {K : PySem.W.Frag} {ct : CT} {cs : List Str} (T : CauT K ct cs) {C : Str} {v : List Str × List Str} (h : ct.lookup C = some v) : ∀ {ms : List Str}, (∀ m ∈ ms, m ∈ cs) → PySem.W.exmAny K (.ref (FE.cl C)) (ms.map fun m => .ref (FE.cl m)) = some (ms.any fun m => v.1.contains m)
  | [], _ => rfl
  | m :: ms, hm => by
    have ih := CauT.any T h (ms := ms) fun m' h' => hm m' (List.mem_cons_of_mem _ h')
    have e := T.e C v h m (hm m List.mem_cons_self)
    rw [List.map_cons, List.any_cons]
    unfold PySem.W.exmAny
    rw [e, ih]
section
variable {P : Program} {w : World} {K : PySem.W.Frag} {mg : Str → Option Value} {base : Heap}
end
end
end FL
/-! FL26: caught(lambda: e), the rule. -/
namespace FL
open PySem PySem.Spec PyProof.Rows L2
section
variable [FE]
variable {X : Cx} {π : Nat → Addr} {W : WX}
end
end FL
/-! FL27: from what the head finds: classes, tables. -/
namespace FL
open PySem PySem.Spec PyProof.Rows L2

theorem _root_.L2H.RoomH.u64 {k : Nat} {A : Around} (r : L2H.RoomH k A) : A.units + 64 < cLine := by have := r.un; omega
def feOf (tabs : List (Addr × Str)) (cl : List (Str × Addr)) : FE := ⟨tabs, fun n => (cl.lookup n).getD 0⟩
/-! ### tables -/
theorem codes0 {K : PySem.W.Frag} {h : Heap} : Codes K h [] := ⟨fun p hp => (by cases hp), fun p hp => (by cases hp), fun p hp => (by cases hp)⟩
/-! ### classes -/
theorem lookup_mem {α : Type} {n : Str} {v : α} : ∀ {l : List (Str × α)}, l.lookup n = some v → (n, v) ∈ l
  | [], h => by cases h
  | (m, u) :: l, h => by
    by_cases e : (n == m) = true
    · rw [List.lookup_cons, e] at h
      cases h
      rw [beq_iff_eq.mp e]
      exact List.mem_cons_self
    · have e : (n == m) = false := by simpa using e
      rw [List.lookup_cons, e] at h
      exact List.mem_cons_of_mem _ (lookup_mem h)
theorem clsT_of [FE] {K : PySem.W.Frag} {ct : CT} {tests : List Str} {b : List (Str × String)} (h : (ct.all fun p => clsB K (FE.cl p.1) p.2.2 (tests.map fun m => (cval b m, p.2.1.contains m))) = true) : ClsT K ct tests b := by
  have key : ∀ n v, ct.lookup n = some v → clsB K (FE.cl n) v.2 (tests.map fun m => (cval b m, v.1.contains m)) = true := fun n v e => List.all_eq_true.mp h (n, v) (lookup_mem e)
  exact ⟨fun n v e => (clsB_ok (key n v e)).1, fun n v e m hm => (clsB_ok (key n v e)).2.2 (cval b m, v.1.contains m) (List.mem_map.mpr ⟨m, hm, rfl⟩), fun n v e => (clsB_ok (key n v e)).2.1⟩
theorem cauT_of [FE] {K : PySem.W.Frag} {ct : CT} {cs : List Str} (h : (ct.all fun p => cs.all fun m => PySem.W.exmOne K (.ref (FE.cl p.1)) (.ref (FE.cl m)) == some (p.2.1.contains m)) = true) : CauT K ct cs :=
  ⟨fun n v e m hm => beq_iff_eq.mp (List.all_eq_true.mp (List.all_eq_true.mp h (n, v) (lookup_mem e)) m hm)⟩
/-- a class that is raised, to be computed -/
def excB (K : PySem.W.Frag) (C fI : Addr) (nw : String) (tl : List Value) (fs : List Str) : Bool :=
  PySem.W.excInitIn K C tl nw && PySem.W.excOver K C tl && PySem.W.hasDictIn K C && (PySem.W.findIn K (.ref C) "__setattr__" == some (some (.builtin "object.__setattr__"))) && (PySem.W.subIn K (.ref C) (.type "BaseException") == some true) && (PySem.W.typeIn K (.ref C) == some (.type "type")) &&
  PySem.W.keepIn K (.ref C) && (PySem.W.findIn K (.ref C) "__init__" == some (some (.ref fI))) && (PySem.W.typeIn K (.ref fI) == some (.type "function")) && fs.all fun f => PySem.W.takerIn K C f == some none
theorem excB_ok {K : PySem.W.Frag} {C fI : Addr} {nw : String} {tl : List Value} {fs : List Str} (h : excB K C fI nw tl fs = true) : ExcK K C fI nw tl fs := by
  unfold excB at h
  simp only [Bool.and_eq_true, beq_iff_eq, List.all_eq_true] at h
  obtain ⟨⟨⟨⟨⟨⟨⟨⟨⟨h1, h2⟩, h3⟩, h4⟩, h5⟩, h6⟩, h7⟩, h8⟩, h9⟩, h10⟩ := h
  exact ⟨h1, h2, h3, h4, h5, h6, h7, h8, h9, h10⟩
/-- one without fields -/
structure Exc0 (K : PySem.W.Frag) (C : Addr) (nw : String) (tl : List Value) : Prop where
  q : PySem.W.excIn K C tl nw = true
  kp : PySem.W.keepIn K (.ref C) = true
  sb : PySem.W.subIn K (.ref C) (.type "BaseException") = some true
  ty : PySem.W.typeIn K (.ref C) = some (.type "type")
def exc0B (K : PySem.W.Frag) (C : Addr) (nw : String) (tl : List Value) : Bool := PySem.W.excIn K C tl nw && PySem.W.keepIn K (.ref C) && (PySem.W.subIn K (.ref C) (.type "BaseException") == some true) && (PySem.W.typeIn K (.ref C) == some (.type "type"))
theorem exc0B_ok {K : PySem.W.Frag} {C : Addr} {nw : String} {tl : List Value} (h : exc0B K C nw tl = true) : Exc0 K C nw tl := by
  unfold exc0B at h
  simp only [Bool.and_eq_true, beq_iff_eq] at h
  exact ⟨h.1.1.1, h.1.1.2, h.1.2, h.2⟩
/-! ### a def whose code object is known -/
section
variable [FE]
variable {P : Program} {w : World} {K : PySem.W.Frag} {mg : Str → Option Value} {base : Heap}
end
end FL
/-! FL28: dict comprehensions; sorted(d) of a dict with keys that are ints. -/
namespace FL
open PySem PySem.Spec PyProof.Rows L2

def putD (kvs : List (Key × D)) (k : Key) (v : D) : List (Key × D) :=
  if (kvs.any fun kv => decide (kv.1 = k)) = true then kvs.map (fun kv => if kv.1 = k then (kv.1, v) else kv) else kvs ++ [(k, v)]
def getD' (kvs : List (Key × D)) (k : Key) : Option D := (kvs.find? fun kv => decide (kv.1 = k)).map (·.2)
/-- a dict's entries as data -/
def KvR (K : PySem.W.Frag) (F : Hp) (vs : List (Key × V)) (ds : List (Key × D)) : Prop := vs.map (·.1) = ds.map (·.1) ∧ Reps K F (vs.map (·.2)) (ds.map (·.2))
section
variable {K : PySem.W.Frag} {F F' : Hp}
theorem KvR.nil : KvR K F [] [] := ⟨rfl, .nil⟩
theorem KvR.mono {vs : List (Key × V)} {ds : List (Key × D)} (h : KvR K F vs ds) (s : Same F F') : KvR K F' vs ds := ⟨h.1, h.2.mono s⟩
theorem KvR.ind {vs : List (Key × V)} {ds : List (Key × D)} (h : KvR K F vs ds) : Paired (fun a b => a.1 = b.1 ∧ Rep K F a.2 b.2) vs ds := by
  induction vs generalizing ds with
  | nil =>
    cases ds with
    | nil => exact .nil
    | cons d ds => obtain ⟨h1, _⟩ := h; simp at h1
  | cons v vs ih =>
    cases ds with
    | nil => obtain ⟨h1, _⟩ := h; simp at h1
    | cons d ds =>
      obtain ⟨h1, h2⟩ := h
      rw [List.map_cons, List.map_cons] at h1
      injection h1 with h1 h3
      cases h2 with
      | cons r rs => exact .cons ⟨h1, r⟩ (ih ⟨h3, rs⟩)
theorem KvR.of {vs : List (Key × V)} {ds : List (Key × D)} (h : Paired (fun a b => a.1 = b.1 ∧ Rep K F a.2 b.2) vs ds) : KvR K F vs ds := by
  induction h with
  | nil => exact ⟨rfl, .nil⟩
  | cons h _ ih => exact ⟨by rw [List.map_cons, List.map_cons, h.1, ih.1], .cons h.2 ih.2⟩
theorem KvR.any {vs : List (Key × V)} {ds : List (Key × D)} (h : KvR K F vs ds) (k : Key) : (vs.any fun kv => decide (kv.1 = k)) = ds.any fun kv => decide (kv.1 = k) := by
  have p := h.ind
  clear h
  induction p with
  | nil => rfl
  | cons h _ ih => rw [List.any_cons, List.any_cons, ih, h.1]
theorem paired_upd {vs : List (Key × V)} {ds : List (Key × D)} (p : Paired (fun a b => a.1 = b.1 ∧ Rep K F a.2 b.2) vs ds) (k : Key) {v : V} {d : D} (r : Rep K F v d) :
    Paired (fun a b => a.1 = b.1 ∧ Rep K F a.2 b.2) (vs.map fun kv => if kv.1 = k then (kv.1, v) else kv) (ds.map fun kv => if kv.1 = k then (kv.1, d) else kv) := by
  induction p with
  | nil => exact .nil
  | @cons a b as bs h _ ih =>
    rw [List.map_cons, List.map_cons]
    refine .cons ?_ ih
    by_cases c : a.1 = k
    · rw [if_pos c, if_pos (h.1.symm.trans c)]
      exact ⟨h.1, r⟩
    · rw [if_neg c, if_neg (fun z => c (h.1.trans z))]
      exact h
theorem KvR.put {vs : List (Key × V)} {ds : List (Key × D)} (h : KvR K F vs ds) (k : Key) {v : V} {d : D} (r : Rep K F v d) : KvR K F (putK vs k v) (putD ds k d) := by
  unfold putK putD
  rw [h.any k]
  split
  · exact .of (paired_upd h.ind k r)
  · refine ⟨?_, ?_⟩
    · rw [List.map_append, List.map_append, h.1]
      rfl
    · rw [List.map_append, List.map_append]
      exact h.2.append (.cons r .nil)
end
section
variable [FE]
variable {X : Cx} {π : Nat → Addr} {W : WX}
end
end FL
/-! FL29: name = {k: v for ..} on one line; sorted(d) of a dict whose keys are whole numbers. -/
namespace L2
open PySem PySem.Spec PyProof.Rows
section
variable {X : Cx}
end
end L2
namespace FL
open PySem PySem.Spec PyProof.Rows L2
section
variable [FE]
variable {X : Cx} {π : Nat → Addr} {W : WX}
end
end FL
/-! FL30: min, max, sum of a list of whole numbers. -/
namespace FL
open PySem PySem.Spec PyProof.Rows L2
section
variable [FE]
variable {K : PySem.W.Frag}
end
end FL
/-! FL31: how readings with exceptions are worked out. -/
namespace FL
open PySem PySem.Spec PyProof.Rows L2
theorem R.bd_exc {α β : Type} (k : α → Rho → R β) (h : Hold k) (C : Str) (fs : List (Str × D)) (ρ : Rho) : R.bd k h (.exc C fs ρ) = .exc C fs ρ := rfl
theorem goG_exc {α : Type} (C : Str) (fs : List (Str × D)) (outs : List M) (as : List AA) (k : Res → Rho → R α) (ρ : Rho) : goG (.exc C fs outs) as k ρ = .exc C fs (putA as outs ρ) := rfl
theorem endR_exc (as : List FL.Arg) (C : Str) (fs : List (Str × D)) (ρ : Rho) : endR as (.exc C fs ρ) = endG as (.exc C fs) ρ := rfl
/-- a comprehension whose turns change no more than its own names -/
theorem cmpM_p {ks : List Nat} {it : IF} {g : GF} {t : TF} {f : EF} {ρ : Rho} {ds : List D} (tb : D → Bool) (fx : D → D) (h1 : it ρ = .ok ds ρ) (hw : wipeR ks ρ = ρ) (hr : resR ks ρ ρ = some ρ) (hl : ds.length ≤ 100000)
    (st : ∀ d ∈ ds, ∃ ρ1, g d ρ = some ρ1 ∧ t ρ1 = .ok (tb d) ρ1 ∧ wipeR ks ρ1 = ρ ∧ (tb d = true → f ρ1 = .ok (fx d) ρ1)) : cmpM ks it g t f ρ = .ok (.lst ((ds.filter tb).map fx)) ρ := by
  obtain ⟨ρ', e, rfl⟩ := cmpL_pure (ks := ks) (g := g) (t := t) (f := f) (fun r => r = ρ) tb fx ds [] ρ (by simpa using hl) rfl (by
    rintro d hd ρ0 rfl
    obtain ⟨ρ1, e1, e2, e3, e4⟩ := st d hd
    exact ⟨ρ1, ρ1, e1, e2, fun _ => e3, fun h => ⟨ρ1, e4 h, e3⟩⟩)
  show (it ρ').bind _ = _
  rw [h1]
  show (cmpL ks g t f [] ds (wipeR ks ρ')).bind _ = _
  rw [hw, e]
  show bindO (resR ks ρ' ρ') _ = _
  rw [hr]
  rfl
end FL
/-! FL32: slices, dict comprehensions worked out. -/
namespace FL
open PySem PySem.Spec PyProof.Rows L2
end FL
/-! FL33: a comprehension without a test, turn by turn. -/
namespace FL
open PySem PySem.Spec PyProof.Rows L2
theorem cauE_eq (c : CG) (f : EF) (ρ : Rho) : cauE c f ρ = c.cau (f ρ) := rfl
end FL
/-! FL34: repr of a list that may hold empty dicts. -/
namespace FL
open PySem PySem.Spec PyProof.Rows L2
mutual
def toQ : D → PyData
  | .non => .none
  | .bl b => .bool b
  | .int i => .int i
  | .str x => .str x
  | .tup xs => .tuple (toQs xs)
  | .lst xs => .list (toQs xs)
  | .scr _ => .none
  | .fn _ => .none
  | .dct _ => .dict []
  | .exc _ _ => .none
  | .clo _ _ => .none
  | .dcf _ => .none
  | .err _ _ _ => .none
def toQs : List D → List PyData
  | [] => []
  | x :: xs => toQ x :: toQs xs
end
/-- plain data, at most n deep, with empty dicts -/
def shq : Nat → D → Bool
  | _, .non => true
  | _, .bl _ => true
  | _, .int _ => true
  | _, .str _ => true
  | n + 1, .tup xs => xs.all (shq n)
  | n + 1, .lst xs => xs.all (shq n)
  | n + 1, .dct [] => true
  | _, _ => false
section
variable {X : Cx} {pins : List (Addr × Obj)} {σ : L2.St} {H F : Hp} {s : Shared}
end
end FL
/-! FL35: what is shown is not too long; equal data. -/
namespace FL
open PySem PySem.Spec PyProof.Rows L2
/-- how long it is at most, whole numbers below 10 ** 60 -/
def costQ : Nat → D → Nat
  | _, .non => 4
  | _, .bl _ => 5
  | _, .int _ => 62
  | _, .str x => (reprText x).length
  | n + 1, .tup xs => 3 + (xs.map fun x => costQ n x + 2).sum
  | n + 1, .lst xs => 3 + (xs.map fun x => costQ n x + 2).sum
  | _, _ => 4
def litQ : Nat → D → Bool
  | _, .int i => decide (i.natAbs < 10 ^ 60)
  | n + 1, .tup xs => xs.all (litQ n)
  | n + 1, .lst xs => xs.all (litQ n)
  | _, _ => true
theorem cost_all {n : Nat} (ih : ∀ d : D, shq n d = true → litQ n d = true → (toQ d).showable = true ∧ (toQ d).shown.length ≤ costQ n d ∧ (toQ d).depth ≤ n) : ∀ xs : List D, xs.all (shq n) = true → xs.all (litQ n) = true →
    PyData.showableAll (toQs xs) = true ∧ ((PyData.shownAll (toQs xs)).map (·.length)).sum + 2 * (PyData.shownAll (toQs xs)).length ≤ (xs.map fun x => costQ n x + 2).sum ∧ PyData.depthAll (toQs xs) ≤ n
  | [], _, _ => ⟨rfl, by rw [toQs]; simp [PyData.shownAll], by rw [toQs]; simp [PyData.depthAll]⟩
  | x :: xs, h1, h2 => by
    rw [List.all_cons, Bool.and_eq_true] at h1 h2
    obtain ⟨a1, a2, a3⟩ := ih x h1.1 h2.1
    obtain ⟨b1, b2, b3⟩ := cost_all ih xs h1.2 h2.2
    rw [toQs]
    refine ⟨by simp only [PyData.showableAll, a1, b1, Bool.and_self], ?_, by simp only [PyData.depthAll]; omega⟩
    simp only [PyData.shownAll, List.map_cons, List.sum_cons, List.length_cons]
    omega
theorem cost_ok : ∀ (n : Nat) (d : D), shq n d = true → litQ n d = true → (toQ d).showable = true ∧ (toQ d).shown.length ≤ costQ n d ∧ (toQ d).depth ≤ n
  | n, .non, _, _ => ⟨by rw [toQ]; rfl, by rw [toQ]; rw [show costQ n .non = 4 by cases n <;> rfl]; exact (by decide +kernel : PyData.none.shown.length ≤ 4), by rw [toQ]; simp [PyData.depth]⟩
  | n, .bl b, _, _ => ⟨by rw [toQ]; rfl, by rw [toQ]; rw [show costQ n (.bl b) = 5 by cases n <;> rfl]; cases b <;> first | exact (by decide +kernel : (PyData.bool false).shown.length ≤ 5) | exact (by decide +kernel : (PyData.bool true).shown.length ≤ 5), by rw [toQ]; simp [PyData.depth]⟩
  | n, .int i, _, h => by
    have hi : i.natAbs < 10 ^ 60 := by cases n <;> exact of_decide_eq_true h
    rw [toQ]
    refine ⟨?_, ?_, by simp [PyData.depth]⟩
    · show decide _ = true
      refine decide_eq_true ?_
      by_cases z : i.natAbs = 0
      · rw [z]; decide
      · exact (Nat.log2_lt z).mpr (Nat.lt_trans hi (by decide +kernel))
    · have e := int_text_length_le10 (k := 60) (by decide) hi
      have : costQ n (.int i) = 62 := by cases n <;> rfl
      rw [this]
      show (Str.ofString (toString i)).length ≤ 62
      rw [PySem.ofString_length]
      omega
  | n, .str x, _, _ => ⟨by rw [toQ]; rfl, by rw [toQ]; cases n <;> exact Nat.le_refl _, by rw [toQ]; simp [PyData.depth]⟩
  | n + 1, .tup xs, h1, h2 => by
    obtain ⟨a1, a2, a3⟩ := cost_all (cost_ok n) xs (by simpa [shq] using h1) (by simpa [litQ] using h2)
    rw [toQ]
    refine ⟨by simpa [PyData.showable] using a1, ?_, by simp only [PyData.depth]; omega⟩
    have z := tupleText_len_le (PyData.shownAll (toQs xs))
    show (tupleText (PyData.shownAll (toQs xs))).length ≤ 3 + _
    omega
  | n + 1, .lst xs, h1, h2 => by
    obtain ⟨a1, a2, a3⟩ := cost_all (cost_ok n) xs (by simpa [shq] using h1) (by simpa [litQ] using h2)
    rw [toQ]
    refine ⟨by simpa [PyData.showable] using a1, ?_, by simp only [PyData.depth]; omega⟩
    have z := listText_len_le (PyData.shownAll (toQs xs))
    show (listText (PyData.shownAll (toQs xs))).length ≤ 3 + _
    omega
  | n + 1, .dct [], _, _ => ⟨by rw [toQ]; rfl, by rw [toQ]; rw [show costQ (n + 1) (.dct []) = 4 from rfl]; exact (by decide +kernel : (PyData.dict []).shown.length ≤ 4), by rw [toQ]; simp [PyData.depth, PyData.depthKv]⟩
  | n, .scr _, h, _ => by cases n <;> simp [shq] at h
  | n, .fn _, h, _ => by cases n <;> simp [shq] at h
  | n, .exc _ _, h, _ => by cases n <;> simp [shq] at h
  | n, .clo _ _, h, _ => by cases n <;> simp [shq] at h
  | n, .dcf _, h, _ => by cases n <;> simp [shq] at h
  | n, .err _ _ _, h, _ => by cases n <;> simp [shq] at h
  | n, .dct (_ :: _), h, _ => by cases n <;> simp [shq] at h
  | 0, .dct [], h, _ => by simp [shq] at h
  | 0, .lst _, h, _ => by simp [shq] at h
  | 0, .tup _, h, _ => by simp [shq] at h
end FL
/-! FL36: sorted(x) of a tuple of whole numbers, fewer than 64. -/
namespace FL
open PySem PySem.Spec PyProof.Rows L2
end FL
/-! FL37: a tuple many times over. -/
namespace FL
open PySem PySem.Spec PyProof.Rows L2
end FL
/-! FL38: isinstance(e, (A, B)) of a caught error. -/
namespace FL
open PySem PySem.Spec PyProof.Rows L2
section
variable [FE]
variable {X : Cx} {x0 : EId}
end
end FL
/-! FL39: repr of great numbers, up to 4,300 figures. -/
namespace FL
open PySem PySem.Spec PyProof.Rows L2
section
variable {P : Program} {w : World}
end
section
variable {X : Cx} {pins : List (Addr × Obj)} {σ : L2.St} {H F : Hp} {s : Shared}
end
end FL
/-! FL40: a tuple or a list taken apart into names. -/
namespace FL
open PySem PySem.Spec PyProof.Rows L2
end FL
/-! FL41: a local name that holds one of two defs, called. -/
namespace FL
open PySem PySem.Spec PyProof.Rows L2
section
variable [FE]
variable {X : Cx} {π : Nat → Addr} {W : WX}
end
end FL
/-! FL43: instances of own classes in slots: fields, methods, properties, constructors. -/
namespace FL
open PySem PySem.Spec PyProof.Rows L2

/-- slot i's thing anew -/
def setMs (i : Nat) (m : M) (ρ : Rho) : Rho := match ρ[i]? with
  | some (.own _) => ρ.set i (.own m)
  | some (.io _) => ρ.set i (.io m)
  | _ => ρ
section
variable [FE]
theorem Sta.setMs {K : PySem.W.Frag} {π : Nat → Addr} {c : Cfg} {F H : Hp} {σ : L2.St} {ρ : Rho} {i : Nat} {p : Addr} {m : M} {o : HO} (S : Sta K π c F H σ ρ) (ow : OwnAt σ ρ i p) (r : MRep K F (upd H p o) p m) :
    Sta K π c F (upd H p o) σ (FL.setMs i m ρ) := by
  unfold FL.setMs
  obtain ⟨e, m0, h | h⟩ := ow
  · rw [h]
    exact S.change ⟨e, m0, .inl h⟩ r _ (.inl ⟨rfl, _, h⟩)
  · rw [h]
    exact S.change ⟨e, m0, .inr h⟩ r _ (.inr ⟨rfl, _, h⟩)

/-! ### fields -/
section
variable {X : Cx} {π : Nat → Addr} {W : WX} {i : Nat} {x n f : Str} {fl : List Str} {p pos pos' : Pos} {value : Expr}
end

/-! ### methods -/
section
variable {X : Cx} {π : Nat → Addr} {W : WX} {i k : Nat} {x n m : Str} {fl : List Str} {f : Addr} {fd : FuncData} {ps ks : List Str} {G : List Arg → RG} {p pos apos : Pos} {e : Expr} {es : List Expr} {kws : List Keyword} {α : Type} {rel : Rel V α} {kk : Res → Rho → R α}
/-! ### properties -/
end
end
end FL
/-! FL44: a new instance of an own class. -/
namespace FL
open PySem PySem.Spec PyProof.Rows L2
section
variable [FE]
section
variable {X : Cx} {π : Nat → Addr} {W : WX} {k a : Nat} {x n : Str} {C f : Addr} {fd : FuncData} {ps ks : List Str} {G : List Arg → RG} {p pos : Pos} {e : Expr} {es : List Expr} {kws : List Keyword}
end
end
end FL
/-! FL45: a, b, .. = x, y, .., values and new things of our own. -/
namespace FL
open PySem PySem.Spec PyProof.Rows L2
inductive NA where
  | val (d : D)
  | new (m : M)
def newA : List V → List NA → List Addr
  | v :: vs, .new _ :: as => (match v with | .ref p => [p] | _ => []) ++ newA vs as
  | _ :: vs, .val _ :: as => newA vs as
  | _, _ => []
inductive NAs (K : PySem.W.Frag) (c : Cfg) (F H : Hp) (σ : L2.St) (ρ : Rho) : List V → List NA → Prop
  | nil : NAs K c F H σ ρ [] []
  | val {v : V} {d : D} {vs : List V} {as : List NA} : Rep K F v d → NAs K c F H σ ρ vs as → NAs K c F H σ ρ (v :: vs) (.val d :: as)
  | new {p : Addr} {m : M} {vs : List V} {as : List NA} : F p = none → c.H0 p = none → (∀ j, ¬ OwnAt σ ρ j p) → MRep K F H p m → p ∉ newA vs as → NAs K c F H σ ρ vs as → NAs K c F H σ ρ (.ref p :: vs) (.new m :: as)
section
variable [FE]
variable {K : PySem.W.Frag} {π : Nat → Addr} {W : WX} {c : Cfg} {F F' H H' : Hp} {σ σ' : L2.St} {ρ ρ' : Rho} {vs : List V} {as : List NA}
theorem NAs.length {c : Cfg} {F H : Hp} {σ : L2.St} {ρ : Rho} : ∀ {vs : List V} {as : List NA}, NAs K c F H σ ρ vs as → vs.length = as.length
  | _, _, .nil => rfl
  | _, _, .val _ r => congrArg (· + 1) (NAs.length r)
  | _, _, .new _ _ _ _ _ r => congrArg (· + 1) (NAs.length r)
/-- the things of the rest, seen from before it -/
theorem NAs.back (S : Sta K π c F H σ ρ) : ∀ {vs : List V} {as : List NA}, NAs K (cfg F H σ ρ) F' H' σ' ρ' vs as → NAs K c F' H' σ' ρ' vs as ∧ ∀ p ∈ newA vs as, H p = none
  | _, _, .nil => ⟨.nil, fun p h => by cases h⟩
  | _, _, .val h r => ⟨.val h (NAs.back S r).1, (NAs.back S r).2⟩
  | _, _, .new (p := p) h1 h2 h3 h4 h5 r => by
    have z := NAs.back S r
    have h2 : H p = none := h2
    refine ⟨.new h1 ?_ h3 h4 h5 z.1, fun q hq => ?_⟩
    · cases e : c.H0 p with
      | none => rfl
      | some o =>
        obtain ⟨o', e'⟩ := S.any e
        rw [h2] at e'
        cases e'
    · rcases List.mem_cons.mp (show q ∈ p :: newA _ _ from hq) with e | e
      · rw [e]; exact h2
      · exact z.2 q e
theorem NAs.grow (g : Grw F H F' H') (r : NAs K c F H σ ρ vs as) : NAs K c F' H' σ ρ vs as := by
  induction r with
  | nil => exact .nil
  | val h _ ih => exact .val (h.mono g.f) ih
  | new h1 h2 h3 h4 h5 _ ih =>
    obtain ⟨o, ho, hmu⟩ := h4.mut
    exact .new (g.nf _ o ho h1) h2 h3 (h4.mono g.f fun o' ho' => g.h _ _ ho' (by rw [ho] at ho'; cases ho'; exact hmu.nt)) h5 ih
theorem NAs.set {i : Nat} {x : V} {s : Slot} (hi : i < ρ.length) (hl : σ.length = ρ.length) (r : NAs K c F H σ ρ vs as) (hs : ∀ m, s = .own m ∨ s = .io m → ∀ p ∈ newA vs as, x ≠ .ref p) : NAs K c F H (σ.set i (some x)) (ρ.set i s) vs as := by
  induction r with
  | nil => exact .nil
  | val h _ ih => exact .val h (ih hs)
  | @new p m' vs as h1 h2 h3 h4 h5 _ ih =>
    refine .new h1 h2 (fun j hj => ?_) h4 h5 (ih fun m hm q hq => hs m hm q (List.mem_cons_of_mem _ hq))
    obtain ⟨e, m, h⟩ := hj
    by_cases z : j = i
    · subst z
      rw [List.getElem?_set_self (by omega)] at e
      rw [List.getElem?_set_self hi] at h
      cases e
      refine hs m ?_ p (List.mem_cons_self) rfl
      rcases h with h | h
      · cases h; exact .inl rfl
      · cases h; exact .inr rfl
    · rw [List.getElem?_set_ne (Ne.symm z)] at e h
      exact h3 j ⟨e, m, h⟩
end
section
variable [FE]
variable {X : Cx} {π : Nat → Addr} {W : WX} {e a b d : Expr} {es : List Expr} {pos : Pos}
end
end FL
/-! FL46: methods, properties, constructors, as the printed terms write them. -/
namespace FL
open PySem PySem.Spec PyProof.Rows L2
section
variable [FE]
section
variable {X : Cx} {π : Nat → Addr} {W : WX} {i k nn a : Nat} {x n m : Str} {fl : List Str} {f : Addr} {fd : FuncData} {ps ks : List Str} {G : List Arg → RG} {p pos apos : Pos} {e : Expr} {es : List Expr} {kws : List Keyword}
theorem fka_nil : PK X [] (tA X.K π W nilA) := PK.imp pk_nil fun σ H Q ⟨c, F, ρ, S, P⟩ => P [] F H (Same.refl _) S .nil
theorem fka_cons {f : EF} {g : Rho → R (List D)} {nm : Option Str} {kpos : Pos} (ha : PE X e (tE X.K π W f)) (hr : PK X kws (tA X.K π W g)) : PK X (⟨nm, e, kpos⟩ :: kws) (tA X.K π W (cnsA f g)) :=
  PK.imp (pk_cons ha hr) fun σ H Q ⟨c, F, ρ, S, P⟩ => by
    refine po_bind S P fun x F1 H1 ρ1 dx s1 S1 r1 P1 => ?_
    refine po_bind S1 P1 fun xs F2 H2 ρ2 ds s2 S2 r2 P2 => ?_
    exact P2 (x :: xs) F2 H2 (Same.refl _) S2 (.cons (Rep.mono s2 r1) r2)
end
end
end FL
/-! FL47: a method of a thing that was just made. -/
namespace FL
open PySem PySem.Spec PyProof.Rows L2
section
variable [FE]
section
variable {X : Cx} {π : Nat → Addr} {W : WX} {i k nn a : Nat} {n m : Str} {fl : List Str} {f : Addr} {fd : FuncData} {ps ks : List Str} {G : List Arg → RG} {p pos apos : Pos} {e o : Expr} {es : List Expr}
end

/-! ### a law's def that needs to know where the classes stand -/
def trueG (n : Nat) : List Arg → RG
  | [.val (.scr ns)] => if ns.length ≤ n then .ok (.v (.bl true)) [] else .stuck
  | _ => .stuck
theorem trueG_eq {n : Nat} {ns : List Int} (h : ns.length ≤ n) : trueG n [.val (.scr ns)] = .ok (.v (.bl true)) [] := if_pos h
theorem fn_trueG {P : Program} {w : World} {K : PySem.W.Frag} {mg : Str → Option Value} {base : Heap} {k n m : Nat} {f : Addr} {fd : FuncData} {ps : List Str} {G : List Arg → RG} (hq : ∀ ns : List Int, ns.length ≤ n → G [.val (.scr ns)] = .ok (.v (.bl true)) []) (Fn : FnG P w K mg base k f fd ps (spG K m G)) :
    FnG P w K mg base k f fd ps (spG K m (trueG n)) := by
  have key : ∀ vs H Q E, spG K m (trueG n) vs H Q E → spG K m G vs H Q E := fun vs H Q E ⟨F, as, h1, h2, h3, h4, P⟩ => by
    refine ⟨F, as, h1, h2, h3, h4, ?_⟩
    unfold trueG at P
    split at P
    · split at P
      · rename_i hl
        rw [hq _ hl]
        exact P
      · exact P.elim
    · exact P.elim
  exact ⟨fun vs H Q E h => Fn.len vs H Q E (key _ _ _ _ h), fun A outer s H args us vs Q E hr e0 hb r h => Fn.run A outer s H args us vs Q E hr e0 hb r (key _ _ _ _ h)⟩
end
end FL
/-! FL48: a lambda that is handed on to another def, which hands it to the one that catches. -/
namespace FL
open PySem PySem.Spec PyProof.Rows L2
section
variable {K : PySem.W.Frag}
variable [FE]
end
section
variable [FE]
variable {P : Program} {w : World} {K : PySem.W.Frag} {mg : Str → Option Value} {base : Heap}
end
end FL
/-! FL49: f(x, e, lambda: .., e): the lambda works on x. -/
namespace FL
open PySem PySem.Spec PyProof.Rows L2
section
variable {X : Cx} {pins : List (Addr × Obj)} {σ : L2.St} {H : Hp} {s : Shared}
end
section
variable [FE]
variable {X : Cx} {π : Nat → Addr} {W : WX}
end
end FL
namespace FL
open PySem PySem.Spec PyProof.Rows L2
section
variable [FE]
end
end FL
/-! FL50: own instances compared, asked for their truth. -/
namespace FL
open PySem PySem.Spec PyProof.Rows L2
section
variable {prog : Program} {w : World} {A : Around} {E : Value → Shared → Prop} {s : Shared} {K : PySem.W.Frag} {x y C : Addr} {ox oy : Obj} {od od' : Option Obj}
end
end FL
/-! FL51: x == y, truth of own instances; v in x, x with a __contains__ of its own. -/
namespace FL
open PySem PySem.Spec PyProof.Rows L2
section
variable {prog : Program} {w : World} {A : Around} {E : Value → Shared → Prop} {s : Shared} {K : PySem.W.Frag} {x y C : Addr} {ox oy : Obj} {od od' : Option Obj}
end
section
variable [FE]
variable {X : Cx} {π : Nat → Addr} {W : WX} {i j k : Nat} {x y n : Str} {p q pos : Pos} {a : Expr}
section
variable {f : Addr} {fd : FuncData} {ps : List Str} {G : List Arg → RG} {g : EF}
end
end
end FL
/-! FL52: a tuple once, or many times over. -/
namespace FL
open PySem PySem.Spec PyProof.Rows L2
section
variable [FE]
variable {X : Cx} {π : Nat → Addr} {W : WX} {k a mm : Nat} {x n : Str} {f : Addr} {fd : FuncData} {ps ks : List Str} {G : List Arg → RG} {p pos : Pos} {kws : List Keyword}
end
end FL
/-! FL53: dicts: our own, frozen ones, their keys and entries walked. -/
namespace FL
open PySem PySem.Spec PyProof.Rows L2
section
variable {K : PySem.W.Frag} {F H : Hp}
theorem KvR.get {vs : List (Key × V)} {ds : List (Key × D)} (h : KvR K F vs ds) (k : Key) : (getD' ds k = none ∧ valV vs k = none) ∨ ∃ d v, getD' ds k = some d ∧ valV vs k = some v ∧ Rep K F v d := by
  have p := h.ind
  clear h
  induction p with
  | nil => exact .inl ⟨rfl, rfl⟩
  | @cons a b as bs h _ ih =>
    unfold getD' valV at ih ⊢
    rw [List.find?_cons, List.find?_cons]
    by_cases c : a.1 = k
    · rw [decide_eq_true c, decide_eq_true (h.1.symm.trans c)]
      exact .inr ⟨_, _, rfl, rfl, h.2⟩
    · rw [decide_eq_false c, decide_eq_false (fun z => c (h.1.trans z))]
      exact ih
theorem KvR.at {vs : List (Key × V)} {ds : List (Key × D)} (h : KvR K F vs ds) {i : Nat} {k : Key} {d : D} (e : ds[i]? = some (k, d)) : ∃ v, vs[i]? = some (k, v) ∧ Rep K F v d := by
  have p := h.ind
  clear h
  induction p generalizing i with
  | nil => simp at e
  | @cons a b as bs h _ ih =>
    cases i with
    | zero =>
      simp at e
      subst e
      obtain ⟨x, y⟩ := a
      obtain ⟨h1, h2⟩ := h
      dsimp only at h1
      subst h1
      exact ⟨y, rfl, h2⟩
    | succ i =>
      obtain ⟨v, h1, h2⟩ := ih (i := i) (by simpa using e)
      exact ⟨v, by simpa using h1, h2⟩
theorem KvR.length {vs : List (Key × V)} {ds : List (Key × D)} (h : KvR K F vs ds) : vs.length = ds.length := by
  have := congrArg List.length h.1
  simpa using this
end
section
variable [FE]
variable {K : PySem.W.Frag} {π : Nat → Addr} {c : Cfg} {F H : Hp} {σ : L2.St} {ρ : Rho}
end
section
variable [FE]
variable {X : Cx} {π : Nat → Addr} {W : WX} {e a b : Expr} {es : List Expr} {pos pos' p apos cpos : Pos} {i : Nat} {x : Str} {rest : List Stmt}
/-! ### look-ups -/
/-! ### d[k] = v -/
/-! ### walks -/
end
end FL
/-! FL54: {**d, k: v}. -/
namespace FL
open PySem PySem.Spec PyProof.Rows L2
section
variable {prog : Program} {w : World} {A : Around} {E : Value → Shared → Prop} {s : Shared} {K : Type} [DecidableEq K] {knd : KeyKind prog w K}
end
section
variable {X : Cx} {pins : List (Addr × Obj)} {σ : L2.St} {H : Hp} {s : Shared}
/-- what is so of a new thing of ours, that no one else knows of -/
structure Lone (X : Cx) (pins : List (Addr × Obj)) (d : Addr) : Prop where
  l : d ≠ X.env.locals
  z : X.s_0.heap.objs.size ≤ d
  c : ∀ x c, X.env.cells.lookup x = some c → c ≠ d
  p : ∀ p ∈ X.pn ++ pins, p.1 ≠ d
  f : d ∉ X.fs
theorem Lone.cons {d e : Addr} {o : Obj} (L : Lone X pins d) (h : e ≠ d) : Lone X ((e, o) :: pins) d :=
  ⟨L.l, L.z, L.c, fun p hp => by
    rcases List.mem_append.mp hp with z | z
    · exact L.p p (List.mem_append_left _ z)
    · rcases List.mem_cons.mp z with z | z
      · subst z; exact h
      · exact L.p p (List.mem_append_right _ z), L.f⟩
end
section
variable {K : PySem.W.Frag} {F H : Hp}
end
section
variable [FE]
variable {X : Cx} {π : Nat → Addr} {W : WX} {e a b : Expr} {pos : Pos}
end
end FL
/-! FL55: texts: their order, sorted(d), join, walks, list(x); x.pop(i); d == {}. -/
namespace FL
open PySem PySem.Spec PyProof.Rows L2

/-! ### order of texts -/
/-! ### sorted(d) -/
section
variable {K : PySem.W.Frag} {F : Hp}
end
section
variable [FE]
variable {X : Cx} {π : Nat → Addr} {W : WX} {tg e a b : Expr} {es : List Expr} {pos p apos cpos : Pos} {i : Nat} {x : Str}
/-! ### join -/
/-! ### a text walked -/
/-! ### x.pop(i) of our own list -/
/-! ### list(x) of a text -/
/-! ### d == {} -/
end
end FL
/-! FL56: a dict comprehension as our own dict; a def that returns its own thing. -/
namespace FL
open PySem PySem.Spec PyProof.Rows L2
section
variable [FE]
variable {X : Cx} {π : Nat → Addr} {W : WX}
end
end FL
/-! FL57: x.upper() of a text. -/
namespace FL
open PySem PySem.Spec PyProof.Rows L2
section
variable [FE]
variable {X : Cx} {π : Nat → Addr} {W : WX} {a : Expr} {pos apos : Pos}
end
end FL
/-! FL58: repr of a tuple with numbers of up to 4,300 figures. -/
namespace FL
open PySem PySem.Spec PyProof.Rows L2
end FL
namespace FL
open PySem PySem.Spec PyProof.Rows L2
/-! ### ({}, ()) == ({}, ()) -/
section
variable {X : Cx}
end
end FL
namespace FL
open PySem PySem.Spec PyProof.Rows L2
/-! ### d[k] as a target among others, d our own dict -/
section
variable [FE]
variable {X : Cx} {π : Nat → Addr} {W : WX}
end
end FL
namespace FL
open PySem PySem.Spec PyProof.Rows L2
/-! ### for a, b in zip(x, y): two lists -/
end FL
namespace FL
open PySem PySem.Spec PyProof.Rows L2
/-! ### str(i) -/
end FL
/-! FL63: a, (b, c), .. = x, y, .., values and new things of our own, names and tuples of names. -/
namespace FL
open PySem PySem.Spec PyProof.Rows L2
section
variable [FE]
variable {K : PySem.W.Frag} {π : Nat → Addr} {W : WX} {c : Cfg} {F F' H H' : Hp} {σ σ' : L2.St} {ρ ρ' : Rho} {vs : List V} {as : List NA}
end
section
variable [FE]
variable {X : Cx} {π : Nat → Addr} {W : WX} {e a b d : Expr} {es : List Expr} {pos : Pos}
end
end FL
/-! FL64: where an error is handled, a list comes to its end. -/
namespace FL
open PySem PySem.Spec PyProof.Rows L2 _root_.HotX
section
variable {prog : Program} {w : World} {A : Around} {E : Value → Shared → Prop} {s : Shared}
end
end FL
/-! FL65: comprehensions in general (the block entered, one turn, the block left), whatever is pinned; lists where an error is handled. -/
namespace FL
open PySem PySem.Spec PyProof.Rows L2
/-- the tests of a clause, as the model runs them -/
abbrev asked (ifs : List Expr) (env : Env) : Sem Bool := forIn ifs true fun t so => if so = true then (do let z ← isTrue t env (eval t env); pure (ForInStep.yield z)) else pure (ForInStep.yield so)
section
variable {X : Cx} {pins : List (Addr × Obj)} {σ : L2.St} {H : Hp} {s : Shared}
end
end FL
namespace FL
open PySem PySem.Spec PyProof.Rows L2
section
variable {X : Cx} {pins : List (Addr × Obj)} {σ : L2.St} {H : Hp} {s : Shared}
end
end FL
namespace FL
open PySem PySem.Spec PyProof.Rows L2 L2H _root_.HotX
section
variable {prog : Program} {w : World} {A : Around} {E : Value → Shared → Prop} {s : Shared}
end
section
variable {X : Cx} {pos : Pos}
end
end FL
/-! FL66: where an error is handled: name = [.. for .. in a list], on one line; a list taken apart. -/
namespace FL
open PySem PySem.Spec PyProof.Rows L2
section
variable [FE]
variable {X : Cx} {x0 : EId} {π : Nat → Addr} {W : WX} {tg e : Expr} {pos : Pos}
end
end FL
/-! FL67: isinstance(e, (A, B)) of a caught error, told without classes. -/
namespace FL
open PySem PySem.Spec PyProof.Rows L2
section
variable [FE]
variable {X : Cx} {x0 : EId} {π : Nat → Addr} {W : WX}
end
end FL
/-! FL68: isinstance(e, (A, B)) worked out. -/
namespace FL
open PySem PySem.Spec PyProof.Rows L2
end FL
/-! FL69: for .. in d.values(), d data. -/
namespace FL
open PySem PySem.Spec PyProof.Rows L2
section
variable [FE]
variable {X : Cx} {π : Nat → Addr} {W : WX} {e tg : Expr} {apos cpos : Pos}
end
end FL
/-! FL70: dict([(k, v), ..]), a new dict. -/
namespace FL
open PySem PySem.Spec PyProof.Rows L2
section
variable {K : PySem.W.Frag} {F : Hp}
end
section
variable [FE]
variable {X : Cx} {π : Nat → Addr} {W : WX} {e : Expr} {es : List Expr} {pos p : Pos} {x : Str}
end
end FL
/-! FL71: {x: .. for ..} with tuples as keys, wherever they stand (written ones too): a thing of our own, told by its entries. -/
namespace FL
open PySem PySem.Spec PyProof.Rows L2
section
variable {X : Cx} {pins : List (Addr × Obj)} {σ : L2.St} {H : Hp} {s : Shared}
end
end FL
/-! FL72: sorted of a dict whose keys are pairs of whole numbers. -/
namespace FL
open PySem PySem.Spec PyProof.Rows L2
abbrev PI2 := Int × Int
abbrev P2V (K : PySem.W.Frag) (H : Hp) (b : Addr) (p : PI2) : Prop := SqT K H b [.int p.1, .int p.2]
section
variable {X : Cx} {pins : List (Addr × Obj)} {σ : L2.St} {H : Hp} {s : Shared}
end
end FL
/-! FL73: sorted({x: .. for ..}), the keys pairs of whole numbers, as data. -/
namespace FL
open PySem PySem.Spec PyProof.Rows L2
theorem P2V.grown {K : PySem.W.Frag} {F F' : Hp} {b : Addr} {p : PI2} (h : P2V K F b p) {s2' : Same F F'} : P2V K F' b p := sm_tup s2' h
section
variable [FE]
variable {X : Cx} {π : Nat → Addr} {W : WX}
end
end FL
/-! FL74: x in t, t a tuple of tuples. -/
namespace FL
open PySem PySem.Spec PyProof.Rows L2
section
variable {X : Cx}
end
section
variable [FE]
variable {K : PySem.W.Frag}
end
end FL
/-! FL75: {y: True for x in xs for y in x}, the keys tuples: a block with one walk within another. -/
namespace FL
open PySem PySem.Spec PyProof.Rows L2
section
variable {prog : Program} {w : World} {A : Around} {R : Result → Shared → Prop} {s : Shared} {e tg : Expr} {d : Nat} {it acc : Value} {env : Env} {place : Pos} {ifs : List Expr} {todo : Sem Fin → Sem Fin}
variable {kx vx t0 t1 i0 i1 : Expr} {f0 f1 : List Expr} {scope : Scope} {pos : Pos} {D : Addr}
abbrev dc2 (kx vx t0 i0 : Expr) (f0 : List Expr) (t1 i1 : Expr) (f1 : List Expr) (scope : Scope) (pos : Pos) : Expr := .DictComp kx vx [⟨t0, i0, f0, 0⟩, ⟨t1, i1, f1, 0⟩] scope pos
end
section
variable {X : Cx}
end
end FL
/-! FL76: walks that fill a new thing, one within another: [e for x in xs for y in ys], {k: v for x in xs for y in ys}. -/
namespace FL
open PySem PySem.Spec PyProof.Rows L2
section
variable [FE]
variable {K : PySem.W.Frag} {π : Nat → Addr} {A B : Type}
/-- a state, and a new thing at p that no slot holds, which tells b -/
structure Full (K : PySem.W.Frag) (π : Nat → Addr) (ho : A → HO) (rel : Hp → A → B → Prop) (p : Addr) (c : Cfg) (F H : Hp) (σ : L2.St) (ρ : Rho) (b : B) : Prop where
  st : Sta K π c F H σ ρ
  acc : ∃ a, H p = some (ho a) ∧ rel F a b
  fn : F p = none
  h0 : c.H0 p = none
  nio : p ∉ c.io ∧ p ∉ c.ow
  nw : ∀ j, ¬ OwnAt σ ρ j p
/-- a thing that grows -/
structure Grows (K : PySem.W.Frag) (ho : A → HO) (rel : Hp → A → B → Prop) : Prop where
  nt : ∀ a, NT (ho a)
  mono : ∀ {F F' a b}, Same F F' → rel F a b → rel F' a b
variable {ho : A → HO} {rel : Hp → A → B → Prop} {p : Addr} {c : Cfg} {F F' H H' : Hp} {σ σ' : L2.St} {ρ ρ' : Rho} {b : B}
theorem own_unwiped {vs : List Nat} {j : Nat} {q : Addr} (h : OwnAt (wipe σ vs) (wipeR vs ρ) j q) : OwnAt σ ρ j q := by
  obtain ⟨e, m, h⟩ := h
  have e1 := wipe_some e
  have z : (wipeR vs ρ)[j]? = ρ[j]? := by
    rw [wipeR_get, if_neg fun y => e1.2 y.1]
  rw [z] at h
  exact ⟨e1.1, m, h⟩
theorem Full.into (S : Full K π ho rel p c F H σ ρ b) (vs : List Nat) : Full K π ho rel p c F H (wipe σ vs) (wipeR vs ρ) b :=
  ⟨S.st.into vs, S.acc, S.fn, S.h0, S.nio, fun j z => S.nw j (own_unwiped z)⟩
theorem slot_unwiped {vs : List Nat} {j : Nat} {s : Slot} (h : SlotOk K π c F H (wipe σ vs) j s) : SlotOk K π c F H σ j s := by
  cases s with
  | no => trivial
  | val d => exact h.elim fun v z => ⟨v, (wipe_some z.1).1, z.2⟩
  | own m => exact h.elim fun q z => ⟨q, (wipe_some z.1).1, z.2⟩
  | io m => exact ⟨(wipe_some h.1).1, h.2⟩
theorem own_wiped {vs : List Nat} {j : Nat} {q : Addr} (S : ∀ j s, ρ[j]? = some s → SlotOk K π c F H (wipe σ vs) j s) (h : OwnAt σ ρ j q) : OwnAt (wipe σ vs) ρ j q := by
  obtain ⟨e, m, h⟩ := h
  refine ⟨?_, m, h⟩
  have key : ∀ r, (wipe σ vs)[j]? = some (some (V.ref r)) → (wipe σ vs)[j]? = some (some (V.ref q)) := fun r z => by
    have y := (wipe_some z).1
    rw [e] at y
    rw [z, y]
  rcases h with h | h
  · exact (S j _ h).elim fun r z => key r z.1
  · exact key _ (S j _ h).1
theorem Full.unwiped {vs : List Nat} (S : Full K π ho rel p c F H (wipe σ vs) ρ b) : Full K π ho rel p c F H σ ρ b :=
  ⟨⟨S.st.h0, S.st.hio, S.st.f0, S.st.f, S.st.nf, (wipe_length σ vs).symm.trans S.st.len, fun j s e => slot_unwiped (S.st.rep j s e), fun i j q h k => S.st.dis i j q (own_wiped S.st.rep h) (own_wiped S.st.rep k), S.st.t⟩,
    S.acc, S.fn, S.h0, S.nio, fun j z => S.nw j (own_wiped S.st.rep z)⟩
/-- in the state as its own beginning, the thing is none of those that may be changed -/
theorem Full.kept (S : Full K π ho rel p c F H σ ρ b) : p ∉ (cfg F H σ ρ).io ∧ p ∉ (cfg F H σ ρ).ow := by
  constructor
  · intro z
    obtain ⟨j, s, e, h, k⟩ := mem_adrs.mp z
    cases s <;> first | (exact S.nw j ⟨e, _, .inr h⟩) | cases k
  · intro z
    obtain ⟨j, s, e, h, k⟩ := mem_adrs.mp z
    cases s <;> first | (exact S.nw j ⟨e, _, .inl h⟩) | cases k
/-- from a part's end -/
theorem Full.back (G : Grows K ho rel) (S : Full K π ho rel p c F H σ ρ b) (T : Sta K π (cfg F H σ ρ) F' H' σ' ρ') (s : Same F F') : Full K π ho rel p c F' H' σ' ρ' b := by
  obtain ⟨a, e, r⟩ := S.acc
  have k := S.kept
  have e0 : (cfg F H σ ρ).H0 p = some (ho a) := e
  exact ⟨S.st.back T, ⟨a, T.h0 p _ e0 k.1 k.2 (G.nt a), G.mono s r⟩, T.nf p _ e0 S.fn, S.h0, S.nio, T.notOwn e0 k⟩
/-- out of the block -/
theorem Full.out {vs : List Nat} {F1 H1 : Hp} {ρ1 ρ3 : Rho} (S : Full K π ho rel p c F H (wipe σ vs) ρ b) (S1 : Sta K π c F1 H1 σ ρ1) (s : Same F1 F) (er : resR vs ρ1 ρ = some ρ3) : Full K π ho rel p c F H σ ρ3 b := by
  have U := S.unwiped
  have len : ρ.length = ρ1.length := U.st.len.symm.trans S1.len
  obtain ⟨a1, a2, a3, a4⟩ := S1.outof (ks := vs) (F' := F) (H' := H) s (ls := vs) (ρ1 := ρ) (ρ2 := ρ3) (fun l hl => hl) U.st.rep U.st.dis len er
  exact ⟨⟨U.st.h0, U.st.hio, U.st.f0, U.st.f, U.st.nf, S1.len.trans a3.symm, a1, a2, U.st.t⟩, U.acc, U.fn, U.h0, U.nio, fun j z => U.nw j (a4 j p z)⟩
/-! ### lists -/
variable {X : Cx} {W : WX}
end
end FL
/-! FL77: sorted({k: v for x in xs for y in ys}), the keys pairs of whole numbers, as data. -/
namespace FL
open PySem PySem.Spec PyProof.Rows L2
section
variable [FE]
variable {X : Cx} {π : Nat → Addr} {W : WX} {p : Addr} {c : Cfg} {F F' H H' : Hp} {σ : L2.St} {ρ ρ' : Rho}
end
end FL
/-! FL78: sorted of a list or a tuple of pairs of whole numbers. -/
namespace FL
open PySem PySem.Spec PyProof.Rows L2
section
variable {X : Cx} {pins : List (Addr × Obj)} {σ : L2.St} {H : Hp} {s : Shared}
end
end FL
/-! FL79: min of a tuple of whole numbers. -/
namespace FL
open PySem PySem.Spec PyProof.Rows L2
end FL
/-! FL80: x.split(y) of texts; int(x) of a text. -/
namespace FL
open PySem PySem.Spec PyProof.Rows L2
section
variable [FE]
variable {X : Cx} {π : Nat → Addr} {W : WX} {a e : Expr} {pos apos : Pos}
end
end FL
/-! FL81: a text many times over. -/
namespace FL
open PySem PySem.Spec PyProof.Rows L2
end FL
/-! FL82: t.index(x), t a tuple of whole numbers, told with its object (which has no dict). -/
namespace FL
open PySem PySem.Spec PyProof.Rows L2
section
variable [FE]
variable {X : Cx} {π : Nat → Addr} {W : WX} {a b : Expr} {apos cpos : Pos}
end
end FL
/-! our own list, compared with a new empty one -/
namespace FL
open PySem PySem.Spec PyProof.Rows L2
section
variable [FE]
variable {X : Cx} {π : Nat → Addr} {W : WX}
end
/-! ### a def that the module knows by another name as well -/
end FL
/-! FL84: tuples of whole numbers in order, whatever their lengths. -/
namespace FL
open PySem PySem.Spec PyProof.Rows L2
/-- a tuple of these whole numbers -/
def TupV (h : Heap) (v : Value) (ns : List Int) : Prop := ∃ (a : Addr) (its : Array Value), v = .ref a ∧ IsTup h a its ∧ IntsAre its.toList ns
theorem TupV.keeps {h h' : Heap} {v : Value} {ns : List Int} (x : TupV h v ns) (k : ∀ b o, h.get? b = some o → o.cls = .type "tuple" → h'.get? b = some o) : TupV h' v ns := by
  obtain ⟨a, its, e, ⟨o, g, c, n, d⟩, i⟩ := x
  exact ⟨a, its, e, ⟨o, k a o g c, c, n, d⟩, i⟩
section
variable {prog : Program} {w : World} {A : Around} {E : Value → Shared → Prop} {s : Shared}
end
end FL
/-! FL85: dicts of our own with tuples of whole numbers as keys: made, put into, their keys sorted. -/
namespace FL
open PySem PySem.Spec PyProof.Rows L2
def putU (kvs : List (List Int × D)) (k : List Int) (d : D) : List (List Int × D) := if k ∈ kvs.map (fun p => p.1) then kvs.map fun p => if p.1 = k then (k, d) else p else kvs ++ [(k, d)]
section
variable {K : PySem.W.Frag} {F F' H : Hp}
/-- the tuple of whole numbers that is a key -/
def keyU : D → Option (List Int)
  | .tup ds => asInts ds
  | _ => none
end
section
variable {X : Cx} {pins : List (Addr × Obj)} {σ : L2.St} {H : Hp} {s : Shared}
end
section
variable {X : Cx} {o i value : Expr} {td ty tv : TE} {pos pos' : Pos}
end
section
variable [FE]
variable {X : Cx} {π : Nat → Addr} {W : WX} {e a b : Expr} {pos pos' p q : Pos} {i : Nat} {x : Str}
/-- a new one -/
def newU : Rho → R M := fun ρ => .ok (.dtu []) ρ
/-- d[k] = v -/
def dputU (i : Nat) (f g : EF) : SF := fun ρ => (g ρ).bind fun v ρ => match ioM ρ i with
  | some (.dtu _) => (f ρ).bind fun y ρ => match ioM ρ i with
    | some (.dtu kvs) => match keyU y with
      | some k => if small (kvs.length + 1) = true then .ok .nx (setMs i (.dtu (putU kvs k v)) ρ) else .stuck
      | none => .stuck
    | _ => .stuck
  | _ => .stuck
end
end FL
/-! FL86: sorted of a dict of our own whose keys are tuples of whole numbers. -/
namespace FL
open PySem PySem.Spec PyProof.Rows L2
def insT (x : List Int) : List (List Int) → List (List Int)
  | [] => [x]
  | y :: ys => if HT.lexLt y x = true then y :: insT x ys else x :: y :: ys
def srtT : List (List Int) → List (List Int)
  | [] => []
  | x :: xs => insT x (srtT xs)
def tupD (ns : List Int) : D := .tup (ns.map D.int)
abbrev TI (K : PySem.W.Frag) (H : Hp) (b : Addr) (ns : List Int) : Prop := SqT K H b (ns.map V.int)
section
variable {X : Cx} {pins : List (Addr × Obj)} {σ : L2.St} {H : Hp} {s : Shared}
end
def sortU (i : Nat) : EF := fun ρ => match ioM ρ i with
  | some (.dtu kvs) => .ok (.lst ((srtT (kvs.map fun p => p.1)).map tupD)) ρ
  | _ => .stuck
section
variable [FE]
variable {X : Cx} {π : Nat → Addr} {W : WX} {pos p q : Pos} {i : Nat} {x y : Str}
end
end FL
/-! FL87: sorted(dict([(t, v), ..])), the keys tuples of whole numbers. -/
namespace FL
open PySem PySem.Spec PyProof.Rows L2
section
variable {K : PySem.W.Frag} {F : Hp}
end
section
variable {X : Cx} {pins : List (Addr × Obj)} {σ : L2.St} {H : Hp} {s : Shared}
end
section
variable [FE]
variable {X : Cx} {π : Nat → Addr} {W : WX} {e : Expr} {es : List Expr} {pos p q : Pos} {x y : Str}
end
end FL
/-! FL88: sorted(set(xs)), xs a list of tuples of whole numbers (of any lengths). -/
namespace FL
open PySem PySem.Spec PyProof.Rows L2
section
variable [FE]
variable {X : Cx} {π : Nat → Addr} {W : WX}
end
end FL
/-! FL89: {t: v} with a tuple of whole numbers as its key, a new dict of our own, and d.get(t, v) of such a dict. -/
namespace FL
open PySem PySem.Spec PyProof.Rows L2
section
variable {X : Cx} {k v o e f : Expr} {tk tv td ty tx : TE} {pos apos cpos : Pos}
end
section
variable {K : PySem.W.Frag} {F : Hp}
end
section
variable [FE]
variable {X : Cx} {π : Nat → Addr} {W : WX} {a b o : Expr} {pos apos cpos : Pos} {i : Nat}
end
end FL
/-! FL90: a def that catches one class: try: return act() except A as e: .. -/
namespace FL
open PySem PySem.Spec PyProof.Rows L2

section
variable [FE]
section
variable {P : Program} {w : World} {K : PySem.W.Frag} {mg : Str → Option Value} {base : Heap}
end
end
end FL
/-! FL91: a copy of a dict of our own, dict(list(d.items())); x = y if t else x with dicts of our own. -/
namespace FL
open PySem PySem.Spec PyProof.Rows L2
section
variable [FE]
variable {X : Cx} {π : Nat → Addr} {W : WX}
end
end FL
/-! FL92: an exception that is made and kept: made by position, asked for its class, for what it keeps. -/
namespace FL
open PySem PySem.Spec PyProof.Rows L2 PySem.W PySem.HandSPX

theorem exV_ok {P : Program} {w : World} {H : Hp} {h : Heap} {e C : Addr} {d : Option Addr} {oe : Obj} {vs : Array Value} (he : h.get? e = some oe) (hc : oe.cls = .ref C) (hd : oe.dict = d) (hv : oe.data = .fields vs) : ObjOk P w H h e (exV e C d) :=
  ⟨⟨oe, vs, he, hc, hd, hv⟩, ⟨oe, he⟩, fun _ _ ⟨o, v, q, r⟩ k => ⟨o, v, k o q, r⟩⟩
theorem exV_nt {e C : Addr} {d : Option Addr} : NT (exV e C d) := fun ps z => by cases z
theorem exV_pl {e C : Addr} {d : Option Addr} : PlO (exV e C d) := ⟨fun _ z => (nomatch z), fun _ _ z => (nomatch z)⟩
section
variable {X : Cx} {C fI : Addr} {B nw ini : String} {tl : List Value} {fs : List Str} {a : Expr} {as : List Expr} {ta : TA} {x : Str} {p pos pos2 : Pos} {k : Nat}
/-- what has been made, laid: its dict at d, itself at e -/
theorem laidE {pins : List (Addr × Obj)} {σ : L2.St} {H1 : Hp} {hp h' : Heap} {g : Array GenState} {dr : Drawn} {tk tk' : Nat} {os : OsState} {e d : Addr} {m : Str → Option Value} {vs : List V} {us : List Value} (I1 : Inv X pins σ H1 ⟨hp, g, dr, tk, os⟩) (M : MadeE hp h' e C d m) (hm : ∀ y, m y = (fs.zip us).lookup y) (r1 : Vals vs us) :
    Inv X pins σ (upd (upd H1 d (.xd (fs.zip vs))) e (exV e C (some d))) ⟨h', g, dr, tk', os⟩ ∧ H1 d = none ∧ H1 e = none ∧ d ≠ e := by
  obtain ⟨oe, fv, hoe, hc, hd, hdat, _, _⟩ := M.obj
  obtain ⟨G', g1, g2⟩ := restrict h' fun b => decide (b ≠ e)
  have gk : ∀ b, b ≠ e → G'.get? b = h'.get? b := fun b hb => g1 b (decide_eq_true hb)
  have ge : G'.get? e = none := g2 e (by simp)
  have old : ∀ b o, hp.get? b = some o → G'.get? b = some o := fun b o q => (gk b (Nat.ne_of_lt (Nat.lt_of_lt_of_le (Heap.lt_size q) M.new))).trans (M.keep b o q)
  have ob : ObjOk X.prog X.w (upd H1 d (.xd (fs.zip vs))) G' d (.xd (fs.zip vs)) := ⟨_, M.ns.at (fun o q => (gk d M.ne).trans q), fun f => by rw [hm f]; exact relO_zip r1 f⟩
  have J : Inv X pins σ (upd H1 d (.xd (fs.zip vs))) ⟨G', g, dr, tk', os⟩ := I1.laid (t' := tk') old M.big ob
  have fe : H1 e = none := I1.hok.fresh M.new
  refine ⟨J.laidN (s := ⟨G', g, dr, tk', os⟩) (t' := tk') (fun b u q => ?_) ge (by rw [upd_ne (Ne.symm M.ne)]; exact fe) (exV_ok hoe hc hd hdat), I1.hok.fresh M.big, fe, M.ne⟩
  by_cases hb : b = e
  · have q' : G'.get? b = some u := q
    rw [hb, ge] at q'
    cases q'
  · exact (gk b hb).symm.trans q
theorem pe_made (Tl : TlF B nw ini tl) (T : ExcK X.K C fI nw tl fs) (In : IniOk X.K C fI fs) (hz : fs.length ≤ 100) (hr : Room k X.A) (hg : Gl X x) (hm : X.mg x = some (.ref C)) (ha : PA X (a :: as) ta) (hd : (x == ("__debug__" : Str)) = false := by decide)
    (he : starEach (a :: as) X.env = (false, eval a X.env) :: starEach as X.env := by rfl) (hpl : (backTo pos (starEach as X.env)).any (·.1) = false := by rfl) :
    PE X (.Call (.Name x p) (a :: as) [] pos) (fun σ H Q => ta σ H fun vs H1 => vs.length = fs.length ∧ ∀ d e, H1 d = none → H1 e = none → d ≠ e → Q (.ref e) (upd (upd H1 d (.xd (fs.zip vs))) e (exV e C (some d)))) := by
  refine ⟨fun pins s σ H Q I h => ?_⟩
  refine wpAny_Call_Name_kw (ld_glob I hg hm ?_ hd)
  refine PySem.W.callWith_K (h₀ := X.base) I.ok.mod.kin T.kp (thn (ha.run pos pins s σ H _ I h) fun us s1 hh => ?_) he hpl
  obtain ⟨vs, H1, I1, r1, hl, q1⟩ := hh
  refine ⟨I1.kIn, ?_⟩
  show wpAny _ _ (call (.ref C) us) _ _ _
  have hlim := I1.nolimit
  obtain ⟨hp, g, dr, tk, os⟩ := s1
  refine wpAny_call (exc_made Tl T In (by rw [← r1.length]; exact hl) hz I1.kIn hlim (by have := hr.dp; omega) fun h' tk' e d m M hm => ?_)
  obtain ⟨J, fd, fe, ne⟩ := laidE (tk' := tk') I1 M hm r1
  exact ⟨.ref e, _, J, rfl, q1 d e fd fe ne⟩
theorem pe_made0 (F : ExcBaseFacts B nw ini tl) (q : PySem.W.excIn X.K C tl nw = true) (gC : X.mg x = some (.ref C)) (kC : PySem.W.keepIn X.K (.ref C) = true) (hg : Gl X x) (hd : (x == ("__debug__" : Str)) = false := by decide) :
    PE X (.Call (.Name x p) [] [] pos) (fun _ H Q => ∀ e, H e = none → Q (.ref e) (upd H e (exV e C none))) := by
  refine ⟨fun pins s σ H Q I h => ?_⟩
  refine wpAny_Call_Name_kw (ld_glob I hg gC ?_ hd)
  refine PySem.W.callWith_K0 I.kIn kC ?_
  show wpAny _ _ (call (.ref C) []) _ _ _
  obtain ⟨bm, N, nm, qn, bs, hdct, sn, sub, ab, col, dd, k0, k1, k2, k3, k5, mN, hC, hN, hni, T⟩ := exc_obj I.kIn q
  refine wpAny_call_exc_subT F T hC hN hni (fun h' e hm => ?_) (Nat.zero_le _)
  have hn : H e = none := I.hok.gone hm.new
  obtain ⟨t, ht, _, _⟩ := hm.there
  exact ⟨.ref e, _, I.laidN hm.keeps hm.new hn (exV_ok ht rfl rfl rfl), rfl, h e hn⟩
end
/-! ### as data -/
/-- n(e, ..) -/
def excE [FE] (n : Str) (fs : List Str) (g : Rho → R (List D)) : EF := fun ρ => (g ρ).bind fun ds ρ => if ds.length = fs.length then .ok (.err n (FE.cl n) (fs.zip ds)) ρ else .stuck
def excE0 [FE] (n : Str) : EF := fun ρ => .ok (.err n (FE.cl n) []) ρ
section
variable [FE]
variable {X : Cx} {π : Nat → Addr} {W : WX} {C fI : Addr} {B nw ini : String} {tl : List Value} {fs : List Str} {a : Expr} {as : List Expr} {x : Str} {p pos pos2 : Pos} {k : Nat}
/-- what is read of a new exception -/
theorem rd_made {K : Frag} {c : Cfg} {F1 H1 : Hp} {σ : L2.St} {ρ1 : Rho} {Q : VK} {vs : List V} {ds : List D} {d e : Addr} (S1 : Sta K π c F1 H1 σ ρ1) (r1 : Reps K F1 vs ds) (hl : ds.length = fs.length) (hd : H1 d = none) (he : H1 e = none) (ne : d ≠ e)
    (P : Po K π W (relE K) c F1 σ Q (.ok (.err x (FE.cl x) (fs.zip ds)) ρ1)) : Q (.ref e) (upd (upd H1 d (.xd (fs.zip vs))) e (exV e (FE.cl x) (some d))) := by
  have hl' : vs.length = fs.length := by rw [Reps.length r1]; exact hl
  have g1 := Grw.newF (o := .xd (fs.zip vs)) S1.f hd
  have S2 := S1.grow g1
  have g2 := Grw.newF (o := exV e (FE.cl x) (some d)) S2.f (by rw [upd_ne (Ne.symm ne)]; exact he) exV_nt exV_pl
  have S3 := S2.grow g2
  refine P (.ref e) _ _ (fun b o h => g2.f _ _ (g1.f _ _ h)) S3 (.err (d := some d) (fsV := fs.zip vs) upd_same ?_ (by rw [zip_fst hl', zip_fst hl]) ?_)
  · show upd _ e _ d = some (.xd (fs.zip vs))
    rw [upd_ne ne]
    exact upd_same
  · rw [zip_snd hl', zip_snd hl]
    exact Reps.mono (fun b o h => g2.f _ _ (g1.f _ _ h)) r1
theorem fe_exc {g : Rho → R (List D)} (Tl : TlF B nw ini tl) (T : ExcK X.K C fI nw tl fs) (In : IniOk X.K C fI fs) (hz : fs.length ≤ 100) (hcl : FE.cl x = C) (hr : Room k X.A) (hg : Gl X x) (hm : X.mg x = some (.ref C)) (ha : PA X (a :: as) (tA X.K π W g)) (hd : (x == ("__debug__" : Str)) = false := by decide)
    (he : starEach (a :: as) X.env = (false, eval a X.env) :: starEach as X.env := by rfl) (hpl : (backTo pos (starEach as X.env)).any (·.1) = false := by rfl) :
    PE X (.Call (.Name x p) (a :: as) [] pos) (tE X.K π W (excE x fs g)) :=
  PE.imp (pe_made Tl T In hz hr hg hm ha hd he hpl) fun σ H Q ⟨c, F, ρ, S, P⟩ => by
    subst hcl
    refine po_bind S P fun vs F1 H1 ρ1 ds s1 S1 r1 P1 => ?_
    split at P1
    · rename_i hl
      exact ⟨by rw [Reps.length r1]; exact hl, fun d e hd he ne => rd_made S1 r1 hl hd he ne P1⟩
    · exact P1.elim
theorem fe_exc0 (F : ExcBaseFacts B nw ini tl) (q : PySem.W.excIn X.K C tl nw = true) (hcl : FE.cl x = C) (kC : PySem.W.keepIn X.K (.ref C) = true) (hg : Gl X x) (hm : X.mg x = some (.ref C)) (hd : (x == ("__debug__" : Str)) = false := by decide) :
    PE X (.Call (.Name x p) [] [] pos) (tE X.K π W (excE0 x)) :=
  PE.imp (pe_made0 F q hm kC hg hd) fun σ H Q ⟨c, F, ρ, S, P⟩ e he => by
    subst hcl
    have g2 := Grw.newF (o := exV e (FE.cl x) none) S.f he exV_nt exV_pl
    exact P (.ref e) _ _ g2.f (S.grow g2) (.err (d := none) (fsV := []) upd_same rfl rfl .nil)
/-! ### what is asked of it -/
theorem err_inst {pins : List (Addr × Obj)} {σ : L2.St} {H F : Hp} {s : Shared} {e : Addr} {d : Option Addr} {fsV : List (Str × V)} (I : Inv X pins σ H s) (sm : Same F H) (he : F e = some (exV e C d)) (xd : XD F d fsV) :
    ∃ ox od, PySem.W.InstAt s.heap e ox C od ∧ ∀ n v, fsV.lookup n = some v → ∃ u, ∃ ob, od = some ob ∧ PySem.W.lookIn n ob = some (some u) ∧ RelV v u := by
  obtain ⟨⟨oe, vs, hget, hc, hd, hv⟩, _, _⟩ : ObjOk X.prog X.w H s.heap e (exV e C d) := I.hok e _ (sm _ _ he)
  have nc : PySem.W.notCls oe = true := by unfold PySem.W.notCls; rw [hv] <;> rfl
  cases ed : d with
  | none =>
    rw [ed] at xd hd
    refine ⟨oe, none, ⟨hget, hc, nc, ?_⟩, fun n v e => ?_⟩
    · rw [hd]
      trivial
    · rw [show fsV = [] from xd] at e
      cases e
  | some dd =>
    rw [ed] at xd hd
    have hx : ObjOk X.prog X.w H s.heap dd (.xd fsV) := I.hok dd _ (sm _ _ xd)
    obtain ⟨mA, hns, hr⟩ := hx
    obtain ⟨od, ho, hl⟩ := lookIn_ns hns
    refine ⟨oe, some od, ⟨hget, hc, nc, ?_⟩, fun n v e => ?_⟩
    · rw [hd]
      exact ho
    · obtain ⟨u, hu, ru⟩ := RelO.some_of (v := v) (o := mA n) (by rw [← e]; exact hr n)
      exact ⟨u, od, rfl, by rw [hl, hu], ru⟩
def isxV [FE] (ct : CT) (m : Str) (f : EF) : EF := fun ρ => (f ρ).bind fun v ρ => match v with
  | .err n C _ => if C = FE.cl n then R.of ((ct.lookup n).map fun p => .bl (p.1.contains m)) ρ else .stuck
  | _ => .stuck
theorem call_isE : CallR X (.builtin "isinstance") (fun xs H Q => ∃ (e C : Addr) (c : V) (cv : Value) (b : Bool), xs = [.ref e, c] ∧ ExcI X.K C ∧ (∀ u, RelV c u → u = cv) ∧ PySem.W.kitOne X.K (.ref C) cv = some b ∧ (∃ (F : Hp) (d : Option Addr) (fsV : List (Str × V)), Same F H ∧ F e = some (exV e C d) ∧ XD F d fsV) ∧ Q (.bl b) H) := by
  intro pins s σ H xs us Q I r h
  obtain ⟨e, C, c, cv, b, rfl, hI, hcv, ek, ⟨F, d, fsV, sm, he, xd⟩, q⟩ := h
  cases r with
  | cons rx rr =>
    cases rr with
    | cons rt rr =>
      cases rr
      cases rx
      have ec := hcv _ rt
      subst ec
      obtain ⟨ox, od, J, _⟩ := err_inst I sm he xd
      exact PySem.W.kia_one (PySem.W.kitx_exc hI.cl hI.ga hI.gg hI.sb hI.ha hI.hn hI.tk hI.hm) I.kIn J ek (fun z => nomatch z) fun tk => ⟨.bl b, H, I.kept (t' := tk) fun _ _ z => z, rfl, q⟩
theorem rd_isE {ct : CT} {tests : List Str} {b : List (Str × String)} {m : Str} {f : EF} {c : V} {σ : L2.St} {H : Hp} {Q : VK} (T : ClsT X.K ct tests b) (hm : m ∈ tests) (hcv : ∀ u, RelV c u → u = cval b m) (t : tE X.K π W (isxV ct m f) σ H Q) :
    tCB (fun xs H Q => ∃ (e C : Addr) (c : V) (cv : Value) (b : Bool), xs = [.ref e, c] ∧ ExcI X.K C ∧ (∀ u, RelV c u → u = cv) ∧ PySem.W.kitOne X.K (.ref C) cv = some b ∧ (∃ (F : Hp) (d : Option Addr) (fsV : List (Str × V)), Same F H ∧ F e = some (exV e C d) ∧ XD F d fsV) ∧ Q (.bl b) H) (tCons (tE X.K π W f) (tCons (tC c) tNil)) σ H Q := by
  obtain ⟨c0, F, ρ, S, P⟩ := t
  refine po_bind S P fun v F1 H1 ρ1 d s1 S1 r1 P1 => ?_
  cases r1 <;> first | (exact P1.elim) | skip
  rename_i e C d n fsV fs he xd _ rs
  have P9 : Po X.K π W (relE X.K) c0 F1 σ Q (if C = FE.cl n then R.of ((ct.lookup n).map fun p => D.bl (p.1.contains m)) ρ1 else .stuck) := P1
  clear P1
  split at P9
  · rename_i hC
    subst hC
    obtain ⟨dd, ed, P2⟩ := po_of P9
    cases el : ct.lookup n with
    | none => rw [el] at ed; cases ed
    | some p =>
      rw [el] at ed
      cases ed
      exact ⟨e, _, c, cval b m, p.1.contains m, rfl, T.i _ _ el, hcv, T.t _ _ el m hm, ⟨F1, d, fsV, S1.f, he, xd⟩, P2 _ F1 H1 (Same.refl _) S1 (.bl _)⟩
  · exact P9.elim
theorem fe_isE {ct : CT} {tests : List Str} {bb : List (Str × String)} {y : Str} {f : EF} {a : Expr} {p p2 pos : Pos} {C : Addr} (T : ClsT X.K ct tests bb) (hm : y ∈ tests) (hb : bb.lookup y = none) (hy : FE.cl y = C)
    (hg : Gl X "isinstance") (hmi : X.mg "isinstance" = none) (hgy : Gl X y) (hmy : X.mg y = some (.ref C)) (ha : PE X a (tE X.K π W f)) (hd : (y == ("__debug__" : Str)) = false := by decide)
    (he : starEach [a, .Name y p2] X.env = (false, eval a X.env) :: starEach [.Name y p2] X.env := by rfl) (he2 : starEach [.Name y p2] X.env = (false, eval (.Name y p2) X.env) :: starEach [] X.env := by rfl) (hpl : (backTo pos (starEach [.Name y p2] X.env)).any (·.1) = false := by rfl) :
    PE X (.Call (.Name "isinstance" p) [a, .Name y p2] [] pos) (tE X.K π W (isxV ct y f)) :=
  PE.imp (pe_callB call_isE hg hmi (by decide +kernel) (pa_cons ha (pa_cons (pe_own hgy hmy hd) pa_nil he2) he) (by decide) (by decide) he hpl) fun σ H Q t =>
    rd_isE T hm (fun u ru => by
      have e : u = .ref C := ru
      rw [e]
      unfold cval
      rw [hb, hy]) t
theorem fe_isEB {ct : CT} {tests : List Str} {bb : List (Str × String)} {y : Str} {t : String} {f : EF} {a : Expr} {p p2 pos : Pos} (T : ClsT X.K ct tests bb) (hm : y ∈ tests) (hb : bb.lookup y = some t)
    (hg : Gl X "isinstance") (hmi : X.mg "isinstance" = none) (hgy : Gl X y) (hmy : X.mg y = none) (hv : bootBuiltins y = some (.type t)) (ha : PE X a (tE X.K π W f)) (hn : y ≠ "__name__" := by decide) (hd : (y == ("__debug__" : Str)) = false := by decide)
    (he : starEach [a, .Name y p2] X.env = (false, eval a X.env) :: starEach [.Name y p2] X.env := by rfl) (he2 : starEach [.Name y p2] X.env = (false, eval (.Name y p2) X.env) :: starEach [] X.env := by rfl) (hpl : (backTo pos (starEach [.Name y p2] X.env)).any (·.1) = false := by rfl) :
    PE X (.Call (.Name "isinstance" p) [a, .Name y p2] [] pos) (tE X.K π W (isxV ct y f)) :=
  PE.imp (pe_callB call_isE hg hmi (by decide +kernel) (pa_cons ha (pa_cons (pe_ty hgy hmy hv hn hd) pa_nil he2) he) (by decide) (by decide) he hpl) fun σ H Q t' =>
    rd_isE T hm (fun u ru => by
      have e : u = .type t := ru
      rw [e]
      unfold cval
      rw [hb]) t'
def efldV [FE] (ct : CT) (n : Str) (f : EF) : EF := fun ρ => (f ρ).bind fun v ρ => match v with
  | .err m C fs => if C = FE.cl m ∧ (ct.lookup m).any (fun p => p.2.contains n) = true then R.of (fs.lookup n) ρ else .stuck
  | _ => .stuck
theorem fe_efldV {ct : CT} {tests : List Str} {bb : List (Str × String)} {n : Str} {f : EF} {e : Expr} {pos : Pos} (T : ClsT X.K ct tests bb) (he : PE X e (tE X.K π W f)) (hb : attributeBase e n X.env (eval e X.env) = eval e X.env := by rfl) :
    PE X (.Attribute e n pos) (tE X.K π W (efldV ct n f)) := by
  refine ⟨fun pins s σ H Q I t => ?_⟩
  obtain ⟨c0, F, ρ, S, P⟩ := t
  refine attr_of hb (thn (he.run pins s σ H _ I (po_bind S P fun v F1 H1 ρ1 d s1 S1 r1 P1 => (show ∃ c F ρ, Sta X.K π c F H1 σ ρ ∧ ∃ (m : Str) (ea : Addr) (dd : Option Addr) (fs : List (Str × D)) (fsV : List (Str × V)), v = .ref ea ∧ F ea = some (exV ea (FE.cl m) dd) ∧ XD F dd fsV ∧ fsV.map (·.1) = fs.map (·.1) ∧ Reps X.K F (fsV.map (·.2)) (fs.map (·.2)) ∧
    (∃ p, ct.lookup m = some p ∧ n ∈ p.2) ∧ Po X.K π W (relE X.K) c F σ Q (R.of (fs.lookup n) ρ) from ?_))) fun u s1 hh => ?_)
  · cases r1 <;> first | (exact P1.elim) | skip
    rename_i ea C dd m fsV fs hea xd hk rs
    have P9 : Po X.K π W (relE X.K) c0 F1 σ Q (if C = FE.cl m ∧ (ct.lookup m).any (fun p => p.2.contains n) = true then R.of (fs.lookup n) ρ1 else .stuck) := P1
    clear P1
    split at P9
    · rename_i hc
      obtain ⟨rfl, hc⟩ := hc
      refine ⟨c0, F1, ρ1, S1, m, ea, dd, fs, fsV, rfl, hea, xd, hk, rs, ?_, P9⟩
      cases el : ct.lookup m with
      | none => rw [el] at hc; cases hc
      | some p =>
        rw [el] at hc
        exact ⟨p, rfl, by simpa using hc⟩
    · exact P9.elim
  · obtain ⟨x, H1, I1, rx, c, F1, ρ1, S1, m, ea, dd, fs, fsV, ex, hea, xd, hk, rs, ⟨p, hp, hn⟩, P2⟩ := hh
    subst ex
    obtain rfl : u = Value.ref ea := rx
    obtain ⟨d, ed, P3⟩ := po_of P2
    obtain ⟨v, hv, rv⟩ := Reps.look hk rs ed
    obtain ⟨ox, od, J, hl⟩ := err_inst I1 S1.f hea xd
    obtain ⟨w, ob, rfl, h2, r2⟩ := hl n v hv
    have hI := T.i _ _ hp
    exact HandSPX.exc_get I1.kIn J hI.ga hI.gg hI.sb (PySem.W.findObj_own hI.hd (T.f _ _ hp n hn) rfl h2) (handed_of r2) ⟨v, H1, I1.tok _, r2, P3 v F1 H1 (Same.refl _) S1 rv⟩
end
end FL
/-! FL93: an exception made by a call with keywords. -/
namespace FL
open PySem PySem.Spec PyProof.Rows L2 PySem.W PySem.HandSPX
section
variable {M : Model} {A : Around} {E : Value → Shared → Prop} {h : Heap} {g : Array GenState} {d : Drawn} {t : Nat} {os : OsState}
variable {nm q : Str} {C N : Addr} {bs bm tl : List Value} {hdct : Bool} {sn : List Str} {sub : List Value} {ab : Bool} {col : Option Bool} {dd : Option Addr} {k0 k1 k2 k3 k5 : Option Value} {B nw ini : String} {kw : List (Str × Value)}
theorem fits_new (F : ExcBaseFacts B nw ini tl) (same : ∀ X : String, bm.contains (.type X) = tl.contains (.type X)) {Q : Unit → Shared → Prop}
    (hC : h.get? C = some (excClassObj nm q C N bs bm hdct sn sub ab col dd k0 k1 k2 k3 k5 nw)) (z : Q () ⟨h, g, d, t, os⟩) : wpAny M A (checkBuiltinCall nw ⟨[.ref C], kw⟩) Q E ⟨h, g, d, t, os⟩ := by
  have isB : (Value.ref C :: bm).contains (.type B) = true := by rw [List.contains_cons, same, F.hasB, Bool.or_true]
  have short := F.noStar
  simp only [checkBuiltinCall, F.newKind, F.newSplit, F.newRow]
  repeat
    first
    | refine wpAny_loadPart_at hC ?_
    | (refine wpAny_isSubtype_exc hC ?_
       rw [isB])
    | refine wpAny_staticBase_exc hC ?_
    | refine wpAny_madeBy_exc hC ?_
    | simp only [bne_self_eq_false, Bool.false_eq_true, if_false]
    | wp_step
  exact z
theorem fits_call {Q : Unit → Shared → Prop} (hC : h.get? C = some (excClassObj nm q C N bs bm hdct sn sub ab col dd k0 k1 k2 k3 k5 nw)) (z : Q () ⟨h, g, d, t, os⟩) : wpAny M A (checkBuiltinCall "type.__call__" ⟨[.ref C], kw⟩) Q E ⟨h, g, d, t, os⟩ := by
  have isT := tc_sub
  have ty : (⟨h, g, d, t, os⟩ : Shared).TypeIs (.ref C) "type" := ⟨_, hC, rfl⟩
  simp only [checkBuiltinCall, tc_kind, tc_split]
  repeat
    any_goals
      first
      | assumption
      | with_reducible refine wpAny_loadPart_at hC ?_
      | with_reducible refine wpAny_onRaise ?_
      | with_reducible refine wpAny_map ?_
      | wp_step
end
section
variable {prog : Program} {w : World} {A : Around} {E : Value → Shared → Prop} {R : Result → Shared → Prop} {h : Heap} {g : Array GenState} {d : Drawn} {t : Nat} {os : OsState}
variable {nm q : Str} {C N fI : Addr} {bs bm tl : List Value} {hdct : Bool} {sn : List Str} {sub : List Value} {ab : Bool} {col : Option Bool} {dd : Option Addr} {k0 k1 k2 k3 k5 : Option Value} {B nw ini : String} {kw : List (Str × Value)}
/-- the heap with a new exception of no arguments -/
abbrev bornE (h : Heap) (C : Addr) : Heap := (h.push (kdv_tup [])).push (excO C h.objs.size)
theorem born_keep {b : Addr} {o : Obj} (e : h.get? b = some o) : (bornE h C).get? b = some o := Heap.get?_push_of_some _ (Heap.get?_push_of_some _ e)
theorem born_kw (F : ExcBaseFacts B nw ini tl) (same : ∀ X : String, bm.contains (.type X) = tl.contains (.type X)) (hC : h.get? C = some (excClassObj nm q C N bs bm hdct sn sub ab col dd k0 k1 k2 k3 k5 nw))
    (z : R (.ok (.ret (.ref (h.objs.size + 1)))) ⟨bornE h C, g, d, t, os⟩) : codeAny (model prog w) A (.builtin nw ⟨[.ref C], kw⟩) R ⟨h, g, d, t, os⟩ := by
  have last := F.ends
  have isB : (Value.ref C :: bm).contains (.type B) = true := by rw [List.contains_cons, same, F.hasB, Bool.or_true]
  have noA : (Value.ref C :: bm).contains (.type "AttributeError") = false := by rw [List.contains_cons, same, F.noAttr]; rfl
  have noN : (Value.ref C :: bm).contains (.type "NameError") = false := by rw [List.contains_cons, same, F.noName]; rfl
  have few : ([] : List Value).length ≤ sizeLine := Nat.zero_le _
  refine codeAny_builtinAt F.entry ?_
  unfold Builtin.«BaseException.__new__»
  refine PySem.wpAt_bind ?_
  show PySem.wpAt _ _ _ (stack >>= _) _ _ _
  refine PySem.wpAt_bind (PySem.wpAt_stack fun p below => PySem.wpAt_of_wpAny ?_)
  wp_walk
  refine PySem.wpAt_of_wpAny ?_
  rw [F.owner]
  repeat
    first
    | with_reducible refine wpAny_madeHere_exc F.canon hC ?_
    | with_reducible refine wpAny_loadPart_at hC ?_
    | (with_reducible refine wpAny_isSubtype_exc hC ?_
       first | rw [isB] | rw [noA] | rw [noN])
    | wp_step
  show R _ _
  rw [Heap.size_push]
  exact z
theorem call_kw (F : ExcBaseFacts B nw ini tl) (same : ∀ X : String, bm.contains (.type X) = tl.contains (.type X)) (hC : h.get? C = some (excClassObj nm q C N bs bm hdct sn sub ab col dd k0 k1 k2 k3 k5 nw))
    (hi : Looks (model prog w) h (typeLookup (.ref C) "__init__") (some (.ref fI))) (hb : ∀ self, Looks (model prog w) h (bindSpecial (.ref fI) self) (.ref fI, [self]))
    (z : codeAny (model prog w) (A.under (.builtin "type.__call__" ⟨[.ref C], kw⟩)) (.call (.ref fI) ⟨[.ref (h.objs.size + 1)], kw⟩) (InitBack (h.objs.size + 1) R) ⟨bornE h C, g, d, t, os⟩) :
    codeAny (model prog w) A (.call (.ref C) ⟨[], kw⟩) R ⟨h, g, d, t, os⟩ := by
  have l1 := tc_lookup
  have l2 := tc_bind (.ref C)
  have ty : (⟨h, g, d, t, os⟩ : Shared).TypeIs (.ref C) "type" := ⟨_, hC, rfl⟩
  have hC2 := born_keep (C := C) hC
  have he : (bornE h C).get? (h.objs.size + 1) = some (excO C h.objs.size) := by heap_get
  have itself : (Value.ref C :: bm).contains (.ref C) = true := by simp
  have i2 := hi.keeps (h' := bornE h C) fun b o e => born_keep e
  have b2 := (hb (.ref (h.objs.size + 1))).keeps (h' := bornE h C) fun b o e => born_keep e
  refine codeAny_of_tree ?_
  show wpAny _ _ (callAny (.ref C) _) _ _ _
  repeat any_goals (first | assumption | with_reducible refine wpAny_loadPart_at hC ?_ | wp_step)
  refine ⟨rfl, ?_⟩
  refine codeAny_call_builtin_at (Code.quiet_builtin _ (by decide +kernel)) entry_typeCall (fits_call hC ?_)
  repeat first | with_reducible refine wpAny_loadPart_at hC ?_ | with_reducible refine wpAny_madeBy_exc hC ?_ | wp_step
  refine codeAny_call_builtin_code (Code.quiet_builtin _ F.quiet) (fits_new F same hC (born_kw F same hC ?_))
  show wpAny _ _ _ _ _ _
  unfold isInstance
  repeat
    first
    | with_reducible refine wpAny_loadPart_at he ?_
    | (with_reducible refine wpAny_isSubtype_exc hC2 ?_
       rw [itself])
    | wp_step
  show wpAny _ _ (typeLookup (.ref C) _) _ _ _
  refine i2.at ?_
  refine wpAny_holding (wpAny_bind (b2.at ?_))
  refine wpAny_bind (wpAny_call (codeAny_mono z fun r s' y => ?_))
  rcases r with e | fl
  · exact y
  · cases fl with
    | ret v =>
      obtain ⟨rfl, y⟩ := y
      first
        | exact wpAny_pure (wpAny_pure y)
        | (wp_walk
           exact y)
    | _ => exact y.elim
end
/-- as it is, or turned about -/
def pmB {α : Type} (b : Bool) (xs : List α) : List α := if b = true then xs.reverse else xs
theorem pmB_len {α : Type} {b : Bool} {xs : List α} : (pmB b xs).length = xs.length := by
  unfold pmB
  split
  · exact List.length_reverse
  · rfl
theorem pmB_two {α : Type} {b : Bool} {xs : List α} : pmB b (pmB b xs) = xs := by
  cases b
  · rfl
  · exact List.reverse_reverse xs
/-- __init__ at fI stores what is passed by its words, in the order of the fields or turned about -/
def IniOkK (K : Frag) (C fI : Addr) (fs : List Str) (b : Bool) : Prop := ∀ {prog : Program} {w : World} {A : Around} {R : Result → Shared → Prop} {s : Shared} {x t0 : Addr} {vs : List Value}, vs.length = fs.length → K.In s.heap → s.heap.NoLimit → s.heap.get? x = some (excO C t0) → K.lookup x = none → A.depth < recursionLimit →
  (∀ h' tk dx m, IniE s.heap h' x C dx t0 m → (∀ y, m y = (fs.zip vs).lookup y) → R (.ok (.ret .none)) { s with heap := h', toks := tk }) → codeAny (model prog w) A (.call (.ref fI) ⟨[.ref x], (pmB b fs).zip (pmB b vs)⟩) R s
section
variable {K : Frag} {C fI : Addr} {B nw ini : String} {tl : List Value} {f g q0 : Str} {oc : Value} {od : Option Addr} {doc pm : Value} {an : Option Addr} {cdv ct : Value} {osl : Array (Option Value)} {p1 p2 p3 q1 q2 q3 q4 q5 q6 q7 q8 : Pos}
theorem ini_oneK (Tl : TlF B nw ini tl) (T : ExcK K C fI nw tl [f]) (ho : K.lookup fI = some ⟨oc, od, .func (fnOf "__init__" q0 (iA1 f p1 p2) (iB1 f q1 q2 q3 q4) (iS1 f) .none .none doc pm an cdv ct), osl⟩) (hcd : codeIn K cdv q0 = true)
    (hb : ∀ (x : Addr) (v : Value), bindArgs (fnOf "__init__" q0 (iA1 f p1 p2) (iB1 f q1 q2 q3 q4) (iS1 f) .none .none doc pm an cdv ct) ⟨[.ref x], [(f, v)]⟩ = pure [(("self" : Str), .ref x), (f, v)])
    (nf : f ≠ "self") (nd : (f == ("__debug__" : Str)) = false) : IniOkK K C fI [f] false := by
  intro prog w A R s x t0 vs hl X hlim hx hnx hroom hq
  match vs, hl with
  | [v], _ =>
  have f0 : (f == ("self" : Str)) = false := by simpa using nf
  have kf : List.lookup f (iS1 f).names = some .local := by simp [iS1, List.lookup, f0]
  have ks : List.lookup ("self" : Str) (iS1 f).names = some .local := rfl
  refine Att.call_fn (binds := [("self", .ref x), (f, v)]) X hlim ho hcd hroom (BindsTo.of_eq (hb x v)) ?_ (fun s₁ IC => ?_) rfl rfl rfl
  · rw [List.all_cons, List.all_cons, kf, ks]
    rfl
  obtain ⟨h₁, tk₁, rfl⟩ := IC.toInCall.same
  have k : ∀ b o, s.heap.get? b = some o → h₁.get? b = some o := IC.toInCall.keep
  have hn := IC.toInCall.ns
  have nd2 : ([("self" : Str), f]).Nodup := by simp [Ne.symm nf]
  have mf : bindL (envOfC q0 (iS1 f) s.heap.objs.size fI cdv).kindOf ([("self" : Str), f].zip [.ref x, v]) (fun _ => none) f = some v := bindL_get (i := 1) nd2 rfl rfl kf
  have ms : bindL (envOfC q0 (iS1 f) s.heap.objs.size fI cdv).kindOf ([("self" : Str), f].zip [.ref x, v]) (fun _ => none) "self" = some (.ref x) := bindL_get (i := 0) nd2 rfl rfl ks
  have X₁ : K.In h₁ := X.keeps k
  have hx₁ := k _ _ hx
  show wpAny _ _ (execs _ _) _ _ _
  refine wpAny_execs_cons (plainObj_wpAny_Assign_Attribute ?_)
  refine lkC (v := v) hn mf (lkC (v := .ref x) hn ms ?_ rfl ks) rfl kf nd
  refine set_plain X₁ (ox := excO C t0) (od := none) ⟨hx₁, rfl, rfl, trivial⟩ T.sa ?_
  refine put_first Tl T (List.mem_singleton.mpr rfl) X₁ hx₁ fun h₃ tk₃ dx k₃ dn dne hx₃ hn₃ => ?_
  show wpAny _ _ (execs _ _) _ _ _
  have z : s.heap.objs.size < h₁.objs.size := hn.lt
  refine wpAny_execs_nil (hq h₃ tk₃ dx _ ⟨fun b o hb e => k₃ b o hb (k b o e), hx₃, Nat.le_of_lt (Nat.lt_of_lt_of_le z dn), dne, hn₃⟩ fun y => ?_)
  show _ = List.lookup y [(f, v)]
  by_cases e : y = f
  · subst e
    rw [if_pos rfl]
    simp [List.lookup]
  · have e2 : (y == f) = false := by simpa using e
    rw [if_neg e]
    simp [List.lookup, e2]
theorem ini_twoK (Tl : TlF B nw ini tl) (T : ExcK K C fI nw tl [f, g]) (ho : K.lookup fI = some ⟨oc, od, .func (fnOf "__init__" q0 (iA2 f g p1 p2 p3) (iB2 f g q1 q2 q3 q4 q5 q6 q7 q8) (iS2 f g) .none .none doc pm an cdv ct), osl⟩) (hcd : codeIn K cdv q0 = true)
    (hb : ∀ (x : Addr) (v u : Value), bindArgs (fnOf "__init__" q0 (iA2 f g p1 p2 p3) (iB2 f g q1 q2 q3 q4 q5 q6 q7 q8) (iS2 f g) .none .none doc pm an cdv ct) ⟨[.ref x], [(g, u), (f, v)]⟩ = pure [(("self" : Str), .ref x), (f, v), (g, u)])
    (nf : f ≠ "self") (ng : g ≠ "self") (nfg : f ≠ g) (nd : (f == ("__debug__" : Str)) = false) (nd' : (g == ("__debug__" : Str)) = false) : IniOkK K C fI [f, g] true := by
  intro prog w A R s x t0 vs hl X hlim hx hnx hroom hq
  match vs, hl with
  | [v, u], _ =>
  have f0 : (f == ("self" : Str)) = false := by simpa using nf
  have g0 : (g == ("self" : Str)) = false := by simpa using ng
  have g1 : (g == f) = false := by simpa using Ne.symm nfg
  have kf : List.lookup f (iS2 f g).names = some .local := by simp [iS2, List.lookup, f0]
  have kg : List.lookup g (iS2 f g).names = some .local := by simp [iS2, List.lookup, g0, g1]
  have ks : List.lookup ("self" : Str) (iS2 f g).names = some .local := rfl
  refine Att.call_fn (binds := [("self", .ref x), (f, v), (g, u)]) X hlim ho hcd hroom (BindsTo.of_eq (hb x v u)) ?_ (fun s₁ IC => ?_) rfl rfl rfl
  · rw [List.all_cons, List.all_cons, List.all_cons, kf, kg, ks]
    rfl
  obtain ⟨h₁, tk₁, rfl⟩ := IC.toInCall.same
  have k : ∀ b o, s.heap.get? b = some o → h₁.get? b = some o := IC.toInCall.keep
  have hn := IC.toInCall.ns
  have nd2 : ([("self" : Str), f, g]).Nodup := by simp [Ne.symm nf, Ne.symm ng, nfg]
  have mf : bindL (envOfC q0 (iS2 f g) s.heap.objs.size fI cdv).kindOf ([("self" : Str), f, g].zip [.ref x, v, u]) (fun _ => none) f = some v := bindL_get (i := 1) nd2 rfl rfl kf
  have mg : bindL (envOfC q0 (iS2 f g) s.heap.objs.size fI cdv).kindOf ([("self" : Str), f, g].zip [.ref x, v, u]) (fun _ => none) g = some u := bindL_get (i := 2) nd2 rfl rfl kg
  have ms : bindL (envOfC q0 (iS2 f g) s.heap.objs.size fI cdv).kindOf ([("self" : Str), f, g].zip [.ref x, v, u]) (fun _ => none) "self" = some (.ref x) := bindL_get (i := 0) nd2 rfl rfl ks
  have X₁ : K.In h₁ := X.keeps k
  have hx₁ := k _ _ hx
  have z : s.heap.objs.size < h₁.objs.size := hn.lt
  show wpAny _ _ (execs _ _) _ _ _
  refine wpAny_execs_cons (plainObj_wpAny_Assign_Attribute ?_)
  refine lkC (v := v) hn mf (lkC (v := .ref x) hn ms ?_ rfl ks) rfl kf nd
  refine set_plain X₁ (ox := excO C t0) (od := none) ⟨hx₁, rfl, rfl, trivial⟩ T.sa ?_
  refine put_first Tl T (List.mem_cons_self ..) X₁ hx₁ fun h₃ tk₃ dx k₃ dn dne hx₃ hn₃ => ?_
  have nL : s.heap.objs.size ≠ x := Nat.ne_of_gt (Heap.lt_size hx)
  have hn' : h₃.Ns s.heap.objs.size _ := hn.at fun o e => k₃ _ o nL e
  have X₃ : K.In h₃ := fun a o e => k₃ a o (fun z => by rw [z, hnx] at e; cases e) (X₁ a o e)
  obtain ⟨oD, esD, epD, hoD, hdD, _⟩ := id hn₃
  show wpAny _ _ (execs _ _) _ _ _
  refine wpAny_execs_cons (plainObj_wpAny_Assign_Attribute ?_)
  refine lkC (v := u) hn' mg (lkC (v := .ref x) hn' ms ?_ rfl ks) rfl kg nd'
  refine set_plain X₃ (ox := { excO C t0 with dict := some dx }) (od := some oD) ⟨hx₃, rfl, rfl, hoD⟩ T.sa ?_
  refine put_more Tl T (List.mem_cons_of_mem _ (List.mem_cons_self ..)) X₃ hx₃ hn₃ (nl := [f]) (fun y hy => ?_) (by simp) fun h₅ tk₅ k₅ hn₅ => ?_
  · by_cases e : y = f
    · rw [e]
      exact List.mem_singleton.mpr rfl
    · rw [if_neg e] at hy
      exact absurd rfl hy
  show wpAny _ _ (execs _ _) _ _ _
  refine wpAny_execs_nil (hq h₅ tk₅ dx _ ⟨fun b o hb e => k₅ b o ?_ (k₃ b o hb (k b o e)), k₅ _ _ (Ne.symm dne) hx₃, Nat.le_of_lt (Nat.lt_of_lt_of_le z dn), dne, hn₅⟩ fun y => ?_)
  · exact Nat.ne_of_lt (Nat.lt_of_lt_of_le (Heap.lt_size (k b o e)) dn)
  show _ = List.lookup y [(f, v), (g, u)]
  by_cases e : y = g
  · subst e
    rw [if_pos rfl]
    simp [List.lookup, g1]
  · have e2 : (y == g) = false := by simpa using e
    rw [if_neg e]
    by_cases e' : y = f
    · subst e'
      rw [if_pos rfl]
      simp [List.lookup]
    · have e3 : (y == f) = false := by simpa using e'
      rw [if_neg e']
      simp [List.lookup, e2, e3]
end
section
variable {prog : Program} {w : World} {A : Around} {E : Value → Shared → Prop} {R : Result → Shared → Prop} {s : Shared} {K : Frag} {C fI : Addr} {B nw ini : String} {tl : List Value} {fs : List Str} {b : Bool}
theorem exc_madeK (Tl : TlF B nw ini tl) (T : ExcK K C fI nw tl fs) (In : IniOkK K C fI fs b) {us : List Value} (hl : us.length = fs.length) (X : K.In s.heap) (hlim : s.heap.NoLimit) (hroom : A.depth + 1 < recursionLimit)
    (hq : ∀ h' tk e d m, MadeE s.heap h' e C d m → (∀ y, m y = (fs.zip us).lookup y) → R (.ok (.ret (.ref e))) { s with heap := h', toks := tk }) :
    codeAny (model prog w) A (.call (.ref C) ⟨[], (pmB b fs).zip (pmB b us)⟩) R s := by
  obtain ⟨nm, N, qn, bs, bm, hdct, sn, sub, ab, col, dd, k0, k1, k2, k3, k5, hC, hT⟩ := excInit_of X T.q
  obtain ⟨hp, g, dr, tk, os⟩ := s
  have he : (bornE hp C).get? (hp.objs.size + 1) = some (excO C hp.objs.size) := by heap_get
  have hnx : K.lookup (hp.objs.size + 1) = none := by
    cases e : K.lookup (hp.objs.size + 1) with
    | none => rfl
    | some o => exact absurd (Nat.lt_of_succ_lt (Heap.lt_size (show hp.get? (hp.objs.size + 1) = some o from X _ _ e))) (Nat.lt_irrefl _)
  refine call_kw Tl.base hT hC (looks_findIn X T.ini) (fun self => bind_fn X self T.fn) ?_
  refine In (s := ⟨bornE hp C, g, dr, tk, os⟩) hl (X.keeps fun b o e => born_keep e) (hlim.keeps fun b o e => born_keep e) he hnx (show A.depth + 1 < recursionLimit from hroom) fun h' tk' dx m I hm => ?_
  have big : hp.objs.size + 1 + 1 ≤ dx := by simpa only [bornE, Heap.size_push] using I.big
  exact ⟨rfl, hq h' tk' (hp.objs.size + 1) dx m ⟨fun b o e => I.keep b o (Nat.ne_of_lt (Nat.lt_succ_of_lt (Heap.lt_size e))) (born_keep e), Nat.le_succ _, ⟨_, _, I.obj, rfl, rfl, rfl, rfl, rfl⟩, Nat.le_trans (Nat.le_trans (Nat.le_succ _) (Nat.le_succ _)) big, I.ne, I.ns⟩ hm⟩
end
theorem vals_rev : ∀ {vs : List V} {us : List Value}, Vals vs us → ∀ {vs2 : List V} {us2 : List Value}, Vals vs2 us2 → Vals (vs.reverseAux vs2) (us.reverseAux us2)
  | _, _, .nil, _, _, r2 => r2
  | _, _, .cons r rs, _, _, r2 => vals_rev rs (.cons r r2)
theorem vals_pm {b : Bool} {vs : List V} {us : List Value} (r : Vals vs us) : Vals (pmB b vs) (pmB b us) := by
  cases b
  · exact r
  · exact vals_rev r .nil
theorem reps_rev {K : Frag} {F : Hp} : ∀ {vs : List V} {us : List D}, Reps K F vs us → ∀ {vs2 : List V} {us2 : List D}, Reps K F vs2 us2 → Reps K F (vs.reverseAux vs2) (us.reverseAux us2)
  | _, _, .nil, _, _, r2 => r2
  | _, _, .cons r rs, _, _, r2 => reps_rev rs (.cons r r2)
theorem reps_pm {K : Frag} {F : Hp} {b : Bool} {vs : List V} {us : List D} (r : Reps K F vs us) : Reps K F (pmB b vs) (pmB b us) := by
  cases b
  · exact r
  · exact reps_rev r .nil
/-- n(f = e, ..) -/
def excKE [FE] (n : Str) (fs : List Str) (b : Bool) (g : Rho → R (List D)) : EF := fun ρ => (g ρ).bind fun ds ρ => if ds.length = fs.length then .ok (.err n (FE.cl n) (fs.zip (pmB b ds))) ρ else .stuck
section
variable {X : Cx} {C fI : Addr} {B nw ini : String} {tl : List Value} {fs : List Str} {b : Bool} {kws : List Keyword} {tk : TA} {x : Str} {p pos : Pos} {k : Nat}
theorem pe_madeK (Tl : TlF B nw ini tl) (T : ExcK X.K C fI nw tl fs) (In : IniOkK X.K C fI fs b) (hr : Room k X.A) (hg : Gl X x) (hm : X.mg x = some (.ref C)) (hkw : PK X kws tk)
    (hks : (backToKw pos (keywordEach kws X.env)).filterMap (·.1) = pmB b fs := by rfl) (hall : (backToKw pos (keywordEach kws X.env)).all (·.1.isSome) = true := by rfl) (hdb : (x == ("__debug__" : Str)) = false := by decide)
    (hpl : ((backTo pos (starEach [] X.env)).any (·.1) || (backToKw pos (keywordEach kws X.env)).any (·.1.isNone)) = false := by rfl) :
    PE X (.Call (.Name x p) [] kws pos) (fun σ H Q => tk σ H fun zs H1 => zs.length = fs.length ∧ ∀ d e, H1 d = none → H1 e = none → d ≠ e → Q (.ref e) (upd (upd H1 d (.xd (fs.zip (pmB b zs)))) e (exV e C (some d)))) := by
  refine ⟨fun pins s σ H Q I h => ?_⟩
  refine wpAny_Call_Name_kw (ld_glob I hg hm ?_ hdb)
  refine PySem.W.callWith_KW0 (h₀ := X.base) I.ok.mod.kin T.kp hall ?_ hpl
  refine thn (hkw.run pos pins s σ H _ I h) fun ws s1 ⟨zs, H1, I1, rz, hl, q1⟩ => ⟨I1.kIn, ?_⟩
  rw [hks]
  have hlim := I1.nolimit
  obtain ⟨hp, g, dr, tk, os⟩ := s1
  have lw : (pmB b ws).length = fs.length := by rw [pmB_len, ← rz.length]; exact hl
  have z := exc_madeK (prog := X.prog) (w := X.w) (A := X.A) (R := fun r s' => match r with
    | .ok (.ret v) => EP X pins σ Q v s'
    | .ok _ => False
    | .error e => X.xe e s') (s := ⟨hp, g, dr, tk, os⟩) Tl T In (us := pmB b ws) lw I1.kIn hlim (by have := hr.dp; omega) fun h' tk' e d m M hm => by
      obtain ⟨J, fd, fe, ne⟩ := laidE (tk' := tk') I1 M hm (vals_pm rz)
      exact ⟨.ref e, _, J, rfl, q1 d e fd fe ne⟩
  rw [pmB_two] at z
  exact wpAny_call z
end
section
variable [FE]
variable {X : Cx} {π : Nat → Addr} {W : WX} {C fI : Addr} {B nw ini : String} {tl : List Value} {fs : List Str} {b : Bool} {kws : List Keyword} {x : Str} {p pos : Pos} {k : Nat}
theorem fe_excK {g : Rho → R (List D)} (Tl : TlF B nw ini tl) (T : ExcK X.K C fI nw tl fs) (In : IniOkK X.K C fI fs b) (hcl : FE.cl x = C) (hr : Room k X.A) (hg : Gl X x) (hm : X.mg x = some (.ref C)) (ha : PK X kws (tA X.K π W g))
    (hks : (backToKw pos (keywordEach kws X.env)).filterMap (·.1) = pmB b fs := by rfl) (hall : (backToKw pos (keywordEach kws X.env)).all (·.1.isSome) = true := by rfl) (hdb : (x == ("__debug__" : Str)) = false := by decide)
    (hpl : ((backTo pos (starEach [] X.env)).any (·.1) || (backToKw pos (keywordEach kws X.env)).any (·.1.isNone)) = false := by rfl) :
    PE X (.Call (.Name x p) [] kws pos) (tE X.K π W (excKE x fs b g)) :=
  PE.imp (pe_madeK Tl T In hr hg hm ha hks hall hdb hpl) fun σ H Q ⟨c, F, ρ, S, P⟩ => by
    subst hcl
    refine po_bind S P fun vs F1 H1 ρ1 ds s1 S1 r1 P1 => ?_
    split at P1
    · rename_i hl
      exact ⟨by rw [Reps.length r1]; exact hl, fun d e hd he ne => rd_made S1 (reps_pm r1) (by rw [pmB_len]; exact hl) hd he ne P1⟩
    · exact P1.elim
end
end FL
/-! FL94: try: .. except A as e: .. among a def's statements. -/
namespace FL
open PySem PySem.Spec PyProof.Rows L2
section
variable [FE]
variable {K : PySem.W.Frag} {π : Nat → Addr} {W : WX} {c : Cfg} {F F' H H' : Hp} {σ σ' : L2.St} {ρ ρ' : Rho} {D : Ends}
/-- a name is gone -/
theorem Sta.drop (S : Sta K π c F H σ ρ) (i : Nat) : Sta K π c F H (σ.set i none) (ρ.set i .no) := by
  refine ⟨S.h0, S.hio, S.f0, S.f, S.nf, by rw [List.length_set, List.length_set]; exact S.len, fun j s hs => ?_, fun j k p h1 h2 => ?_, S.t⟩
  · by_cases e : j = i
    · subst e
      by_cases hi : j < ρ.length
      · rw [List.getElem?_set_self hi] at hs
        cases hs
        trivial
      · rw [List.getElem?_eq_none (by rw [List.length_set]; omega)] at hs
        cases hs
    · rw [List.getElem?_set_ne (Ne.symm e)] at hs
      have z := S.rep j s hs
      have g : (σ.set i none)[j]? = σ[j]? := List.getElem?_set_ne (Ne.symm e)
      cases s with
      | no => trivial
      | val d => obtain ⟨w, e1, r1⟩ := z; exact ⟨w, g.trans e1, r1⟩
      | own m => obtain ⟨p, e1, r1⟩ := z; exact ⟨p, g.trans e1, r1⟩
      | io m => obtain ⟨e1, r1⟩ := z; exact ⟨g.trans e1, r1⟩
  · have key : ∀ j, OwnAt (σ.set i none) (ρ.set i .no) j p → OwnAt σ ρ j p := fun j h => by
      obtain ⟨e, m, h⟩ := h
      by_cases q : j = i
      · subst q
        by_cases hi : j < ρ.length
        · rw [List.getElem?_set_self hi] at h
          rcases h with h | h <;> cases h
        · rw [List.getElem?_eq_none (by rw [List.length_set]; omega)] at h
          rcases h with h | h <;> cases h
      · rw [List.getElem?_set_ne (Ne.symm q)] at e h
        exact ⟨e, m, h⟩
    exact S.dis j k p (key j h1) (key k h2)
end
open Classical in
/-- what the suite leaves, whatever the object -/
noncomputable def sutS (i : Nat) (gs : EId → SF) (C : Str) (fs : List (Str × D)) (ρ : Rho) : Option Rho :=
  if h : ∃ ρ2 : Rho, ∀ x : EId, x.C = C → ∃ ρ1 : Rho, gs x (ρ.set i (.val (.exc x fs))) = .ok .nx ρ1 ∧ ρ1.set i .no = ρ2 then some h.choose else none
theorem sutS_ok {i : Nat} {gs : EId → SF} {C : Str} {fs : List (Str × D)} {ρ ρ2 : Rho} (h : sutS i gs C fs ρ = some ρ2) : ∀ x : EId, x.C = C → ∃ ρ1 : Rho, gs x (ρ.set i (.val (.exc x fs))) = .ok .nx ρ1 ∧ ρ1.set i .no = ρ2 := by
  unfold sutS at h
  split at h
  · rename_i w
    cases h
    exact w.choose_spec
  · cases h
theorem sutS_eq {i : Nat} {gs : EId → SF} {C : Str} {fs : List (Str × D)} {ρ ρ2 : Rho} (h : ∀ x : EId, x.C = C → ∃ ρ1 : Rho, gs x (ρ.set i (.val (.exc x fs))) = .ok .nx ρ1 ∧ ρ1.set i .no = ρ2) : sutS i gs C fs ρ = some ρ2 := by
  have w : ∃ ρ2 : Rho, ∀ x : EId, x.C = C → ∃ ρ1 : Rho, gs x (ρ.set i (.val (.exc x fs))) = .ok .nx ρ1 ∧ ρ1.set i .no = ρ2 := ⟨ρ2, h⟩
  unfold sutS
  rw [dif_pos w]
  obtain ⟨r1, a1, b1⟩ := h ⟨0, none, C⟩ rfl
  obtain ⟨r2, a2, b2⟩ := w.choose_spec ⟨0, none, C⟩ rfl
  rw [a1] at a2
  cases a2
  rw [← b1, ← b2]
/-- try: sb except m as (slot i): gs -/
noncomputable def tryS (ct : CT) (m : Str) (i : Nat) (sb : SF) (gs : EId → SF) : SF := fun ρ => match sb ρ with
  | .exc C fs ρ' => if caught ct [m] C = true ∧ i < ρ'.length then match sutS i gs C fs ρ' with
      | some ρ2 => .ok .nx ρ2
      | none => .stuck
    else .stuck
  | .ok fl ρ' => .ok fl ρ'
  | .stuck => .stuck
section
variable [FE]
variable {X : Cx} {π : Nat → Addr} {W : WX} {x n : Str} {i : Nat} {body suite : List Stmt} {b₀ : Stmt} {np pos pos' : Pos} {sb : SF} {gs : EId → SF} {ct : CT}
theorem fs_try (hs : X.stack = X.env :: X.outer) (hf : X.env.frame = some X.env.locals) (hN : X.N.Nodup) (hi : X.N[i]? = some n) (hln : X.env.kindOf n = some .local) (hgx : Gl X x) (hmx : X.mg x = some (.ref (FE.cl x))) (tk : L2N.Takes X W)
    (te : ∀ C v, ct.lookup C = some v → PySem.W.exmOne X.K (.ref (FE.cl C)) (.ref (FE.cl x)) = some (v.1.contains x))
    (hb : ∀ (W' : WX) (pn : List (Addr × Obj)) (xe : Value → Shared → Prop), L2N.Takes (X.tr pn xe) W' → PSs (X.tr pn xe) body (tS X.K π W' sb))
    (hsu : ∀ (z : EId) (oe : Obj) (pn : List (Addr × Obj)), HotX (X.suite z.a ((z.a, oe) :: pn)) z → (∃ v, ct.lookup z.C = some v) → PSs (X.suite z.a ((z.a, oe) :: pn)) (b₀ :: suite) (tS X.K π W (gs z)))
    (hdx : (x == ("__debug__" : Str)) = false := by decide) :
    PS X (.Try body [.ExceptHandler (some (.Name x np)) (some n) (b₀ :: suite) pos'] [] [] pos) (tS X.K π W (tryS ct x i sb gs)) := by
  have hs1 : ∀ (ax : Addr) (oe : Obj) (cls : Value) (d : Option Addr) (pn : List (Addr × Obj)), L2N.Zn cls d oe → (∃ vs, oe.data = .fields vs) → PSs (X.suite ax ((ax, oe) :: pn)) (b₀ :: suite) ((fun (ax : Addr) (cls : Value) (d : Option Addr) (D : Ends) (σZ : L2.St) (HZ : Hp) => ∃ C : Str, cls = .ref (FE.cl C) ∧ (∃ v, ct.lookup C = some v) ∧ tS X.K π W (gs ⟨ax, d, C⟩) D σZ HZ) ax cls d) := fun ax oe cls d pn hz hf => ⟨fun pins s' σZ HZ D I ⟨C, ec, hk, h⟩ => by
    subst ec
    exact (hsu ⟨ax, d, C⟩ oe pn ⟨oe, rfl, List.mem_cons_self, hz, hf⟩ hk).run pins s' σZ HZ D I h⟩
  refine PS.imp (L2N.ps_try_as (c := .ref (FE.cl x)) (Wout := W) (tb := fun W' => tS X.K π W' sb) hs hf hN hi hln ⟨hgx, hdx, .inl hmx⟩ tk (fun W' pn xe tk' _ => hb W' pn xe tk') hs1) fun D σ H h => ?_
  obtain ⟨c0, F, ρ, h0, S, P⟩ := h
  refine ⟨c0, F, ρ, h0, S, ?_⟩
  have P : PoS X.K π W c0 F σ D (match sb ρ with
    | .exc C fs ρ' => if caught ct [x] C = true ∧ i < ρ'.length then match sutS i gs C fs ρ' with
        | some ρ2 => .ok .nx ρ2
        | none => .stuck
      else .stuck
    | .ok fl ρ' => .ok fl ρ'
    | .stuck => .stuck) := P
  cases er : sb ρ with
  | stuck => rw [er] at P; exact P.elim
  | ok fl ρ1 =>
    rw [er] at P
    cases fl <;> exact P
  | exc C fs ρ1 =>
    rw [er] at P
    dsimp only at P
    intro dd fsV σ1 F1 H1 s1 S1 xd hk rs
    split at P
    · rename_i hc
      obtain ⟨hc, hl⟩ := hc
      cases el : ct.lookup C with
      | none =>
        unfold caught at hc
        rw [el] at hc
        cases hc
      | some v =>
        have hx : v.1.contains x = true := by
          unfold caught at hc
          rw [el] at hc
          simpa using hc
        have ea := te C v el
        rw [hx] at ea
        cases es : sutS i gs C fs ρ1 with
        | none => rw [es] at P; exact P.elim
        | some ρ2 =>
          rw [es] at P
          refine ⟨true, ea, fun _ ax hax => ⟨C, rfl, ⟨v, el⟩, c0, F1, ρ1.set i (.val (.exc ⟨ax, dd, C⟩ fs)), h0, S1.set hl (.exc (x := ⟨ax, dd, C⟩) xd hk rs), ?_⟩, fun z => nomatch z⟩
          obtain ⟨ρ3, e3, e4⟩ := sutS_ok es ⟨ax, dd, C⟩ rfl
          rw [e3]
          intro σ2 F2 H2 s2 T2
          have T3 := T2.drop i
          rw [e4] at T3
          exact P _ _ _ (s1.trans s2) T3
    · exact P.elim
end
end FL
namespace Wk
open PySem PySem.Spec PyProof.Rows L2 FL
def top (i : Nat) : Stmt := PySem.Challenge.pw_lenspairs_k01_limits_and_errors.main.body.getD i (.Pass ⟨0, 0, 0, 0⟩)
abbrev s__law_every : Stmt := top 26
abbrev s__law_named : Stmt := top 27
abbrev s__law_bases : Stmt := top 29
abbrev s__law_has : Stmt := top 28
abbrev s__law_caught : Stmt := top 30
abbrev s__law_right : Stmt := top 31
abbrev s_law : Stmt := top 32
def ctab : CT := [("NotRight", ["NotRight", "ValueError"], []), ("InvalidText", ["InvalidText", "NotRight", "ValueError"], ["given"]), ("InvalidNumber", ["InvalidNumber", "NotRight", "ValueError"], ["given"]), ("InvalidName", ["InvalidName", "NotRight", "ValueError"], ["given"]), ("InvalidIndex", ["InvalidIndex", "NotRight", "ValueError"], ["given"]), ("InvalidPair", ["InvalidPair", "NotRight", "ValueError"], ["given"]), ("InvalidClaim", ["InvalidClaim", "NotRight", "ValueError"], ["given"]), ("InvalidCommand", ["InvalidCommand", "NotRight", "ValueError"], ["given"]), ("InvalidString", ["InvalidString", "NotRight", "ValueError"], ["index"]), ("NotKnown", ["NotKnown", "LookupError"], []), ("UnknownName", ["UnknownName", "NotKnown", "LookupError"], ["given"]), ("InUse", ["InUse", "NotKnown", "LookupError"], ["index"]), ("NothingToUndo", ["NothingToUndo", "NotKnown", "LookupError"], []), ("NotPossible", ["NotPossible", "ArithmeticError"], []), ("NotLed", ["NotLed", "NotPossible", "ArithmeticError"], ["pairs"]), ("NoMove", ["NoMove", "NotPossible", "ArithmeticError"], []), ("TooGreat", ["TooGreat", "NotPossible", "ArithmeticError"], ["most"]), ("Broken", ["Broken", "NotPossible", "ArithmeticError"], ["index", "shown"])]
def tests : List Str := ["NotPossible", "NotKnown", "NotRight", "ArithmeticError", "LookupError", "ValueError"]
def bltc : List (Str × String) := [("ValueError", "ValueError"), ("LookupError", "LookupError"), ("ArithmeticError", "ArithmeticError")]
def csn : List Str := ["NotRight", "NotKnown", "NotPossible"]
/-- what the module holds beside its defs -/
structure Txt [FE] (K : PySem.W.Frag) (mg : Str → Option Value) : Prop where
  k_Broken : mg "Broken" = some (.ref (FE.cl "Broken"))
  k_InUse : mg "InUse" = some (.ref (FE.cl "InUse"))
  k_InvalidClaim : mg "InvalidClaim" = some (.ref (FE.cl "InvalidClaim"))
  k_InvalidCommand : mg "InvalidCommand" = some (.ref (FE.cl "InvalidCommand"))
  k_InvalidIndex : mg "InvalidIndex" = some (.ref (FE.cl "InvalidIndex"))
  k_InvalidName : mg "InvalidName" = some (.ref (FE.cl "InvalidName"))
  k_InvalidNumber : mg "InvalidNumber" = some (.ref (FE.cl "InvalidNumber"))
  k_InvalidPair : mg "InvalidPair" = some (.ref (FE.cl "InvalidPair"))
  k_InvalidString : mg "InvalidString" = some (.ref (FE.cl "InvalidString"))
  k_InvalidText : mg "InvalidText" = some (.ref (FE.cl "InvalidText"))
  k_NoMove : mg "NoMove" = some (.ref (FE.cl "NoMove"))
  k_NotKnown : mg "NotKnown" = some (.ref (FE.cl "NotKnown"))
  k_NotLed : mg "NotLed" = some (.ref (FE.cl "NotLed"))
  k_NotPossible : mg "NotPossible" = some (.ref (FE.cl "NotPossible"))
  k_NotRight : mg "NotRight" = some (.ref (FE.cl "NotRight"))
  k_NothingToUndo : mg "NothingToUndo" = some (.ref (FE.cl "NothingToUndo"))
  k_TooGreat : mg "TooGreat" = some (.ref (FE.cl "TooGreat"))
  k_UnknownName : mg "UnknownName" = some (.ref (FE.cl "UnknownName"))
  x_Broken : ∃ fI : Addr, ExcK K (FE.cl "Broken") fI "ArithmeticError.__new__" [.type "ArithmeticError", .type "Exception", .type "BaseException", .type "object"] ["index", "shown"] ∧ IniOk K (FE.cl "Broken") fI ["index", "shown"]
  x_InUse : ∃ fI : Addr, ExcK K (FE.cl "InUse") fI "LookupError.__new__" [.type "LookupError", .type "Exception", .type "BaseException", .type "object"] ["index"] ∧ IniOk K (FE.cl "InUse") fI ["index"]
  x_InvalidClaim : ∃ fI : Addr, ExcK K (FE.cl "InvalidClaim") fI "ValueError.__new__" [.type "ValueError", .type "Exception", .type "BaseException", .type "object"] ["given"] ∧ IniOk K (FE.cl "InvalidClaim") fI ["given"]
  x_InvalidCommand : ∃ fI : Addr, ExcK K (FE.cl "InvalidCommand") fI "ValueError.__new__" [.type "ValueError", .type "Exception", .type "BaseException", .type "object"] ["given"] ∧ IniOk K (FE.cl "InvalidCommand") fI ["given"]
  x_InvalidIndex : ∃ fI : Addr, ExcK K (FE.cl "InvalidIndex") fI "ValueError.__new__" [.type "ValueError", .type "Exception", .type "BaseException", .type "object"] ["given"] ∧ IniOk K (FE.cl "InvalidIndex") fI ["given"]
  x_InvalidName : ∃ fI : Addr, ExcK K (FE.cl "InvalidName") fI "ValueError.__new__" [.type "ValueError", .type "Exception", .type "BaseException", .type "object"] ["given"] ∧ IniOk K (FE.cl "InvalidName") fI ["given"]
  x_InvalidNumber : ∃ fI : Addr, ExcK K (FE.cl "InvalidNumber") fI "ValueError.__new__" [.type "ValueError", .type "Exception", .type "BaseException", .type "object"] ["given"] ∧ IniOk K (FE.cl "InvalidNumber") fI ["given"]
  x_InvalidPair : ∃ fI : Addr, ExcK K (FE.cl "InvalidPair") fI "ValueError.__new__" [.type "ValueError", .type "Exception", .type "BaseException", .type "object"] ["given"] ∧ IniOk K (FE.cl "InvalidPair") fI ["given"]
  x_InvalidString : ∃ fI : Addr, ExcK K (FE.cl "InvalidString") fI "ValueError.__new__" [.type "ValueError", .type "Exception", .type "BaseException", .type "object"] ["index"] ∧ IniOk K (FE.cl "InvalidString") fI ["index"]
  x_InvalidText : ∃ fI : Addr, ExcK K (FE.cl "InvalidText") fI "ValueError.__new__" [.type "ValueError", .type "Exception", .type "BaseException", .type "object"] ["given"] ∧ IniOk K (FE.cl "InvalidText") fI ["given"]
  e_NoMove : Exc0 K (FE.cl "NoMove") "ArithmeticError.__new__" [.type "ArithmeticError", .type "Exception", .type "BaseException", .type "object"]
  x_NotLed : ∃ fI : Addr, ExcK K (FE.cl "NotLed") fI "ArithmeticError.__new__" [.type "ArithmeticError", .type "Exception", .type "BaseException", .type "object"] ["pairs"] ∧ IniOk K (FE.cl "NotLed") fI ["pairs"]
  e_NothingToUndo : Exc0 K (FE.cl "NothingToUndo") "LookupError.__new__" [.type "LookupError", .type "Exception", .type "BaseException", .type "object"]
  x_TooGreat : ∃ fI : Addr, ExcK K (FE.cl "TooGreat") fI "ArithmeticError.__new__" [.type "ArithmeticError", .type "Exception", .type "BaseException", .type "object"] ["most"] ∧ IniOk K (FE.cl "TooGreat") fI ["most"]
  x_UnknownName : ∃ fI : Addr, ExcK K (FE.cl "UnknownName") fI "LookupError.__new__" [.type "LookupError", .type "Exception", .type "BaseException", .type "object"] ["given"] ∧ IniOk K (FE.cl "UnknownName") fI ["given"]
  y_Broken : ∃ fI : Addr, ExcK K (FE.cl "Broken") fI "ArithmeticError.__new__" [.type "ArithmeticError", .type "Exception", .type "BaseException", .type "object"] ["index", "shown"] ∧ IniOkK K (FE.cl "Broken") fI ["index", "shown"] true
  y_InUse : ∃ fI : Addr, ExcK K (FE.cl "InUse") fI "LookupError.__new__" [.type "LookupError", .type "Exception", .type "BaseException", .type "object"] ["index"] ∧ IniOkK K (FE.cl "InUse") fI ["index"] false
  y_InvalidClaim : ∃ fI : Addr, ExcK K (FE.cl "InvalidClaim") fI "ValueError.__new__" [.type "ValueError", .type "Exception", .type "BaseException", .type "object"] ["given"] ∧ IniOkK K (FE.cl "InvalidClaim") fI ["given"] false
  y_InvalidCommand : ∃ fI : Addr, ExcK K (FE.cl "InvalidCommand") fI "ValueError.__new__" [.type "ValueError", .type "Exception", .type "BaseException", .type "object"] ["given"] ∧ IniOkK K (FE.cl "InvalidCommand") fI ["given"] false
  y_InvalidIndex : ∃ fI : Addr, ExcK K (FE.cl "InvalidIndex") fI "ValueError.__new__" [.type "ValueError", .type "Exception", .type "BaseException", .type "object"] ["given"] ∧ IniOkK K (FE.cl "InvalidIndex") fI ["given"] false
  y_InvalidName : ∃ fI : Addr, ExcK K (FE.cl "InvalidName") fI "ValueError.__new__" [.type "ValueError", .type "Exception", .type "BaseException", .type "object"] ["given"] ∧ IniOkK K (FE.cl "InvalidName") fI ["given"] false
  y_InvalidNumber : ∃ fI : Addr, ExcK K (FE.cl "InvalidNumber") fI "ValueError.__new__" [.type "ValueError", .type "Exception", .type "BaseException", .type "object"] ["given"] ∧ IniOkK K (FE.cl "InvalidNumber") fI ["given"] false
  y_InvalidPair : ∃ fI : Addr, ExcK K (FE.cl "InvalidPair") fI "ValueError.__new__" [.type "ValueError", .type "Exception", .type "BaseException", .type "object"] ["given"] ∧ IniOkK K (FE.cl "InvalidPair") fI ["given"] false
  y_InvalidString : ∃ fI : Addr, ExcK K (FE.cl "InvalidString") fI "ValueError.__new__" [.type "ValueError", .type "Exception", .type "BaseException", .type "object"] ["index"] ∧ IniOkK K (FE.cl "InvalidString") fI ["index"] false
  y_InvalidText : ∃ fI : Addr, ExcK K (FE.cl "InvalidText") fI "ValueError.__new__" [.type "ValueError", .type "Exception", .type "BaseException", .type "object"] ["given"] ∧ IniOkK K (FE.cl "InvalidText") fI ["given"] false
  y_NotLed : ∃ fI : Addr, ExcK K (FE.cl "NotLed") fI "ArithmeticError.__new__" [.type "ArithmeticError", .type "Exception", .type "BaseException", .type "object"] ["pairs"] ∧ IniOkK K (FE.cl "NotLed") fI ["pairs"] false
  y_TooGreat : ∃ fI : Addr, ExcK K (FE.cl "TooGreat") fI "ArithmeticError.__new__" [.type "ArithmeticError", .type "Exception", .type "BaseException", .type "object"] ["most"] ∧ IniOkK K (FE.cl "TooGreat") fI ["most"] false
  y_UnknownName : ∃ fI : Addr, ExcK K (FE.cl "UnknownName") fI "LookupError.__new__" [.type "LookupError", .type "Exception", .type "BaseException", .type "object"] ["given"] ∧ IniOkK K (FE.cl "UnknownName") fI ["given"] false
  t_ct : ClsT K ctab tests bltc
  t_ca : CauT K ctab csn
  b_ArithmeticError : mg "ArithmeticError" = none
  b_LookupError : mg "LookupError" = none
  b_ValueError : mg "ValueError" = none
  b_all : mg "all" = none
  b_int : mg "int" = none
  b_isinstance : mg "isinstance" = none
  b_len : mg "len" = none
  b_range : mg "range" = none
  b_repr : mg "repr" = none
  c_MOST_BEADS : ∃ t : Tok, mg "MOST_BEADS" = some (.int 200 t)
  c_MOST_LED : ∃ t : Tok, mg "MOST_LED" = some (.int 8 t)
  c_MOST_LISTED : ∃ t : Tok, mg "MOST_LISTED" = some (.int 500 t)
  c_MOST_LOOPS : ∃ t : Tok, mg "MOST_LOOPS" = some (.int 1000000 t)
  c_MOST_NUMBER : ∃ t : Tok, mg "MOST_NUMBER" = some (.int 1000000000 t)
  c_MOST_STEP : ∃ t : Tok, mg "MOST_STEP" = some (.int 20 t)
noncomputable section
def g__law_every_4 [FE] : SF := (retS (op2 addD (vr 2) (frz (dLst (cnsA (frz (dLst (cnsA (excE "TooGreat" ["most"] (cnsA (vr 0) nilA)) (cnsA (cst (.str "most")) nilA)))) (cnsA (frz (dLst (cnsA (excE "Broken" ["index", "shown"] (cnsA (vr 0) (cnsA (vr 1) nilA))) (cnsA (cst (.str "index")) nilA)))) nilA))))))
def g__law_every_3 [FE] : SF := (seqS (setS 2 (op2 addD (vr 2) (frz (dLst (cnsA (frz (dLst (cnsA (excE "InUse" ["index"] (cnsA (vr 0) nilA)) (cnsA (cst (.str "index")) nilA)))) (cnsA (frz (dLst (cnsA (excE0 "NothingToUndo") (cnsA (cst (.str "")) nilA)))) (cnsA (frz (dLst (cnsA (excE "NotLed" ["pairs"] (cnsA (vr 0) nilA)) (cnsA (cst (.str "pairs")) nilA)))) (cnsA (frz (dLst (cnsA (excE0 "NoMove") (cnsA (cst (.str "")) nilA)))) nilA)))))))) g__law_every_4)
def g__law_every_2 [FE] : SF := (seqS (setS 2 (op2 addD (vr 2) (frz (dLst (cnsA (frz (dLst (cnsA (excE "InvalidCommand" ["given"] (cnsA (vr 0) nilA)) (cnsA (cst (.str "given")) nilA)))) (cnsA (frz (dLst (cnsA (excE "InvalidString" ["index"] (cnsA (vr 0) nilA)) (cnsA (cst (.str "index")) nilA)))) (cnsA (frz (dLst (cnsA (excE "UnknownName" ["given"] (cnsA (vr 0) nilA)) (cnsA (cst (.str "given")) nilA)))) nilA))))))) g__law_every_3)
def g__law_every_1 [FE] : SF := (seqS (setS 2 (op2 addD (vr 2) (frz (dLst (cnsA (frz (dLst (cnsA (excE "InvalidIndex" ["given"] (cnsA (vr 0) nilA)) (cnsA (cst (.str "given")) nilA)))) (cnsA (frz (dLst (cnsA (excE "InvalidPair" ["given"] (cnsA (vr 0) nilA)) (cnsA (cst (.str "given")) nilA)))) (cnsA (frz (dLst (cnsA (excE "InvalidClaim" ["given"] (cnsA (vr 0) nilA)) (cnsA (cst (.str "given")) nilA)))) nilA))))))) g__law_every_2)
def g__law_every [FE] : SF := (seqS (setS 2 (frz (dLst (cnsA (frz (dLst (cnsA (excE "InvalidText" ["given"] (cnsA (vr 0) nilA)) (cnsA (cst (.str "given")) nilA)))) (cnsA (frz (dLst (cnsA (excE "InvalidNumber" ["given"] (cnsA (vr 0) nilA)) (cnsA (cst (.str "given")) nilA)))) (cnsA (frz (dLst (cnsA (excE "InvalidName" ["given"] (cnsA (vr 0) nilA)) (cnsA (cst (.str "given")) nilA)))) nilA)))))) g__law_every_1)
def G__law_every [FE] : List FL.Arg → RG := bodyG 3 g__law_every
def g__law_named_3 [FE] : SF := (retS (op2 addD (vr 2) (frz (dLst (cnsA (excKE "NotLed" ["pairs"] false (cnsA (vr 0) nilA)) (cnsA (excE0 "NoMove") (cnsA (excKE "TooGreat" ["most"] false (cnsA (vr 0) nilA)) (cnsA (excKE "Broken" ["index", "shown"] true (cnsA (vr 1) (cnsA (vr 0) nilA))) nilA))))))))
def g__law_named_2 [FE] : SF := (seqS (setS 2 (op2 addD (vr 2) (frz (dLst (cnsA (excKE "InvalidString" ["index"] false (cnsA (vr 0) nilA)) (cnsA (excKE "UnknownName" ["given"] false (cnsA (vr 0) nilA)) (cnsA (excKE "InUse" ["index"] false (cnsA (vr 0) nilA)) (cnsA (excE0 "NothingToUndo") nilA)))))))) g__law_named_3)
def g__law_named_1 [FE] : SF := (seqS (setS 2 (op2 addD (vr 2) (frz (dLst (cnsA (excKE "InvalidPair" ["given"] false (cnsA (vr 0) nilA)) (cnsA (excKE "InvalidClaim" ["given"] false (cnsA (vr 0) nilA)) (cnsA (excKE "InvalidCommand" ["given"] false (cnsA (vr 0) nilA)) nilA))))))) g__law_named_2)
def g__law_named [FE] : SF := (seqS (setS 2 (frz (dLst (cnsA (excKE "InvalidText" ["given"] false (cnsA (vr 0) nilA)) (cnsA (excKE "InvalidNumber" ["given"] false (cnsA (vr 0) nilA)) (cnsA (excKE "InvalidName" ["given"] false (cnsA (vr 0) nilA)) (cnsA (excKE "InvalidIndex" ["given"] false (cnsA (vr 0) nilA)) nilA))))))) g__law_named_1)
def G__law_named [FE] : List FL.Arg → RG := bodyG 3 g__law_named
def g__law_bases [FE] : SF := (seqS (setS 1 (frz (dLst (cnsA (isxV ctab "NotRight" (vr 0)) (cnsA (isxV ctab "NotKnown" (vr 0)) (cnsA (isxV ctab "NotPossible" (vr 0)) nilA)))))) (retS (op2 addD (vr 1) (frz (dLst (cnsA (isxV ctab "ValueError" (vr 0)) (cnsA (isxV ctab "LookupError" (vr 0)) (cnsA (isxV ctab "ArithmeticError" (vr 0)) nilA))))))))
def G__law_bases [FE] : List FL.Arg → RG := bodyG 2 g__law_bases
def g__law_has_3 [FE] : SF := (retS (ifE (tst (op2 eqA (vr 1) (cst (.str "pairs")))) (efldV ctab "pairs" (vr 0)) (efldV ctab "most" (vr 0))))
def g__law_has_2 [FE] : SF := (seqS (ifS (tst (op2 eqA (vr 1) (cst (.str "index")))) (retS (efldV ctab "index" (vr 0))) nxS) g__law_has_3)
def g__law_has_1 [FE] : SF := (seqS (ifS (tst (op2 eqA (vr 1) (cst (.str "given")))) (retS (efldV ctab "given" (vr 0))) nxS) g__law_has_2)
def g__law_has [FE] : SF := (seqS (ifS (tst (op2 eqA (vr 1) (cst (.str "")))) (retS (cst (.str "nothing"))) nxS) g__law_has_1)
def G__law_has [FE] : List FL.Arg → RG := bodyG 2 g__law_has
def g__law_caught_4 [FE] : SF := (frzS 1 (retS (vr 1)))
def g__law_caught_3 [FE] : SF := (seqS (tryS ctab "NotPossible" 2 (raiS "TooGreat" ["most"] (cnsA (vr 0) nilA)) (fun x0 => (mutS 1 (efld x0 ctab "most" (vr 2)) appO))) g__law_caught_4)
def g__law_caught_2 [FE] : SF := (seqS (tryS ctab "NotKnown" 2 (raiS "UnknownName" ["given"] (cnsA (vr 0) nilA)) (fun x0 => (mutS 1 (efld x0 ctab "given" (vr 2)) appO))) g__law_caught_3)
def g__law_caught_1 [FE] : SF := (seqS (tryS ctab "NotRight" 2 (raiS "InvalidString" ["index"] (cnsA (vr 0) nilA)) (fun x0 => (mutS 1 (efld x0 ctab "index" (vr 2)) appO))) g__law_caught_2)
def g__law_caught [FE] : SF := (seqS (setM 1 (dLst nilA)) g__law_caught_1)
def G__law_caught [FE] : List FL.Arg → RG := bodyG 3 g__law_caught
def b__law_right_2 [FE] : SF := (seqS (ifS (tst (op2 neA (callE 1 G__law_bases (cnsB (vr 7) nilB)) (vr 6))) (retS (cst (.bl false))) nxS) (ifS (tst (op2 neA (opC reprC (cnsA (callE 2 G__law_has (cnsB (vr 7) (cnsB (op2 ixD (op2 ixD (vr 2) (vr 4)) (cst (.int 1))) nilB))) nilA)) (opC reprC (cnsA (ifE (tst (op2 neA (op2 ixD (op2 ixD (vr 2) (vr 4)) (cst (.int 1))) (cst (.str "")))) (vr 0) (cst (.str "nothing"))) nilA)))) (retS (cst (.bl false))) nxS))
def b__law_right_1 [FE] : SF := (seqS (setS 5 (ifE (tst (op2 ltD (vr 4) (cst (.int 8)))) (cst (.int 0)) (ifE (tst (op2 ltD (vr 4) (cst (.int 11)))) (cst (.int 1)) (cst (.int 2))))) (seqS (setS 6 (op2 mulD (frz (dLst (cnsA (op2 eqA (vr 5) (cst (.int 0))) (cnsA (op2 eqA (vr 5) (cst (.int 1))) (cnsA (op2 eqA (vr 5) (cst (.int 2))) nilA))))) (cst (.int 2)))) (forS [] (seqI (frz (dLst (cnsA (op2 ixD (op2 ixD (vr 2) (vr 4)) (cst (.int 0))) (cnsA (op2 ixD (vr 3) (vr 4)) nilA))))) (nmG 7) b__law_right_2)))
def g__law_right_3 [FE] : SF := (retS (anE (op2 eqA (opC reprC (cnsA (frz (cmpM [7] (seqI (vr 8)) (nmG 7) yesT (efldV ctab "shown" (vr 7)))) nilA)) (opC reprC (cnsA (op2 mulD (frz (dLst (cnsA (vr 1) nilA))) (cst (.int 2))) nilA))) (op2 eqA (opC reprC (cnsA (callE 1 G__law_caught (cnsB (vr 0) nilB)) nilA)) (opC reprC (cnsA (op2 mulD (frz (dLst (cnsA (vr 0) nilA))) (cst (.int 3))) nilA)))))
def g__law_right_2 [FE] : SF := (seqS (setS 8 (frz (dLst (cnsA (op2 ixD (op2 ixD (vr 2) (cst (.int 14))) (cst (.int 0))) (cnsA (op2 ixD (vr 3) (cst (.int 14))) nilA))))) g__law_right_3)
def g__law_right_1 [FE] : SF := (seqS (forS [] (rng1 (cnsA (opC lenC (cnsA (vr 2) nilA)) nilA)) (nmG 4) b__law_right_1) g__law_right_2)
def g__law_right [FE] : SF := (seqS (parS 2 3 (cnsA (callE 2 G__law_every (cnsB (vr 0) (cnsB (vr 1) nilB))) (cnsA (callE 2 G__law_named (cnsB (vr 0) (cnsB (vr 1) nilB))) nilA))) g__law_right_1)
def G__law_right [FE] : List FL.Arg → RG := bodyG 9 g__law_right
def g_law [FE] : SF := (seqS (ifS (tst (op2 neA (frz (dLst (cnsA (cst (.int 200)) (cnsA (cst (.int 1000000000)) (cnsA (cst (.int 1000000)) (cnsA (cst (.int 500)) (cnsA (cst (.int 8)) (cnsA (cst (.int 20)) nilA)))))))) (frz (dLst (cnsA (cst (.int 200)) (cnsA (op2 powD (cst (.int 10)) (cst (.int 9))) (cnsA (op2 powD (cst (.int 10)) (cst (.int 6))) (cnsA (cst (.int 500)) (cnsA (cst (.int 8)) (cnsA (cst (.int 20)) nilA)))))))))) (retS (cst (.bl false))) nxS) (seqS (setS 1 (op2 addD (frz (dLst (cnsA (cst .non) (cnsA (cst (.str "a")) (cnsA (dTup (cnsA (cst (.int 1)) (cnsA (cst (.str "x")) nilA))) (cnsA (cst (.bl true)) (cnsA (op1 negD (cst (.int 3))) nilA))))))) (frz (cmpM [2] (seqI (slF (vr 0) noO (smO (cst (.int 3))))) (nmG 2) yesT (op2 modD (opC intC (cnsA (vr 2) nilA)) (op2 powD (cst (.int 10)) (cst (.int 12)))))))) (retS (opC allC (cnsA (frz (cmpM [3] (rng1 (cnsA (opC lenC (cnsA (vr 1) nilA)) nilA)) (nmG 3) yesT (callE 2 G__law_right (cnsB (op2 ixD (vr 1) (vr 3)) (cnsB (op2 ixD (vr 1) (op2 subD (vr 3) (cst (.int 1)))) nilB))))) nilA)))))
def G_law [FE] : List FL.Arg → RG := bodyG 4 g_law
end
section
variable [FE]
variable {P : Program} {w : World} {K : PySem.W.Frag} {mg : Str → Option Value} {base : Heap}
theorem sc__law_every : FnScope ["_law_thing", "_law_other_thing", "_law_found"] ["_law_thing", "_law_other_thing"] (defScope s__law_every) := ⟨rfl, rfl, rfl, by decide +kernel, rfl, by decide +kernel, by decide +kernel⟩
theorem fn__law_every {f : Addr} {fd : FuncData} (T : Txt K mg) (Fd : Fun K "_law_every" "_law_every" s__law_every f fd)  : FnG P w K mg base 1 f fd ["_law_thing", "_law_other_thing"] (spG K 2 G__law_every) := by
  obtain ⟨i_InvalidName, X_InvalidName, I_InvalidName⟩ := T.x_InvalidName
  obtain ⟨j_InvalidName, Y_InvalidName, J_InvalidName⟩ := T.y_InvalidName
  obtain ⟨i_InvalidNumber, X_InvalidNumber, I_InvalidNumber⟩ := T.x_InvalidNumber
  obtain ⟨j_InvalidNumber, Y_InvalidNumber, J_InvalidNumber⟩ := T.y_InvalidNumber
  obtain ⟨i_InvalidText, X_InvalidText, I_InvalidText⟩ := T.x_InvalidText
  obtain ⟨j_InvalidText, Y_InvalidText, J_InvalidText⟩ := T.y_InvalidText
  obtain ⟨i_InvalidClaim, X_InvalidClaim, I_InvalidClaim⟩ := T.x_InvalidClaim
  obtain ⟨j_InvalidClaim, Y_InvalidClaim, J_InvalidClaim⟩ := T.y_InvalidClaim
  obtain ⟨i_InvalidPair, X_InvalidPair, I_InvalidPair⟩ := T.x_InvalidPair
  obtain ⟨j_InvalidPair, Y_InvalidPair, J_InvalidPair⟩ := T.y_InvalidPair
  obtain ⟨i_InvalidIndex, X_InvalidIndex, I_InvalidIndex⟩ := T.x_InvalidIndex
  obtain ⟨j_InvalidIndex, Y_InvalidIndex, J_InvalidIndex⟩ := T.y_InvalidIndex
  obtain ⟨i_UnknownName, X_UnknownName, I_UnknownName⟩ := T.x_UnknownName
  obtain ⟨j_UnknownName, Y_UnknownName, J_UnknownName⟩ := T.y_UnknownName
  obtain ⟨i_InvalidString, X_InvalidString, I_InvalidString⟩ := T.x_InvalidString
  obtain ⟨j_InvalidString, Y_InvalidString, J_InvalidString⟩ := T.y_InvalidString
  obtain ⟨i_InvalidCommand, X_InvalidCommand, I_InvalidCommand⟩ := T.x_InvalidCommand
  obtain ⟨j_InvalidCommand, Y_InvalidCommand, J_InvalidCommand⟩ := T.y_InvalidCommand
  obtain ⟨i_NotLed, X_NotLed, I_NotLed⟩ := T.x_NotLed
  obtain ⟨j_NotLed, Y_NotLed, J_NotLed⟩ := T.y_NotLed
  obtain ⟨i_InUse, X_InUse, I_InUse⟩ := T.x_InUse
  obtain ⟨j_InUse, Y_InUse, J_InUse⟩ := T.y_InUse
  obtain ⟨i_Broken, X_Broken, I_Broken⟩ := T.x_Broken
  obtain ⟨j_Broken, Y_Broken, J_Broken⟩ := T.y_Broken
  obtain ⟨i_TooGreat, X_TooGreat, I_TooGreat⟩ := T.x_TooGreat
  obtain ⟨j_TooGreat, Y_TooGreat, J_TooGreat⟩ := T.y_TooGreat
  have z := fnG (P := P) (w := w) (mg := mg) (base := base) (k := 0) (N := ["_law_thing", "_law_other_thing", "_law_found"]) (ps := ["_law_thing", "_law_other_thing"]) (g := g__law_every) Fd sc__law_every fun cdv A outer s H E π W hr tk hp => by exact (fss_cons (fs_set sc__law_every.nd (i := 2) rfl (Or.inl rfl) (fe_frz (fm_lst (fa_cons (fe_frz (fm_lst (fa_cons (fe_exc tlV X_InvalidText I_InvalidText (by decide) rfl hr.r rfl T.k_InvalidText (fa_cons (fe_vr (pv 0)) fa_nil)) (fa_cons fe_str fa_nil)))) (fa_cons (fe_frz (fm_lst (fa_cons (fe_exc tlV X_InvalidNumber I_InvalidNumber (by decide) rfl hr.r rfl T.k_InvalidNumber (fa_cons (fe_vr (pv 0)) fa_nil)) (fa_cons fe_str fa_nil)))) (fa_cons (fe_frz (fm_lst (fa_cons (fe_exc tlV X_InvalidName I_InvalidName (by decide) rfl hr.r rfl T.k_InvalidName (fa_cons (fe_vr (pv 0)) fa_nil)) (fa_cons fe_str fa_nil)))) fa_nil)))))) (fss_cons (fs_set sc__law_every.nd (i := 2) rfl (Or.inl rfl) (fe_bin o_add q_add (fe_vr (pv 2)) (fe_frz (fm_lst (fa_cons (fe_frz (fm_lst (fa_cons (fe_exc tlV X_InvalidIndex I_InvalidIndex (by decide) rfl hr.r rfl T.k_InvalidIndex (fa_cons (fe_vr (pv 0)) fa_nil)) (fa_cons fe_str fa_nil)))) (fa_cons (fe_frz (fm_lst (fa_cons (fe_exc tlV X_InvalidPair I_InvalidPair (by decide) rfl hr.r rfl T.k_InvalidPair (fa_cons (fe_vr (pv 0)) fa_nil)) (fa_cons fe_str fa_nil)))) (fa_cons (fe_frz (fm_lst (fa_cons (fe_exc tlV X_InvalidClaim I_InvalidClaim (by decide) rfl hr.r rfl T.k_InvalidClaim (fa_cons (fe_vr (pv 0)) fa_nil)) (fa_cons fe_str fa_nil)))) fa_nil))))))) (fss_cons (fs_set sc__law_every.nd (i := 2) rfl (Or.inl rfl) (fe_bin o_add q_add (fe_vr (pv 2)) (fe_frz (fm_lst (fa_cons (fe_frz (fm_lst (fa_cons (fe_exc tlV X_InvalidCommand I_InvalidCommand (by decide) rfl hr.r rfl T.k_InvalidCommand (fa_cons (fe_vr (pv 0)) fa_nil)) (fa_cons fe_str fa_nil)))) (fa_cons (fe_frz (fm_lst (fa_cons (fe_exc tlV X_InvalidString I_InvalidString (by decide) rfl hr.r rfl T.k_InvalidString (fa_cons (fe_vr (pv 0)) fa_nil)) (fa_cons fe_str fa_nil)))) (fa_cons (fe_frz (fm_lst (fa_cons (fe_exc tlL X_UnknownName I_UnknownName (by decide) rfl hr.r rfl T.k_UnknownName (fa_cons (fe_vr (pv 0)) fa_nil)) (fa_cons fe_str fa_nil)))) fa_nil))))))) (fss_cons (fs_set sc__law_every.nd (i := 2) rfl (Or.inl rfl) (fe_bin o_add q_add (fe_vr (pv 2)) (fe_frz (fm_lst (fa_cons (fe_frz (fm_lst (fa_cons (fe_exc tlL X_InUse I_InUse (by decide) rfl hr.r rfl T.k_InUse (fa_cons (fe_vr (pv 0)) fa_nil)) (fa_cons fe_str fa_nil)))) (fa_cons (fe_frz (fm_lst (fa_cons (fe_exc0 tlL.base (T.e_NothingToUndo).q rfl (T.e_NothingToUndo).kp rfl T.k_NothingToUndo) (fa_cons fe_str fa_nil)))) (fa_cons (fe_frz (fm_lst (fa_cons (fe_exc tlA X_NotLed I_NotLed (by decide) rfl hr.r rfl T.k_NotLed (fa_cons (fe_vr (pv 0)) fa_nil)) (fa_cons fe_str fa_nil)))) (fa_cons (fe_frz (fm_lst (fa_cons (fe_exc0 tlA.base (T.e_NoMove).q rfl (T.e_NoMove).kp rfl T.k_NoMove) (fa_cons fe_str fa_nil)))) fa_nil)))))))) (fss_one (fs_ret (fe_bin o_add q_add (fe_vr (pv 2)) (fe_frz (fm_lst (fa_cons (fe_frz (fm_lst (fa_cons (fe_exc tlA X_TooGreat I_TooGreat (by decide) rfl hr.r rfl T.k_TooGreat (fa_cons (fe_vr (pv 0)) fa_nil)) (fa_cons fe_str fa_nil)))) (fa_cons (fe_frz (fm_lst (fa_cons (fe_exc tlA X_Broken I_Broken (by decide) rfl hr.r rfl T.k_Broken (fa_cons (fe_vr (pv 0)) (fa_cons (fe_vr (pv 1)) fa_nil))) (fa_cons fe_str fa_nil)))) fa_nil)))))))))))
  exact z
theorem ok__law_every {f : Addr} {fd : FuncData} (T : Txt K mg) (Fd : Fun K "_law_every" "_law_every" s__law_every f fd) (hm : mg "_law_every" = some (.ref f))  : Cal P w K mg base 1 "_law_every" ["_law_thing", "_law_other_thing"] [] G__law_every :=
  cal_of Fd hm (fn__law_every T Fd ) (fun _ _ _ _ _ _ us hl => match us, hl with | [_, _], _ => rfl) kb_nil
theorem sc__law_named : FnScope ["_law_thing", "_law_other_thing", "_law_found"] ["_law_thing", "_law_other_thing"] (defScope s__law_named) := ⟨rfl, rfl, rfl, by decide +kernel, rfl, by decide +kernel, by decide +kernel⟩
theorem fn__law_named {f : Addr} {fd : FuncData} (T : Txt K mg) (Fd : Fun K "_law_named" "_law_named" s__law_named f fd)  : FnG P w K mg base 1 f fd ["_law_thing", "_law_other_thing"] (spG K 2 G__law_named) := by
  obtain ⟨i_InvalidIndex, X_InvalidIndex, I_InvalidIndex⟩ := T.x_InvalidIndex
  obtain ⟨j_InvalidIndex, Y_InvalidIndex, J_InvalidIndex⟩ := T.y_InvalidIndex
  obtain ⟨i_InvalidName, X_InvalidName, I_InvalidName⟩ := T.x_InvalidName
  obtain ⟨j_InvalidName, Y_InvalidName, J_InvalidName⟩ := T.y_InvalidName
  obtain ⟨i_InvalidNumber, X_InvalidNumber, I_InvalidNumber⟩ := T.x_InvalidNumber
  obtain ⟨j_InvalidNumber, Y_InvalidNumber, J_InvalidNumber⟩ := T.y_InvalidNumber
  obtain ⟨i_InvalidText, X_InvalidText, I_InvalidText⟩ := T.x_InvalidText
  obtain ⟨j_InvalidText, Y_InvalidText, J_InvalidText⟩ := T.y_InvalidText
  obtain ⟨i_InvalidCommand, X_InvalidCommand, I_InvalidCommand⟩ := T.x_InvalidCommand
  obtain ⟨j_InvalidCommand, Y_InvalidCommand, J_InvalidCommand⟩ := T.y_InvalidCommand
  obtain ⟨i_InvalidClaim, X_InvalidClaim, I_InvalidClaim⟩ := T.x_InvalidClaim
  obtain ⟨j_InvalidClaim, Y_InvalidClaim, J_InvalidClaim⟩ := T.y_InvalidClaim
  obtain ⟨i_InvalidPair, X_InvalidPair, I_InvalidPair⟩ := T.x_InvalidPair
  obtain ⟨j_InvalidPair, Y_InvalidPair, J_InvalidPair⟩ := T.y_InvalidPair
  obtain ⟨i_InUse, X_InUse, I_InUse⟩ := T.x_InUse
  obtain ⟨j_InUse, Y_InUse, J_InUse⟩ := T.y_InUse
  obtain ⟨i_UnknownName, X_UnknownName, I_UnknownName⟩ := T.x_UnknownName
  obtain ⟨j_UnknownName, Y_UnknownName, J_UnknownName⟩ := T.y_UnknownName
  obtain ⟨i_InvalidString, X_InvalidString, I_InvalidString⟩ := T.x_InvalidString
  obtain ⟨j_InvalidString, Y_InvalidString, J_InvalidString⟩ := T.y_InvalidString
  obtain ⟨i_Broken, X_Broken, I_Broken⟩ := T.x_Broken
  obtain ⟨j_Broken, Y_Broken, J_Broken⟩ := T.y_Broken
  obtain ⟨i_TooGreat, X_TooGreat, I_TooGreat⟩ := T.x_TooGreat
  obtain ⟨j_TooGreat, Y_TooGreat, J_TooGreat⟩ := T.y_TooGreat
  obtain ⟨i_NotLed, X_NotLed, I_NotLed⟩ := T.x_NotLed
  obtain ⟨j_NotLed, Y_NotLed, J_NotLed⟩ := T.y_NotLed
  have z := fnG (P := P) (w := w) (mg := mg) (base := base) (k := 0) (N := ["_law_thing", "_law_other_thing", "_law_found"]) (ps := ["_law_thing", "_law_other_thing"]) (g := g__law_named) Fd sc__law_named fun cdv A outer s H E π W hr tk hp => by exact (fss_cons (fs_set sc__law_named.nd (i := 2) rfl (Or.inl rfl) (fe_frz (fm_lst (fa_cons (fe_excK (b := false) tlV Y_InvalidText J_InvalidText rfl hr.r rfl T.k_InvalidText (fka_cons (fe_vr (pv 0)) fka_nil)) (fa_cons (fe_excK (b := false) tlV Y_InvalidNumber J_InvalidNumber rfl hr.r rfl T.k_InvalidNumber (fka_cons (fe_vr (pv 0)) fka_nil)) (fa_cons (fe_excK (b := false) tlV Y_InvalidName J_InvalidName rfl hr.r rfl T.k_InvalidName (fka_cons (fe_vr (pv 0)) fka_nil)) (fa_cons (fe_excK (b := false) tlV Y_InvalidIndex J_InvalidIndex rfl hr.r rfl T.k_InvalidIndex (fka_cons (fe_vr (pv 0)) fka_nil)) fa_nil))))))) (fss_cons (fs_set sc__law_named.nd (i := 2) rfl (Or.inl rfl) (fe_bin o_add q_add (fe_vr (pv 2)) (fe_frz (fm_lst (fa_cons (fe_excK (b := false) tlV Y_InvalidPair J_InvalidPair rfl hr.r rfl T.k_InvalidPair (fka_cons (fe_vr (pv 0)) fka_nil)) (fa_cons (fe_excK (b := false) tlV Y_InvalidClaim J_InvalidClaim rfl hr.r rfl T.k_InvalidClaim (fka_cons (fe_vr (pv 0)) fka_nil)) (fa_cons (fe_excK (b := false) tlV Y_InvalidCommand J_InvalidCommand rfl hr.r rfl T.k_InvalidCommand (fka_cons (fe_vr (pv 0)) fka_nil)) fa_nil))))))) (fss_cons (fs_set sc__law_named.nd (i := 2) rfl (Or.inl rfl) (fe_bin o_add q_add (fe_vr (pv 2)) (fe_frz (fm_lst (fa_cons (fe_excK (b := false) tlV Y_InvalidString J_InvalidString rfl hr.r rfl T.k_InvalidString (fka_cons (fe_vr (pv 0)) fka_nil)) (fa_cons (fe_excK (b := false) tlL Y_UnknownName J_UnknownName rfl hr.r rfl T.k_UnknownName (fka_cons (fe_vr (pv 0)) fka_nil)) (fa_cons (fe_excK (b := false) tlL Y_InUse J_InUse rfl hr.r rfl T.k_InUse (fka_cons (fe_vr (pv 0)) fka_nil)) (fa_cons (fe_exc0 tlL.base (T.e_NothingToUndo).q rfl (T.e_NothingToUndo).kp rfl T.k_NothingToUndo) fa_nil)))))))) (fss_one (fs_ret (fe_bin o_add q_add (fe_vr (pv 2)) (fe_frz (fm_lst (fa_cons (fe_excK (b := false) tlA Y_NotLed J_NotLed rfl hr.r rfl T.k_NotLed (fka_cons (fe_vr (pv 0)) fka_nil)) (fa_cons (fe_exc0 tlA.base (T.e_NoMove).q rfl (T.e_NoMove).kp rfl T.k_NoMove) (fa_cons (fe_excK (b := false) tlA Y_TooGreat J_TooGreat rfl hr.r rfl T.k_TooGreat (fka_cons (fe_vr (pv 0)) fka_nil)) (fa_cons (fe_excK (b := true) tlA Y_Broken J_Broken rfl hr.r rfl T.k_Broken (fka_cons (fe_vr (pv 1)) (fka_cons (fe_vr (pv 0)) fka_nil))) fa_nil))))))))))))
  exact z
theorem ok__law_named {f : Addr} {fd : FuncData} (T : Txt K mg) (Fd : Fun K "_law_named" "_law_named" s__law_named f fd) (hm : mg "_law_named" = some (.ref f))  : Cal P w K mg base 1 "_law_named" ["_law_thing", "_law_other_thing"] [] G__law_named :=
  cal_of Fd hm (fn__law_named T Fd ) (fun _ _ _ _ _ _ us hl => match us, hl with | [_, _], _ => rfl) kb_nil
theorem sc__law_bases : FnScope ["_law_e", "_law_own"] ["_law_e"] (defScope s__law_bases) := ⟨rfl, rfl, rfl, by decide +kernel, rfl, by decide +kernel, by decide +kernel⟩
theorem fn__law_bases {f : Addr} {fd : FuncData} (T : Txt K mg) (Fd : Fun K "_law_bases" "_law_bases" s__law_bases f fd)  : FnG P w K mg base 1 f fd ["_law_e"] (spG K 1 G__law_bases) := by
  have z := fnG (P := P) (w := w) (mg := mg) (base := base) (k := 0) (N := ["_law_e", "_law_own"]) (ps := ["_law_e"]) (g := g__law_bases) Fd sc__law_bases fun cdv A outer s H E π W hr tk hp => by exact (fss_cons (fs_set sc__law_bases.nd (i := 1) rfl (Or.inl rfl) (fe_frz (fm_lst (fa_cons (fe_isE T.t_ct (by decide +kernel) (by rfl) rfl rfl T.b_isinstance rfl T.k_NotRight (fe_vr (pv 0))) (fa_cons (fe_isE T.t_ct (by decide +kernel) (by rfl) rfl rfl T.b_isinstance rfl T.k_NotKnown (fe_vr (pv 0))) (fa_cons (fe_isE T.t_ct (by decide +kernel) (by rfl) rfl rfl T.b_isinstance rfl T.k_NotPossible (fe_vr (pv 0))) fa_nil)))))) (fss_one (fs_ret (fe_bin o_add q_add (fe_vr (pv 1)) (fe_frz (fm_lst (fa_cons (fe_isEB (t := "ValueError") T.t_ct (by decide +kernel) (by rfl) rfl T.b_isinstance rfl T.b_ValueError (by decide +kernel) (fe_vr (pv 0))) (fa_cons (fe_isEB (t := "LookupError") T.t_ct (by decide +kernel) (by rfl) rfl T.b_isinstance rfl T.b_LookupError (by decide +kernel) (fe_vr (pv 0))) (fa_cons (fe_isEB (t := "ArithmeticError") T.t_ct (by decide +kernel) (by rfl) rfl T.b_isinstance rfl T.b_ArithmeticError (by decide +kernel) (fe_vr (pv 0))) fa_nil)))))))))
  exact z
theorem ok__law_bases {f : Addr} {fd : FuncData} (T : Txt K mg) (Fd : Fun K "_law_bases" "_law_bases" s__law_bases f fd) (hm : mg "_law_bases" = some (.ref f))  : Cal P w K mg base 1 "_law_bases" ["_law_e"] [] G__law_bases :=
  cal_of Fd hm (fn__law_bases T Fd ) (fun _ _ _ _ _ _ us hl => match us, hl with | [_], _ => rfl) kb_nil
theorem sc__law_has : FnScope ["_law_e", "_law_field"] ["_law_e", "_law_field"] (defScope s__law_has) := ⟨rfl, rfl, rfl, by decide +kernel, rfl, by decide +kernel, by decide +kernel⟩
theorem fn__law_has {f : Addr} {fd : FuncData} (T : Txt K mg) (Fd : Fun K "_law_has" "_law_has" s__law_has f fd)  : FnG P w K mg base 1 f fd ["_law_e", "_law_field"] (spG K 2 G__law_has) := by
  have z := fnG (P := P) (w := w) (mg := mg) (base := base) (k := 0) (N := ["_law_e", "_law_field"]) (ps := ["_law_e", "_law_field"]) (g := g__law_has) Fd sc__law_has fun cdv A outer s H E π W hr tk hp => by exact (fss_cons (fs_if (ft_cmp (o_eqA hr.u64) q_eqA (fe_vr (pv 1)) fe_str (by rfl)) (fss_one (fs_ret fe_str)) fss_nil) (fss_cons (fs_if (ft_cmp (o_eqA hr.u64) q_eqA (fe_vr (pv 1)) fe_str (by rfl)) (fss_one (fs_ret (fe_efldV T.t_ct (fe_vr (pv 0))))) fss_nil) (fss_cons (fs_if (ft_cmp (o_eqA hr.u64) q_eqA (fe_vr (pv 1)) fe_str (by rfl)) (fss_one (fs_ret (fe_efldV T.t_ct (fe_vr (pv 0))))) fss_nil) (fss_one (fs_ret (fe_if (ft_cmp (o_eqA hr.u64) q_eqA (fe_vr (pv 1)) fe_str (by rfl)) (fe_efldV T.t_ct (fe_vr (pv 0))) (fe_efldV T.t_ct (fe_vr (pv 0)))))))))
  exact z
theorem ok__law_has {f : Addr} {fd : FuncData} (T : Txt K mg) (Fd : Fun K "_law_has" "_law_has" s__law_has f fd) (hm : mg "_law_has" = some (.ref f))  : Cal P w K mg base 1 "_law_has" ["_law_e", "_law_field"] [] G__law_has :=
  cal_of Fd hm (fn__law_has T Fd ) (fun _ _ _ _ _ _ us hl => match us, hl with | [_, _], _ => rfl) kb_nil
theorem sc__law_caught : FnScope ["_law_thing", "_law_found", "_law_e"] ["_law_thing"] (defScope s__law_caught) := ⟨rfl, rfl, rfl, by decide +kernel, rfl, by decide +kernel, by decide +kernel⟩
theorem fn__law_caught {f : Addr} {fd : FuncData} (T : Txt K mg) (Fd : Fun K "_law_caught" "_law_caught" s__law_caught f fd)  : FnG P w K mg base 2 f fd ["_law_thing"] (spG K 1 G__law_caught) := by
  obtain ⟨i_InvalidString, X_InvalidString, I_InvalidString⟩ := T.x_InvalidString
  obtain ⟨j_InvalidString, Y_InvalidString, J_InvalidString⟩ := T.y_InvalidString
  obtain ⟨i_UnknownName, X_UnknownName, I_UnknownName⟩ := T.x_UnknownName
  obtain ⟨j_UnknownName, Y_UnknownName, J_UnknownName⟩ := T.y_UnknownName
  obtain ⟨i_TooGreat, X_TooGreat, I_TooGreat⟩ := T.x_TooGreat
  obtain ⟨j_TooGreat, Y_TooGreat, J_TooGreat⟩ := T.y_TooGreat
  have z := fnG (P := P) (w := w) (mg := mg) (base := base) (k := 1) (N := ["_law_thing", "_law_found", "_law_e"]) (ps := ["_law_thing"]) (g := g__law_caught) Fd sc__law_caught fun cdv A outer s H E π W hr tk hp => by exact (fss_cons (fs_setM sc__law_caught.nd (i := 1) rfl (Or.inl rfl) (fm_lst fa_nil)) (fss_cons (fs_try (i := 2) (ct := ctab) (gs := fun x0 => (mutS 1 (efld x0 ctab "index" (vr 2)) appO)) rfl rfl sc__law_caught.nd rfl rfl rfl T.k_NotRight tk (fun C v e => T.t_ca.e C v e _ (by decide +kernel)) (fun W' pn xe tk' => (fss_one (fs_raise rfl tk' tlV X_InvalidString I_InvalidString (by decide) rfl hr.r rfl T.k_InvalidString (fa_cons (fe_vr (pv 0)) fa_nil)))) (fun x0 oe pn hx hk => (fss_one (fs_append (pv 1) (fe_efld hx T.t_ct (fe_vr (pv 2))))))) (fss_cons (fs_try (i := 2) (ct := ctab) (gs := fun x0 => (mutS 1 (efld x0 ctab "given" (vr 2)) appO)) rfl rfl sc__law_caught.nd rfl rfl rfl T.k_NotKnown tk (fun C v e => T.t_ca.e C v e _ (by decide +kernel)) (fun W' pn xe tk' => (fss_one (fs_raise rfl tk' tlL X_UnknownName I_UnknownName (by decide) rfl hr.r rfl T.k_UnknownName (fa_cons (fe_vr (pv 0)) fa_nil)))) (fun x0 oe pn hx hk => (fss_one (fs_append (pv 1) (fe_efld hx T.t_ct (fe_vr (pv 2))))))) (fss_cons (fs_try (i := 2) (ct := ctab) (gs := fun x0 => (mutS 1 (efld x0 ctab "most" (vr 2)) appO)) rfl rfl sc__law_caught.nd rfl rfl rfl T.k_NotPossible tk (fun C v e => T.t_ca.e C v e _ (by decide +kernel)) (fun W' pn xe tk' => (fss_one (fs_raise rfl tk' tlA X_TooGreat I_TooGreat (by decide) rfl hr.r rfl T.k_TooGreat (fa_cons (fe_vr (pv 0)) fa_nil)))) (fun x0 oe pn hx hk => (fss_one (fs_append (pv 1) (fe_efld hx T.t_ct (fe_vr (pv 2))))))) (fss_frz (i := 1) (fss_one (fs_ret (fe_vr (pv 1)))))))))
  exact z
theorem ok__law_caught {f : Addr} {fd : FuncData} (T : Txt K mg) (Fd : Fun K "_law_caught" "_law_caught" s__law_caught f fd) (hm : mg "_law_caught" = some (.ref f))  : Cal P w K mg base 2 "_law_caught" ["_law_thing"] [] G__law_caught :=
  cal_of Fd hm (fn__law_caught T Fd ) (fun _ _ _ _ _ _ us hl => match us, hl with | [_], _ => rfl) kb_nil
theorem sc__law_right : FnScope ["_law_thing", "_law_other_thing", "_law_some", "_law_others", "_law_k", "_law_base", "_law_due", "_law_e", "_law_last"] ["_law_thing", "_law_other_thing"] (defScope s__law_right) := ⟨rfl, rfl, rfl, by decide +kernel, rfl, by decide +kernel, by decide +kernel⟩
theorem fn__law_right {f : Addr} {fd : FuncData} (T : Txt K mg) (Fd : Fun K "_law_right" "_law_right" s__law_right f fd) (C__law_named : Cal P w K mg base 1 "_law_named" ["_law_thing", "_law_other_thing"] [] G__law_named) (C__law_every : Cal P w K mg base 1 "_law_every" ["_law_thing", "_law_other_thing"] [] G__law_every) (C__law_bases : Cal P w K mg base 1 "_law_bases" ["_law_e"] [] G__law_bases) (C__law_has : Cal P w K mg base 1 "_law_has" ["_law_e", "_law_field"] [] G__law_has) (C__law_caught : Cal P w K mg base 2 "_law_caught" ["_law_thing"] [] G__law_caught) : FnG P w K mg base 3 f fd ["_law_thing", "_law_other_thing"] (spG K 2 G__law_right) := by
  obtain ⟨f__law_named, fd__law_named, F__law_named, m__law_named, k__law_named, b__law_named, q__law_named⟩ := C__law_named.ex
  obtain ⟨f__law_every, fd__law_every, F__law_every, m__law_every, k__law_every, b__law_every, q__law_every⟩ := C__law_every.ex
  obtain ⟨f__law_bases, fd__law_bases, F__law_bases, m__law_bases, k__law_bases, b__law_bases, q__law_bases⟩ := C__law_bases.ex
  obtain ⟨f__law_has, fd__law_has, F__law_has, m__law_has, k__law_has, b__law_has, q__law_has⟩ := C__law_has.ex
  obtain ⟨f__law_caught, fd__law_caught, F__law_caught, m__law_caught, k__law_caught, b__law_caught, q__law_caught⟩ := C__law_caught.ex
  have z := fnG (P := P) (w := w) (mg := mg) (base := base) (k := 2) (N := ["_law_thing", "_law_other_thing", "_law_some", "_law_others", "_law_k", "_law_base", "_law_due", "_law_e", "_law_last"]) (ps := ["_law_thing", "_law_other_thing"]) (g := g__law_right) Fd sc__law_right fun cdv A outer s H E π W hr tk hp => by exact (fss_cons (fs_par rfl sc__law_right.nd (i := 2) (j := 3) rfl rfl (by decide) rfl rfl (fa_cons (fe_call F__law_every (rm_mono hr (by rfl)) tk rfl m__law_every k__law_every b__law_every (fb_cons (fe_vr (pv 0)) (fb_cons (fe_vr (pv 1)) fb_nil))) (fa_cons (fe_call F__law_named (rm_mono hr (by rfl)) tk rfl m__law_named k__law_named b__law_named (fb_cons (fe_vr (pv 0)) (fb_cons (fe_vr (pv 1)) fb_nil))) fa_nil)) (by rfl)) (fss_cons (fs_for (ks := []) hp rfl (fi_range1 rfl T.b_range (fa_cons (fe_callB q_len o_len rfl T.b_len (by decide +kernel) (fa_cons (fe_vr (pv 2)) fa_nil)) fa_nil)) (fg_name sc__law_right.nd (i := 4) rfl (Or.inl rfl)) (fss_cons (fs_set sc__law_right.nd (i := 5) rfl (Or.inl rfl) (fe_if (ft_cmp op_lt q_cmp (fe_vr (pv 4)) fe_int (by rfl)) fe_int (fe_if (ft_cmp op_lt q_cmp (fe_vr (pv 4)) fe_int (by rfl)) fe_int fe_int))) (fss_cons (fs_set sc__law_right.nd (i := 6) rfl (Or.inl rfl) (fe_bin o_mul q_mul (fe_frz (fm_lst (fa_cons (fe_cmp (o_eqA hr.u64) q_eqA (fe_vr (pv 5)) fe_int (by rfl)) (fa_cons (fe_cmp (o_eqA hr.u64) q_eqA (fe_vr (pv 5)) fe_int (by rfl)) (fa_cons (fe_cmp (o_eqA hr.u64) q_eqA (fe_vr (pv 5)) fe_int (by rfl)) fa_nil))))) fe_int)) (fss_one (fs_for (ks := []) hp rfl (fi_seq (fe_frz (fm_lst (fa_cons (fe_ix (fe_ix (fe_vr (pv 2)) (fe_vr (pv 4)) (fun _ _ => rfl)) fe_int (fun _ _ => rfl)) (fa_cons (fe_ix (fe_vr (pv 3)) (fe_vr (pv 4)) (fun _ _ => rfl)) fa_nil))))) (fg_name sc__law_right.nd (i := 7) rfl (Or.inl rfl)) (fss_cons (fs_if (ft_cmp (o_neA hr.u64) q_neA (fe_call F__law_bases (rm_mono hr (by rfl)) tk rfl m__law_bases k__law_bases b__law_bases (fb_cons (fe_vr (pv 7)) fb_nil)) (fe_vr (pv 6)) (by rfl)) (fss_one (fs_ret fe_bl)) fss_nil) (fss_one (fs_if (ft_cmp (o_neA hr.u64) q_neA (fe_callB q_repr (o_repr hr.g hr.u64) rfl T.b_repr (by decide +kernel) (fa_cons (fe_call F__law_has (rm_mono hr (by rfl)) tk rfl m__law_has k__law_has b__law_has (fb_cons (fe_vr (pv 7)) (fb_cons (fe_ix (fe_ix (fe_vr (pv 2)) (fe_vr (pv 4)) (fun _ _ => rfl)) fe_int (fun _ _ => rfl)) fb_nil))) fa_nil)) (fe_callB q_repr (o_repr hr.g hr.u64) rfl T.b_repr (by decide +kernel) (fa_cons (fe_if (ft_cmp (o_neA hr.u64) q_neA (fe_ix (fe_ix (fe_vr (pv 2)) (fe_vr (pv 4)) (fun _ _ => rfl)) fe_int (fun _ _ => rfl)) fe_str (by rfl)) (fe_vr (pv 0)) fe_str) fa_nil)) (by rfl)) (fss_one (fs_ret fe_bl)) fss_nil)))))))) (fss_cons (fs_set sc__law_right.nd (i := 8) rfl (Or.inl rfl) (fe_frz (fm_lst (fa_cons (fe_ix (fe_ix (fe_vr (pv 2)) fe_int (fun _ _ => rfl)) fe_int (fun _ _ => rfl)) (fa_cons (fe_ix (fe_vr (pv 3)) fe_int (fun _ _ => rfl)) fa_nil))))) (fss_one (fs_ret (fe_and (fe_cmp (o_eqA hr.u64) q_eqA (fe_callB q_repr (o_repr hr.g hr.u64) rfl T.b_repr (by decide +kernel) (fa_cons (fe_frz (fm_lc (own := [("_law_e", 7)]) rfl sc__law_right.nd (fi_seq (fe_vr (pv 8))) (show BlkOk ["_law_thing", "_law_other_thing", "_law_some", "_law_others", "_law_k", "_law_base", "_law_due", "_law_e", "_law_last"] (defScope s__law_right) _ _ from blkOk_by (by decide +kernel)) (fun _ _ _ _ _ => (fg_name sc__law_right.nd (i := 7) rfl (Or.inl rfl))) (fun _ _ _ _ _ => pts_non) (fun _ _ _ _ _ => (fe_efldV T.t_ct (fe_vr (pv 7)))) (by decide))) fa_nil)) (fe_callB q_repr (o_repr hr.g hr.u64) rfl T.b_repr (by decide +kernel) (fa_cons (fe_bin o_mul q_mul (fe_frz (fm_lst (fa_cons (fe_vr (pv 1)) fa_nil))) fe_int) fa_nil)) (by rfl)) (pe_one (fe_cmp (o_eqA hr.u64) q_eqA (fe_callB q_repr (o_repr hr.g hr.u64) rfl T.b_repr (by decide +kernel) (fa_cons (fe_call F__law_caught (rm_mono hr (by rfl)) tk rfl m__law_caught k__law_caught b__law_caught (fb_cons (fe_vr (pv 0)) fb_nil)) fa_nil)) (fe_callB q_repr (o_repr hr.g hr.u64) rfl T.b_repr (by decide +kernel) (fa_cons (fe_bin o_mul q_mul (fe_frz (fm_lst (fa_cons (fe_vr (pv 0)) fa_nil))) fe_int) fa_nil)) (by rfl)))))))))
  exact z
theorem ok__law_right {f : Addr} {fd : FuncData} (T : Txt K mg) (Fd : Fun K "_law_right" "_law_right" s__law_right f fd) (hm : mg "_law_right" = some (.ref f)) (C__law_named : Cal P w K mg base 1 "_law_named" ["_law_thing", "_law_other_thing"] [] G__law_named) (C__law_every : Cal P w K mg base 1 "_law_every" ["_law_thing", "_law_other_thing"] [] G__law_every) (C__law_bases : Cal P w K mg base 1 "_law_bases" ["_law_e"] [] G__law_bases) (C__law_has : Cal P w K mg base 1 "_law_has" ["_law_e", "_law_field"] [] G__law_has) (C__law_caught : Cal P w K mg base 2 "_law_caught" ["_law_thing"] [] G__law_caught) : Cal P w K mg base 3 "_law_right" ["_law_thing", "_law_other_thing"] [] G__law_right :=
  cal_of Fd hm (fn__law_right T Fd C__law_named C__law_every C__law_bases C__law_has C__law_caught) (fun _ _ _ _ _ _ us hl => match us, hl with | [_, _], _ => rfl) kb_nil
theorem sc_law : FnScope ["_law_script", "_law_things", "_law_each", "_law_k"] ["_law_script"] (defScope s_law) := ⟨rfl, rfl, rfl, by decide +kernel, rfl, by decide +kernel, by decide +kernel⟩
theorem fn_law {f : Addr} {fd : FuncData} (T : Txt K mg) (Fd : Fun K "law" "law" s_law f fd) (C__law_right : Cal P w K mg base 3 "_law_right" ["_law_thing", "_law_other_thing"] [] G__law_right) : FnG P w K mg base 4 f fd ["_law_script"] (spG K 1 G_law) := by
  obtain ⟨f__law_right, fd__law_right, F__law_right, m__law_right, k__law_right, b__law_right, q__law_right⟩ := C__law_right.ex
  obtain ⟨t_MOST_STEP, m_MOST_STEP⟩ := T.c_MOST_STEP
  obtain ⟨t_MOST_LED, m_MOST_LED⟩ := T.c_MOST_LED
  obtain ⟨t_MOST_LISTED, m_MOST_LISTED⟩ := T.c_MOST_LISTED
  obtain ⟨t_MOST_LOOPS, m_MOST_LOOPS⟩ := T.c_MOST_LOOPS
  obtain ⟨t_MOST_NUMBER, m_MOST_NUMBER⟩ := T.c_MOST_NUMBER
  obtain ⟨t_MOST_BEADS, m_MOST_BEADS⟩ := T.c_MOST_BEADS
  have z := fnG (P := P) (w := w) (mg := mg) (base := base) (k := 3) (N := ["_law_script", "_law_things", "_law_each", "_law_k"]) (ps := ["_law_script"]) (g := g_law) Fd sc_law fun cdv A outer s H E π W hr tk hp => by exact (fss_cons (fs_if (ft_cmp (o_neA hr.u64) q_neA (fe_frz (fm_lst (fa_cons (fe_gint rfl m_MOST_BEADS) (fa_cons (fe_gint rfl m_MOST_NUMBER) (fa_cons (fe_gint rfl m_MOST_LOOPS) (fa_cons (fe_gint rfl m_MOST_LISTED) (fa_cons (fe_gint rfl m_MOST_LED) (fa_cons (fe_gint rfl m_MOST_STEP) fa_nil)))))))) (fe_frz (fm_lst (fa_cons fe_int (fa_cons (fe_bin op_pow q_pow fe_int fe_int) (fa_cons (fe_bin op_pow q_pow fe_int fe_int) (fa_cons fe_int (fa_cons fe_int (fa_cons fe_int fa_nil)))))))) (by rfl)) (fss_one (fs_ret fe_bl)) fss_nil) (fss_cons (fs_set sc_law.nd (i := 1) rfl (Or.inr rfl) (fe_bin o_add q_add (fe_frz (fm_lst (fa_cons fe_non (fa_cons fe_str (fa_cons (fe_tup (fa_cons fe_int (fa_cons fe_str fa_nil))) (fa_cons fe_bl (fa_cons (fe_un un_neg q_neg fe_int) fa_nil))))))) (fe_frz (fm_lc (own := [("_law_each", 2)]) rfl sc_law.nd (fi_seq (fe_sl (fe_vr (pv 0)) fo_none (fo_some fe_int))) (show BlkOk ["_law_script", "_law_things", "_law_each", "_law_k"] (defScope s_law) _ _ from blkOk_by (by decide +kernel)) (fun _ _ _ _ _ => (fg_name sc_law.nd (i := 2) rfl (Or.inl rfl))) (fun _ _ _ _ _ => pts_non) (fun _ _ _ _ _ => (fe_bin op_modN q_mod (fe_callTy q_int call_int1 rfl T.b_int (by decide +kernel) (fa_cons (fe_vr (pv 2)) fa_nil)) (fe_bin op_pow q_pow fe_int fe_int))) (by decide))))) (fss_one (fs_ret (fe_callB q_all (cr_all rfl) rfl T.b_all (by decide +kernel) (fa_cons (fe_frz (fm_lc (own := [("_law_k", 3)]) rfl sc_law.nd (fi_range1 rfl T.b_range (fa_cons (fe_callB q_len o_len rfl T.b_len (by decide +kernel) (fa_cons (fe_vr (pv 1)) fa_nil)) fa_nil)) (show BlkOk ["_law_script", "_law_things", "_law_each", "_law_k"] (defScope s_law) _ _ from blkOk_by (by decide +kernel)) (fun _ _ _ _ _ => (fg_name sc_law.nd (i := 3) rfl (Or.inl rfl))) (fun _ _ _ _ _ => pts_non) (fun _ _ _ _ _ => (fe_call F__law_right (rm_mono hr (by rfl)) takes_0 rfl m__law_right k__law_right b__law_right (fb_cons (fe_ix (fe_vr (pv 1)) (fe_vr (pv 3)) (fun _ _ => rfl)) (fb_cons (fe_ix (fe_vr (pv 1)) (fe_bin op_sub q_sub (fe_vr (pv 3)) fe_int) (fun _ _ => rfl)) fb_nil)))) (by decide))) fa_nil))))))
  exact z
end
theorem all_mk {l : PySem.W.OpenLaw} {w : World} {K : PySem.W.Frag} {h : Heap} {mg : Str → Option Value} {fa : Addr} [fe : FE] (hq : ∀ ns : List Int, ns.length ≤ 63 → G_law [.val (.scr ns)] = .ok (.v (.bl true)) []) (X : K.In h) (G : h.Ns mainGlobals mg) (hfa : mg "law" = some (.ref fa))
    {f1 f2 f3 f4 f5 f6 f7 : Addr} {od1 an1 od2 an2 od3 an3 od4 an4 od5 an5 od6 an6 od7 an7 : Option Addr} {sl1 sl2 sl3 sl4 sl5 sl6 sl7 : Array (Option Value)} {oc1 kV1 dc1 pm1 ct1 cd1 oc2 kV2 dc2 pm2 ct2 cd2 oc3 kV3 dc3 pm3 ct3 cd3 oc4 kV4 dc4 pm4 ct4 cd4 oc5 kV5 dc5 pm5 ct5 cd5 oc6 kV6 dc6 pm6 ct6 cd6 oc7 kV7 dc7 pm7 ct7 cd7 : Value}
    (a1 : PySem.W.nsIn K mainGlobals "_law_every" = some (some (.ref f1))) (l1 : K.lookup f1 = some ⟨oc1, od1, .func (PySem.W.fnOf "_law_every" "_law_every" (defArgs s__law_every) (defBody s__law_every) (defScope s__law_every) .none kV1 dc1 pm1 an1 cd1 ct1), sl1⟩) (c1 : PySem.W.codeIn K cd1 "_law_every" = true) (k1 : PySem.W.keepIn K (.ref f1) = true)
    (a2 : PySem.W.nsIn K mainGlobals "_law_named" = some (some (.ref f2))) (l2 : K.lookup f2 = some ⟨oc2, od2, .func (PySem.W.fnOf "_law_named" "_law_named" (defArgs s__law_named) (defBody s__law_named) (defScope s__law_named) .none kV2 dc2 pm2 an2 cd2 ct2), sl2⟩) (c2 : PySem.W.codeIn K cd2 "_law_named" = true) (k2 : PySem.W.keepIn K (.ref f2) = true)
    (a3 : PySem.W.nsIn K mainGlobals "_law_bases" = some (some (.ref f3))) (l3 : K.lookup f3 = some ⟨oc3, od3, .func (PySem.W.fnOf "_law_bases" "_law_bases" (defArgs s__law_bases) (defBody s__law_bases) (defScope s__law_bases) .none kV3 dc3 pm3 an3 cd3 ct3), sl3⟩) (c3 : PySem.W.codeIn K cd3 "_law_bases" = true) (k3 : PySem.W.keepIn K (.ref f3) = true)
    (a4 : PySem.W.nsIn K mainGlobals "_law_has" = some (some (.ref f4))) (l4 : K.lookup f4 = some ⟨oc4, od4, .func (PySem.W.fnOf "_law_has" "_law_has" (defArgs s__law_has) (defBody s__law_has) (defScope s__law_has) .none kV4 dc4 pm4 an4 cd4 ct4), sl4⟩) (c4 : PySem.W.codeIn K cd4 "_law_has" = true) (k4 : PySem.W.keepIn K (.ref f4) = true)
    (a5 : PySem.W.nsIn K mainGlobals "_law_caught" = some (some (.ref f5))) (l5 : K.lookup f5 = some ⟨oc5, od5, .func (PySem.W.fnOf "_law_caught" "_law_caught" (defArgs s__law_caught) (defBody s__law_caught) (defScope s__law_caught) .none kV5 dc5 pm5 an5 cd5 ct5), sl5⟩) (c5 : PySem.W.codeIn K cd5 "_law_caught" = true) (k5 : PySem.W.keepIn K (.ref f5) = true)
    (a6 : PySem.W.nsIn K mainGlobals "_law_right" = some (some (.ref f6))) (l6 : K.lookup f6 = some ⟨oc6, od6, .func (PySem.W.fnOf "_law_right" "_law_right" (defArgs s__law_right) (defBody s__law_right) (defScope s__law_right) .none kV6 dc6 pm6 an6 cd6 ct6), sl6⟩) (c6 : PySem.W.codeIn K cd6 "_law_right" = true) (k6 : PySem.W.keepIn K (.ref f6) = true)
    (a7 : PySem.W.nsIn K mainGlobals "law" = some (some (.ref f7))) (l7 : K.lookup f7 = some ⟨oc7, od7, .func (PySem.W.fnOf "law" "law" (defArgs s_law) (defBody s_law) (defScope s_law) .none kV7 dc7 pm7 an7 cd7 ct7), sl7⟩) (c7 : PySem.W.codeIn K cd7 "law" = true) (k7 : PySem.W.keepIn K (.ref f7) = true)
    (z_ArithmeticError : PySem.W.nsIn K mainGlobals "ArithmeticError" = some none)
    (z_LookupError : PySem.W.nsIn K mainGlobals "LookupError" = some none)
    (z_ValueError : PySem.W.nsIn K mainGlobals "ValueError" = some none)
    (z_all : PySem.W.nsIn K mainGlobals "all" = some none)
    (z_int : PySem.W.nsIn K mainGlobals "int" = some none)
    (z_isinstance : PySem.W.nsIn K mainGlobals "isinstance" = some none)
    (z_len : PySem.W.nsIn K mainGlobals "len" = some none)
    (z_range : PySem.W.nsIn K mainGlobals "range" = some none)
    (z_repr : PySem.W.nsIn K mainGlobals "repr" = some none)
    (y_MOST_BEADS : ∃ t : Tok, mg "MOST_BEADS" = some (.int 200 t))
    (y_MOST_LED : ∃ t : Tok, mg "MOST_LED" = some (.int 8 t))
    (y_MOST_LISTED : ∃ t : Tok, mg "MOST_LISTED" = some (.int 500 t))
    (y_MOST_LOOPS : ∃ t : Tok, mg "MOST_LOOPS" = some (.int 1000000 t))
    (y_MOST_NUMBER : ∃ t : Tok, mg "MOST_NUMBER" = some (.int 1000000000 t))
    (y_MOST_STEP : ∃ t : Tok, mg "MOST_STEP" = some (.int 20 t))
    {C_Broken C_InUse C_InvalidClaim C_InvalidCommand C_InvalidIndex C_InvalidName C_InvalidNumber C_InvalidPair C_InvalidString C_InvalidText C_NoMove C_NotKnown C_NotLed C_NotPossible C_NotRight C_NothingToUndo C_TooGreat C_UnknownName : Addr}
    (q_Broken : PySem.W.nsIn K mainGlobals "Broken" = some (some (.ref C_Broken)))
    (q_InUse : PySem.W.nsIn K mainGlobals "InUse" = some (some (.ref C_InUse)))
    (q_InvalidClaim : PySem.W.nsIn K mainGlobals "InvalidClaim" = some (some (.ref C_InvalidClaim)))
    (q_InvalidCommand : PySem.W.nsIn K mainGlobals "InvalidCommand" = some (some (.ref C_InvalidCommand)))
    (q_InvalidIndex : PySem.W.nsIn K mainGlobals "InvalidIndex" = some (some (.ref C_InvalidIndex)))
    (q_InvalidName : PySem.W.nsIn K mainGlobals "InvalidName" = some (some (.ref C_InvalidName)))
    (q_InvalidNumber : PySem.W.nsIn K mainGlobals "InvalidNumber" = some (some (.ref C_InvalidNumber)))
    (q_InvalidPair : PySem.W.nsIn K mainGlobals "InvalidPair" = some (some (.ref C_InvalidPair)))
    (q_InvalidString : PySem.W.nsIn K mainGlobals "InvalidString" = some (some (.ref C_InvalidString)))
    (q_InvalidText : PySem.W.nsIn K mainGlobals "InvalidText" = some (some (.ref C_InvalidText)))
    (q_NoMove : PySem.W.nsIn K mainGlobals "NoMove" = some (some (.ref C_NoMove)))
    (q_NotKnown : PySem.W.nsIn K mainGlobals "NotKnown" = some (some (.ref C_NotKnown)))
    (q_NotLed : PySem.W.nsIn K mainGlobals "NotLed" = some (some (.ref C_NotLed)))
    (q_NotPossible : PySem.W.nsIn K mainGlobals "NotPossible" = some (some (.ref C_NotPossible)))
    (q_NotRight : PySem.W.nsIn K mainGlobals "NotRight" = some (some (.ref C_NotRight)))
    (q_NothingToUndo : PySem.W.nsIn K mainGlobals "NothingToUndo" = some (some (.ref C_NothingToUndo)))
    (q_TooGreat : PySem.W.nsIn K mainGlobals "TooGreat" = some (some (.ref C_TooGreat)))
    (q_UnknownName : PySem.W.nsIn K mainGlobals "UnknownName" = some (some (.ref C_UnknownName)))
    {I_Broken : Addr} {io_Broken it_Broken : Value} {id_Broken ia_Broken : Option Addr} {ix_Broken ip_Broken ic_Broken : Value} {is_Broken : Array (Option Value)} {p0_Broken p1_Broken p2_Broken g0_Broken g1_Broken g2_Broken g3_Broken g4_Broken g5_Broken g6_Broken g7_Broken : Pos}
    (i_Broken : PySem.W.findIn K (.ref C_Broken) "__init__" = some (some (.ref I_Broken))) (il_Broken : K.lookup I_Broken = some ⟨io_Broken, id_Broken, .func (PySem.W.fnOf "__init__" "Broken.__init__" (iA2 "index" "shown" p0_Broken p1_Broken p2_Broken) (iB2 "index" "shown" g0_Broken g1_Broken g2_Broken g3_Broken g4_Broken g5_Broken g6_Broken g7_Broken) (iS2 "index" "shown") .none .none ix_Broken ip_Broken ia_Broken ic_Broken it_Broken), is_Broken⟩) (ik_Broken : PySem.W.codeIn K ic_Broken "Broken.__init__" = true)
    (ib_Broken : excB K C_Broken I_Broken "ArithmeticError.__new__" [.type "ArithmeticError", .type "Exception", .type "BaseException", .type "object"] ["index", "shown"] = true)
    {I_InUse : Addr} {io_InUse it_InUse : Value} {id_InUse ia_InUse : Option Addr} {ix_InUse ip_InUse ic_InUse : Value} {is_InUse : Array (Option Value)} {p0_InUse p1_InUse g0_InUse g1_InUse g2_InUse g3_InUse : Pos}
    (i_InUse : PySem.W.findIn K (.ref C_InUse) "__init__" = some (some (.ref I_InUse))) (il_InUse : K.lookup I_InUse = some ⟨io_InUse, id_InUse, .func (PySem.W.fnOf "__init__" "InUse.__init__" (iA1 "index" p0_InUse p1_InUse) (iB1 "index" g0_InUse g1_InUse g2_InUse g3_InUse) (iS1 "index") .none .none ix_InUse ip_InUse ia_InUse ic_InUse it_InUse), is_InUse⟩) (ik_InUse : PySem.W.codeIn K ic_InUse "InUse.__init__" = true)
    (ib_InUse : excB K C_InUse I_InUse "LookupError.__new__" [.type "LookupError", .type "Exception", .type "BaseException", .type "object"] ["index"] = true)
    {I_InvalidClaim : Addr} {io_InvalidClaim it_InvalidClaim : Value} {id_InvalidClaim ia_InvalidClaim : Option Addr} {ix_InvalidClaim ip_InvalidClaim ic_InvalidClaim : Value} {is_InvalidClaim : Array (Option Value)} {p0_InvalidClaim p1_InvalidClaim g0_InvalidClaim g1_InvalidClaim g2_InvalidClaim g3_InvalidClaim : Pos}
    (i_InvalidClaim : PySem.W.findIn K (.ref C_InvalidClaim) "__init__" = some (some (.ref I_InvalidClaim))) (il_InvalidClaim : K.lookup I_InvalidClaim = some ⟨io_InvalidClaim, id_InvalidClaim, .func (PySem.W.fnOf "__init__" "InvalidClaim.__init__" (iA1 "given" p0_InvalidClaim p1_InvalidClaim) (iB1 "given" g0_InvalidClaim g1_InvalidClaim g2_InvalidClaim g3_InvalidClaim) (iS1 "given") .none .none ix_InvalidClaim ip_InvalidClaim ia_InvalidClaim ic_InvalidClaim it_InvalidClaim), is_InvalidClaim⟩) (ik_InvalidClaim : PySem.W.codeIn K ic_InvalidClaim "InvalidClaim.__init__" = true)
    (ib_InvalidClaim : excB K C_InvalidClaim I_InvalidClaim "ValueError.__new__" [.type "ValueError", .type "Exception", .type "BaseException", .type "object"] ["given"] = true)
    {I_InvalidCommand : Addr} {io_InvalidCommand it_InvalidCommand : Value} {id_InvalidCommand ia_InvalidCommand : Option Addr} {ix_InvalidCommand ip_InvalidCommand ic_InvalidCommand : Value} {is_InvalidCommand : Array (Option Value)} {p0_InvalidCommand p1_InvalidCommand g0_InvalidCommand g1_InvalidCommand g2_InvalidCommand g3_InvalidCommand : Pos}
    (i_InvalidCommand : PySem.W.findIn K (.ref C_InvalidCommand) "__init__" = some (some (.ref I_InvalidCommand))) (il_InvalidCommand : K.lookup I_InvalidCommand = some ⟨io_InvalidCommand, id_InvalidCommand, .func (PySem.W.fnOf "__init__" "InvalidCommand.__init__" (iA1 "given" p0_InvalidCommand p1_InvalidCommand) (iB1 "given" g0_InvalidCommand g1_InvalidCommand g2_InvalidCommand g3_InvalidCommand) (iS1 "given") .none .none ix_InvalidCommand ip_InvalidCommand ia_InvalidCommand ic_InvalidCommand it_InvalidCommand), is_InvalidCommand⟩) (ik_InvalidCommand : PySem.W.codeIn K ic_InvalidCommand "InvalidCommand.__init__" = true)
    (ib_InvalidCommand : excB K C_InvalidCommand I_InvalidCommand "ValueError.__new__" [.type "ValueError", .type "Exception", .type "BaseException", .type "object"] ["given"] = true)
    {I_InvalidIndex : Addr} {io_InvalidIndex it_InvalidIndex : Value} {id_InvalidIndex ia_InvalidIndex : Option Addr} {ix_InvalidIndex ip_InvalidIndex ic_InvalidIndex : Value} {is_InvalidIndex : Array (Option Value)} {p0_InvalidIndex p1_InvalidIndex g0_InvalidIndex g1_InvalidIndex g2_InvalidIndex g3_InvalidIndex : Pos}
    (i_InvalidIndex : PySem.W.findIn K (.ref C_InvalidIndex) "__init__" = some (some (.ref I_InvalidIndex))) (il_InvalidIndex : K.lookup I_InvalidIndex = some ⟨io_InvalidIndex, id_InvalidIndex, .func (PySem.W.fnOf "__init__" "InvalidIndex.__init__" (iA1 "given" p0_InvalidIndex p1_InvalidIndex) (iB1 "given" g0_InvalidIndex g1_InvalidIndex g2_InvalidIndex g3_InvalidIndex) (iS1 "given") .none .none ix_InvalidIndex ip_InvalidIndex ia_InvalidIndex ic_InvalidIndex it_InvalidIndex), is_InvalidIndex⟩) (ik_InvalidIndex : PySem.W.codeIn K ic_InvalidIndex "InvalidIndex.__init__" = true)
    (ib_InvalidIndex : excB K C_InvalidIndex I_InvalidIndex "ValueError.__new__" [.type "ValueError", .type "Exception", .type "BaseException", .type "object"] ["given"] = true)
    {I_InvalidName : Addr} {io_InvalidName it_InvalidName : Value} {id_InvalidName ia_InvalidName : Option Addr} {ix_InvalidName ip_InvalidName ic_InvalidName : Value} {is_InvalidName : Array (Option Value)} {p0_InvalidName p1_InvalidName g0_InvalidName g1_InvalidName g2_InvalidName g3_InvalidName : Pos}
    (i_InvalidName : PySem.W.findIn K (.ref C_InvalidName) "__init__" = some (some (.ref I_InvalidName))) (il_InvalidName : K.lookup I_InvalidName = some ⟨io_InvalidName, id_InvalidName, .func (PySem.W.fnOf "__init__" "InvalidName.__init__" (iA1 "given" p0_InvalidName p1_InvalidName) (iB1 "given" g0_InvalidName g1_InvalidName g2_InvalidName g3_InvalidName) (iS1 "given") .none .none ix_InvalidName ip_InvalidName ia_InvalidName ic_InvalidName it_InvalidName), is_InvalidName⟩) (ik_InvalidName : PySem.W.codeIn K ic_InvalidName "InvalidName.__init__" = true)
    (ib_InvalidName : excB K C_InvalidName I_InvalidName "ValueError.__new__" [.type "ValueError", .type "Exception", .type "BaseException", .type "object"] ["given"] = true)
    {I_InvalidNumber : Addr} {io_InvalidNumber it_InvalidNumber : Value} {id_InvalidNumber ia_InvalidNumber : Option Addr} {ix_InvalidNumber ip_InvalidNumber ic_InvalidNumber : Value} {is_InvalidNumber : Array (Option Value)} {p0_InvalidNumber p1_InvalidNumber g0_InvalidNumber g1_InvalidNumber g2_InvalidNumber g3_InvalidNumber : Pos}
    (i_InvalidNumber : PySem.W.findIn K (.ref C_InvalidNumber) "__init__" = some (some (.ref I_InvalidNumber))) (il_InvalidNumber : K.lookup I_InvalidNumber = some ⟨io_InvalidNumber, id_InvalidNumber, .func (PySem.W.fnOf "__init__" "InvalidNumber.__init__" (iA1 "given" p0_InvalidNumber p1_InvalidNumber) (iB1 "given" g0_InvalidNumber g1_InvalidNumber g2_InvalidNumber g3_InvalidNumber) (iS1 "given") .none .none ix_InvalidNumber ip_InvalidNumber ia_InvalidNumber ic_InvalidNumber it_InvalidNumber), is_InvalidNumber⟩) (ik_InvalidNumber : PySem.W.codeIn K ic_InvalidNumber "InvalidNumber.__init__" = true)
    (ib_InvalidNumber : excB K C_InvalidNumber I_InvalidNumber "ValueError.__new__" [.type "ValueError", .type "Exception", .type "BaseException", .type "object"] ["given"] = true)
    {I_InvalidPair : Addr} {io_InvalidPair it_InvalidPair : Value} {id_InvalidPair ia_InvalidPair : Option Addr} {ix_InvalidPair ip_InvalidPair ic_InvalidPair : Value} {is_InvalidPair : Array (Option Value)} {p0_InvalidPair p1_InvalidPair g0_InvalidPair g1_InvalidPair g2_InvalidPair g3_InvalidPair : Pos}
    (i_InvalidPair : PySem.W.findIn K (.ref C_InvalidPair) "__init__" = some (some (.ref I_InvalidPair))) (il_InvalidPair : K.lookup I_InvalidPair = some ⟨io_InvalidPair, id_InvalidPair, .func (PySem.W.fnOf "__init__" "InvalidPair.__init__" (iA1 "given" p0_InvalidPair p1_InvalidPair) (iB1 "given" g0_InvalidPair g1_InvalidPair g2_InvalidPair g3_InvalidPair) (iS1 "given") .none .none ix_InvalidPair ip_InvalidPair ia_InvalidPair ic_InvalidPair it_InvalidPair), is_InvalidPair⟩) (ik_InvalidPair : PySem.W.codeIn K ic_InvalidPair "InvalidPair.__init__" = true)
    (ib_InvalidPair : excB K C_InvalidPair I_InvalidPair "ValueError.__new__" [.type "ValueError", .type "Exception", .type "BaseException", .type "object"] ["given"] = true)
    {I_InvalidString : Addr} {io_InvalidString it_InvalidString : Value} {id_InvalidString ia_InvalidString : Option Addr} {ix_InvalidString ip_InvalidString ic_InvalidString : Value} {is_InvalidString : Array (Option Value)} {p0_InvalidString p1_InvalidString g0_InvalidString g1_InvalidString g2_InvalidString g3_InvalidString : Pos}
    (i_InvalidString : PySem.W.findIn K (.ref C_InvalidString) "__init__" = some (some (.ref I_InvalidString))) (il_InvalidString : K.lookup I_InvalidString = some ⟨io_InvalidString, id_InvalidString, .func (PySem.W.fnOf "__init__" "InvalidString.__init__" (iA1 "index" p0_InvalidString p1_InvalidString) (iB1 "index" g0_InvalidString g1_InvalidString g2_InvalidString g3_InvalidString) (iS1 "index") .none .none ix_InvalidString ip_InvalidString ia_InvalidString ic_InvalidString it_InvalidString), is_InvalidString⟩) (ik_InvalidString : PySem.W.codeIn K ic_InvalidString "InvalidString.__init__" = true)
    (ib_InvalidString : excB K C_InvalidString I_InvalidString "ValueError.__new__" [.type "ValueError", .type "Exception", .type "BaseException", .type "object"] ["index"] = true)
    {I_InvalidText : Addr} {io_InvalidText it_InvalidText : Value} {id_InvalidText ia_InvalidText : Option Addr} {ix_InvalidText ip_InvalidText ic_InvalidText : Value} {is_InvalidText : Array (Option Value)} {p0_InvalidText p1_InvalidText g0_InvalidText g1_InvalidText g2_InvalidText g3_InvalidText : Pos}
    (i_InvalidText : PySem.W.findIn K (.ref C_InvalidText) "__init__" = some (some (.ref I_InvalidText))) (il_InvalidText : K.lookup I_InvalidText = some ⟨io_InvalidText, id_InvalidText, .func (PySem.W.fnOf "__init__" "InvalidText.__init__" (iA1 "given" p0_InvalidText p1_InvalidText) (iB1 "given" g0_InvalidText g1_InvalidText g2_InvalidText g3_InvalidText) (iS1 "given") .none .none ix_InvalidText ip_InvalidText ia_InvalidText ic_InvalidText it_InvalidText), is_InvalidText⟩) (ik_InvalidText : PySem.W.codeIn K ic_InvalidText "InvalidText.__init__" = true)
    (ib_InvalidText : excB K C_InvalidText I_InvalidText "ValueError.__new__" [.type "ValueError", .type "Exception", .type "BaseException", .type "object"] ["given"] = true)
    {I_NotLed : Addr} {io_NotLed it_NotLed : Value} {id_NotLed ia_NotLed : Option Addr} {ix_NotLed ip_NotLed ic_NotLed : Value} {is_NotLed : Array (Option Value)} {p0_NotLed p1_NotLed g0_NotLed g1_NotLed g2_NotLed g3_NotLed : Pos}
    (i_NotLed : PySem.W.findIn K (.ref C_NotLed) "__init__" = some (some (.ref I_NotLed))) (il_NotLed : K.lookup I_NotLed = some ⟨io_NotLed, id_NotLed, .func (PySem.W.fnOf "__init__" "NotLed.__init__" (iA1 "pairs" p0_NotLed p1_NotLed) (iB1 "pairs" g0_NotLed g1_NotLed g2_NotLed g3_NotLed) (iS1 "pairs") .none .none ix_NotLed ip_NotLed ia_NotLed ic_NotLed it_NotLed), is_NotLed⟩) (ik_NotLed : PySem.W.codeIn K ic_NotLed "NotLed.__init__" = true)
    (ib_NotLed : excB K C_NotLed I_NotLed "ArithmeticError.__new__" [.type "ArithmeticError", .type "Exception", .type "BaseException", .type "object"] ["pairs"] = true)
    {I_TooGreat : Addr} {io_TooGreat it_TooGreat : Value} {id_TooGreat ia_TooGreat : Option Addr} {ix_TooGreat ip_TooGreat ic_TooGreat : Value} {is_TooGreat : Array (Option Value)} {p0_TooGreat p1_TooGreat g0_TooGreat g1_TooGreat g2_TooGreat g3_TooGreat : Pos}
    (i_TooGreat : PySem.W.findIn K (.ref C_TooGreat) "__init__" = some (some (.ref I_TooGreat))) (il_TooGreat : K.lookup I_TooGreat = some ⟨io_TooGreat, id_TooGreat, .func (PySem.W.fnOf "__init__" "TooGreat.__init__" (iA1 "most" p0_TooGreat p1_TooGreat) (iB1 "most" g0_TooGreat g1_TooGreat g2_TooGreat g3_TooGreat) (iS1 "most") .none .none ix_TooGreat ip_TooGreat ia_TooGreat ic_TooGreat it_TooGreat), is_TooGreat⟩) (ik_TooGreat : PySem.W.codeIn K ic_TooGreat "TooGreat.__init__" = true)
    (ib_TooGreat : excB K C_TooGreat I_TooGreat "ArithmeticError.__new__" [.type "ArithmeticError", .type "Exception", .type "BaseException", .type "object"] ["most"] = true)
    {I_UnknownName : Addr} {io_UnknownName it_UnknownName : Value} {id_UnknownName ia_UnknownName : Option Addr} {ix_UnknownName ip_UnknownName ic_UnknownName : Value} {is_UnknownName : Array (Option Value)} {p0_UnknownName p1_UnknownName g0_UnknownName g1_UnknownName g2_UnknownName g3_UnknownName : Pos}
    (i_UnknownName : PySem.W.findIn K (.ref C_UnknownName) "__init__" = some (some (.ref I_UnknownName))) (il_UnknownName : K.lookup I_UnknownName = some ⟨io_UnknownName, id_UnknownName, .func (PySem.W.fnOf "__init__" "UnknownName.__init__" (iA1 "given" p0_UnknownName p1_UnknownName) (iB1 "given" g0_UnknownName g1_UnknownName g2_UnknownName g3_UnknownName) (iS1 "given") .none .none ix_UnknownName ip_UnknownName ia_UnknownName ic_UnknownName it_UnknownName), is_UnknownName⟩) (ik_UnknownName : PySem.W.codeIn K ic_UnknownName "UnknownName.__init__" = true)
    (ib_UnknownName : excB K C_UnknownName I_UnknownName "LookupError.__new__" [.type "LookupError", .type "Exception", .type "BaseException", .type "object"] ["given"] = true)
    (ib_NoMove : exc0B K C_NoMove "ArithmeticError.__new__" [.type "ArithmeticError", .type "Exception", .type "BaseException", .type "object"] = true)
    (ib_NothingToUndo : exc0B K C_NothingToUndo "LookupError.__new__" [.type "LookupError", .type "Exception", .type "BaseException", .type "object"] = true)
    (hfe : fe = feOf [] [("Broken", C_Broken), ("InUse", C_InUse), ("InvalidClaim", C_InvalidClaim), ("InvalidCommand", C_InvalidCommand), ("InvalidIndex", C_InvalidIndex), ("InvalidName", C_InvalidName), ("InvalidNumber", C_InvalidNumber), ("InvalidPair", C_InvalidPair), ("InvalidString", C_InvalidString), ("InvalidText", C_InvalidText), ("NoMove", C_NoMove), ("NotKnown", C_NotKnown), ("NotLed", C_NotLed), ("NotPossible", C_NotPossible), ("NotRight", C_NotRight), ("NothingToUndo", C_NothingToUndo), ("TooGreat", C_TooGreat), ("UnknownName", C_UnknownName)])
    (hct : (ctab.all fun p => clsB K (FE.cl p.1) p.2.2 (tests.map fun m => (cval bltc m, p.2.1.contains m))) = true) (hca : (ctab.all fun p => csn.all fun m => PySem.W.exmOne K (.ref (FE.cl p.1)) (.ref (FE.cl m)) == some (p.2.1.contains m)) = true)
    : LawG l w K 4 63 "_law_script" mg fa h (trueG 63) := by
  have e := hfa.symm.trans (PySem.W.mg_of X G a7)
  cases e
  have cz_Broken : FE.cl "Broken" = C_Broken := by rw [hfe]; kernel_rfl
  have cz_InUse : FE.cl "InUse" = C_InUse := by rw [hfe]; kernel_rfl
  have cz_InvalidClaim : FE.cl "InvalidClaim" = C_InvalidClaim := by rw [hfe]; kernel_rfl
  have cz_InvalidCommand : FE.cl "InvalidCommand" = C_InvalidCommand := by rw [hfe]; kernel_rfl
  have cz_InvalidIndex : FE.cl "InvalidIndex" = C_InvalidIndex := by rw [hfe]; kernel_rfl
  have cz_InvalidName : FE.cl "InvalidName" = C_InvalidName := by rw [hfe]; kernel_rfl
  have cz_InvalidNumber : FE.cl "InvalidNumber" = C_InvalidNumber := by rw [hfe]; kernel_rfl
  have cz_InvalidPair : FE.cl "InvalidPair" = C_InvalidPair := by rw [hfe]; kernel_rfl
  have cz_InvalidString : FE.cl "InvalidString" = C_InvalidString := by rw [hfe]; kernel_rfl
  have cz_InvalidText : FE.cl "InvalidText" = C_InvalidText := by rw [hfe]; kernel_rfl
  have cz_NoMove : FE.cl "NoMove" = C_NoMove := by rw [hfe]; kernel_rfl
  have cz_NotKnown : FE.cl "NotKnown" = C_NotKnown := by rw [hfe]; kernel_rfl
  have cz_NotLed : FE.cl "NotLed" = C_NotLed := by rw [hfe]; kernel_rfl
  have cz_NotPossible : FE.cl "NotPossible" = C_NotPossible := by rw [hfe]; kernel_rfl
  have cz_NotRight : FE.cl "NotRight" = C_NotRight := by rw [hfe]; kernel_rfl
  have cz_NothingToUndo : FE.cl "NothingToUndo" = C_NothingToUndo := by rw [hfe]; kernel_rfl
  have cz_TooGreat : FE.cl "TooGreat" = C_TooGreat := by rw [hfe]; kernel_rfl
  have cz_UnknownName : FE.cl "UnknownName" = C_UnknownName := by rw [hfe]; kernel_rfl
  have T : Txt K mg := ⟨(by rw [cz_Broken]; exact PySem.W.mg_of X G q_Broken), (by rw [cz_InUse]; exact PySem.W.mg_of X G q_InUse), (by rw [cz_InvalidClaim]; exact PySem.W.mg_of X G q_InvalidClaim), (by rw [cz_InvalidCommand]; exact PySem.W.mg_of X G q_InvalidCommand), (by rw [cz_InvalidIndex]; exact PySem.W.mg_of X G q_InvalidIndex), (by rw [cz_InvalidName]; exact PySem.W.mg_of X G q_InvalidName), (by rw [cz_InvalidNumber]; exact PySem.W.mg_of X G q_InvalidNumber), (by rw [cz_InvalidPair]; exact PySem.W.mg_of X G q_InvalidPair), (by rw [cz_InvalidString]; exact PySem.W.mg_of X G q_InvalidString), (by rw [cz_InvalidText]; exact PySem.W.mg_of X G q_InvalidText), (by rw [cz_NoMove]; exact PySem.W.mg_of X G q_NoMove), (by rw [cz_NotKnown]; exact PySem.W.mg_of X G q_NotKnown), (by rw [cz_NotLed]; exact PySem.W.mg_of X G q_NotLed), (by rw [cz_NotPossible]; exact PySem.W.mg_of X G q_NotPossible), (by rw [cz_NotRight]; exact PySem.W.mg_of X G q_NotRight), (by rw [cz_NothingToUndo]; exact PySem.W.mg_of X G q_NothingToUndo), (by rw [cz_TooGreat]; exact PySem.W.mg_of X G q_TooGreat), (by rw [cz_UnknownName]; exact PySem.W.mg_of X G q_UnknownName), (by rw [cz_Broken]; exact ⟨I_Broken, excB_ok ib_Broken, ini_two tlA (excB_ok ib_Broken) il_Broken ik_Broken (fun _ _ _ => rfl) (by decide) (by decide) (by decide) (by decide) (by decide)⟩), (by rw [cz_InUse]; exact ⟨I_InUse, excB_ok ib_InUse, ini_one tlL (excB_ok ib_InUse) il_InUse ik_InUse (fun _ _ => rfl) (by decide) (by decide)⟩), (by rw [cz_InvalidClaim]; exact ⟨I_InvalidClaim, excB_ok ib_InvalidClaim, ini_one tlV (excB_ok ib_InvalidClaim) il_InvalidClaim ik_InvalidClaim (fun _ _ => rfl) (by decide) (by decide)⟩), (by rw [cz_InvalidCommand]; exact ⟨I_InvalidCommand, excB_ok ib_InvalidCommand, ini_one tlV (excB_ok ib_InvalidCommand) il_InvalidCommand ik_InvalidCommand (fun _ _ => rfl) (by decide) (by decide)⟩), (by rw [cz_InvalidIndex]; exact ⟨I_InvalidIndex, excB_ok ib_InvalidIndex, ini_one tlV (excB_ok ib_InvalidIndex) il_InvalidIndex ik_InvalidIndex (fun _ _ => rfl) (by decide) (by decide)⟩), (by rw [cz_InvalidName]; exact ⟨I_InvalidName, excB_ok ib_InvalidName, ini_one tlV (excB_ok ib_InvalidName) il_InvalidName ik_InvalidName (fun _ _ => rfl) (by decide) (by decide)⟩), (by rw [cz_InvalidNumber]; exact ⟨I_InvalidNumber, excB_ok ib_InvalidNumber, ini_one tlV (excB_ok ib_InvalidNumber) il_InvalidNumber ik_InvalidNumber (fun _ _ => rfl) (by decide) (by decide)⟩), (by rw [cz_InvalidPair]; exact ⟨I_InvalidPair, excB_ok ib_InvalidPair, ini_one tlV (excB_ok ib_InvalidPair) il_InvalidPair ik_InvalidPair (fun _ _ => rfl) (by decide) (by decide)⟩), (by rw [cz_InvalidString]; exact ⟨I_InvalidString, excB_ok ib_InvalidString, ini_one tlV (excB_ok ib_InvalidString) il_InvalidString ik_InvalidString (fun _ _ => rfl) (by decide) (by decide)⟩), (by rw [cz_InvalidText]; exact ⟨I_InvalidText, excB_ok ib_InvalidText, ini_one tlV (excB_ok ib_InvalidText) il_InvalidText ik_InvalidText (fun _ _ => rfl) (by decide) (by decide)⟩), (by rw [cz_NoMove]; exact exc0B_ok ib_NoMove), (by rw [cz_NotLed]; exact ⟨I_NotLed, excB_ok ib_NotLed, ini_one tlA (excB_ok ib_NotLed) il_NotLed ik_NotLed (fun _ _ => rfl) (by decide) (by decide)⟩), (by rw [cz_NothingToUndo]; exact exc0B_ok ib_NothingToUndo), (by rw [cz_TooGreat]; exact ⟨I_TooGreat, excB_ok ib_TooGreat, ini_one tlA (excB_ok ib_TooGreat) il_TooGreat ik_TooGreat (fun _ _ => rfl) (by decide) (by decide)⟩), (by rw [cz_UnknownName]; exact ⟨I_UnknownName, excB_ok ib_UnknownName, ini_one tlL (excB_ok ib_UnknownName) il_UnknownName ik_UnknownName (fun _ _ => rfl) (by decide) (by decide)⟩), (by rw [cz_Broken]; exact ⟨I_Broken, excB_ok ib_Broken, ini_twoK tlA (excB_ok ib_Broken) il_Broken ik_Broken (fun _ _ _ => rfl) (by decide) (by decide) (by decide) (by decide) (by decide)⟩), (by rw [cz_InUse]; exact ⟨I_InUse, excB_ok ib_InUse, ini_oneK tlL (excB_ok ib_InUse) il_InUse ik_InUse (fun _ _ => rfl) (by decide) (by decide)⟩), (by rw [cz_InvalidClaim]; exact ⟨I_InvalidClaim, excB_ok ib_InvalidClaim, ini_oneK tlV (excB_ok ib_InvalidClaim) il_InvalidClaim ik_InvalidClaim (fun _ _ => rfl) (by decide) (by decide)⟩), (by rw [cz_InvalidCommand]; exact ⟨I_InvalidCommand, excB_ok ib_InvalidCommand, ini_oneK tlV (excB_ok ib_InvalidCommand) il_InvalidCommand ik_InvalidCommand (fun _ _ => rfl) (by decide) (by decide)⟩), (by rw [cz_InvalidIndex]; exact ⟨I_InvalidIndex, excB_ok ib_InvalidIndex, ini_oneK tlV (excB_ok ib_InvalidIndex) il_InvalidIndex ik_InvalidIndex (fun _ _ => rfl) (by decide) (by decide)⟩), (by rw [cz_InvalidName]; exact ⟨I_InvalidName, excB_ok ib_InvalidName, ini_oneK tlV (excB_ok ib_InvalidName) il_InvalidName ik_InvalidName (fun _ _ => rfl) (by decide) (by decide)⟩), (by rw [cz_InvalidNumber]; exact ⟨I_InvalidNumber, excB_ok ib_InvalidNumber, ini_oneK tlV (excB_ok ib_InvalidNumber) il_InvalidNumber ik_InvalidNumber (fun _ _ => rfl) (by decide) (by decide)⟩), (by rw [cz_InvalidPair]; exact ⟨I_InvalidPair, excB_ok ib_InvalidPair, ini_oneK tlV (excB_ok ib_InvalidPair) il_InvalidPair ik_InvalidPair (fun _ _ => rfl) (by decide) (by decide)⟩), (by rw [cz_InvalidString]; exact ⟨I_InvalidString, excB_ok ib_InvalidString, ini_oneK tlV (excB_ok ib_InvalidString) il_InvalidString ik_InvalidString (fun _ _ => rfl) (by decide) (by decide)⟩), (by rw [cz_InvalidText]; exact ⟨I_InvalidText, excB_ok ib_InvalidText, ini_oneK tlV (excB_ok ib_InvalidText) il_InvalidText ik_InvalidText (fun _ _ => rfl) (by decide) (by decide)⟩), (by rw [cz_NotLed]; exact ⟨I_NotLed, excB_ok ib_NotLed, ini_oneK tlA (excB_ok ib_NotLed) il_NotLed ik_NotLed (fun _ _ => rfl) (by decide) (by decide)⟩), (by rw [cz_TooGreat]; exact ⟨I_TooGreat, excB_ok ib_TooGreat, ini_oneK tlA (excB_ok ib_TooGreat) il_TooGreat ik_TooGreat (fun _ _ => rfl) (by decide) (by decide)⟩), (by rw [cz_UnknownName]; exact ⟨I_UnknownName, excB_ok ib_UnknownName, ini_oneK tlL (excB_ok ib_UnknownName) il_UnknownName ik_UnknownName (fun _ _ => rfl) (by decide) (by decide)⟩), clsT_of hct, cauT_of hca, PySem.W.mg_none_of X G z_ArithmeticError, PySem.W.mg_none_of X G z_LookupError, PySem.W.mg_none_of X G z_ValueError, PySem.W.mg_none_of X G z_all, PySem.W.mg_none_of X G z_int, PySem.W.mg_none_of X G z_isinstance, PySem.W.mg_none_of X G z_len, PySem.W.mg_none_of X G z_range, PySem.W.mg_none_of X G z_repr, y_MOST_BEADS, y_MOST_LED, y_MOST_LISTED, y_MOST_LOOPS, y_MOST_NUMBER, y_MOST_STEP⟩
  have F1 := fun_mk (st := s__law_every) l1 c1 k1
  have F2 := fun_mk (st := s__law_named) l2 c2 k2
  have F3 := fun_mk (st := s__law_bases) l3 c3 k3
  have F4 := fun_mk (st := s__law_has) l4 c4 k4
  have F5 := fun_mk (st := s__law_caught) l5 c5 k5
  have F6 := fun_mk (st := s__law_right) l6 c6 k6
  have F7 := fun_mk (st := s_law) l7 c7 k7
  refine ⟨fe, PySem.W.fnOf "law" "law" (defArgs s_law) (defBody s_law) (defScope s_law) .none kV7 dc7 pm7 an7 cd7 ct7, [], codes0, ?_, ?_, ?_, fun ns hl _ => trueG_eq hl⟩
  · intro p hp
    rw [hfe] at hp
    exact absurd (show p ∈ ([] : List (Addr × Str)) from hp) List.not_mem_nil
  · exact fun s v => .of_eq rfl
  · intro base _ _ hTB
    have D1 := ok__law_every (P := l.prog) (w := w) (base := base) T F1 (PySem.W.mg_of X G a1) 
    have D2 := ok__law_named (P := l.prog) (w := w) (base := base) T F2 (PySem.W.mg_of X G a2) 
    have D3 := ok__law_bases (P := l.prog) (w := w) (base := base) T F3 (PySem.W.mg_of X G a3) 
    have D4 := ok__law_has (P := l.prog) (w := w) (base := base) T F4 (PySem.W.mg_of X G a4) 
    have D5 := ok__law_caught (P := l.prog) (w := w) (base := base) T F5 (PySem.W.mg_of X G a5) 
    have D6 := ok__law_right (P := l.prog) (w := w) (base := base) T F6 (PySem.W.mg_of X G a6) D2 D1 D3 D4 D5
    exact fn_trueG (hq) (fn_law T F7 D6)
end Wk
namespace Wk
section
open PySem PySem.Spec PyProof.Rows L2 FL
variable [FE]
theorem rng1_ok {g : Rho → R (List D)} {ρ ρ' : Rho} {n : Int} (h : g ρ = .ok [.int n] ρ') (hr : rgOk n = true) : rng1 g ρ = .ok (rangeL 0 n.toNat) ρ' := by
  unfold rng1
  rw [h, R.ok_bind]
  show R.of (if rgOk n = true then some (rangeL 0 n.toNat) else none) ρ' = _
  rw [if_pos hr]
  rfl
/-- a step that is no mere unfolding, so that the proof is checked step by step -/
theorem nxt_nxE (g : SF) (ρ : Rho) : nxt g .nx ρ = g ρ := by
  generalize h : g ρ = x
  exact h

/-! ### errors as values -/
section
variable {ρ : Rho} {n m f : Str} {p : List Str × List Str} {fs : List (Str × D)} {a b v : D} {i : Nat}
theorem isxV_ok {g : EF} (hg : g ρ = .ok (.err n (FE.cl n) fs) ρ) (h : ctab.lookup n = some p) : isxV ctab m g ρ = .ok (.bl (p.1.contains m)) ρ := by
  unfold isxV
  rw [hg]
  show (if FE.cl n = FE.cl n then R.of ((ctab.lookup n).map fun p => D.bl (p.1.contains m)) ρ else .stuck) = _
  rw [if_pos rfl, h]
  rfl
theorem efldV_ok {g : EF} (hg : g ρ = .ok (.err n (FE.cl n) fs) ρ) (h : ctab.lookup n = some p) (hf : p.2.contains f = true) (hv : fs.lookup f = some v) : efldV ctab f g ρ = .ok v ρ := by
  unfold efldV
  rw [hg]
  show (if FE.cl n = FE.cl n ∧ (ctab.lookup n).any (fun p => p.2.contains f) = true then R.of (fs.lookup f) ρ else .stuck) = _
  rw [if_pos ⟨rfl, by rw [h]; exact hf⟩, hv]
  rfl
theorem excE_1 {s : Slot} : excE n [f] (cnsA (vr 0) nilA) [.val a, .val b, s] = .ok (.err n (FE.cl n) [(f, a)]) [.val a, .val b, s] := rfl
theorem excE_2 {s : Slot} : excE n [f, m] (cnsA (vr 0) (cnsA (vr 1) nilA)) [.val a, .val b, s] = .ok (.err n (FE.cl n) [(f, a), (m, b)]) [.val a, .val b, s] := rfl
theorem excE_0 {ρ : Rho} : excE0 n ρ = .ok (.err n (FE.cl n) []) ρ := rfl
theorem excKE_1 {s : Slot} : excKE n [f] false (cnsA (vr 0) nilA) [.val a, .val b, s] = .ok (.err n (FE.cl n) [(f, a)]) [.val a, .val b, s] := rfl
theorem excKE_2 {s : Slot} : excKE n [f, m] true (cnsA (vr 1) (cnsA (vr 0) nilA)) [.val a, .val b, s] = .ok (.err n (FE.cl n) [(f, a), (m, b)]) [.val a, .val b, s] := rfl
end
def E1 [FE] (n f : Str) (a : D) : D := .err n (FE.cl n) [(f, a)]
def E0 [FE] (n : Str) : D := .err n (FE.cl n) []
def EB [FE] (a b : D) : D := .err "Broken" (FE.cl "Broken") [("index", a), ("shown", b)]
def evL [FE] (a b : D) : List D := [.lst [E1 "InvalidText" "given" a, .str "given"], .lst [E1 "InvalidNumber" "given" a, .str "given"], .lst [E1 "InvalidName" "given" a, .str "given"], .lst [E1 "InvalidIndex" "given" a, .str "given"], .lst [E1 "InvalidPair" "given" a, .str "given"], .lst [E1 "InvalidClaim" "given" a, .str "given"], .lst [E1 "InvalidCommand" "given" a, .str "given"], .lst [E1 "InvalidString" "index" a, .str "index"], .lst [E1 "UnknownName" "given" a, .str "given"], .lst [E1 "InUse" "index" a, .str "index"], .lst [E0 "NothingToUndo", .str ""], .lst [E1 "NotLed" "pairs" a, .str "pairs"], .lst [E0 "NoMove", .str ""], .lst [E1 "TooGreat" "most" a, .str "most"], .lst [EB a b, .str "index"]]
def nmL [FE] (a b : D) : List D := [E1 "InvalidText" "given" a, E1 "InvalidNumber" "given" a, E1 "InvalidName" "given" a, E1 "InvalidIndex" "given" a, E1 "InvalidPair" "given" a, E1 "InvalidClaim" "given" a, E1 "InvalidCommand" "given" a, E1 "InvalidString" "index" a, E1 "UnknownName" "given" a, E1 "InUse" "index" a, E0 "NothingToUndo", E1 "NotLed" "pairs" a, E0 "NoMove", E1 "TooGreat" "most" a, EB a b]
section
variable {a b : D}
theorem every_ok : G__law_every [.val a, .val b] = .ok (.v (.lst (evL a b))) [] := by
  have s2 : small 2 = true := rfl
  have s3 : small 3 = true := rfl
  have s4 : small 4 = true := rfl
  have ad : ∀ xs ys : List D, small (xs.length + ys.length) = true → addD (.lst xs) (.lst ys) = some (.lst (xs ++ ys)) := fun xs ys h => if_pos h
  have d1 : ∀ a1 a2 a3 b1 b2 b3 : D, addD (.lst [a1, a2, a3]) (.lst [b1, b2, b3]) = some (.lst [a1, a2, a3, b1, b2, b3]) := fun _ _ _ _ _ _ => rfl
  have d2 : ∀ a1 a2 a3 a4 a5 a6 b1 b2 b3 : D, addD (.lst [a1, a2, a3, a4, a5, a6]) (.lst [b1, b2, b3]) = some (.lst [a1, a2, a3, a4, a5, a6, b1, b2, b3]) := fun _ _ _ _ _ _ _ _ _ => rfl
  have d3 : ∀ a1 a2 a3 a4 a5 a6 a7 a8 a9 b1 b2 b3 b4 : D, addD (.lst [a1, a2, a3, a4, a5, a6, a7, a8, a9]) (.lst [b1, b2, b3, b4]) = some (.lst [a1, a2, a3, a4, a5, a6, a7, a8, a9, b1, b2, b3, b4]) := fun _ _ _ _ _ _ _ _ _ _ _ _ _ => rfl
  have d4 : ∀ a1 a2 a3 a4 a5 a6 a7 a8 a9 b1 b2 b3 b4 c1 c2 : D, addD (.lst [a1, a2, a3, a4, a5, a6, a7, a8, a9, b1, b2, b3, b4]) (.lst [c1, c2]) = some (.lst [a1, a2, a3, a4, a5, a6, a7, a8, a9, b1, b2, b3, b4, c1, c2]) := fun _ _ _ _ _ _ _ _ _ _ _ _ _ _ _ => rfl
  simp only [G__law_every, g__law_every, g__law_every_1, g__law_every_2, g__law_every_3, g__law_every_4, g__law_every_1, g__law_every_2, g__law_every_3, g__law_every_4, g__law_every_2, g__law_every_3, g__law_every_4, g__law_every_3, g__law_every_4, g__law_every_4, seqS_eq, nxS, bkS, ctS, nxt_nxE, nxt_rt, nxt_bk, nxt_ct, ifS_eq, ifE_eq, brR_t, brR_f, brR_dec, anT_eq, orT_eq, anE_eq, orE_eq, tst_eq, isB_bl, ↓R.bind_bd, R.bd_ok, R.of_some, noT, blE, vr, cst, op1, op2, setS, setR, nxO, asgS, tupG, cnsG, nilG, nmG, subGO, subG, subS, getM, ixM, putO, cnsA, nilA, dTup, dLst, frz, retS, retM, setM, exS, mutS, appO, opC, callE, callM, callG_eq, cnsB, nilB, slB, kwB, ioM, toArgs, okA, slsA, nodN, argG_some, goG_ok, asE, asM, putA, newM, putM, parS, par3S, frzS, frzAt, bindO, endR_rt, endR_nx, endG, FL.collect, bodyG_eq, rho0, toS, wipeR, FL.pick, tru, truD, chn, lenM, slM, slF, noO, smO, catO, catM, litM, isiD, typD, isTy, R.bd_exc, cauE_eq, goG_exc, endR_exc,   List.getElem?_cons_zero, List.getElem?_cons_succ, List.getElem?_nil, List.set_cons_zero, List.set_cons_succ, List.set_nil, List.length_cons, List.length_nil, List.mapIdx_cons, List.mapIdx_nil, List.map_cons, List.map_nil, List.replicate_succ, List.replicate_zero, List.cons_append, List.nil_append, List.append_nil, List.foldl_cons, List.foldl_nil, List.filterMap_cons, List.filterMap_nil, Option.map_some, Option.map_none, Option.bind_some, Option.bind_none, Bool.not_true, Bool.not_false, Bool.and_true, Bool.true_and, Bool.or_true, Bool.and_self, if_true, if_false,   eqA_int, neA_int, eqA_str, neA_str, ltD_int, leD_int, gtD_int, geD_int, addD_int, subD_int, negD_int, absC_int, intC_int, maxC_int, minC_int, lenC_lst, lenC_tup, lenC_scr, Int.cast_ofNat_Int, Int.natCast_zero, Int.natCast_one,   ↓reduceIte, Nat.reduceAdd, Nat.reduceSub, Nat.reduceMul, Nat.reduceLT, Nat.reduceLeDiff, Nat.reduceBEq, Nat.reduceBneDiff, Nat.reduceEqDiff, Nat.reducePow, Int.reduceLT, Int.reduceLE, Int.reduceEq, Int.reduceNe, Int.reduceAdd, Int.reduceSub, Int.reduceMul, Int.reduceNeg, Int.reducePow, Int.reduceToNat, decide_true, decide_false, decide_eq_true_eq, Bool.false_eq_true, List.contains_nil, List.contains_cons, Bool.or_false, Bool.or_self, eq_self, and_self, and_true, true_and, dputU, sortU, newU, FL.setMs, excE_1, excE_2, excE_0, s2, s3, s4, d1, d2, d3, d4, evL, E1, E0, EB]
theorem named_ok : G__law_named [.val a, .val b] = .ok (.v (.lst (nmL a b))) [] := by
  have s3 : small 3 = true := rfl
  have s4 : small 4 = true := rfl
  have d1 : ∀ a1 a2 a3 a4 b1 b2 b3 : D, addD (.lst [a1, a2, a3, a4]) (.lst [b1, b2, b3]) = some (.lst [a1, a2, a3, a4, b1, b2, b3]) := fun _ _ _ _ _ _ _ => rfl
  have d2 : ∀ a1 a2 a3 a4 a5 a6 a7 b1 b2 b3 b4 : D, addD (.lst [a1, a2, a3, a4, a5, a6, a7]) (.lst [b1, b2, b3, b4]) = some (.lst [a1, a2, a3, a4, a5, a6, a7, b1, b2, b3, b4]) := fun _ _ _ _ _ _ _ _ _ _ _ => rfl
  have d3 : ∀ a1 a2 a3 a4 a5 a6 a7 a8 a9 a10 a11 b1 b2 b3 b4 : D, addD (.lst [a1, a2, a3, a4, a5, a6, a7, a8, a9, a10, a11]) (.lst [b1, b2, b3, b4]) = some (.lst [a1, a2, a3, a4, a5, a6, a7, a8, a9, a10, a11, b1, b2, b3, b4]) := fun _ _ _ _ _ _ _ _ _ _ _ _ _ _ _ => rfl
  simp only [G__law_named, g__law_named, g__law_named_1, g__law_named_2, g__law_named_3, g__law_named_1, g__law_named_2, g__law_named_3, g__law_named_2, g__law_named_3, g__law_named_3, seqS_eq, nxS, bkS, ctS, nxt_nxE, nxt_rt, nxt_bk, nxt_ct, ifS_eq, ifE_eq, brR_t, brR_f, brR_dec, anT_eq, orT_eq, anE_eq, orE_eq, tst_eq, isB_bl, ↓R.bind_bd, R.bd_ok, R.of_some, noT, blE, vr, cst, op1, op2, setS, setR, nxO, asgS, tupG, cnsG, nilG, nmG, subGO, subG, subS, getM, ixM, putO, cnsA, nilA, dTup, dLst, frz, retS, retM, setM, exS, mutS, appO, opC, callE, callM, callG_eq, cnsB, nilB, slB, kwB, ioM, toArgs, okA, slsA, nodN, argG_some, goG_ok, asE, asM, putA, newM, putM, parS, par3S, frzS, frzAt, bindO, endR_rt, endR_nx, endG, FL.collect, bodyG_eq, rho0, toS, wipeR, FL.pick, tru, truD, chn, lenM, slM, slF, noO, smO, catO, catM, litM, isiD, typD, isTy, R.bd_exc, cauE_eq, goG_exc, endR_exc,   List.getElem?_cons_zero, List.getElem?_cons_succ, List.getElem?_nil, List.set_cons_zero, List.set_cons_succ, List.set_nil, List.length_cons, List.length_nil, List.mapIdx_cons, List.mapIdx_nil, List.map_cons, List.map_nil, List.replicate_succ, List.replicate_zero, List.cons_append, List.nil_append, List.append_nil, List.foldl_cons, List.foldl_nil, List.filterMap_cons, List.filterMap_nil, Option.map_some, Option.map_none, Option.bind_some, Option.bind_none, Bool.not_true, Bool.not_false, Bool.and_true, Bool.true_and, Bool.or_true, Bool.and_self, if_true, if_false,   eqA_int, neA_int, eqA_str, neA_str, ltD_int, leD_int, gtD_int, geD_int, addD_int, subD_int, negD_int, absC_int, intC_int, maxC_int, minC_int, lenC_lst, lenC_tup, lenC_scr, Int.cast_ofNat_Int, Int.natCast_zero, Int.natCast_one,   ↓reduceIte, Nat.reduceAdd, Nat.reduceSub, Nat.reduceMul, Nat.reduceLT, Nat.reduceLeDiff, Nat.reduceBEq, Nat.reduceBneDiff, Nat.reduceEqDiff, Nat.reducePow, Int.reduceLT, Int.reduceLE, Int.reduceEq, Int.reduceNe, Int.reduceAdd, Int.reduceSub, Int.reduceMul, Int.reduceNeg, Int.reducePow, Int.reduceToNat, decide_true, decide_false, decide_eq_true_eq, Bool.false_eq_true, List.contains_nil, List.contains_cons, Bool.or_false, Bool.or_self, eq_self, and_self, and_true, true_and, dputU, sortU, newU, FL.setMs, excKE_1, excKE_2, excE_0, s3, s4, d1, d2, d3, nmL, E1, E0, EB]
def basL (p : List Str × List Str) : D := .lst [.bl (p.1.contains "NotRight"), .bl (p.1.contains "NotKnown"), .bl (p.1.contains "NotPossible"), .bl (p.1.contains "ValueError"), .bl (p.1.contains "LookupError"), .bl (p.1.contains "ArithmeticError")]
theorem bases_ok {n : Str} {fs : List (Str × D)} {p : List Str × List Str} (h : ctab.lookup n = some p) : G__law_bases [.val (.err n (FE.cl n) fs)] = .ok (.v (basL p)) [] := by
  have s3 : small 3 = true := rfl
  have ix : ∀ (m : Str) (s : Slot), isxV ctab m (vr 0) [.val (.err n (FE.cl n) fs), s] = .ok (.bl (p.1.contains m)) [.val (.err n (FE.cl n) fs), s] := fun m s => isxV_ok rfl h
  have d1 : ∀ a1 a2 a3 b1 b2 b3 : D, addD (.lst [a1, a2, a3]) (.lst [b1, b2, b3]) = some (.lst [a1, a2, a3, b1, b2, b3]) := fun _ _ _ _ _ _ => rfl
  unfold basL
  generalize (D.err n (FE.cl n) fs) = e at *
  simp only [G__law_bases, g__law_bases, seqS_eq, nxS, bkS, ctS, nxt_nxE, nxt_rt, nxt_bk, nxt_ct, ifS_eq, ifE_eq, brR_t, brR_f, brR_dec, anT_eq, orT_eq, anE_eq, orE_eq, tst_eq, isB_bl, ↓R.bind_bd, R.bd_ok, R.of_some, noT, blE, vr, cst, op1, op2, setS, setR, nxO, asgS, tupG, cnsG, nilG, nmG, subGO, subG, subS, getM, ixM, putO, cnsA, nilA, dTup, dLst, frz, retS, retM, setM, exS, mutS, appO, opC, callE, callM, callG_eq, cnsB, nilB, slB, kwB, ioM, toArgs, okA, slsA, nodN, argG_some, goG_ok, asE, asM, putA, newM, putM, parS, par3S, frzS, frzAt, bindO, endR_rt, endR_nx, endG, FL.collect, bodyG_eq, rho0, toS, wipeR, FL.pick, tru, truD, chn, lenM, slM, slF, noO, smO, catO, catM, litM, isiD, typD, isTy, R.bd_exc, cauE_eq, goG_exc, endR_exc,   List.getElem?_cons_zero, List.getElem?_cons_succ, List.getElem?_nil, List.set_cons_zero, List.set_cons_succ, List.set_nil, List.length_cons, List.length_nil, List.mapIdx_cons, List.mapIdx_nil, List.map_cons, List.map_nil, List.replicate_succ, List.replicate_zero, List.cons_append, List.nil_append, List.append_nil, List.foldl_cons, List.foldl_nil, List.filterMap_cons, List.filterMap_nil, Option.map_some, Option.map_none, Option.bind_some, Option.bind_none, Bool.not_true, Bool.not_false, Bool.and_true, Bool.true_and, Bool.or_true, Bool.and_self, if_true, if_false,   eqA_int, neA_int, eqA_str, neA_str, ltD_int, leD_int, gtD_int, geD_int, addD_int, subD_int, negD_int, absC_int, intC_int, maxC_int, minC_int, lenC_lst, lenC_tup, lenC_scr, Int.cast_ofNat_Int, Int.natCast_zero, Int.natCast_one,   ↓reduceIte, Nat.reduceAdd, Nat.reduceSub, Nat.reduceMul, Nat.reduceLT, Nat.reduceLeDiff, Nat.reduceBEq, Nat.reduceBneDiff, Nat.reduceEqDiff, Nat.reducePow, Int.reduceLT, Int.reduceLE, Int.reduceEq, Int.reduceNe, Int.reduceAdd, Int.reduceSub, Int.reduceMul, Int.reduceNeg, Int.reducePow, Int.reduceToNat, decide_true, decide_false, decide_eq_true_eq, Bool.false_eq_true, List.contains_nil, List.contains_cons, Bool.or_false, Bool.or_self, eq_self, and_self, and_true, true_and, dputU, sortU, newU, FL.setMs, ix, s3, d1]
theorem has_ok {n w : Str} {p : List Str × List Str} {fs : List (Str × D)} (h : ctab.lookup n = some p) (hw : p.2.contains w = true) (hv : fs.lookup w = some a) (c : w = "given" ∨ w = "index" ∨ w = "pairs" ∨ w = "most") : G__law_has [.val (.err n (FE.cl n) fs), .val (.str w)] = .ok (.v a) [] := by
  have ef : efldV ctab w (vr 0) [.val (.err n (FE.cl n) fs), .val (.str w)] = .ok a [.val (.err n (FE.cl n) fs), .val (.str w)] := efldV_ok rfl h hw hv
  generalize (D.err n (FE.cl n) fs) = e at *
  rcases c with rfl | rfl | rfl | rfl
  · have e1 : eqA (.str "given") (.str "") = some (.bl false) := rfl
    have e2 : eqA (.str "given") (.str "given") = some (.bl true) := rfl
    simp only [G__law_has, g__law_has, g__law_has_1, g__law_has_2, g__law_has_3, g__law_has_1, g__law_has_2, g__law_has_3, g__law_has_2, g__law_has_3, g__law_has_3, seqS_eq, nxS, bkS, ctS, nxt_nxE, nxt_rt, nxt_bk, nxt_ct, ifS_eq, ifE_eq, brR_t, brR_f, brR_dec, anT_eq, orT_eq, anE_eq, orE_eq, tst_eq, isB_bl, ↓R.bind_bd, R.bd_ok, R.of_some, noT, blE, vr, cst, op1, op2, setS, setR, nxO, asgS, tupG, cnsG, nilG, nmG, subGO, subG, subS, getM, ixM, putO, cnsA, nilA, dTup, dLst, frz, retS, retM, setM, exS, mutS, appO, opC, callE, callM, callG_eq, cnsB, nilB, slB, kwB, ioM, toArgs, okA, slsA, nodN, argG_some, goG_ok, asE, asM, putA, newM, putM, parS, par3S, frzS, frzAt, bindO, endR_rt, endR_nx, endG, FL.collect, bodyG_eq, rho0, toS, wipeR, FL.pick, tru, truD, chn, lenM, slM, slF, noO, smO, catO, catM, litM, isiD, typD, isTy, R.bd_exc, cauE_eq, goG_exc, endR_exc,   List.getElem?_cons_zero, List.getElem?_cons_succ, List.getElem?_nil, List.set_cons_zero, List.set_cons_succ, List.set_nil, List.length_cons, List.length_nil, List.mapIdx_cons, List.mapIdx_nil, List.map_cons, List.map_nil, List.replicate_succ, List.replicate_zero, List.cons_append, List.nil_append, List.append_nil, List.foldl_cons, List.foldl_nil, List.filterMap_cons, List.filterMap_nil, Option.map_some, Option.map_none, Option.bind_some, Option.bind_none, Bool.not_true, Bool.not_false, Bool.and_true, Bool.true_and, Bool.or_true, Bool.and_self, if_true, if_false,   eqA_int, neA_int, eqA_str, neA_str, ltD_int, leD_int, gtD_int, geD_int, addD_int, subD_int, negD_int, absC_int, intC_int, maxC_int, minC_int, lenC_lst, lenC_tup, lenC_scr, Int.cast_ofNat_Int, Int.natCast_zero, Int.natCast_one,   ↓reduceIte, Nat.reduceAdd, Nat.reduceSub, Nat.reduceMul, Nat.reduceLT, Nat.reduceLeDiff, Nat.reduceBEq, Nat.reduceBneDiff, Nat.reduceEqDiff, Nat.reducePow, Int.reduceLT, Int.reduceLE, Int.reduceEq, Int.reduceNe, Int.reduceAdd, Int.reduceSub, Int.reduceMul, Int.reduceNeg, Int.reducePow, Int.reduceToNat, decide_true, decide_false, decide_eq_true_eq, Bool.false_eq_true, List.contains_nil, List.contains_cons, Bool.or_false, Bool.or_self, eq_self, and_self, and_true, true_and, dputU, sortU, newU, FL.setMs, e1, e2, ef]
  · have e1 : eqA (.str "index") (.str "") = some (.bl false) := rfl
    have e2 : eqA (.str "index") (.str "given") = some (.bl false) := rfl
    have e3 : eqA (.str "index") (.str "index") = some (.bl true) := rfl
    simp only [G__law_has, g__law_has, g__law_has_1, g__law_has_2, g__law_has_3, g__law_has_1, g__law_has_2, g__law_has_3, g__law_has_2, g__law_has_3, g__law_has_3, seqS_eq, nxS, bkS, ctS, nxt_nxE, nxt_rt, nxt_bk, nxt_ct, ifS_eq, ifE_eq, brR_t, brR_f, brR_dec, anT_eq, orT_eq, anE_eq, orE_eq, tst_eq, isB_bl, ↓R.bind_bd, R.bd_ok, R.of_some, noT, blE, vr, cst, op1, op2, setS, setR, nxO, asgS, tupG, cnsG, nilG, nmG, subGO, subG, subS, getM, ixM, putO, cnsA, nilA, dTup, dLst, frz, retS, retM, setM, exS, mutS, appO, opC, callE, callM, callG_eq, cnsB, nilB, slB, kwB, ioM, toArgs, okA, slsA, nodN, argG_some, goG_ok, asE, asM, putA, newM, putM, parS, par3S, frzS, frzAt, bindO, endR_rt, endR_nx, endG, FL.collect, bodyG_eq, rho0, toS, wipeR, FL.pick, tru, truD, chn, lenM, slM, slF, noO, smO, catO, catM, litM, isiD, typD, isTy, R.bd_exc, cauE_eq, goG_exc, endR_exc,   List.getElem?_cons_zero, List.getElem?_cons_succ, List.getElem?_nil, List.set_cons_zero, List.set_cons_succ, List.set_nil, List.length_cons, List.length_nil, List.mapIdx_cons, List.mapIdx_nil, List.map_cons, List.map_nil, List.replicate_succ, List.replicate_zero, List.cons_append, List.nil_append, List.append_nil, List.foldl_cons, List.foldl_nil, List.filterMap_cons, List.filterMap_nil, Option.map_some, Option.map_none, Option.bind_some, Option.bind_none, Bool.not_true, Bool.not_false, Bool.and_true, Bool.true_and, Bool.or_true, Bool.and_self, if_true, if_false,   eqA_int, neA_int, eqA_str, neA_str, ltD_int, leD_int, gtD_int, geD_int, addD_int, subD_int, negD_int, absC_int, intC_int, maxC_int, minC_int, lenC_lst, lenC_tup, lenC_scr, Int.cast_ofNat_Int, Int.natCast_zero, Int.natCast_one,   ↓reduceIte, Nat.reduceAdd, Nat.reduceSub, Nat.reduceMul, Nat.reduceLT, Nat.reduceLeDiff, Nat.reduceBEq, Nat.reduceBneDiff, Nat.reduceEqDiff, Nat.reducePow, Int.reduceLT, Int.reduceLE, Int.reduceEq, Int.reduceNe, Int.reduceAdd, Int.reduceSub, Int.reduceMul, Int.reduceNeg, Int.reducePow, Int.reduceToNat, decide_true, decide_false, decide_eq_true_eq, Bool.false_eq_true, List.contains_nil, List.contains_cons, Bool.or_false, Bool.or_self, eq_self, and_self, and_true, true_and, dputU, sortU, newU, FL.setMs, e1, e2, e3, ef]
  · have e1 : eqA (.str "pairs") (.str "") = some (.bl false) := rfl
    have e2 : eqA (.str "pairs") (.str "given") = some (.bl false) := rfl
    have e3 : eqA (.str "pairs") (.str "index") = some (.bl false) := rfl
    have e4 : eqA (.str "pairs") (.str "pairs") = some (.bl true) := rfl
    simp only [G__law_has, g__law_has, g__law_has_1, g__law_has_2, g__law_has_3, g__law_has_1, g__law_has_2, g__law_has_3, g__law_has_2, g__law_has_3, g__law_has_3, seqS_eq, nxS, bkS, ctS, nxt_nxE, nxt_rt, nxt_bk, nxt_ct, ifS_eq, ifE_eq, brR_t, brR_f, brR_dec, anT_eq, orT_eq, anE_eq, orE_eq, tst_eq, isB_bl, ↓R.bind_bd, R.bd_ok, R.of_some, noT, blE, vr, cst, op1, op2, setS, setR, nxO, asgS, tupG, cnsG, nilG, nmG, subGO, subG, subS, getM, ixM, putO, cnsA, nilA, dTup, dLst, frz, retS, retM, setM, exS, mutS, appO, opC, callE, callM, callG_eq, cnsB, nilB, slB, kwB, ioM, toArgs, okA, slsA, nodN, argG_some, goG_ok, asE, asM, putA, newM, putM, parS, par3S, frzS, frzAt, bindO, endR_rt, endR_nx, endG, FL.collect, bodyG_eq, rho0, toS, wipeR, FL.pick, tru, truD, chn, lenM, slM, slF, noO, smO, catO, catM, litM, isiD, typD, isTy, R.bd_exc, cauE_eq, goG_exc, endR_exc,   List.getElem?_cons_zero, List.getElem?_cons_succ, List.getElem?_nil, List.set_cons_zero, List.set_cons_succ, List.set_nil, List.length_cons, List.length_nil, List.mapIdx_cons, List.mapIdx_nil, List.map_cons, List.map_nil, List.replicate_succ, List.replicate_zero, List.cons_append, List.nil_append, List.append_nil, List.foldl_cons, List.foldl_nil, List.filterMap_cons, List.filterMap_nil, Option.map_some, Option.map_none, Option.bind_some, Option.bind_none, Bool.not_true, Bool.not_false, Bool.and_true, Bool.true_and, Bool.or_true, Bool.and_self, if_true, if_false,   eqA_int, neA_int, eqA_str, neA_str, ltD_int, leD_int, gtD_int, geD_int, addD_int, subD_int, negD_int, absC_int, intC_int, maxC_int, minC_int, lenC_lst, lenC_tup, lenC_scr, Int.cast_ofNat_Int, Int.natCast_zero, Int.natCast_one,   ↓reduceIte, Nat.reduceAdd, Nat.reduceSub, Nat.reduceMul, Nat.reduceLT, Nat.reduceLeDiff, Nat.reduceBEq, Nat.reduceBneDiff, Nat.reduceEqDiff, Nat.reducePow, Int.reduceLT, Int.reduceLE, Int.reduceEq, Int.reduceNe, Int.reduceAdd, Int.reduceSub, Int.reduceMul, Int.reduceNeg, Int.reducePow, Int.reduceToNat, decide_true, decide_false, decide_eq_true_eq, Bool.false_eq_true, List.contains_nil, List.contains_cons, Bool.or_false, Bool.or_self, eq_self, and_self, and_true, true_and, dputU, sortU, newU, FL.setMs, e1, e2, e3, e4, ef]
  · have e1 : eqA (.str "most") (.str "") = some (.bl false) := rfl
    have e2 : eqA (.str "most") (.str "given") = some (.bl false) := rfl
    have e3 : eqA (.str "most") (.str "index") = some (.bl false) := rfl
    have e4 : eqA (.str "most") (.str "pairs") = some (.bl false) := rfl
    simp only [G__law_has, g__law_has, g__law_has_1, g__law_has_2, g__law_has_3, g__law_has_1, g__law_has_2, g__law_has_3, g__law_has_2, g__law_has_3, g__law_has_3, seqS_eq, nxS, bkS, ctS, nxt_nxE, nxt_rt, nxt_bk, nxt_ct, ifS_eq, ifE_eq, brR_t, brR_f, brR_dec, anT_eq, orT_eq, anE_eq, orE_eq, tst_eq, isB_bl, ↓R.bind_bd, R.bd_ok, R.of_some, noT, blE, vr, cst, op1, op2, setS, setR, nxO, asgS, tupG, cnsG, nilG, nmG, subGO, subG, subS, getM, ixM, putO, cnsA, nilA, dTup, dLst, frz, retS, retM, setM, exS, mutS, appO, opC, callE, callM, callG_eq, cnsB, nilB, slB, kwB, ioM, toArgs, okA, slsA, nodN, argG_some, goG_ok, asE, asM, putA, newM, putM, parS, par3S, frzS, frzAt, bindO, endR_rt, endR_nx, endG, FL.collect, bodyG_eq, rho0, toS, wipeR, FL.pick, tru, truD, chn, lenM, slM, slF, noO, smO, catO, catM, litM, isiD, typD, isTy, R.bd_exc, cauE_eq, goG_exc, endR_exc,   List.getElem?_cons_zero, List.getElem?_cons_succ, List.getElem?_nil, List.set_cons_zero, List.set_cons_succ, List.set_nil, List.length_cons, List.length_nil, List.mapIdx_cons, List.mapIdx_nil, List.map_cons, List.map_nil, List.replicate_succ, List.replicate_zero, List.cons_append, List.nil_append, List.append_nil, List.foldl_cons, List.foldl_nil, List.filterMap_cons, List.filterMap_nil, Option.map_some, Option.map_none, Option.bind_some, Option.bind_none, Bool.not_true, Bool.not_false, Bool.and_true, Bool.true_and, Bool.or_true, Bool.and_self, if_true, if_false,   eqA_int, neA_int, eqA_str, neA_str, ltD_int, leD_int, gtD_int, geD_int, addD_int, subD_int, negD_int, absC_int, intC_int, maxC_int, minC_int, lenC_lst, lenC_tup, lenC_scr, Int.cast_ofNat_Int, Int.natCast_zero, Int.natCast_one,   ↓reduceIte, Nat.reduceAdd, Nat.reduceSub, Nat.reduceMul, Nat.reduceLT, Nat.reduceLeDiff, Nat.reduceBEq, Nat.reduceBneDiff, Nat.reduceEqDiff, Nat.reducePow, Int.reduceLT, Int.reduceLE, Int.reduceEq, Int.reduceNe, Int.reduceAdd, Int.reduceSub, Int.reduceMul, Int.reduceNeg, Int.reducePow, Int.reduceToNat, decide_true, decide_false, decide_eq_true_eq, Bool.false_eq_true, List.contains_nil, List.contains_cons, Bool.or_false, Bool.or_self, eq_self, and_self, and_true, true_and, dputU, sortU, newU, FL.setMs, e1, e2, e3, e4, ef]
theorem has_none (d : D) : G__law_has [.val d, .val (.str "")] = .ok (.v (.str "nothing")) [] := by
  have e1 : eqA (.str "") (.str "") = some (.bl true) := rfl
  simp only [G__law_has, g__law_has, g__law_has_1, g__law_has_2, g__law_has_3, seqS_eq, nxS, bkS, ctS, nxt_nxE, nxt_rt, nxt_bk, nxt_ct, ifS_eq, ifE_eq, brR_t, brR_f, brR_dec, anT_eq, orT_eq, anE_eq, orE_eq, tst_eq, isB_bl, ↓R.bind_bd, R.bd_ok, R.of_some, noT, blE, vr, cst, op1, op2, setS, setR, nxO, asgS, tupG, cnsG, nilG, nmG, subGO, subG, subS, getM, ixM, putO, cnsA, nilA, dTup, dLst, frz, retS, retM, setM, exS, mutS, appO, opC, callE, callM, callG_eq, cnsB, nilB, slB, kwB, ioM, toArgs, okA, slsA, nodN, argG_some, goG_ok, asE, asM, putA, newM, putM, parS, par3S, frzS, frzAt, bindO, endR_rt, endR_nx, endG, FL.collect, bodyG_eq, rho0, toS, wipeR, FL.pick, tru, truD, chn, lenM, slM, slF, noO, smO, catO, catM, litM, isiD, typD, isTy, R.bd_exc, cauE_eq, goG_exc, endR_exc,   List.getElem?_cons_zero, List.getElem?_cons_succ, List.getElem?_nil, List.set_cons_zero, List.set_cons_succ, List.set_nil, List.length_cons, List.length_nil, List.mapIdx_cons, List.mapIdx_nil, List.map_cons, List.map_nil, List.replicate_succ, List.replicate_zero, List.cons_append, List.nil_append, List.append_nil, List.foldl_cons, List.foldl_nil, List.filterMap_cons, List.filterMap_nil, Option.map_some, Option.map_none, Option.bind_some, Option.bind_none, Bool.not_true, Bool.not_false, Bool.and_true, Bool.true_and, Bool.or_true, Bool.and_self, if_true, if_false,   eqA_int, neA_int, eqA_str, neA_str, ltD_int, leD_int, gtD_int, geD_int, addD_int, subD_int, negD_int, absC_int, intC_int, maxC_int, minC_int, lenC_lst, lenC_tup, lenC_scr, Int.cast_ofNat_Int, Int.natCast_zero, Int.natCast_one,   ↓reduceIte, Nat.reduceAdd, Nat.reduceSub, Nat.reduceMul, Nat.reduceLT, Nat.reduceLeDiff, Nat.reduceBEq, Nat.reduceBneDiff, Nat.reduceEqDiff, Nat.reducePow, Int.reduceLT, Int.reduceLE, Int.reduceEq, Int.reduceNe, Int.reduceAdd, Int.reduceSub, Int.reduceMul, Int.reduceNeg, Int.reducePow, Int.reduceToNat, decide_true, decide_false, decide_eq_true_eq, Bool.false_eq_true, List.contains_nil, List.contains_cons, Bool.or_false, Bool.or_self, eq_self, and_self, and_true, true_and, dputU, sortU, newU, FL.setMs, e1]
/-! ### errors raised and caught -/
theorem try_ok {n m f : Str} {p : List Str × List Str} (hl : ctab.lookup n = some p) (hc : caught ctab [m] n = true) (hf : p.2.contains f = true) {t : D} {xs : List D} (sm : small (xs.length + 1) = true) (s2 : Slot) :
    tryS ctab m 2 (raiS n [f] (cnsA (vr 0) nilA)) (fun x0 => mutS 1 (efld x0 ctab f (vr 2)) appO) [.val t, .own (.lst xs), s2] = .ok .nx [.val t, .own (.lst (xs ++ [t])), .no] := by
  have r : raiS n [f] (cnsA (vr 0) nilA) [.val t, .own (.lst xs), s2] = .exc n [(f, t)] [.val t, .own (.lst xs), s2] := rfl
  have su : sutS 2 (fun x0 => mutS 1 (efld x0 ctab f (vr 2)) appO) n [(f, t)] [.val t, .own (.lst xs), s2] = some [.val t, .own (.lst (xs ++ [t])), .no] := sutS_eq fun x hx => by
    obtain ⟨a, d, C⟩ := x
    subst hx
    refine ⟨[.val t, .own (.lst (xs ++ [t])), .val (.exc ⟨a, d, C⟩ [(f, t)])], ?_, rfl⟩
    have ef : efld ⟨a, d, C⟩ ctab f (vr 2) [.val t, .own (.lst xs), .val (.exc ⟨a, d, C⟩ [(f, t)])] = .ok t [.val t, .own (.lst xs), .val (.exc ⟨a, d, C⟩ [(f, t)])] := by
      show (if (⟨a, d, C⟩ : EId) = ⟨a, d, C⟩ ∧ (ctab.lookup C).any (fun p => p.2.contains f) = true then R.of (List.lookup f [(f, t)]) _ else .stuck) = _
      rw [if_pos ⟨rfl, by rw [hl]; exact hf⟩]
      have : List.lookup f [(f, t)] = some t := by simp [List.lookup]
      rw [this]
      rfl
    show mutS 1 (efld ⟨a, d, C⟩ ctab f (vr 2)) appO [.val t, .own (.lst xs), .val (.exc ⟨a, d, C⟩ [(f, t)])] = _
    have ap : appO xs t = some (xs ++ [t]) := if_pos sm
    generalize efld ⟨a, d, C⟩ ctab f (vr 2) = g at *
    simp only [seqS_eq, nxS, bkS, ctS, nxt_nxE, nxt_rt, nxt_bk, nxt_ct, ifS_eq, ifE_eq, brR_t, brR_f, brR_dec, anT_eq, orT_eq, anE_eq, orE_eq, tst_eq, isB_bl, ↓R.bind_bd, R.bd_ok, R.of_some, noT, blE, vr, cst, op1, op2, setS, setR, nxO, asgS, tupG, cnsG, nilG, nmG, subGO, subG, subS, getM, ixM, putO, cnsA, nilA, dTup, dLst, frz, retS, retM, setM, exS, mutS, appO, opC, callE, callM, callG_eq, cnsB, nilB, slB, kwB, ioM, toArgs, okA, slsA, nodN, argG_some, goG_ok, asE, asM, putA, newM, putM, parS, par3S, frzS, frzAt, bindO, endR_rt, endR_nx, endG, FL.collect, bodyG_eq, rho0, toS, wipeR, FL.pick, tru, truD, chn, lenM, slM, slF, noO, smO, catO, catM, litM, isiD, typD, isTy, R.bd_exc, cauE_eq, goG_exc, endR_exc,   List.getElem?_cons_zero, List.getElem?_cons_succ, List.getElem?_nil, List.set_cons_zero, List.set_cons_succ, List.set_nil, List.length_cons, List.length_nil, List.mapIdx_cons, List.mapIdx_nil, List.map_cons, List.map_nil, List.replicate_succ, List.replicate_zero, List.cons_append, List.nil_append, List.append_nil, List.foldl_cons, List.foldl_nil, List.filterMap_cons, List.filterMap_nil, Option.map_some, Option.map_none, Option.bind_some, Option.bind_none, Bool.not_true, Bool.not_false, Bool.and_true, Bool.true_and, Bool.or_true, Bool.and_self, if_true, if_false,   eqA_int, neA_int, eqA_str, neA_str, ltD_int, leD_int, gtD_int, geD_int, addD_int, subD_int, negD_int, absC_int, intC_int, maxC_int, minC_int, lenC_lst, lenC_tup, lenC_scr, Int.cast_ofNat_Int, Int.natCast_zero, Int.natCast_one,   ↓reduceIte, Nat.reduceAdd, Nat.reduceSub, Nat.reduceMul, Nat.reduceLT, Nat.reduceLeDiff, Nat.reduceBEq, Nat.reduceBneDiff, Nat.reduceEqDiff, Nat.reducePow, Int.reduceLT, Int.reduceLE, Int.reduceEq, Int.reduceNe, Int.reduceAdd, Int.reduceSub, Int.reduceMul, Int.reduceNeg, Int.reducePow, Int.reduceToNat, decide_true, decide_false, decide_eq_true_eq, Bool.false_eq_true, List.contains_nil, List.contains_cons, Bool.or_false, Bool.or_self, eq_self, and_self, and_true, true_and, dputU, sortU, newU, FL.setMs, ef, sm]
  unfold tryS
  rw [r]
  show (if caught ctab [m] n = true ∧ 2 < [Slot.val t, .own (.lst xs), s2].length then match sutS 2 (fun x0 => mutS 1 (efld x0 ctab f (vr 2)) appO) n [(f, t)] [.val t, .own (.lst xs), s2] with
    | some ρ2 => R.ok Fl.nx ρ2
    | none => .stuck else .stuck) = _
  rw [if_pos ⟨hc, by show 2 < 3; decide⟩, su]
theorem caught_ok (t : D) : G__law_caught [.val t] = .ok (.v (.lst [t, t, t])) [] := by
  have s0 : small 0 = true := rfl
  have e1 := try_ok (n := "InvalidString") (m := "NotRight") (f := "index") (t := t) (xs := []) rfl (by decide +kernel) (by decide +kernel) rfl .no
  have e2 := try_ok (n := "UnknownName") (m := "NotKnown") (f := "given") (t := t) (xs := [t]) rfl (by decide +kernel) (by decide +kernel) rfl .no
  have e3 := try_ok (n := "TooGreat") (m := "NotPossible") (f := "most") (t := t) (xs := [t, t]) rfl (by decide +kernel) (by decide +kernel) rfl .no
  simp only [List.nil_append, List.cons_append] at e1 e2 e3
  simp only [G__law_caught, g__law_caught, g__law_caught_1, g__law_caught_2, g__law_caught_3, g__law_caught_4, g__law_caught_1, g__law_caught_2, g__law_caught_3, g__law_caught_4, g__law_caught_2, g__law_caught_3, g__law_caught_4, g__law_caught_3, g__law_caught_4, g__law_caught_4, seqS_eq, nxS, bkS, ctS, nxt_nxE, nxt_rt, nxt_bk, nxt_ct, ifS_eq, ifE_eq, brR_t, brR_f, brR_dec, anT_eq, orT_eq, anE_eq, orE_eq, tst_eq, isB_bl, ↓R.bind_bd, R.bd_ok, R.of_some, noT, blE, vr, cst, op1, op2, setS, setR, nxO, asgS, tupG, cnsG, nilG, nmG, subGO, subG, subS, getM, ixM, putO, cnsA, nilA, dTup, dLst, frz, retS, retM, setM, exS, mutS, appO, opC, callE, callM, callG_eq, cnsB, nilB, slB, kwB, ioM, toArgs, okA, slsA, nodN, argG_some, goG_ok, asE, asM, putA, newM, putM, parS, par3S, frzS, frzAt, bindO, endR_rt, endR_nx, endG, FL.collect, bodyG_eq, rho0, toS, wipeR, FL.pick, tru, truD, chn, lenM, slM, slF, noO, smO, catO, catM, litM, isiD, typD, isTy, R.bd_exc, cauE_eq, goG_exc, endR_exc,   List.getElem?_cons_zero, List.getElem?_cons_succ, List.getElem?_nil, List.set_cons_zero, List.set_cons_succ, List.set_nil, List.length_cons, List.length_nil, List.mapIdx_cons, List.mapIdx_nil, List.map_cons, List.map_nil, List.replicate_succ, List.replicate_zero, List.cons_append, List.nil_append, List.append_nil, List.foldl_cons, List.foldl_nil, List.filterMap_cons, List.filterMap_nil, Option.map_some, Option.map_none, Option.bind_some, Option.bind_none, Bool.not_true, Bool.not_false, Bool.and_true, Bool.true_and, Bool.or_true, Bool.and_self, if_true, if_false,   eqA_int, neA_int, eqA_str, neA_str, ltD_int, leD_int, gtD_int, geD_int, addD_int, subD_int, negD_int, absC_int, intC_int, maxC_int, minC_int, lenC_lst, lenC_tup, lenC_scr, Int.cast_ofNat_Int, Int.natCast_zero, Int.natCast_one,   ↓reduceIte, Nat.reduceAdd, Nat.reduceSub, Nat.reduceMul, Nat.reduceLT, Nat.reduceLeDiff, Nat.reduceBEq, Nat.reduceBneDiff, Nat.reduceEqDiff, Nat.reducePow, Int.reduceLT, Int.reduceLE, Int.reduceEq, Int.reduceNe, Int.reduceAdd, Int.reduceSub, Int.reduceMul, Int.reduceNeg, Int.reducePow, Int.reduceToNat, decide_true, decide_false, decide_eq_true_eq, Bool.false_eq_true, List.contains_nil, List.contains_cons, Bool.or_false, Bool.or_self, eq_self, and_self, and_true, true_and, dputU, sortU, newU, FL.setMs, s0, ↓e1, ↓e2, ↓e3]
end

/-! ### the errors one by one -/
structure En [FE] (a b : D) (k : Nat) (e : D) (w : Str) (wb : Bool) (bs : Int) (due : D) : Prop where
  ix : ixD (.lst (evL a b)) (.int (k : Int)) = some (.lst [e, .str w])
  nx : ixD (.lst (nmL a b)) (.int (k : Int)) = some e
  bas : G__law_bases [.val e] = .ok (.v due) []
  nd : neA due due = some (.bl false)
  nw : neA (.str w) (.str "") = some (.bl wb)
  has : G__law_has [.val e, .val (.str w)] = .ok (.v (if wb = true then a else .str "nothing")) []
  base : (if (k : Int) < 8 then 0 else if (k : Int) < 11 then 1 else 2) = bs
  du : mulD (.lst [.bl (decide (bs = 0)), .bl (decide (bs = 1)), .bl (decide (bs = 2))]) (.int 2) = some due
theorem en_all [FE] (a b : D) : ∀ k : Nat, k < 15 → ∃ e w wb bs due, En a b k e w wb bs due
  | 0, _ => ⟨_, "given", true, 0, _, ⟨rfl, rfl, bases_ok (p := (["InvalidText", "NotRight", "ValueError"], ["given"])) rfl, rfl, rfl, has_ok (p := (["InvalidText", "NotRight", "ValueError"], ["given"])) rfl (by decide +kernel) rfl (.inl rfl), rfl, rfl⟩⟩
  | 1, _ => ⟨_, "given", true, 0, _, ⟨rfl, rfl, bases_ok (p := (["InvalidNumber", "NotRight", "ValueError"], ["given"])) rfl, rfl, rfl, has_ok (p := (["InvalidNumber", "NotRight", "ValueError"], ["given"])) rfl (by decide +kernel) rfl (.inl rfl), rfl, rfl⟩⟩
  | 2, _ => ⟨_, "given", true, 0, _, ⟨rfl, rfl, bases_ok (p := (["InvalidName", "NotRight", "ValueError"], ["given"])) rfl, rfl, rfl, has_ok (p := (["InvalidName", "NotRight", "ValueError"], ["given"])) rfl (by decide +kernel) rfl (.inl rfl), rfl, rfl⟩⟩
  | 3, _ => ⟨_, "given", true, 0, _, ⟨rfl, rfl, bases_ok (p := (["InvalidIndex", "NotRight", "ValueError"], ["given"])) rfl, rfl, rfl, has_ok (p := (["InvalidIndex", "NotRight", "ValueError"], ["given"])) rfl (by decide +kernel) rfl (.inl rfl), rfl, rfl⟩⟩
  | 4, _ => ⟨_, "given", true, 0, _, ⟨rfl, rfl, bases_ok (p := (["InvalidPair", "NotRight", "ValueError"], ["given"])) rfl, rfl, rfl, has_ok (p := (["InvalidPair", "NotRight", "ValueError"], ["given"])) rfl (by decide +kernel) rfl (.inl rfl), rfl, rfl⟩⟩
  | 5, _ => ⟨_, "given", true, 0, _, ⟨rfl, rfl, bases_ok (p := (["InvalidClaim", "NotRight", "ValueError"], ["given"])) rfl, rfl, rfl, has_ok (p := (["InvalidClaim", "NotRight", "ValueError"], ["given"])) rfl (by decide +kernel) rfl (.inl rfl), rfl, rfl⟩⟩
  | 6, _ => ⟨_, "given", true, 0, _, ⟨rfl, rfl, bases_ok (p := (["InvalidCommand", "NotRight", "ValueError"], ["given"])) rfl, rfl, rfl, has_ok (p := (["InvalidCommand", "NotRight", "ValueError"], ["given"])) rfl (by decide +kernel) rfl (.inl rfl), rfl, rfl⟩⟩
  | 7, _ => ⟨_, "index", true, 0, _, ⟨rfl, rfl, bases_ok (p := (["InvalidString", "NotRight", "ValueError"], ["index"])) rfl, rfl, rfl, has_ok (p := (["InvalidString", "NotRight", "ValueError"], ["index"])) rfl (by decide +kernel) rfl (.inr (.inl rfl)), rfl, rfl⟩⟩
  | 8, _ => ⟨_, "given", true, 1, _, ⟨rfl, rfl, bases_ok (p := (["UnknownName", "NotKnown", "LookupError"], ["given"])) rfl, rfl, rfl, has_ok (p := (["UnknownName", "NotKnown", "LookupError"], ["given"])) rfl (by decide +kernel) rfl (.inl rfl), rfl, rfl⟩⟩
  | 9, _ => ⟨_, "index", true, 1, _, ⟨rfl, rfl, bases_ok (p := (["InUse", "NotKnown", "LookupError"], ["index"])) rfl, rfl, rfl, has_ok (p := (["InUse", "NotKnown", "LookupError"], ["index"])) rfl (by decide +kernel) rfl (.inr (.inl rfl)), rfl, rfl⟩⟩
  | 10, _ => ⟨_, "", false, 1, _, ⟨rfl, rfl, bases_ok (p := (["NothingToUndo", "NotKnown", "LookupError"], [])) rfl, rfl, rfl, has_none _, rfl, rfl⟩⟩
  | 11, _ => ⟨_, "pairs", true, 2, _, ⟨rfl, rfl, bases_ok (p := (["NotLed", "NotPossible", "ArithmeticError"], ["pairs"])) rfl, rfl, rfl, has_ok (p := (["NotLed", "NotPossible", "ArithmeticError"], ["pairs"])) rfl (by decide +kernel) rfl (.inr (.inr (.inl rfl))), rfl, rfl⟩⟩
  | 12, _ => ⟨_, "", false, 2, _, ⟨rfl, rfl, bases_ok (p := (["NoMove", "NotPossible", "ArithmeticError"], [])) rfl, rfl, rfl, has_none _, rfl, rfl⟩⟩
  | 13, _ => ⟨_, "most", true, 2, _, ⟨rfl, rfl, bases_ok (p := (["TooGreat", "NotPossible", "ArithmeticError"], ["most"])) rfl, rfl, rfl, has_ok (p := (["TooGreat", "NotPossible", "ArithmeticError"], ["most"])) rfl (by decide +kernel) rfl (.inr (.inr (.inr rfl))), rfl, rfl⟩⟩
  | 14, _ => ⟨_, "index", true, 2, _, ⟨rfl, rfl, bases_ok (p := (["Broken", "NotPossible", "ArithmeticError"], ["index", "shown"])) rfl, rfl, rfl, has_ok (p := (["Broken", "NotPossible", "ArithmeticError"], ["index", "shown"])) rfl (by decide +kernel) rfl (.inr (.inl rfl)), rfl, rfl⟩⟩
  | k + 15, h => absurd h (by omega)
section
variable {a b : D}
theorem one_ok {k : Nat} {e : D} {w : Str} {wb : Bool} {bs : Int} {due : D} (E : En a b k e w wb bs due) {X Y : Str} (ra : reprC [a] = some (.str X)) (rn : reprC [.str "nothing"] = some (.str Y)) (s5 s8 : Slot) :
    b__law_right_2 [.val a, .val b, .val (.lst (evL a b)), .val (.lst (nmL a b)), .val (.int (k : Int)), s5, .val due, .val e, s8] = .ok .nx [.val a, .val b, .val (.lst (evL a b)), .val (.lst (nmL a b)), .val (.int (k : Int)), s5, .val due, .val e, s8] := by
  obtain ⟨ix, nx, bas, nd, nw, has, _, _⟩ := E
  have i1 : ixD (.lst [e, .str w]) (.int 1) = some (.str w) := rfl
  generalize evL a b = L1 at *
  generalize nmL a b = L2 at *
  cases wb with
  | true =>
    rw [if_pos rfl] at has
    simp only [b__law_right_2, seqS_eq, nxS, bkS, ctS, nxt_nxE, nxt_rt, nxt_bk, nxt_ct, ifS_eq, ifE_eq, brR_t, brR_f, brR_dec, anT_eq, orT_eq, anE_eq, orE_eq, tst_eq, isB_bl, ↓R.bind_bd, R.bd_ok, R.of_some, noT, blE, vr, cst, op1, op2, setS, setR, nxO, asgS, tupG, cnsG, nilG, nmG, subGO, subG, subS, getM, ixM, putO, cnsA, nilA, dTup, dLst, frz, retS, retM, setM, exS, mutS, appO, opC, callE, callM, callG_eq, cnsB, nilB, slB, kwB, ioM, toArgs, okA, slsA, nodN, argG_some, goG_ok, asE, asM, putA, newM, putM, parS, par3S, frzS, frzAt, bindO, endR_rt, endR_nx, endG, FL.collect, bodyG_eq, rho0, toS, wipeR, FL.pick, tru, truD, chn, lenM, slM, slF, noO, smO, catO, catM, litM, isiD, typD, isTy, R.bd_exc, cauE_eq, goG_exc, endR_exc,   List.getElem?_cons_zero, List.getElem?_cons_succ, List.getElem?_nil, List.set_cons_zero, List.set_cons_succ, List.set_nil, List.length_cons, List.length_nil, List.mapIdx_cons, List.mapIdx_nil, List.map_cons, List.map_nil, List.replicate_succ, List.replicate_zero, List.cons_append, List.nil_append, List.append_nil, List.foldl_cons, List.foldl_nil, List.filterMap_cons, List.filterMap_nil, Option.map_some, Option.map_none, Option.bind_some, Option.bind_none, Bool.not_true, Bool.not_false, Bool.and_true, Bool.true_and, Bool.or_true, Bool.and_self, if_true, if_false,   eqA_int, neA_int, eqA_str, neA_str, ltD_int, leD_int, gtD_int, geD_int, addD_int, subD_int, negD_int, absC_int, intC_int, maxC_int, minC_int, lenC_lst, lenC_tup, lenC_scr, Int.cast_ofNat_Int, Int.natCast_zero, Int.natCast_one,   ↓reduceIte, Nat.reduceAdd, Nat.reduceSub, Nat.reduceMul, Nat.reduceLT, Nat.reduceLeDiff, Nat.reduceBEq, Nat.reduceBneDiff, Nat.reduceEqDiff, Nat.reducePow, Int.reduceLT, Int.reduceLE, Int.reduceEq, Int.reduceNe, Int.reduceAdd, Int.reduceSub, Int.reduceMul, Int.reduceNeg, Int.reducePow, Int.reduceToNat, decide_true, decide_false, decide_eq_true_eq, Bool.false_eq_true, List.contains_nil, List.contains_cons, Bool.or_false, Bool.or_self, eq_self, and_self, and_true, true_and, dputU, sortU, newU, FL.setMs, bas, nd, ix, i1, nw, has, ra]
  | false =>
    rw [if_neg Bool.false_ne_true] at has
    simp only [b__law_right_2, seqS_eq, nxS, bkS, ctS, nxt_nxE, nxt_rt, nxt_bk, nxt_ct, ifS_eq, ifE_eq, brR_t, brR_f, brR_dec, anT_eq, orT_eq, anE_eq, orE_eq, tst_eq, isB_bl, ↓R.bind_bd, R.bd_ok, R.of_some, noT, blE, vr, cst, op1, op2, setS, setR, nxO, asgS, tupG, cnsG, nilG, nmG, subGO, subG, subS, getM, ixM, putO, cnsA, nilA, dTup, dLst, frz, retS, retM, setM, exS, mutS, appO, opC, callE, callM, callG_eq, cnsB, nilB, slB, kwB, ioM, toArgs, okA, slsA, nodN, argG_some, goG_ok, asE, asM, putA, newM, putM, parS, par3S, frzS, frzAt, bindO, endR_rt, endR_nx, endG, FL.collect, bodyG_eq, rho0, toS, wipeR, FL.pick, tru, truD, chn, lenM, slM, slF, noO, smO, catO, catM, litM, isiD, typD, isTy, R.bd_exc, cauE_eq, goG_exc, endR_exc,   List.getElem?_cons_zero, List.getElem?_cons_succ, List.getElem?_nil, List.set_cons_zero, List.set_cons_succ, List.set_nil, List.length_cons, List.length_nil, List.mapIdx_cons, List.mapIdx_nil, List.map_cons, List.map_nil, List.replicate_succ, List.replicate_zero, List.cons_append, List.nil_append, List.append_nil, List.foldl_cons, List.foldl_nil, List.filterMap_cons, List.filterMap_nil, Option.map_some, Option.map_none, Option.bind_some, Option.bind_none, Bool.not_true, Bool.not_false, Bool.and_true, Bool.true_and, Bool.or_true, Bool.and_self, if_true, if_false,   eqA_int, neA_int, eqA_str, neA_str, ltD_int, leD_int, gtD_int, geD_int, addD_int, subD_int, negD_int, absC_int, intC_int, maxC_int, minC_int, lenC_lst, lenC_tup, lenC_scr, Int.cast_ofNat_Int, Int.natCast_zero, Int.natCast_one,   ↓reduceIte, Nat.reduceAdd, Nat.reduceSub, Nat.reduceMul, Nat.reduceLT, Nat.reduceLeDiff, Nat.reduceBEq, Nat.reduceBneDiff, Nat.reduceEqDiff, Nat.reducePow, Int.reduceLT, Int.reduceLE, Int.reduceEq, Int.reduceNe, Int.reduceAdd, Int.reduceSub, Int.reduceMul, Int.reduceNeg, Int.reducePow, Int.reduceToNat, decide_true, decide_false, decide_eq_true_eq, Bool.false_eq_true, List.contains_nil, List.contains_cons, Bool.or_false, Bool.or_self, eq_self, and_self, and_true, true_and, dputU, sortU, newU, FL.setMs, bas, nd, ix, i1, nw, has, rn]
theorem turn01 {k : Nat} (hk : k < 15) {X Y : Str} (ra : reprC [a] = some (.str X)) (rn : reprC [.str "nothing"] = some (.str Y)) (s5 s6 s7 s8 : Slot) :
    ∃ (s5' s6' : Slot) (d7 : D), b__law_right_1 [.val a, .val b, .val (.lst (evL a b)), .val (.lst (nmL a b)), .val (.int (k : Int)), s5, s6, s7, s8] = .ok .nx [.val a, .val b, .val (.lst (evL a b)), .val (.lst (nmL a b)), .val (.int (k : Int)), s5', s6', .val d7, s8] := by
  obtain ⟨e, w, wb, bs, due, E⟩ := en_all a b k hk
  have one := one_ok E ra rn (.val (.int bs)) s8
  obtain ⟨ix, nx, _, _, _, _, base, du⟩ := E
  have i0 : ixD (.lst [e, .str w]) (.int 0) = some e := rfl
  have s2 : small 2 = true := rfl
  have s3 : small 3 = true := rfl
  refine ⟨.val (.int bs), .val due, e, ?_⟩
  generalize evL a b = L1 at *
  generalize nmL a b = L2 at *
  by_cases c1 : (k : Int) < 8
  · rw [if_pos c1] at base
    subst base
    have du : mulD (.lst [.bl true, .bl false, .bl false]) (.int 2) = some due := du
    simp only [b__law_right_1, seqS_eq, nxS, bkS, ctS, nxt_nxE, nxt_rt, nxt_bk, nxt_ct, ifS_eq, ifE_eq, brR_t, brR_f, brR_dec, anT_eq, orT_eq, anE_eq, orE_eq, tst_eq, isB_bl, ↓R.bind_bd, R.bd_ok, R.of_some, noT, blE, vr, cst, op1, op2, setS, setR, nxO, asgS, tupG, cnsG, nilG, nmG, subGO, subG, subS, getM, ixM, putO, cnsA, nilA, dTup, dLst, frz, retS, retM, setM, exS, mutS, appO, opC, callE, callM, callG_eq, cnsB, nilB, slB, kwB, ioM, toArgs, okA, slsA, nodN, argG_some, goG_ok, asE, asM, putA, newM, putM, parS, par3S, frzS, frzAt, bindO, endR_rt, endR_nx, endG, FL.collect, bodyG_eq, rho0, toS, wipeR, FL.pick, tru, truD, chn, lenM, slM, slF, noO, smO, catO, catM, litM, isiD, typD, isTy, R.bd_exc, cauE_eq, goG_exc, endR_exc,   List.getElem?_cons_zero, List.getElem?_cons_succ, List.getElem?_nil, List.set_cons_zero, List.set_cons_succ, List.set_nil, List.length_cons, List.length_nil, List.mapIdx_cons, List.mapIdx_nil, List.map_cons, List.map_nil, List.replicate_succ, List.replicate_zero, List.cons_append, List.nil_append, List.append_nil, List.foldl_cons, List.foldl_nil, List.filterMap_cons, List.filterMap_nil, Option.map_some, Option.map_none, Option.bind_some, Option.bind_none, Bool.not_true, Bool.not_false, Bool.and_true, Bool.true_and, Bool.or_true, Bool.and_self, if_true, if_false,   eqA_int, neA_int, eqA_str, neA_str, ltD_int, leD_int, gtD_int, geD_int, addD_int, subD_int, negD_int, absC_int, intC_int, maxC_int, minC_int, lenC_lst, lenC_tup, lenC_scr, Int.cast_ofNat_Int, Int.natCast_zero, Int.natCast_one,   ↓reduceIte, Nat.reduceAdd, Nat.reduceSub, Nat.reduceMul, Nat.reduceLT, Nat.reduceLeDiff, Nat.reduceBEq, Nat.reduceBneDiff, Nat.reduceEqDiff, Nat.reducePow, Int.reduceLT, Int.reduceLE, Int.reduceEq, Int.reduceNe, Int.reduceAdd, Int.reduceSub, Int.reduceMul, Int.reduceNeg, Int.reducePow, Int.reduceToNat, decide_true, decide_false, decide_eq_true_eq, Bool.false_eq_true, List.contains_nil, List.contains_cons, Bool.or_false, Bool.or_self, eq_self, and_self, and_true, true_and, dputU, sortU, newU, FL.setMs, c1, s3, du, forS_eq, seqI, seqD, forL_cons, FL.forL, aftF, ix, i0, nx, s2, one]
  · rw [if_neg c1] at base
    by_cases c2 : (k : Int) < 11
    · rw [if_pos c2] at base
      subst base
      have du : mulD (.lst [.bl false, .bl true, .bl false]) (.int 2) = some due := du
      simp only [b__law_right_1, seqS_eq, nxS, bkS, ctS, nxt_nxE, nxt_rt, nxt_bk, nxt_ct, ifS_eq, ifE_eq, brR_t, brR_f, brR_dec, anT_eq, orT_eq, anE_eq, orE_eq, tst_eq, isB_bl, ↓R.bind_bd, R.bd_ok, R.of_some, noT, blE, vr, cst, op1, op2, setS, setR, nxO, asgS, tupG, cnsG, nilG, nmG, subGO, subG, subS, getM, ixM, putO, cnsA, nilA, dTup, dLst, frz, retS, retM, setM, exS, mutS, appO, opC, callE, callM, callG_eq, cnsB, nilB, slB, kwB, ioM, toArgs, okA, slsA, nodN, argG_some, goG_ok, asE, asM, putA, newM, putM, parS, par3S, frzS, frzAt, bindO, endR_rt, endR_nx, endG, FL.collect, bodyG_eq, rho0, toS, wipeR, FL.pick, tru, truD, chn, lenM, slM, slF, noO, smO, catO, catM, litM, isiD, typD, isTy, R.bd_exc, cauE_eq, goG_exc, endR_exc,   List.getElem?_cons_zero, List.getElem?_cons_succ, List.getElem?_nil, List.set_cons_zero, List.set_cons_succ, List.set_nil, List.length_cons, List.length_nil, List.mapIdx_cons, List.mapIdx_nil, List.map_cons, List.map_nil, List.replicate_succ, List.replicate_zero, List.cons_append, List.nil_append, List.append_nil, List.foldl_cons, List.foldl_nil, List.filterMap_cons, List.filterMap_nil, Option.map_some, Option.map_none, Option.bind_some, Option.bind_none, Bool.not_true, Bool.not_false, Bool.and_true, Bool.true_and, Bool.or_true, Bool.and_self, if_true, if_false,   eqA_int, neA_int, eqA_str, neA_str, ltD_int, leD_int, gtD_int, geD_int, addD_int, subD_int, negD_int, absC_int, intC_int, maxC_int, minC_int, lenC_lst, lenC_tup, lenC_scr, Int.cast_ofNat_Int, Int.natCast_zero, Int.natCast_one,   ↓reduceIte, Nat.reduceAdd, Nat.reduceSub, Nat.reduceMul, Nat.reduceLT, Nat.reduceLeDiff, Nat.reduceBEq, Nat.reduceBneDiff, Nat.reduceEqDiff, Nat.reducePow, Int.reduceLT, Int.reduceLE, Int.reduceEq, Int.reduceNe, Int.reduceAdd, Int.reduceSub, Int.reduceMul, Int.reduceNeg, Int.reducePow, Int.reduceToNat, decide_true, decide_false, decide_eq_true_eq, Bool.false_eq_true, List.contains_nil, List.contains_cons, Bool.or_false, Bool.or_self, eq_self, and_self, and_true, true_and, dputU, sortU, newU, FL.setMs, c1, c2, s3, du, forS_eq, seqI, seqD, forL_cons, FL.forL, aftF, ix, i0, nx, s2, one]
    · rw [if_neg c2] at base
      subst base
      have du : mulD (.lst [.bl false, .bl false, .bl true]) (.int 2) = some due := du
      simp only [b__law_right_1, seqS_eq, nxS, bkS, ctS, nxt_nxE, nxt_rt, nxt_bk, nxt_ct, ifS_eq, ifE_eq, brR_t, brR_f, brR_dec, anT_eq, orT_eq, anE_eq, orE_eq, tst_eq, isB_bl, ↓R.bind_bd, R.bd_ok, R.of_some, noT, blE, vr, cst, op1, op2, setS, setR, nxO, asgS, tupG, cnsG, nilG, nmG, subGO, subG, subS, getM, ixM, putO, cnsA, nilA, dTup, dLst, frz, retS, retM, setM, exS, mutS, appO, opC, callE, callM, callG_eq, cnsB, nilB, slB, kwB, ioM, toArgs, okA, slsA, nodN, argG_some, goG_ok, asE, asM, putA, newM, putM, parS, par3S, frzS, frzAt, bindO, endR_rt, endR_nx, endG, FL.collect, bodyG_eq, rho0, toS, wipeR, FL.pick, tru, truD, chn, lenM, slM, slF, noO, smO, catO, catM, litM, isiD, typD, isTy, R.bd_exc, cauE_eq, goG_exc, endR_exc,   List.getElem?_cons_zero, List.getElem?_cons_succ, List.getElem?_nil, List.set_cons_zero, List.set_cons_succ, List.set_nil, List.length_cons, List.length_nil, List.mapIdx_cons, List.mapIdx_nil, List.map_cons, List.map_nil, List.replicate_succ, List.replicate_zero, List.cons_append, List.nil_append, List.append_nil, List.foldl_cons, List.foldl_nil, List.filterMap_cons, List.filterMap_nil, Option.map_some, Option.map_none, Option.bind_some, Option.bind_none, Bool.not_true, Bool.not_false, Bool.and_true, Bool.true_and, Bool.or_true, Bool.and_self, if_true, if_false,   eqA_int, neA_int, eqA_str, neA_str, ltD_int, leD_int, gtD_int, geD_int, addD_int, subD_int, negD_int, absC_int, intC_int, maxC_int, minC_int, lenC_lst, lenC_tup, lenC_scr, Int.cast_ofNat_Int, Int.natCast_zero, Int.natCast_one,   ↓reduceIte, Nat.reduceAdd, Nat.reduceSub, Nat.reduceMul, Nat.reduceLT, Nat.reduceLeDiff, Nat.reduceBEq, Nat.reduceBneDiff, Nat.reduceEqDiff, Nat.reducePow, Int.reduceLT, Int.reduceLE, Int.reduceEq, Int.reduceNe, Int.reduceAdd, Int.reduceSub, Int.reduceMul, Int.reduceNeg, Int.reducePow, Int.reduceToNat, decide_true, decide_false, decide_eq_true_eq, Bool.false_eq_true, List.contains_nil, List.contains_cons, Bool.or_false, Bool.or_self, eq_self, and_self, and_true, true_and, dputU, sortU, newU, FL.setMs, c1, c2, s3, du, forS_eq, seqI, seqD, forL_cons, FL.forL, aftF, ix, i0, nx, s2, one]
end

theorem toPQ_all {n : Nat} (ih : ∀ d : D, shp n d = true → toP d = toQ d ∧ shq n d = true) : ∀ xs : List D, xs.all (shp n) = true → toPs xs = toQs xs ∧ xs.all (shq n) = true
  | [], _ => ⟨by rw [toPs, toQs], rfl⟩
  | x :: xs, h => by
    rw [List.all_cons, Bool.and_eq_true] at h
    obtain ⟨a, b⟩ := ih x h.1
    obtain ⟨c, d⟩ := toPQ_all ih xs h.2
    exact ⟨by rw [toPs, toQs, a, c], by rw [List.all_cons, b, d]; rfl⟩
theorem toPQ : ∀ (n : Nat) (d : D), shp n d = true → toP d = toQ d ∧ shq n d = true
  | n, .non, _ => ⟨by rw [toP, toQ], by cases n <;> rfl⟩
  | n, .bl b, _ => ⟨by rw [toP, toQ], by cases n <;> rfl⟩
  | n, .int i, _ => ⟨by rw [toP, toQ], by cases n <;> rfl⟩
  | n, .str x, _ => ⟨by rw [toP, toQ], by cases n <;> rfl⟩
  | n + 1, .tup xs, h => by
    obtain ⟨a, b⟩ := toPQ_all (toPQ n) xs (by simpa [shp] using h)
    exact ⟨by rw [toP, toQ, a], by simpa [shq] using b⟩
  | n + 1, .lst xs, h => by
    obtain ⟨a, b⟩ := toPQ_all (toPQ n) xs (by simpa [shp] using h)
    exact ⟨by rw [toP, toQ, a], by simpa [shq] using b⟩
  | 0, .tup xs, h => by simp [shp] at h
  | 0, .lst xs, h => by simp [shp] at h
  | n, .scr _, h => by cases n <;> simp [shp] at h
  | n, .fn _, h => by cases n <;> simp [shp] at h
  | n, .dct _, h => by cases n <;> simp [shp] at h
  | n, .exc _ _, h => by cases n <;> simp [shp] at h
  | n, .clo _ _, h => by cases n <;> simp [shp] at h
  | n, .dcf _, h => by cases n <;> simp [shp] at h
  | n, .err _ _ _, h => by cases n <;> simp [shp] at h
theorem reprC_of {d : D} (h1 : shp 8 d = true) (h2 : litQ 8 d = true) (h3 : costQ 8 d ≤ 100000) : reprC [d] = some (.str (toP d).shown) := by
  obtain ⟨e, q⟩ := toPQ 8 d h1
  obtain ⟨a, b, c⟩ := cost_ok 8 d q h2
  refine if_pos ?_
  unfold showD
  rw [h1, e, a, show small (toQ d).shown.length = true from decide_eq_true (by omega)]
  rfl
/-! ### things that are drawn -/
theorem step_seq {f g : SF} {ρ ρ2 : Rho} {z : R Fl} (h : f ρ = .ok .nx ρ2) (k : g ρ2 = z) : seqS f g ρ = z := by
  rw [seqS_eq, h, R.ok_bind, nxt_nxE]
  exact k
def Shw (d : D) : Prop := (∃ X : Str, reprC [d] = some (.str X)) ∧ (∃ X : Str, reprC [.lst [d, d]] = some (.str X)) ∧ ∃ X : Str, reprC [.lst [d, d, d]] = some (.str X)
theorem shw_of {d : D} (h1 : shp 8 d = true) (h2 : litQ 8 d = true) (h3 : costQ 8 d ≤ 1000) (h4 : shp 7 d = true) (h5 : litQ 7 d = true) (h6 : costQ 7 d ≤ 1000) : Shw d := by
  refine ⟨⟨_, reprC_of h1 h2 (by omega)⟩, ⟨_, reprC_of (d := .lst [d, d]) ?_ ?_ ?_⟩, ⟨_, reprC_of (d := .lst [d, d, d]) ?_ ?_ ?_⟩⟩
  · show (shp 7 d && (shp 7 d && true)) = true
    rw [h4]; rfl
  · show (litQ 7 d && (litQ 7 d && true)) = true
    rw [h5]; rfl
  · show 3 + (costQ 7 d + 2 + (costQ 7 d + 2 + 0)) ≤ 100000
    omega
  · show (shp 7 d && (shp 7 d && (shp 7 d && true))) = true
    rw [h4]; rfl
  · show (litQ 7 d && (litQ 7 d && (litQ 7 d && true))) = true
    rw [h5]; rfl
  · show 3 + (costQ 7 d + 2 + (costQ 7 d + 2 + (costQ 7 d + 2 + 0))) ≤ 100000
    omega
theorem shw_non : Shw .non := shw_of rfl (by decide +kernel) (by decide) rfl (by decide +kernel) (by decide)
theorem shw_bl (b : Bool) : Shw (.bl b) := by cases b <;> exact shw_of rfl (by decide +kernel) (by decide) rfl (by decide +kernel) (by decide)
theorem shw_a : Shw (.str "a") := shw_of (by decide +kernel) (by decide +kernel) (by decide +kernel) (by decide +kernel) (by decide +kernel) (by decide +kernel)
theorem shw_tup : Shw (.tup [.int 1, .str "x"]) := shw_of (by decide +kernel) (by decide +kernel) (by decide +kernel) (by decide +kernel) (by decide +kernel) (by decide +kernel)
theorem shw_int {i : Int} (h : i.natAbs < 10 ^ 60) : Shw (.int i) := shw_of rfl (decide_eq_true h) (show 62 ≤ 1000 by decide) rfl (decide_eq_true h) (show 62 ≤ 1000 by decide)
theorem shw_nothing : ∃ X : Str, reprC [.str "nothing"] = some (.str X) := ⟨_, reprC_of (by decide +kernel) (by decide +kernel) (by decide +kernel)⟩
theorem right_ok {a b : D} (ha : Shw a) (hb : Shw b) : G__law_right [.val a, .val b] = .ok (.v (.bl true)) [] := by
  obtain ⟨⟨X, ra⟩, _, ⟨X3, ra3⟩⟩ := ha
  obtain ⟨_, ⟨X2, rb2⟩, _⟩ := hb
  obtain ⟨Y, rn⟩ := shw_nothing
  have ev := every_ok (a := a) (b := b)
  have nm := named_ok (a := a) (b := b)
  have ll : lenC [.lst (evL a b)] = some (.int 15) := rfl
  have g15 : rgOk 15 = true := rfl
  have i14 : ixD (.lst (evL a b)) (.int 14) = some (.lst [EB a b, .str "index"]) := rfl
  have n14 : ixD (.lst (nmL a b)) (.int 14) = some (EB a b) := rfl
  have z0 : ixD (.lst [EB a b, .str "index"]) (.int 0) = some (EB a b) := rfl
  have s1 : small 1 = true := rfl
  have s2 : small 2 = true := rfl
  have m2 : mulD (.lst [b]) (.int 2) = some (.lst [b, b]) := rfl
  have m3 : mulD (.lst [a]) (.int 3) = some (.lst [a, a, a]) := rfl
  have ca := caught_ok a
  obtain ⟨ρ1, f1, h1⟩ := forL_nx (ks := []) (g := nmG 4) (b := b__law_right_1) (fun _ ρ => ∃ s4 s5 s6 s7 : Slot, (s7 = .no ∨ ∃ d, s7 = .val d) ∧ ρ = [.val a, .val b, .val (.lst (evL a b)), .val (.lst (nmL a b)), s4, s5, s6, s7, .no]) (rangeL 0 15) [.val a, .val b, .val (.lst (evL a b)), .val (.lst (nmL a b)), .no, .no, .no, .no, .no] ⟨_, _, _, _, .inl rfl, rfl⟩ (by
    rintro i d ρ ⟨s4, s5, s6, s7, _, rfl⟩ hd
    obtain ⟨hi, rfl⟩ := rangeL_get _ _ _ _ hd
    rw [Int.zero_add]
    obtain ⟨s5', s6', d7, e⟩ := turn01 (b := b) hi ra rn s5 s6 s7 .no
    exact ⟨_, rfl, _, e, _, _, _, _, .inr ⟨d7, rfl⟩, rfl⟩)
  obtain ⟨s4, s5, s6, s7, h7, rfl⟩ := h1
  have r15 := rng1_ok (g := cnsA (opC lenC (cnsA (vr 2) nilA)) nilA) (ρ := [.val a, .val b, .val (.lst (evL a b)), .val (.lst (nmL a b)), .no, .no, .no, .no, .no]) (ρ' := [.val a, .val b, .val (.lst (evL a b)), .val (.lst (nmL a b)), .no, .no, .no, .no, .no]) (n := 15) (by
    generalize evL a b = L1 at *
    generalize nmL a b = L2 at *
    simp only [seqS_eq, nxS, bkS, ctS, nxt_nxE, nxt_rt, nxt_bk, nxt_ct, ifS_eq, ifE_eq, brR_t, brR_f, brR_dec, anT_eq, orT_eq, anE_eq, orE_eq, tst_eq, isB_bl, ↓R.bind_bd, R.bd_ok, R.of_some, noT, blE, vr, cst, op1, op2, setS, setR, nxO, asgS, tupG, cnsG, nilG, nmG, subGO, subG, subS, getM, ixM, putO, cnsA, nilA, dTup, dLst, frz, retS, retM, setM, exS, mutS, appO, opC, callE, callM, callG_eq, cnsB, nilB, slB, kwB, ioM, toArgs, okA, slsA, nodN, argG_some, goG_ok, asE, asM, putA, newM, putM, parS, par3S, frzS, frzAt, bindO, endR_rt, endR_nx, endG, FL.collect, bodyG_eq, rho0, toS, wipeR, FL.pick, tru, truD, chn, lenM, slM, slF, noO, smO, catO, catM, litM, isiD, typD, isTy, R.bd_exc, cauE_eq, goG_exc, endR_exc,   List.getElem?_cons_zero, List.getElem?_cons_succ, List.getElem?_nil, List.set_cons_zero, List.set_cons_succ, List.set_nil, List.length_cons, List.length_nil, List.mapIdx_cons, List.mapIdx_nil, List.map_cons, List.map_nil, List.replicate_succ, List.replicate_zero, List.cons_append, List.nil_append, List.append_nil, List.foldl_cons, List.foldl_nil, List.filterMap_cons, List.filterMap_nil, Option.map_some, Option.map_none, Option.bind_some, Option.bind_none, Bool.not_true, Bool.not_false, Bool.and_true, Bool.true_and, Bool.or_true, Bool.and_self, if_true, if_false,   eqA_int, neA_int, eqA_str, neA_str, ltD_int, leD_int, gtD_int, geD_int, addD_int, subD_int, negD_int, absC_int, intC_int, maxC_int, minC_int, lenC_lst, lenC_tup, lenC_scr, Int.cast_ofNat_Int, Int.natCast_zero, Int.natCast_one,   ↓reduceIte, Nat.reduceAdd, Nat.reduceSub, Nat.reduceMul, Nat.reduceLT, Nat.reduceLeDiff, Nat.reduceBEq, Nat.reduceBneDiff, Nat.reduceEqDiff, Nat.reducePow, Int.reduceLT, Int.reduceLE, Int.reduceEq, Int.reduceNe, Int.reduceAdd, Int.reduceSub, Int.reduceMul, Int.reduceNeg, Int.reducePow, Int.reduceToNat, decide_true, decide_false, decide_eq_true_eq, Bool.false_eq_true, List.contains_nil, List.contains_cons, Bool.or_false, Bool.or_self, eq_self, and_self, and_true, true_and, dputU, sortU, newU, FL.setMs, ll]) g15
  have q1 : forS [] (rng1 (cnsA (opC lenC (cnsA (vr 2) nilA)) nilA)) (nmG 4) b__law_right_1 [.val a, .val b, .val (.lst (evL a b)), .val (.lst (nmL a b)), .no, .no, .no, .no, .no] = .ok .nx [.val a, .val b, .val (.lst (evL a b)), .val (.lst (nmL a b)), s4, s5, s6, s7, .no] := by
    rw [forS_eq, r15]
    exact f1
  have ef : ∀ (L1 L2 : D) (t4 t5 t6 t8 : Slot), efldV ctab "shown" (vr 7) [.val a, .val b, .val L1, .val L2, t4, t5, t6, .val (EB a b), t8] = .ok b [.val a, .val b, .val L1, .val L2, t4, t5, t6, .val (EB a b), t8] := fun L1 L2 t4 t5 t6 t8 => efldV_ok (n := "Broken") (p := (["Broken", "NotPossible", "ArithmeticError"], ["index", "shown"])) rfl rfl rfl rfl
  have cm : cmpM [7] (seqI (vr 8)) (nmG 7) yesT (efldV ctab "shown" (vr 7)) [.val a, .val b, .val (.lst (evL a b)), .val (.lst (nmL a b)), s4, s5, s6, s7, .val (.lst [EB a b, EB a b])] = .ok (.lst [b, b]) [.val a, .val b, .val (.lst (evL a b)), .val (.lst (nmL a b)), s4, s5, s6, s7, .val (.lst [EB a b, EB a b])] := by
    generalize EB a b = eb at *
    generalize D.lst (evL a b) = L1 at *
    generalize D.lst (nmL a b) = L2 at *
    rcases h7 with rfl | ⟨d, rfl⟩
    · simp only [cmpM, cmpL, seqI, seqD, noX, yesT, resR, seqS_eq, nxS, bkS, ctS, nxt_nxE, nxt_rt, nxt_bk, nxt_ct, ifS_eq, ifE_eq, brR_t, brR_f, brR_dec, anT_eq, orT_eq, anE_eq, orE_eq, tst_eq, isB_bl, ↓R.bind_bd, R.bd_ok, R.of_some, noT, blE, vr, cst, op1, op2, setS, setR, nxO, asgS, tupG, cnsG, nilG, nmG, subGO, subG, subS, getM, ixM, putO, cnsA, nilA, dTup, dLst, frz, retS, retM, setM, exS, mutS, appO, opC, callE, callM, callG_eq, cnsB, nilB, slB, kwB, ioM, toArgs, okA, slsA, nodN, argG_some, goG_ok, asE, asM, putA, newM, putM, parS, par3S, frzS, frzAt, bindO, endR_rt, endR_nx, endG, FL.collect, bodyG_eq, rho0, toS, wipeR, FL.pick, tru, truD, chn, lenM, slM, slF, noO, smO, catO, catM, litM, isiD, typD, isTy, R.bd_exc, cauE_eq, goG_exc, endR_exc,   List.getElem?_cons_zero, List.getElem?_cons_succ, List.getElem?_nil, List.set_cons_zero, List.set_cons_succ, List.set_nil, List.length_cons, List.length_nil, List.mapIdx_cons, List.mapIdx_nil, List.map_cons, List.map_nil, List.replicate_succ, List.replicate_zero, List.cons_append, List.nil_append, List.append_nil, List.foldl_cons, List.foldl_nil, List.filterMap_cons, List.filterMap_nil, Option.map_some, Option.map_none, Option.bind_some, Option.bind_none, Bool.not_true, Bool.not_false, Bool.and_true, Bool.true_and, Bool.or_true, Bool.and_self, if_true, if_false,   eqA_int, neA_int, eqA_str, neA_str, ltD_int, leD_int, gtD_int, geD_int, addD_int, subD_int, negD_int, absC_int, intC_int, maxC_int, minC_int, lenC_lst, lenC_tup, lenC_scr, Int.cast_ofNat_Int, Int.natCast_zero, Int.natCast_one,   ↓reduceIte, Nat.reduceAdd, Nat.reduceSub, Nat.reduceMul, Nat.reduceLT, Nat.reduceLeDiff, Nat.reduceBEq, Nat.reduceBneDiff, Nat.reduceEqDiff, Nat.reducePow, Int.reduceLT, Int.reduceLE, Int.reduceEq, Int.reduceNe, Int.reduceAdd, Int.reduceSub, Int.reduceMul, Int.reduceNeg, Int.reducePow, Int.reduceToNat, decide_true, decide_false, decide_eq_true_eq, Bool.false_eq_true, List.contains_nil, List.contains_cons, Bool.or_false, Bool.or_self, eq_self, and_self, and_true, true_and, dputU, sortU, newU, FL.setMs, ef, s1, s2]
    · simp only [cmpM, cmpL, seqI, seqD, noX, yesT, resR, seqS_eq, nxS, bkS, ctS, nxt_nxE, nxt_rt, nxt_bk, nxt_ct, ifS_eq, ifE_eq, brR_t, brR_f, brR_dec, anT_eq, orT_eq, anE_eq, orE_eq, tst_eq, isB_bl, ↓R.bind_bd, R.bd_ok, R.of_some, noT, blE, vr, cst, op1, op2, setS, setR, nxO, asgS, tupG, cnsG, nilG, nmG, subGO, subG, subS, getM, ixM, putO, cnsA, nilA, dTup, dLst, frz, retS, retM, setM, exS, mutS, appO, opC, callE, callM, callG_eq, cnsB, nilB, slB, kwB, ioM, toArgs, okA, slsA, nodN, argG_some, goG_ok, asE, asM, putA, newM, putM, parS, par3S, frzS, frzAt, bindO, endR_rt, endR_nx, endG, FL.collect, bodyG_eq, rho0, toS, wipeR, FL.pick, tru, truD, chn, lenM, slM, slF, noO, smO, catO, catM, litM, isiD, typD, isTy, R.bd_exc, cauE_eq, goG_exc, endR_exc,   List.getElem?_cons_zero, List.getElem?_cons_succ, List.getElem?_nil, List.set_cons_zero, List.set_cons_succ, List.set_nil, List.length_cons, List.length_nil, List.mapIdx_cons, List.mapIdx_nil, List.map_cons, List.map_nil, List.replicate_succ, List.replicate_zero, List.cons_append, List.nil_append, List.append_nil, List.foldl_cons, List.foldl_nil, List.filterMap_cons, List.filterMap_nil, Option.map_some, Option.map_none, Option.bind_some, Option.bind_none, Bool.not_true, Bool.not_false, Bool.and_true, Bool.true_and, Bool.or_true, Bool.and_self, if_true, if_false,   eqA_int, neA_int, eqA_str, neA_str, ltD_int, leD_int, gtD_int, geD_int, addD_int, subD_int, negD_int, absC_int, intC_int, maxC_int, minC_int, lenC_lst, lenC_tup, lenC_scr, Int.cast_ofNat_Int, Int.natCast_zero, Int.natCast_one,   ↓reduceIte, Nat.reduceAdd, Nat.reduceSub, Nat.reduceMul, Nat.reduceLT, Nat.reduceLeDiff, Nat.reduceBEq, Nat.reduceBneDiff, Nat.reduceEqDiff, Nat.reducePow, Int.reduceLT, Int.reduceLE, Int.reduceEq, Int.reduceNe, Int.reduceAdd, Int.reduceSub, Int.reduceMul, Int.reduceNeg, Int.reducePow, Int.reduceToNat, decide_true, decide_false, decide_eq_true_eq, Bool.false_eq_true, List.contains_nil, List.contains_cons, Bool.or_false, Bool.or_self, eq_self, and_self, and_true, true_and, dputU, sortU, newU, FL.setMs, ef, s1, s2]
  show bodyG 9 g__law_right [.val a, .val b] = _
  rw [bodyG_eq]
  show endR _ (g__law_right [.val a, .val b, .no, .no, .no, .no, .no, .no, .no]) = _
  have p0 : parS 2 3 (cnsA (callE 2 G__law_every (cnsB (vr 0) (cnsB (vr 1) nilB))) (cnsA (callE 2 G__law_named (cnsB (vr 0) (cnsB (vr 1) nilB))) nilA)) [.val a, .val b, .no, .no, .no, .no, .no, .no, .no] = .ok .nx [.val a, .val b, .val (.lst (evL a b)), .val (.lst (nmL a b)), .no, .no, .no, .no, .no] := by
    generalize evL a b = L1 at *
    generalize nmL a b = L2 at *
    simp only [seqS_eq, nxS, bkS, ctS, nxt_nxE, nxt_rt, nxt_bk, nxt_ct, ifS_eq, ifE_eq, brR_t, brR_f, brR_dec, anT_eq, orT_eq, anE_eq, orE_eq, tst_eq, isB_bl, ↓R.bind_bd, R.bd_ok, R.of_some, noT, blE, vr, cst, op1, op2, setS, setR, nxO, asgS, tupG, cnsG, nilG, nmG, subGO, subG, subS, getM, ixM, putO, cnsA, nilA, dTup, dLst, frz, retS, retM, setM, exS, mutS, appO, opC, callE, callM, callG_eq, cnsB, nilB, slB, kwB, ioM, toArgs, okA, slsA, nodN, argG_some, goG_ok, asE, asM, putA, newM, putM, parS, par3S, frzS, frzAt, bindO, endR_rt, endR_nx, endG, FL.collect, bodyG_eq, rho0, toS, wipeR, FL.pick, tru, truD, chn, lenM, slM, slF, noO, smO, catO, catM, litM, isiD, typD, isTy, R.bd_exc, cauE_eq, goG_exc, endR_exc,   List.getElem?_cons_zero, List.getElem?_cons_succ, List.getElem?_nil, List.set_cons_zero, List.set_cons_succ, List.set_nil, List.length_cons, List.length_nil, List.mapIdx_cons, List.mapIdx_nil, List.map_cons, List.map_nil, List.replicate_succ, List.replicate_zero, List.cons_append, List.nil_append, List.append_nil, List.foldl_cons, List.foldl_nil, List.filterMap_cons, List.filterMap_nil, Option.map_some, Option.map_none, Option.bind_some, Option.bind_none, Bool.not_true, Bool.not_false, Bool.and_true, Bool.true_and, Bool.or_true, Bool.and_self, if_true, if_false,   eqA_int, neA_int, eqA_str, neA_str, ltD_int, leD_int, gtD_int, geD_int, addD_int, subD_int, negD_int, absC_int, intC_int, maxC_int, minC_int, lenC_lst, lenC_tup, lenC_scr, Int.cast_ofNat_Int, Int.natCast_zero, Int.natCast_one,   ↓reduceIte, Nat.reduceAdd, Nat.reduceSub, Nat.reduceMul, Nat.reduceLT, Nat.reduceLeDiff, Nat.reduceBEq, Nat.reduceBneDiff, Nat.reduceEqDiff, Nat.reducePow, Int.reduceLT, Int.reduceLE, Int.reduceEq, Int.reduceNe, Int.reduceAdd, Int.reduceSub, Int.reduceMul, Int.reduceNeg, Int.reducePow, Int.reduceToNat, decide_true, decide_false, decide_eq_true_eq, Bool.false_eq_true, List.contains_nil, List.contains_cons, Bool.or_false, Bool.or_self, eq_self, and_self, and_true, true_and, dputU, sortU, newU, FL.setMs, ev, nm]
  have p2 : g__law_right_2 [.val a, .val b, .val (.lst (evL a b)), .val (.lst (nmL a b)), s4, s5, s6, s7, .no] = .ok (.rt (.v (.bl true))) [.val a, .val b, .val (.lst (evL a b)), .val (.lst (nmL a b)), s4, s5, s6, s7, .val (.lst [EB a b, EB a b])] := by
    generalize cmpM [7] (seqI (vr 8)) (nmG 7) yesT (efldV ctab "shown" (vr 7)) = CM at cm
    generalize EB a b = eb at *
    generalize D.lst (evL a b) = L1 at *
    generalize D.lst (nmL a b) = L2 at *
    have cm : cmpM [7] (seqI (vr 8)) (nmG 7) yesT (efldV ctab "shown" (vr 7)) [.val a, .val b, .val L1, .val L2, s4, s5, s6, s7, .val (.lst [eb, eb])] = .ok (.lst [b, b]) [.val a, .val b, .val L1, .val L2, s4, s5, s6, s7, .val (.lst [eb, eb])] := by
      rcases h7 with rfl | ⟨d, rfl⟩
      · simp only [cmpM, cmpL, seqI, seqD, noX, yesT, resR, seqS_eq, nxS, bkS, ctS, nxt_nxE, nxt_rt, nxt_bk, nxt_ct, ifS_eq, ifE_eq, brR_t, brR_f, brR_dec, anT_eq, orT_eq, anE_eq, orE_eq, tst_eq, isB_bl, ↓R.bind_bd, R.bd_ok, R.of_some, noT, blE, vr, cst, op1, op2, setS, setR, nxO, asgS, tupG, cnsG, nilG, nmG, subGO, subG, subS, getM, ixM, putO, cnsA, nilA, dTup, dLst, frz, retS, retM, setM, exS, mutS, appO, opC, callE, callM, callG_eq, cnsB, nilB, slB, kwB, ioM, toArgs, okA, slsA, nodN, argG_some, goG_ok, asE, asM, putA, newM, putM, parS, par3S, frzS, frzAt, bindO, endR_rt, endR_nx, endG, FL.collect, bodyG_eq, rho0, toS, wipeR, FL.pick, tru, truD, chn, lenM, slM, slF, noO, smO, catO, catM, litM, isiD, typD, isTy, R.bd_exc, cauE_eq, goG_exc, endR_exc,   List.getElem?_cons_zero, List.getElem?_cons_succ, List.getElem?_nil, List.set_cons_zero, List.set_cons_succ, List.set_nil, List.length_cons, List.length_nil, List.mapIdx_cons, List.mapIdx_nil, List.map_cons, List.map_nil, List.replicate_succ, List.replicate_zero, List.cons_append, List.nil_append, List.append_nil, List.foldl_cons, List.foldl_nil, List.filterMap_cons, List.filterMap_nil, Option.map_some, Option.map_none, Option.bind_some, Option.bind_none, Bool.not_true, Bool.not_false, Bool.and_true, Bool.true_and, Bool.or_true, Bool.and_self, if_true, if_false,   eqA_int, neA_int, eqA_str, neA_str, ltD_int, leD_int, gtD_int, geD_int, addD_int, subD_int, negD_int, absC_int, intC_int, maxC_int, minC_int, lenC_lst, lenC_tup, lenC_scr, Int.cast_ofNat_Int, Int.natCast_zero, Int.natCast_one,   ↓reduceIte, Nat.reduceAdd, Nat.reduceSub, Nat.reduceMul, Nat.reduceLT, Nat.reduceLeDiff, Nat.reduceBEq, Nat.reduceBneDiff, Nat.reduceEqDiff, Nat.reducePow, Int.reduceLT, Int.reduceLE, Int.reduceEq, Int.reduceNe, Int.reduceAdd, Int.reduceSub, Int.reduceMul, Int.reduceNeg, Int.reducePow, Int.reduceToNat, decide_true, decide_false, decide_eq_true_eq, Bool.false_eq_true, List.contains_nil, List.contains_cons, Bool.or_false, Bool.or_self, eq_self, and_self, and_true, true_and, dputU, sortU, newU, FL.setMs, ef, s1, s2]
      · simp only [cmpM, cmpL, seqI, seqD, noX, yesT, resR, seqS_eq, nxS, bkS, ctS, nxt_nxE, nxt_rt, nxt_bk, nxt_ct, ifS_eq, ifE_eq, brR_t, brR_f, brR_dec, anT_eq, orT_eq, anE_eq, orE_eq, tst_eq, isB_bl, ↓R.bind_bd, R.bd_ok, R.of_some, noT, blE, vr, cst, op1, op2, setS, setR, nxO, asgS, tupG, cnsG, nilG, nmG, subGO, subG, subS, getM, ixM, putO, cnsA, nilA, dTup, dLst, frz, retS, retM, setM, exS, mutS, appO, opC, callE, callM, callG_eq, cnsB, nilB, slB, kwB, ioM, toArgs, okA, slsA, nodN, argG_some, goG_ok, asE, asM, putA, newM, putM, parS, par3S, frzS, frzAt, bindO, endR_rt, endR_nx, endG, FL.collect, bodyG_eq, rho0, toS, wipeR, FL.pick, tru, truD, chn, lenM, slM, slF, noO, smO, catO, catM, litM, isiD, typD, isTy, R.bd_exc, cauE_eq, goG_exc, endR_exc,   List.getElem?_cons_zero, List.getElem?_cons_succ, List.getElem?_nil, List.set_cons_zero, List.set_cons_succ, List.set_nil, List.length_cons, List.length_nil, List.mapIdx_cons, List.mapIdx_nil, List.map_cons, List.map_nil, List.replicate_succ, List.replicate_zero, List.cons_append, List.nil_append, List.append_nil, List.foldl_cons, List.foldl_nil, List.filterMap_cons, List.filterMap_nil, Option.map_some, Option.map_none, Option.bind_some, Option.bind_none, Bool.not_true, Bool.not_false, Bool.and_true, Bool.true_and, Bool.or_true, Bool.and_self, if_true, if_false,   eqA_int, neA_int, eqA_str, neA_str, ltD_int, leD_int, gtD_int, geD_int, addD_int, subD_int, negD_int, absC_int, intC_int, maxC_int, minC_int, lenC_lst, lenC_tup, lenC_scr, Int.cast_ofNat_Int, Int.natCast_zero, Int.natCast_one,   ↓reduceIte, Nat.reduceAdd, Nat.reduceSub, Nat.reduceMul, Nat.reduceLT, Nat.reduceLeDiff, Nat.reduceBEq, Nat.reduceBneDiff, Nat.reduceEqDiff, Nat.reducePow, Int.reduceLT, Int.reduceLE, Int.reduceEq, Int.reduceNe, Int.reduceAdd, Int.reduceSub, Int.reduceMul, Int.reduceNeg, Int.reducePow, Int.reduceToNat, decide_true, decide_false, decide_eq_true_eq, Bool.false_eq_true, List.contains_nil, List.contains_cons, Bool.or_false, Bool.or_self, eq_self, and_self, and_true, true_and, dputU, sortU, newU, FL.setMs, ef, s1, s2]
    simp only [g__law_right_2, g__law_right_3, g__law_right_3, seqS_eq, nxS, bkS, ctS, nxt_nxE, nxt_rt, nxt_bk, nxt_ct, ifS_eq, ifE_eq, brR_t, brR_f, brR_dec, anT_eq, orT_eq, anE_eq, orE_eq, tst_eq, isB_bl, ↓R.bind_bd, R.bd_ok, R.of_some, noT, blE, vr, cst, op1, op2, setS, setR, nxO, asgS, tupG, cnsG, nilG, nmG, subGO, subG, subS, getM, ixM, putO, cnsA, nilA, dTup, dLst, frz, retS, retM, setM, exS, mutS, appO, opC, callE, callM, callG_eq, cnsB, nilB, slB, kwB, ioM, toArgs, okA, slsA, nodN, argG_some, goG_ok, asE, asM, putA, newM, putM, parS, par3S, frzS, frzAt, bindO, endR_rt, endR_nx, endG, FL.collect, bodyG_eq, rho0, toS, wipeR, FL.pick, tru, truD, chn, lenM, slM, slF, noO, smO, catO, catM, litM, isiD, typD, isTy, R.bd_exc, cauE_eq, goG_exc, endR_exc,   List.getElem?_cons_zero, List.getElem?_cons_succ, List.getElem?_nil, List.set_cons_zero, List.set_cons_succ, List.set_nil, List.length_cons, List.length_nil, List.mapIdx_cons, List.mapIdx_nil, List.map_cons, List.map_nil, List.replicate_succ, List.replicate_zero, List.cons_append, List.nil_append, List.append_nil, List.foldl_cons, List.foldl_nil, List.filterMap_cons, List.filterMap_nil, Option.map_some, Option.map_none, Option.bind_some, Option.bind_none, Bool.not_true, Bool.not_false, Bool.and_true, Bool.true_and, Bool.or_true, Bool.and_self, if_true, if_false,   eqA_int, neA_int, eqA_str, neA_str, ltD_int, leD_int, gtD_int, geD_int, addD_int, subD_int, negD_int, absC_int, intC_int, maxC_int, minC_int, lenC_lst, lenC_tup, lenC_scr, Int.cast_ofNat_Int, Int.natCast_zero, Int.natCast_one,   ↓reduceIte, Nat.reduceAdd, Nat.reduceSub, Nat.reduceMul, Nat.reduceLT, Nat.reduceLeDiff, Nat.reduceBEq, Nat.reduceBneDiff, Nat.reduceEqDiff, Nat.reducePow, Int.reduceLT, Int.reduceLE, Int.reduceEq, Int.reduceNe, Int.reduceAdd, Int.reduceSub, Int.reduceMul, Int.reduceNeg, Int.reducePow, Int.reduceToNat, decide_true, decide_false, decide_eq_true_eq, Bool.false_eq_true, List.contains_nil, List.contains_cons, Bool.or_false, Bool.or_self, eq_self, and_self, and_true, true_and, dputU, sortU, newU, FL.setMs, i14, n14, z0, s1, s2, ↓cm, rb2, ra3, m2, m3, ca]
  have e := step_seq p0 (step_seq q1 p2)
  show endR _ (g__law_right [.val a, .val b, .no, .no, .no, .no, .no, .no, .no]) = _
  rw [show g__law_right [.val a, .val b, .no, .no, .no, .no, .no, .no, .no] = _ from e]
  rfl

theorem all_true : ∀ ys : List D, (∀ y ∈ ys, y = D.bl true) → allC [.lst ys] = some (.bl true) := by
  have key : ∀ ys : List D, (∀ y ∈ ys, y = D.bl true) → ∃ bs, bools ys = some bs ∧ bs.all id = true := by
    intro ys
    induction ys with
    | nil => exact fun _ => ⟨[], rfl, rfl⟩
    | cons y ys ih =>
      intro h
      obtain ⟨bs, e, hb⟩ := ih fun z hz => h z (List.mem_cons_of_mem _ hz)
      have hy := h y List.mem_cons_self
      subst hy
      refine ⟨true :: bs, ?_, by simpa using hb⟩
      show (bools ys).map (true :: ·) = _
      rw [e]
      rfl
  intro ys h
  obtain ⟨bs, e, hb⟩ := key ys h
  show (bools ys).map (fun bs => D.bl (bs.all id)) = _
  rw [e]
  show some (D.bl (bs.all id)) = _
  rw [hb]

/-! ### the law -/
theorem atI_nat01 {ds : List D} {k : Nat} (h : k < ds.length) : ∃ d, ixD (.lst ds) (.int (k : Int)) = some d ∧ d ∈ ds := by
  refine ⟨ds[k], ?_, List.getElem_mem h⟩
  show L2.atI ds (k : Int) = _
  rw [atI_nat (Int.natCast_nonneg k) (a := ds[k])]
  rw [Int.toNat_natCast, List.getElem?_eq_getElem h]
theorem atI_last01 {ds : List D} (h : 0 < ds.length) : ∃ d, ixD (.lst ds) (.int (-1)) = some d ∧ d ∈ ds := by
  refine ⟨ds[ds.length - 1]'(by omega), ?_, List.getElem_mem _⟩
  show L2.atI ds (-1) = _
  unfold L2.atI
  have : ixN ds.length (-1) = some (ds.length - 1) := by
    unfold ixN
    rw [if_neg (by decide), if_pos (by omega)]
    congr 1
    omega
  rw [this]
  show ds[ds.length - 1]? = _
  rw [List.getElem?_eq_getElem (by omega)]
def remF : D → D
  | .int i => .int (i % 1000000000000)
  | d => d
theorem law_true (ns : List Int) (hl : ns.length ≤ 63) : G_law [.val (.scr ns)] = .ok (.v (.bl true)) [] := by
  have s5 : small 5 = true := rfl
  have s6 : small 6 = true := rfl
  have s2 : small 2 = true := rfl
  have p9 : powD (.int 10) (.int 9) = some (.int 1000000000) := rfl
  have p6 : powD (.int 10) (.int 6) = some (.int 1000000) := rfl
  have p12 : powD (.int 10) (.int 12) = some (.int 1000000000000) := rfl
  have lim : neA (.lst [.int 200, .int 1000000000, .int 1000000, .int 500, .int 8, .int 20]) (.lst [.int 200, .int 1000000000, .int 1000000, .int 500, .int 8, .int 20]) = some (.bl false) := rfl
  have hm : ∀ x : Int, modD (.int x) (.int 1000000000000) = some (.int (x % 1000000000000)) := fun x => modD_pos (by decide)
  have l3 : (FL.cut ns none (some 3)).length ≤ 63 := by
    unfold FL.cut
    rw [List.length_take, List.length_drop]
    omega
  have cm := cmpM_p (ks := [2]) (it := seqI (slF (vr 0) noO (smO (cst (.int 3))))) (g := nmG 2) (t := yesT) (f := op2 modD (opC intC (cnsA (vr 2) nilA)) (op2 powD (cst (.int 10)) (cst (.int 12)))) (ρ := [.val (.scr ns), .no, .no, .no]) (ds := (FL.cut ns none (some 3)).map D.int) (fun _ => true) remF rfl rfl rfl (by rw [List.length_map]; omega) fun d hd => by
    obtain ⟨i, _, rfl⟩ := List.mem_map.mp hd
    refine ⟨[.val (.scr ns), .no, .val (.int i), .no], rfl, rfl, rfl, fun _ => ?_⟩
    show _ = R.ok (D.int (i % 1000000000000)) _
    simp only [seqS_eq, nxS, bkS, ctS, nxt_nxE, nxt_rt, nxt_bk, nxt_ct, ifS_eq, ifE_eq, brR_t, brR_f, brR_dec, anT_eq, orT_eq, anE_eq, orE_eq, tst_eq, isB_bl, ↓R.bind_bd, R.bd_ok, R.of_some, noT, blE, vr, cst, op1, op2, setS, setR, nxO, asgS, tupG, cnsG, nilG, nmG, subGO, subG, subS, getM, ixM, putO, cnsA, nilA, dTup, dLst, frz, retS, retM, setM, exS, mutS, appO, opC, callE, callM, callG_eq, cnsB, nilB, slB, kwB, ioM, toArgs, okA, slsA, nodN, argG_some, goG_ok, asE, asM, putA, newM, putM, parS, par3S, frzS, frzAt, bindO, endR_rt, endR_nx, endG, FL.collect, bodyG_eq, rho0, toS, wipeR, FL.pick, tru, truD, chn, lenM, slM, slF, noO, smO, catO, catM, litM, isiD, typD, isTy, R.bd_exc, cauE_eq, goG_exc, endR_exc,   List.getElem?_cons_zero, List.getElem?_cons_succ, List.getElem?_nil, List.set_cons_zero, List.set_cons_succ, List.set_nil, List.length_cons, List.length_nil, List.mapIdx_cons, List.mapIdx_nil, List.map_cons, List.map_nil, List.replicate_succ, List.replicate_zero, List.cons_append, List.nil_append, List.append_nil, List.foldl_cons, List.foldl_nil, List.filterMap_cons, List.filterMap_nil, Option.map_some, Option.map_none, Option.bind_some, Option.bind_none, Bool.not_true, Bool.not_false, Bool.and_true, Bool.true_and, Bool.or_true, Bool.and_self, if_true, if_false,   eqA_int, neA_int, eqA_str, neA_str, ltD_int, leD_int, gtD_int, geD_int, addD_int, subD_int, negD_int, absC_int, intC_int, maxC_int, minC_int, lenC_lst, lenC_tup, lenC_scr, Int.cast_ofNat_Int, Int.natCast_zero, Int.natCast_one,   ↓reduceIte, Nat.reduceAdd, Nat.reduceSub, Nat.reduceMul, Nat.reduceLT, Nat.reduceLeDiff, Nat.reduceBEq, Nat.reduceBneDiff, Nat.reduceEqDiff, Nat.reducePow, Int.reduceLT, Int.reduceLE, Int.reduceEq, Int.reduceNe, Int.reduceAdd, Int.reduceSub, Int.reduceMul, Int.reduceNeg, Int.reducePow, Int.reduceToNat, decide_true, decide_false, decide_eq_true_eq, Bool.false_eq_true, List.contains_nil, List.contains_cons, Bool.or_false, Bool.or_self, eq_self, and_self, and_true, true_and, dputU, sortU, newU, FL.setMs, p12, hm]
  obtain ⟨es, hes⟩ : ∃ es, es = (((FL.cut ns none (some 3)).map D.int).filter fun _ => true).map remF := ⟨_, rfl⟩
  rw [← hes] at cm
  have le : es.length ≤ 63 := by
    rw [hes, List.length_map]
    exact Nat.le_trans (List.length_filter_le _ _) (by rw [List.length_map]; exact l3)
  have he : ∀ d ∈ es, Shw d := fun d hd => by
    rw [hes] at hd
    obtain ⟨d0, h0, rfl⟩ := List.mem_map.mp hd
    obtain ⟨i, _, rfl⟩ := List.mem_map.mp (List.mem_filter.mp h0).1
    refine shw_int ?_
    have b0 := Int.emod_nonneg i (show (1000000000000 : Int) ≠ 0 by decide)
    have b1 := Int.emod_lt_of_pos i (show (0 : Int) < 1000000000000 by decide)
    have : (1000000000000 : Nat) < 10 ^ 60 := by decide +kernel
    omega
  clear hes
  obtain ⟨T, hT⟩ : ∃ T, T = [D.non, .str "a", .tup [.int 1, .str "x"], .bl true, .int (-3)] ++ es := ⟨_, rfl⟩
  have ad : addD (.lst [D.non, .str "a", .tup [.int 1, .str "x"], .bl true, .int (-3)]) (.lst es) = some (.lst T) := by
    rw [hT]
    exact if_pos (decide_eq_true (by simp only [List.length_cons, List.length_nil]; omega))
  have tl : T.length = 5 + es.length := by
    rw [hT, List.length_append]
    rfl
  have hs : ∀ d ∈ T, Shw d := fun d hd => by
    rw [hT] at hd
    rcases List.mem_append.mp hd with hd | hd
    · simp only [List.mem_cons, List.not_mem_nil, or_false] at hd
      rcases hd with rfl | rfl | rfl | rfl | rfl
      · exact shw_non
      · exact shw_a
      · exact shw_tup
      · exact shw_bl true
      · exact shw_int (by decide +kernel)
    · exact he d hd
  clear hT
  have ll : lenC [.lst T] = some (.int (T.length : Int)) := rfl
  have rg : rng1 (cnsA (opC lenC (cnsA (vr 1) nilA)) nilA) [.val (.scr ns), .val (.lst T), .no, .no] = .ok (rangeL 0 T.length) [.val (.scr ns), .val (.lst T), .no, .no] := by
    have z := rng1_ok (g := cnsA (opC lenC (cnsA (vr 1) nilA)) nilA) (ρ := [.val (.scr ns), .val (.lst T), .no, .no]) (ρ' := [.val (.scr ns), .val (.lst T), .no, .no]) (n := (T.length : Int)) (by simp only [seqS_eq, nxS, bkS, ctS, nxt_nxE, nxt_rt, nxt_bk, nxt_ct, ifS_eq, ifE_eq, brR_t, brR_f, brR_dec, anT_eq, orT_eq, anE_eq, orE_eq, tst_eq, isB_bl, ↓R.bind_bd, R.bd_ok, R.of_some, noT, blE, vr, cst, op1, op2, setS, setR, nxO, asgS, tupG, cnsG, nilG, nmG, subGO, subG, subS, getM, ixM, putO, cnsA, nilA, dTup, dLst, frz, retS, retM, setM, exS, mutS, appO, opC, callE, callM, callG_eq, cnsB, nilB, slB, kwB, ioM, toArgs, okA, slsA, nodN, argG_some, goG_ok, asE, asM, putA, newM, putM, parS, par3S, frzS, frzAt, bindO, endR_rt, endR_nx, endG, FL.collect, bodyG_eq, rho0, toS, wipeR, FL.pick, tru, truD, chn, lenM, slM, slF, noO, smO, catO, catM, litM, isiD, typD, isTy, R.bd_exc, cauE_eq, goG_exc, endR_exc,   List.getElem?_cons_zero, List.getElem?_cons_succ, List.getElem?_nil, List.set_cons_zero, List.set_cons_succ, List.set_nil, List.length_cons, List.length_nil, List.mapIdx_cons, List.mapIdx_nil, List.map_cons, List.map_nil, List.replicate_succ, List.replicate_zero, List.cons_append, List.nil_append, List.append_nil, List.foldl_cons, List.foldl_nil, List.filterMap_cons, List.filterMap_nil, Option.map_some, Option.map_none, Option.bind_some, Option.bind_none, Bool.not_true, Bool.not_false, Bool.and_true, Bool.true_and, Bool.or_true, Bool.and_self, if_true, if_false,   eqA_int, neA_int, eqA_str, neA_str, ltD_int, leD_int, gtD_int, geD_int, addD_int, subD_int, negD_int, absC_int, intC_int, maxC_int, minC_int, lenC_lst, lenC_tup, lenC_scr, Int.cast_ofNat_Int, Int.natCast_zero, Int.natCast_one,   ↓reduceIte, Nat.reduceAdd, Nat.reduceSub, Nat.reduceMul, Nat.reduceLT, Nat.reduceLeDiff, Nat.reduceBEq, Nat.reduceBneDiff, Nat.reduceEqDiff, Nat.reducePow, Int.reduceLT, Int.reduceLE, Int.reduceEq, Int.reduceNe, Int.reduceAdd, Int.reduceSub, Int.reduceMul, Int.reduceNeg, Int.reducePow, Int.reduceToNat, decide_true, decide_false, decide_eq_true_eq, Bool.false_eq_true, List.contains_nil, List.contains_cons, Bool.or_false, Bool.or_self, eq_self, and_self, and_true, true_and, dputU, sortU, newU, FL.setMs, ll]) (rgOk_of (by omega) (by omega))
    rw [Int.toNat_natCast] at z
    exact z
  have cm2 := cmpM_p (ks := [3]) (it := rng1 (cnsA (opC lenC (cnsA (vr 1) nilA)) nilA)) (g := nmG 3) (t := yesT) (f := callE 2 G__law_right (cnsB (op2 ixD (vr 1) (vr 3)) (cnsB (op2 ixD (vr 1) (op2 subD (vr 3) (cst (.int 1)))) nilB))) (ρ := [.val (.scr ns), .val (.lst T), .no, .no]) (ds := rangeL 0 T.length) (fun _ => true) (fun _ => .bl true) rg rfl rfl (by rw [rangeL_length]; omega) fun d hd => by
    obtain ⟨k, hk⟩ := List.mem_iff_getElem?.mp hd
    obtain ⟨hk2, rfl⟩ := rangeL_get _ _ _ _ hk
    obtain ⟨t, et, ht⟩ := atI_nat01 hk2
    obtain ⟨u, eu, hu⟩ : ∃ u, ixD (.lst T) (.int ((k : Int) - 1)) = some u ∧ u ∈ T := by
      cases k with
      | zero => exact atI_last01 (by omega)
      | succ k =>
        rw [show (((k + 1 : Nat) : Int) - 1) = (k : Int) by omega]
        exact atI_nat01 (by omega)
    have r := right_ok (hs t ht) (hs u hu)
    rw [Int.zero_add]
    refine ⟨[.val (.scr ns), .val (.lst T), .no, .val (.int (k : Int))], rfl, rfl, rfl, fun _ => ?_⟩
    simp only [seqS_eq, nxS, bkS, ctS, nxt_nxE, nxt_rt, nxt_bk, nxt_ct, ifS_eq, ifE_eq, brR_t, brR_f, brR_dec, anT_eq, orT_eq, anE_eq, orE_eq, tst_eq, isB_bl, ↓R.bind_bd, R.bd_ok, R.of_some, noT, blE, vr, cst, op1, op2, setS, setR, nxO, asgS, tupG, cnsG, nilG, nmG, subGO, subG, subS, getM, ixM, putO, cnsA, nilA, dTup, dLst, frz, retS, retM, setM, exS, mutS, appO, opC, callE, callM, callG_eq, cnsB, nilB, slB, kwB, ioM, toArgs, okA, slsA, nodN, argG_some, goG_ok, asE, asM, putA, newM, putM, parS, par3S, frzS, frzAt, bindO, endR_rt, endR_nx, endG, FL.collect, bodyG_eq, rho0, toS, wipeR, FL.pick, tru, truD, chn, lenM, slM, slF, noO, smO, catO, catM, litM, isiD, typD, isTy, R.bd_exc, cauE_eq, goG_exc, endR_exc,   List.getElem?_cons_zero, List.getElem?_cons_succ, List.getElem?_nil, List.set_cons_zero, List.set_cons_succ, List.set_nil, List.length_cons, List.length_nil, List.mapIdx_cons, List.mapIdx_nil, List.map_cons, List.map_nil, List.replicate_succ, List.replicate_zero, List.cons_append, List.nil_append, List.append_nil, List.foldl_cons, List.foldl_nil, List.filterMap_cons, List.filterMap_nil, Option.map_some, Option.map_none, Option.bind_some, Option.bind_none, Bool.not_true, Bool.not_false, Bool.and_true, Bool.true_and, Bool.or_true, Bool.and_self, if_true, if_false,   eqA_int, neA_int, eqA_str, neA_str, ltD_int, leD_int, gtD_int, geD_int, addD_int, subD_int, negD_int, absC_int, intC_int, maxC_int, minC_int, lenC_lst, lenC_tup, lenC_scr, Int.cast_ofNat_Int, Int.natCast_zero, Int.natCast_one,   ↓reduceIte, Nat.reduceAdd, Nat.reduceSub, Nat.reduceMul, Nat.reduceLT, Nat.reduceLeDiff, Nat.reduceBEq, Nat.reduceBneDiff, Nat.reduceEqDiff, Nat.reducePow, Int.reduceLT, Int.reduceLE, Int.reduceEq, Int.reduceNe, Int.reduceAdd, Int.reduceSub, Int.reduceMul, Int.reduceNeg, Int.reducePow, Int.reduceToNat, decide_true, decide_false, decide_eq_true_eq, Bool.false_eq_true, List.contains_nil, List.contains_cons, Bool.or_false, Bool.or_self, eq_self, and_self, and_true, true_and, dputU, sortU, newU, FL.setMs, et, eu, r]
  have at1 := all_true (((rangeL 0 T.length).filter fun _ => true).map fun _ => D.bl true) fun y hy => by
    obtain ⟨_, _, rfl⟩ := List.mem_map.mp hy
    rfl
  generalize (((rangeL 0 T.length).filter fun _ => true).map fun _ => D.bl true) = ys at *
  simp only [G_law, g_law, seqS_eq, nxS, bkS, ctS, nxt_nxE, nxt_rt, nxt_bk, nxt_ct, ifS_eq, ifE_eq, brR_t, brR_f, brR_dec, anT_eq, orT_eq, anE_eq, orE_eq, tst_eq, isB_bl, ↓R.bind_bd, R.bd_ok, R.of_some, noT, blE, vr, cst, op1, op2, setS, setR, nxO, asgS, tupG, cnsG, nilG, nmG, subGO, subG, subS, getM, ixM, putO, cnsA, nilA, dTup, dLst, frz, retS, retM, setM, exS, mutS, appO, opC, callE, callM, callG_eq, cnsB, nilB, slB, kwB, ioM, toArgs, okA, slsA, nodN, argG_some, goG_ok, asE, asM, putA, newM, putM, parS, par3S, frzS, frzAt, bindO, endR_rt, endR_nx, endG, FL.collect, bodyG_eq, rho0, toS, wipeR, FL.pick, tru, truD, chn, lenM, slM, slF, noO, smO, catO, catM, litM, isiD, typD, isTy, R.bd_exc, cauE_eq, goG_exc, endR_exc,   List.getElem?_cons_zero, List.getElem?_cons_succ, List.getElem?_nil, List.set_cons_zero, List.set_cons_succ, List.set_nil, List.length_cons, List.length_nil, List.mapIdx_cons, List.mapIdx_nil, List.map_cons, List.map_nil, List.replicate_succ, List.replicate_zero, List.cons_append, List.nil_append, List.append_nil, List.foldl_cons, List.foldl_nil, List.filterMap_cons, List.filterMap_nil, Option.map_some, Option.map_none, Option.bind_some, Option.bind_none, Bool.not_true, Bool.not_false, Bool.and_true, Bool.true_and, Bool.or_true, Bool.and_self, if_true, if_false,   eqA_int, neA_int, eqA_str, neA_str, ltD_int, leD_int, gtD_int, geD_int, addD_int, subD_int, negD_int, absC_int, intC_int, maxC_int, minC_int, lenC_lst, lenC_tup, lenC_scr, Int.cast_ofNat_Int, Int.natCast_zero, Int.natCast_one,   ↓reduceIte, Nat.reduceAdd, Nat.reduceSub, Nat.reduceMul, Nat.reduceLT, Nat.reduceLeDiff, Nat.reduceBEq, Nat.reduceBneDiff, Nat.reduceEqDiff, Nat.reducePow, Int.reduceLT, Int.reduceLE, Int.reduceEq, Int.reduceNe, Int.reduceAdd, Int.reduceSub, Int.reduceMul, Int.reduceNeg, Int.reducePow, Int.reduceToNat, decide_true, decide_false, decide_eq_true_eq, Bool.false_eq_true, List.contains_nil, List.contains_cons, Bool.or_false, Bool.or_self, eq_self, and_self, and_true, true_and, dputU, sortU, newU, FL.setMs, s5, s6, s2, p9, p6, lim, ↓cm, ad, ↓cm2, at1]


end
end Wk
theorem Wk.law_trueE (fe : FL.FE) (ns : List Int) (hl : ns.length ≤ 63) : @Wk.G_law fe [.val (.scr ns)] = .ok (.v (.bl true)) [] := @Wk.law_true fe ns hl
open PySem PySem.W PyProof.Rows in
set_option maxRecDepth 100000 in
set_option maxHeartbeats 0 in
theorem PySem.Challenge.cw_lenspairs_k01_limits_and_errors_holds : PySem.Challenge.rw_lenspairs_k01_limits_and_errors.Holds := by
  w_on; o_law; k_head; (case hw => w_witness2)
  k_fill
  refine FL.walkG (l := PySem.Challenge.rw_lenspairs_k01_limits_and_errors) (n := 63) (k := 4) (G := fun _ _ => FL.trueG 63) (x := "_law_script") rfl (by decide) rfl (by decide) (fun w h Y => PySem.W.kIn_of Y) ?F
  case F =>
    intro w mg fa h Y KX G XP hmg
    have y_MOST_BEADS : ∃ t : PySem.Tok, mg "MOST_BEADS" = some (.int 200 t) := by
      exact ⟨_, PySem.W.mg_of KX G (by k_is)⟩
    have y_MOST_LED : ∃ t : PySem.Tok, mg "MOST_LED" = some (.int 8 t) := by
      exact ⟨_, PySem.W.mg_of KX G (by k_is)⟩
    have y_MOST_LISTED : ∃ t : PySem.Tok, mg "MOST_LISTED" = some (.int 500 t) := by
      exact ⟨_, PySem.W.mg_of KX G (by k_is)⟩
    have y_MOST_LOOPS : ∃ t : PySem.Tok, mg "MOST_LOOPS" = some (.int 1000000 t) := by
      exact ⟨_, PySem.W.mg_of KX G (by k_is)⟩
    have y_MOST_NUMBER : ∃ t : PySem.Tok, mg "MOST_NUMBER" = some (.int 1000000000 t) := by
      exact FL.loose_int XP (by simp)
    have y_MOST_STEP : ∃ t : PySem.Tok, mg "MOST_STEP" = some (.int 20 t) := by
      exact ⟨_, PySem.W.mg_of KX G (by k_is)⟩
    refine' Wk.all_mk (l := PySem.Challenge.rw_lenspairs_k01_limits_and_errors) (fe := FL.feOf _ _) (Wk.law_trueE _) KX G hmg ?a1 ?l1 ?c1 ?k1 ?a2 ?l2 ?c2 ?k2 ?a3 ?l3 ?c3 ?k3 ?a4 ?l4 ?c4 ?k4 ?a5 ?l5 ?c5 ?k5 ?a6 ?l6 ?c6 ?k6 ?a7 ?l7 ?c7 ?k7 ?z_ArithmeticError ?z_LookupError ?z_ValueError ?z_all ?z_int ?z_isinstance ?z_len ?z_range ?z_repr y_MOST_BEADS y_MOST_LED y_MOST_LISTED y_MOST_LOOPS y_MOST_NUMBER y_MOST_STEP ?q_Broken ?q_InUse ?q_InvalidClaim ?q_InvalidCommand ?q_InvalidIndex ?q_InvalidName ?q_InvalidNumber ?q_InvalidPair ?q_InvalidString ?q_InvalidText ?q_NoMove ?q_NotKnown ?q_NotLed ?q_NotPossible ?q_NotRight ?q_NothingToUndo ?q_TooGreat ?q_UnknownName ?i_Broken ?il_Broken ?ik_Broken ?ib_Broken ?i_InUse ?il_InUse ?ik_InUse ?ib_InUse ?i_InvalidClaim ?il_InvalidClaim ?ik_InvalidClaim ?ib_InvalidClaim ?i_InvalidCommand ?il_InvalidCommand ?ik_InvalidCommand ?ib_InvalidCommand ?i_InvalidIndex ?il_InvalidIndex ?ik_InvalidIndex ?ib_InvalidIndex ?i_InvalidName ?il_InvalidName ?ik_InvalidName ?ib_InvalidName ?i_InvalidNumber ?il_InvalidNumber ?ik_InvalidNumber ?ib_InvalidNumber ?i_InvalidPair ?il_InvalidPair ?ik_InvalidPair ?ib_InvalidPair ?i_InvalidString ?il_InvalidString ?ik_InvalidString ?ib_InvalidString ?i_InvalidText ?il_InvalidText ?ik_InvalidText ?ib_InvalidText ?i_NotLed ?il_NotLed ?ik_NotLed ?ib_NotLed ?i_TooGreat ?il_TooGreat ?ik_TooGreat ?ib_TooGreat ?i_UnknownName ?il_UnknownName ?ik_UnknownName ?ib_UnknownName ?ib_NoMove ?ib_NothingToUndo rfl ?hct ?hca
    (case a1 => k_is)
    (case l1 => k_is)
    (case c1 => k_is)
    (case k1 => k_is)
    (case a2 => k_is)
    (case l2 => k_is)
    (case c2 => k_is)
    (case k2 => k_is)
    (case a3 => k_is)
    (case l3 => k_is)
    (case c3 => k_is)
    (case k3 => k_is)
    (case a4 => k_is)
    (case l4 => k_is)
    (case c4 => k_is)
    (case k4 => k_is)
    (case a5 => k_is)
    (case l5 => k_is)
    (case c5 => k_is)
    (case k5 => k_is)
    (case a6 => k_is)
    (case l6 => k_is)
    (case c6 => k_is)
    (case k6 => k_is)
    (case a7 => k_is)
    (case l7 => k_is)
    (case c7 => k_is)
    (case k7 => k_is)
    (case z_ArithmeticError => k_is)
    (case z_LookupError => k_is)
    (case z_ValueError => k_is)
    (case z_all => k_is)
    (case z_int => k_is)
    (case z_isinstance => k_is)
    (case z_len => k_is)
    (case z_range => k_is)
    (case z_repr => k_is)
    (case q_Broken => k_is)
    (case q_InUse => k_is)
    (case q_InvalidClaim => k_is)
    (case q_InvalidCommand => k_is)
    (case q_InvalidIndex => k_is)
    (case q_InvalidName => k_is)
    (case q_InvalidNumber => k_is)
    (case q_InvalidPair => k_is)
    (case q_InvalidString => k_is)
    (case q_InvalidText => k_is)
    (case q_NoMove => k_is)
    (case q_NotKnown => k_is)
    (case q_NotLed => k_is)
    (case q_NotPossible => k_is)
    (case q_NotRight => k_is)
    (case q_NothingToUndo => k_is)
    (case q_TooGreat => k_is)
    (case q_UnknownName => k_is)
    (case i_Broken => k_is)
    (case il_Broken => k_is)
    (case ik_Broken => k_is)
    (case ib_Broken => kernel_rfl)
    (case i_InUse => k_is)
    (case il_InUse => k_is)
    (case ik_InUse => k_is)
    (case ib_InUse => kernel_rfl)
    (case i_InvalidClaim => k_is)
    (case il_InvalidClaim => k_is)
    (case ik_InvalidClaim => k_is)
    (case ib_InvalidClaim => kernel_rfl)
    (case i_InvalidCommand => k_is)
    (case il_InvalidCommand => k_is)
    (case ik_InvalidCommand => k_is)
    (case ib_InvalidCommand => kernel_rfl)
    (case i_InvalidIndex => k_is)
    (case il_InvalidIndex => k_is)
    (case ik_InvalidIndex => k_is)
    (case ib_InvalidIndex => kernel_rfl)
    (case i_InvalidName => k_is)
    (case il_InvalidName => k_is)
    (case ik_InvalidName => k_is)
    (case ib_InvalidName => kernel_rfl)
    (case i_InvalidNumber => k_is)
    (case il_InvalidNumber => k_is)
    (case ik_InvalidNumber => k_is)
    (case ib_InvalidNumber => kernel_rfl)
    (case i_InvalidPair => k_is)
    (case il_InvalidPair => k_is)
    (case ik_InvalidPair => k_is)
    (case ib_InvalidPair => kernel_rfl)
    (case i_InvalidString => k_is)
    (case il_InvalidString => k_is)
    (case ik_InvalidString => k_is)
    (case ib_InvalidString => kernel_rfl)
    (case i_InvalidText => k_is)
    (case il_InvalidText => k_is)
    (case ik_InvalidText => k_is)
    (case ib_InvalidText => kernel_rfl)
    (case i_NotLed => k_is)
    (case il_NotLed => k_is)
    (case ik_NotLed => k_is)
    (case ib_NotLed => kernel_rfl)
    (case i_TooGreat => k_is)
    (case il_TooGreat => k_is)
    (case ik_TooGreat => k_is)
    (case ib_TooGreat => kernel_rfl)
    (case i_UnknownName => k_is)
    (case il_UnknownName => k_is)
    (case ik_UnknownName => k_is)
    (case ib_UnknownName => kernel_rfl)
    (case ib_NoMove => kernel_rfl)
    (case ib_NothingToUndo => kernel_rfl)
    (case hct => kernel_rfl)
    (case hca => kernel_rfl)
