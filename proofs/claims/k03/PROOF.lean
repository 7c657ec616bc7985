import PyProof.Rows.All
import HandS.ForMost
import HandS.Exc
import HandS.Deep
import HandS.Wide
import HandS.TupAny
import HandS.TupMul
import HandS.IsInst
import HandS.SortInts
import HandS.Style
import HandS.Zip
import HandS.CallSlots
import HandS.Lambda
import HandS.ExcCtx
import HandS.Star
import HandS.MakeKwOnly
import PyProof.NeKinds
import HandS.EndBits
import HandS.SetFor
import HandS.Strs
import KE.KExcInit
import HandS.ExcInit
import HandS.Small
import KE.KExcIs
import HandS.ExcField
import HandS.HotCalls
import KE.KNestM
import HandS.DictComp
import HandS.More
import HandS.List
import PyProof.P3Eq
import PyProof.ReprLen
import PyProof.TupleOfSeq
import PyProof.Rows.Digits
import HandS.NoneIn
import PySem.Challenge.RW_lenspairs_k03_whole_pairs_of_strings
set_option Elab.async false
set_option linter.all false
set_option maxRecDepth 100000
set_option maxHeartbeats 4000000
/-! FL1: pure data D, the state of a def's body over it (Sta), the readings by functions. -/
namespace FL
open PySem PySem.Spec PyProof.Rows L2

/-- what holds of the whole law: the tables of code objects, where its classes stand -/
class FE where
  tabs : List (Addr × Str)
  cl : Str → Addr
/-- a caught exception: its object, its dict, its class -/
structure EId where
  a : Addr
  d : Option Addr
  C : Str
deriving DecidableEq
/-- pure data -/
inductive D where
  | non
  | bl (b : Bool)
  | int (i : Int)
  | str (x : Str)
  | tup (xs : List D)
  | lst (xs : List D)
  | scr (ns : List Int)
  | fn (a : Addr)
  | dct (kvs : List (Key × D))
  | exc (x : EId) (fs : List (Str × D))

instance : Inhabited D := ⟨.non⟩

/-- an exception's dict -/
def XD (F : Hp) (d : Option Addr) (fsV : List (Str × V)) : Prop := match d with
  | some d => F d = some (.xd fsV)
  | none => fsV = []
theorem XD.mono {F F' : Hp} {d : Option Addr} {fsV : List (Str × V)} (h : XD F d fsV) (e : Same F F') : XD F' d fsV := by
  cases d with
  | none => exact h
  | some d => exact e _ _ h
/-- no table -/
def NT (o : HO) : Prop := ∀ ps, o ≠ .tbl ps
def NoT (F : Hp) : Prop := ∀ q o, F q = some o → NT o

mutual
inductive Rep (K : PySem.W.Frag) (F : Hp) : V → D → Prop
  | non : Rep K F .non .non
  | bl (b : Bool) : Rep K F (.bl b) (.bl b)
  | int (i : Int) : Rep K F (.int i) (.int i)
  | str (x : Str) : Rep K F (.str x) (.str x)
  | fn (a : Addr) : Rep K F (.ref a) (.fn a)
  | tup {a : Addr} {xs : List V} {ds : List D} : SqT K F a xs → Reps K F xs ds → Rep K F (.ref a) (.tup ds)
  | lst {a : Addr} {xs : List V} {ds : List D} : F a = some (.lst xs) → Reps K F xs ds → Rep K F (.ref a) (.lst ds)
  | scr {a : Addr} {ns : List Int} : SqL K F a (ns.map V.int) → Rep K F (.ref a) (.scr ns)
  | dct {a : Addr} {kvs : List (Key × V)} {ds : List (Key × D)} : F a = some (.dK kvs) → kvs.map (·.1) = ds.map (·.1) → Reps K F (kvs.map (·.2)) (ds.map (·.2)) → Rep K F (.ref a) (.dct ds)
  | exc {x : EId} {fsV : List (Str × V)} {fs : List (Str × D)} : XD F x.d fsV → fsV.map (·.1) = fs.map (·.1) → Reps K F (fsV.map (·.2)) (fs.map (·.2)) → Rep K F (.ref x.a) (.exc x fs)
inductive Reps (K : PySem.W.Frag) (F : Hp) : List V → List D → Prop
  | nil : Reps K F [] []
  | cons {v : V} {vs : List V} {d : D} {ds : List D} : Rep K F v d → Reps K F vs ds → Reps K F (v :: vs) (d :: ds)
end

theorem sm_rd {H H' : Hp} {a : Addr} {u : HO} (e : Same H H') (h : Rd H a u) : Rd H' a u := by
  rcases h with h | ⟨o, h⟩
  · exact .inl (e _ _ h)
  · exact .inr ⟨o, e _ _ h⟩
theorem sm_tup {K : PySem.W.Frag} {H H' : Hp} {a : Addr} {xs : List V} (e : Same H H') (h : SqT K H a xs) : SqT K H' a xs := by
  rcases h with h | h
  · exact .inl (sm_rd e h)
  · exact .inr h

section
variable {K : PySem.W.Frag} {F F' : Hp}
mutual
theorem Rep.mono (e : Same F F') : ∀ {v : V} {d : D}, Rep K F v d → Rep K F' v d
  | _, _, .non => .non
  | _, _, .bl b => .bl b
  | _, _, .int i => .int i
  | _, _, .str x => .str x
  | _, _, .fn a => .fn a
  | _, _, .tup h r => .tup (sm_tup e h) (Reps.mono e r)
  | _, _, .lst h r => .lst (e _ _ h) (Reps.mono e r)
  | _, _, .scr h => .scr (Same.seq e h)
  | _, _, .dct h k r => .dct (e _ _ h) k (Reps.mono e r)
  | _, _, .exc h1 k r => .exc (h1.mono e) k (Reps.mono e r)
theorem Reps.mono (e : Same F F') : ∀ {vs : List V} {ds : List D}, Reps K F vs ds → Reps K F' vs ds
  | _, _, .nil => .nil
  | _, _, .cons h r => .cons (Rep.mono e h) (Reps.mono e r)
end
theorem Reps.length : ∀ {vs : List V} {ds : List D}, Reps K F vs ds → vs.length = ds.length
  | _, _, .nil => rfl
  | _, _, .cons _ r => congrArg (· + 1) (Reps.length r)
theorem Reps.append : ∀ {vs ws : List V} {ds es : List D}, Reps K F vs ds → Reps K F ws es → Reps K F (vs ++ ws) (ds ++ es)
  | _, _, _, _, .nil, q => q
  | _, _, _, _, .cons h r, q => .cons h (Reps.append r q)
theorem Reps.get : ∀ {vs : List V} {ds : List D} {i : Nat} {d : D}, Reps K F vs ds → ds[i]? = some d → ∃ v, vs[i]? = some v ∧ Rep K F v d
  | _, _, _, _, .nil, e => by simp at e
  | _, _, 0, _, .cons h r, e => by
    simp at e
    subst e
    exact ⟨_, rfl, h⟩
  | _, _, i + 1, d, .cons h r, e => by
    obtain ⟨v, h1, h2⟩ := Reps.get (i := i) (d := d) r (by simpa using e)
    exact ⟨v, by simpa using h1, h2⟩
theorem Reps.getv : ∀ {vs : List V} {ds : List D} {i : Nat} {v : V}, Reps K F vs ds → vs[i]? = some v → ∃ d, ds[i]? = some d ∧ Rep K F v d
  | _, _, _, _, .nil, e => by simp at e
  | _, _, 0, _, .cons h r, e => by
    simp at e
    subst e
    exact ⟨_, rfl, h⟩
  | _, _, i + 1, v, .cons h r, e => by
    obtain ⟨d, h1, h2⟩ := Reps.getv (i := i) (v := v) r (by simpa using e)
    exact ⟨d, by simpa using h1, h2⟩
theorem Reps.take : ∀ {vs : List V} {ds : List D} (n : Nat), Reps K F vs ds → Reps K F (vs.take n) (ds.take n)
  | _, _, 0, _ => .nil
  | _, _, _ + 1, .nil => .nil
  | _, _, n + 1, .cons h r => .cons h (Reps.take n r)
theorem Reps.drop : ∀ {vs : List V} {ds : List D} (n : Nat), Reps K F vs ds → Reps K F (vs.drop n) (ds.drop n)
  | _, _, 0, r => r
  | _, _, _ + 1, .nil => .nil
  | _, _, n + 1, .cons h r => Reps.drop n r
theorem Reps.set {v : V} {d : D} (h : Rep K F v d) : ∀ {vs : List V} {ds : List D} (i : Nat), Reps K F vs ds → Reps K F (vs.set i v) (ds.set i d)
  | _, _, _, .nil => .nil
  | _, _, 0, .cons _ r => .cons h r
  | _, _, i + 1, .cons q r => .cons q (Reps.set h i r)
theorem Reps.ints : ∀ (ns : List Int), Reps K F (ns.map V.int) (ns.map D.int)
  | [] => .nil
  | n :: ns => .cons (.int n) (Reps.ints ns)
theorem Reps.of_ints : ∀ {vs : List V} {ns : List Int}, Reps K F vs (ns.map D.int) → vs = ns.map V.int
  | _, [], .nil => rfl
  | _, n :: ns, .cons h r => by
    cases h
    rw [Reps.of_ints r]
    rfl
theorem Reps.snoc {vs : List V} {ds : List D} {v : V} {d : D} (r : Reps K F vs ds) (h : Rep K F v d) : Reps K F (vs ++ [v]) (ds ++ [d]) := r.append (.cons h .nil)
theorem Reps.reverse : ∀ {vs : List V} {ds : List D}, Reps K F vs ds → Reps K F vs.reverse ds.reverse
  | _, _, .nil => .nil
  | _, _, .cons h r => by
    rw [List.reverse_cons, List.reverse_cons]
    exact (Reps.reverse r).append (.cons h .nil)
end

/-! ### slots -/
/-- what a mutable thing holds: a list, an instance -/
inductive M where
  | lst (ds : List D)
  | ins (C : Addr) (fs : List (Str × D))
def MRep (K : PySem.W.Frag) (F H : Hp) (p : Addr) : M → Prop
  | .lst ds => ∃ vs, H p = some (.lst vs) ∧ Reps K F vs ds
  | .ins C fs => ∃ dx fsV, H p = some (.ins C dx fsV) ∧ fsV.map (·.1) = fs.map (·.1) ∧ Reps K F (fsV.map (·.2)) (fs.map (·.2))
theorem MRep.here {K : PySem.W.Frag} {F H : Hp} {p : Addr} {m : M} (h : MRep K F H p m) : ∃ o, H p = some o := by
  cases m with
  | lst ds => obtain ⟨vs, e, _⟩ := h; exact ⟨_, e⟩
  | ins C fs => obtain ⟨dx, fsV, e, _⟩ := h; exact ⟨_, e⟩
/-- a thing that may be changed -/
def Mut (o : HO) : Prop := (∃ vs, o = .lst vs) ∨ (∃ C dx fs, o = .ins C dx fs) ∨ ∃ kvs, o = .dK kvs
theorem Mut.nt {o : HO} (h : Mut o) : NT o := fun ps z => by
  subst z
  rcases h with ⟨_, h⟩ | ⟨_, _, _, h⟩ | ⟨_, h⟩ <;> cases h
theorem MRep.mut {K : PySem.W.Frag} {F H : Hp} {p : Addr} {m : M} (h : MRep K F H p m) : ∃ o, H p = some o ∧ Mut o := by
  cases m with
  | lst ds => obtain ⟨vs, e, _⟩ := h; exact ⟨_, e, .inl ⟨_, rfl⟩⟩
  | ins C fs => obtain ⟨dx, fsV, e, _⟩ := h; exact ⟨_, e, .inr (.inl ⟨_, _, _, rfl⟩)⟩
theorem tabs_upd {T : List (Addr × Str)} {H : Hp} {p : Addr} {o o' : HO} (t : LamX.Tabs T H) (h : H p = some o) (m : Mut o) : LamX.Tabs T (upd H p o') := fun q hq => by
  obtain ⟨ps, h1, h2, h3⟩ := t q hq
  have nx : ∀ {b : Addr} {u : HO}, H b = some u → ¬ Mut u → b ≠ p := fun {b u} e n z => by
    subst z
    rw [h] at e
    cases e
    exact n m
  refine ⟨ps, by rw [upd_ne (nx h1 fun z => z.nt _ rfl)]; exact h1, h2, fun pos cv hc => ?_⟩
  obtain ⟨c, e1, e2⟩ := h3 pos cv hc
  refine ⟨c, e1, ?_⟩
  rw [upd_ne (nx e2 fun z => by
    unfold LamX.CodeO at z
    rcases z with ⟨_, h⟩ | ⟨_, _, _, h⟩ | ⟨_, h⟩ <;> cases h)]
  exact e2
theorem MRep.mono {K : PySem.W.Frag} {F F' H H' : Hp} {p : Addr} {m : M} (h : MRep K F H p m) (e : Same F F') (k : ∀ o, H p = some o → H' p = some o) : MRep K F' H' p m := by
  cases m with
  | lst ds => obtain ⟨vs, e1, r⟩ := h; exact ⟨vs, k _ e1, r.mono e⟩
  | ins C fs => obtain ⟨dx, fsV, e1, l, r⟩ := h; exact ⟨dx, fsV, k _ e1, l, r.mono e⟩

inductive Slot where
  /-- not known -/
  | no
  /-- data, never changed -/
  | val (d : D)
  /-- a thing of our own -/
  | own (m : M)
  /-- a thing that was handed to us, at the place π i -/
  | io (m : M)
abbrev Rho := List Slot

/-- what the state is compared with: the heap at a beginning, its frozen part, what may be changed of it: handed in, own -/
structure Cfg where
  H0 : Hp
  F0 : Hp
  io : List Addr
  ow : List Addr

def SlotOk (K : PySem.W.Frag) (π : Nat → Addr) (c : Cfg) (F H : Hp) (σ : L2.St) (i : Nat) : Slot → Prop
  | .no => True
  | .val d => ∃ v, σ[i]? = some (some v) ∧ Rep K F v d
  | .own m => ∃ p, σ[i]? = some (some (.ref p)) ∧ F p = none ∧ (c.H0 p = none ∨ p ∈ c.ow) ∧ MRep K F H p m
  | .io m => σ[i]? = some (some (.ref (π i))) ∧ F (π i) = none ∧ π i ∈ c.io ∧ MRep K F H (π i) m
/-- slot i is at p, ours to change -/
def OwnAt (σ : L2.St) (ρ : Rho) (i : Nat) (p : Addr) : Prop := σ[i]? = some (some (.ref p)) ∧ ∃ m, ρ[i]? = some (.own m) ∨ ρ[i]? = some (.io m)

/-- the tables, in a state -/
structure StT [FE] (c : Cfg) (F H : Hp) : Prop where
  tb : LamX.Tabs FE.tabs H
  tk : ∀ q ps, c.H0 q = some (.tbl ps) → ∃ ps', H q = some (.tbl ps')
  nt : NoT F
section
variable [FE]
structure Sta (K : PySem.W.Frag) (π : Nat → Addr) (c : Cfg) (F H : Hp) (σ : L2.St) (ρ : Rho) : Prop where
  h0 : ∀ q o, c.H0 q = some o → q ∉ c.io → q ∉ c.ow → NT o → H q = some o
  hio : ∀ q, q ∈ c.io ∨ q ∈ c.ow → ∃ o, H q = some o
  f0 : Same c.F0 F
  f : Same F H
  nf : ∀ q o, c.H0 q = some o → c.F0 q = none → F q = none
  len : σ.length = ρ.length
  rep : ∀ i s, ρ[i]? = some s → SlotOk K π c F H σ i s
  dis : ∀ i j p, OwnAt σ ρ i p → OwnAt σ ρ j p → i = j
  t : StT c F H

/-- the heap has grown, nothing has changed -/
structure GrT (F H F' H' : Hp) : Prop where
  tb : LamX.Tabs FE.tabs H → LamX.Tabs FE.tabs H'
  tk : ∀ q ps, H q = some (.tbl ps) → ∃ ps', H' q = some (.tbl ps')
  nt : NoT F → NoT F'
theorem GrT.of {F H F' H' : Hp} (h : Same H H') (n : NoT F → NoT F') : GrT F H F' H' := ⟨fun t => t.ext h, fun q ps e => ⟨ps, h _ _ e⟩, n⟩
theorem NoT.upd {F : Hp} {p : Addr} {o : HO} (h : NoT F) (n : NT o) : NoT (upd F p o) := fun q u e => by
  by_cases z : q = p
  · subst z
    rw [upd_same] at e
    cases e
    exact n
  · rw [upd_ne z] at e
    exact h _ _ e
structure Grw (F H F' H' : Hp) : Prop where
  f : Same F F'
  h : LamX.ExtN H H'
  fh : Same F' H'
  nf : ∀ q o, H q = some o → F q = none → F' q = none
  t : GrT F H F' H'
theorem extN {H H' : Hp} (h : Same H H') : LamX.ExtN H H' := fun b o e _ => h b o e
theorem Grw.refl {F H : Hp} (h : Same F H) : Grw F H F H := ⟨Same.refl _, extN (Same.refl _), h, fun _ _ _ e => e, .of (Same.refl _) fun n => n⟩
theorem sm_new {H : Hp} {p : Addr} {o : HO} (h : H p = none) : Same H (upd H p o) := fun a u e => by
  rw [upd_ne (ne_of_none e h)]
  exact e
theorem sm_upd2 {F H : Hp} (e : Same F H) {p : Addr} {o : HO} : Same (upd F p o) (upd H p o) := fun a u h => by
  by_cases q : a = p
  · subst q
    rw [upd_same] at h ⊢
    exact h
  · rw [upd_ne q] at h ⊢
    exact e _ _ h
theorem sm_updR {F H : Hp} (e : Same F H) {p : Addr} {o : HO} (h : F p = none) : Same F (upd H p o) := fun a u q => by
  rw [upd_ne (ne_of_none q h)]
  exact e _ _ q
/-- a new thing, frozen at once -/
theorem Grw.newF {F H : Hp} {p : Addr} {o : HO} (h : Same F H) (e : H p = none) (n : NT o := by intro ps z; cases z) : Grw F H (upd F p o) (upd H p o) :=
  ⟨sm_new (Same.free h e), extN (sm_new e), sm_upd2 h, fun q u h1 h2 => by rw [upd_ne (ne_of_none h1 e)]; exact h2, .of (sm_new e) fun x => x.upd n⟩
/-- a new thing, not frozen -/
theorem Grw.newO {F H : Hp} {p : Addr} {o : HO} (h : Same F H) (e : H p = none) : Grw F H F (upd H p o) :=
  ⟨Same.refl _, extN (sm_new e), sm_updR h (Same.free h e), fun _ _ _ q => q, .of (sm_new e) fun x => x⟩
theorem Grw.trans {F H F1 H1 F2 H2 : Hp} (a : Grw F H F1 H1) (b : Grw F1 H1 F2 H2) : Grw F H F2 H2 :=
  ⟨a.f.trans b.f, a.h.trans b.h, b.fh, fun q o h e => by
    by_cases z : ∃ ps, o = .tbl ps
    · obtain ⟨ps, rfl⟩ := z
      obtain ⟨ps', e'⟩ := a.t.tk q ps h
      exact b.nf q _ e' (a.nf q _ h e)
    · exact b.nf q o (a.h _ _ h fun ps y => z ⟨ps, y⟩) (a.nf q o h e),
   ⟨fun t => b.t.tb (a.t.tb t), fun q ps e => by
    obtain ⟨ps', e'⟩ := a.t.tk q ps e
    exact b.t.tk q ps' e', fun n => b.t.nt (a.t.nt n)⟩⟩
/-- what stood stands, of its kind -/
theorem Grw.any {F H F' H' : Hp} (g : Grw F H F' H') {q : Addr} {o : HO} (e : H q = some o) : ∃ o', H' q = some o' := by
  by_cases z : ∃ ps, o = .tbl ps
  · obtain ⟨ps, rfl⟩ := z
    obtain ⟨ps', e'⟩ := g.t.tk q ps e
    exact ⟨_, e'⟩
  · exact ⟨o, g.h _ _ e fun ps y => z ⟨ps, y⟩⟩

section
variable {K : PySem.W.Frag} {π : Nat → Addr} {c : Cfg} {F H F' H' : Hp} {σ σ' : L2.St} {ρ ρ' : Rho}
theorem Sta.any (S : Sta K π c F H σ ρ) {q : Addr} {o : HO} (e : c.H0 q = some o) : ∃ o', H q = some o' := by
  by_cases h1 : q ∈ c.io
  · exact S.hio q (.inl h1)
  · by_cases h2 : q ∈ c.ow
    · exact S.hio q (.inr h2)
    · by_cases z : ∃ ps, o = .tbl ps
      · obtain ⟨ps, rfl⟩ := z
        obtain ⟨ps', e'⟩ := S.t.tk q ps e
        exact ⟨_, e'⟩
      · exact ⟨o, S.h0 q o e h1 h2 fun ps y => z ⟨ps, y⟩⟩
theorem Sta.grow (S : Sta K π c F H σ ρ) (g : Grw F H F' H') : Sta K π c F' H' σ ρ := by
  refine ⟨fun q o e n n' nt => g.h _ _ (S.h0 q o e n n' nt) nt, fun q hq => ?_, S.f0.trans g.f, g.fh, fun q o e n => ?_, S.len, fun i s hs => ?_, S.dis, ⟨g.t.tb S.t.tb, fun q ps e => ?_, g.t.nt S.t.nt⟩⟩
  · obtain ⟨o, e⟩ := S.hio q hq
    exact g.any e
  · obtain ⟨o', e'⟩ := S.any e
    exact g.nf q o' e' (S.nf q o e n)
  · have z := S.rep i s hs
    cases s with
    | no => trivial
    | val d =>
      obtain ⟨v, e, r⟩ := z
      exact ⟨v, e, r.mono g.f⟩
    | own m =>
      obtain ⟨p, e, n, fr, r⟩ := z
      obtain ⟨o, ho, hm⟩ := r.mut
      exact ⟨p, e, g.nf p o ho n, fr, r.mono g.f fun o' ho' => g.h _ _ ho' (by rw [ho] at ho'; cases ho'; exact hm.nt)⟩
    | io m =>
      obtain ⟨e, n, fr, r⟩ := z
      obtain ⟨o, ho, hm⟩ := r.mut
      exact ⟨e, g.nf _ o ho n, fr, r.mono g.f fun o' ho' => g.h _ _ ho' (by rw [ho] at ho'; cases ho'; exact hm.nt)⟩
  · obtain ⟨ps', e'⟩ := S.t.tk q ps e
    exact g.t.tk q ps' e'
theorem Sta.val (S : Sta K π c F H σ ρ) {i : Nat} {d : D} (h : ρ[i]? = some (.val d)) : ∃ v, σ[i]? = some (some v) ∧ Rep K F v d := S.rep i _ h

/-- what may be changed now -/
def isO : Slot → Bool
  | .own _ => true
  | _ => false
def isI : Slot → Bool
  | .io _ => true
  | _ => false
def adr : Option (Option V) → Option Addr
  | some (some (.ref p)) => some p
  | _ => none
theorem adr_eq {x : Option (Option V)} {p : Addr} (h : adr x = some p) : x = some (some (.ref p)) := by
  unfold adr at h
  split at h
  · cases h
    rfl
  · cases h
def adrs (t : Slot → Bool) (σ : L2.St) (ρ : Rho) : List Addr := (List.range ρ.length).filterMap fun i => if (ρ[i]?.map t).getD false = true then adr σ[i]? else none
theorem mem_adrs {t : Slot → Bool} {p : Addr} : p ∈ adrs t σ ρ ↔ ∃ (i : Nat) (s : Slot), σ[i]? = some (some (V.ref p)) ∧ ρ[i]? = some s ∧ t s = true := by
  constructor
  · intro h
    obtain ⟨i, hi, e⟩ := List.mem_filterMap.mp h
    cases h2 : ρ[i]? with
    | none => rw [h2] at e; cases e
    | some s =>
      rw [h2] at e
      by_cases z : t s = true
      · rw [if_pos (show ((some s).map t).getD false = true from z)] at e
        exact ⟨i, s, adr_eq e, h2, z⟩
      · rw [if_neg (show ¬ ((some s).map t).getD false = true from z)] at e
        cases e
  · rintro ⟨i, s, h1, h2, h3⟩
    refine List.mem_filterMap.mpr ⟨i, List.mem_range.mpr (List.getElem?_eq_some_iff.mp h2).1, ?_⟩
    rw [h2, if_pos (show ((some s).map t).getD false = true from h3), h1]
    rfl
/-- the state as its own beginning -/
def cfg (F H : Hp) (σ : L2.St) (ρ : Rho) : Cfg := ⟨H, F, adrs isI σ ρ, adrs isO σ ρ⟩
theorem Sta.ownO (S : Sta K π c F H σ ρ) {p : Addr} (h : p ∈ adrs isO σ ρ) : F p = none ∧ (c.H0 p = none ∨ p ∈ c.ow) ∧ ∃ o, H p = some o := by
  obtain ⟨i, s, e, hs, z⟩ := mem_adrs.mp h
  cases s with
  | own m =>
    obtain ⟨q, e', n, fr, r⟩ := S.rep i _ hs
    rw [e] at e'
    cases e'
    exact ⟨n, fr, r.here⟩
  | no => cases z
  | val d => cases z
  | io m => cases z
theorem Sta.ownI (S : Sta K π c F H σ ρ) {p : Addr} (h : p ∈ adrs isI σ ρ) : F p = none ∧ p ∈ c.io ∧ ∃ o, H p = some o := by
  obtain ⟨i, s, e, hs, z⟩ := mem_adrs.mp h
  cases s with
  | io m =>
    obtain ⟨e', n, fr, r⟩ := S.rep i _ hs
    rw [e] at e'
    cases e'
    exact ⟨n, fr, r.here⟩
  | no => cases z
  | val d => cases z
  | own m => cases z
theorem Sta.self (S : Sta K π c F H σ ρ) : Sta K π (cfg F H σ ρ) F H σ ρ := by
  refine ⟨fun q o e _ _ _ => e, fun q hq => ?_, Same.refl _, S.f, fun q o _ n => n, S.len, fun i s hs => ?_, S.dis, ⟨S.t.tb, fun q ps e => ⟨ps, e⟩, S.t.nt⟩⟩
  · rcases hq with hq | hq
    · exact (S.ownI hq).2.2
    · exact (S.ownO hq).2.2
  · have z := S.rep i s hs
    cases s with
    | no => trivial
    | val d => exact z
    | own m =>
      obtain ⟨p, e, n, fr, r⟩ := z
      exact ⟨p, e, n, .inr (mem_adrs.mpr ⟨i, _, e, hs, rfl⟩), r⟩
    | io m =>
      obtain ⟨e, n, fr, r⟩ := z
      exact ⟨e, n, mem_adrs.mpr ⟨i, _, e, hs, rfl⟩, r⟩
/-- from a part's end to the whole's -/
theorem Sta.back (S : Sta K π c F H σ ρ) (T : Sta K π (cfg F H σ ρ) F' H' σ' ρ') : Sta K π c F' H' σ' ρ' := by
  have ne : ∀ q o, c.H0 q = some o → q ∉ c.io → q ∉ c.ow → q ∉ adrs isI σ ρ ∧ q ∉ adrs isO σ ρ := fun q o e n1 n2 => ⟨fun h => n1 (S.ownI h).2.1, fun h => by
    rcases (S.ownO h).2.1 with z | z
    · rw [e] at z
      cases z
    · exact n2 z⟩
  have sm : ∀ q, (∃ o, H q = some o) → ∃ o, H' q = some o := fun q ⟨o, e⟩ => T.any e
  refine ⟨fun q o e n n' nt => T.h0 q o (S.h0 q o e n n' nt) (ne q o e n n').1 (ne q o e n n').2 nt, fun q hq => sm q (S.hio q hq), S.f0.trans T.f0, T.f, fun q o e n => ?_, T.len, fun i s hs => ?_, T.dis, ⟨T.t.tb, fun q ps e => by
    obtain ⟨ps', e'⟩ := S.t.tk q ps e
    exact T.t.tk q ps' e', T.t.nt⟩⟩
  · obtain ⟨o', e'⟩ := S.any e
    exact T.nf q o' e' (S.nf q o e n)
  · have z := T.rep i s hs
    cases s with
    | no => trivial
    | val d => exact z
    | own m =>
      obtain ⟨p, e, n, f, r⟩ := z
      refine ⟨p, e, n, ?_, r⟩
      rcases f with f | f
      · refine .inl ?_
        cases e : c.H0 p with
        | none => rfl
        | some o =>
          obtain ⟨o', e'⟩ := S.any e
          have f : H p = none := f
          rw [e'] at f
          cases f
      · exact (S.ownO f).2.1
    | io m =>
      obtain ⟨e, n, f, r⟩ := z
      exact ⟨e, n, (S.ownI f).2.1, r⟩

theorem Sta.ownAt (S : Sta K π c F H σ ρ) {i : Nat} {p : Addr} (h : OwnAt σ ρ i p) : F p = none ∧ (c.H0 p = none ∨ p ∈ c.ow ∨ p ∈ c.io) ∧ ∃ o, H p = some o := by
  obtain ⟨e, m, h | h⟩ := h
  · obtain ⟨q, e', n, fr, r⟩ := S.rep i _ h
    rw [e] at e'
    cases e'
    exact ⟨n, fr.elim .inl fun z => .inr (.inl z), r.here⟩
  · obtain ⟨e', n, fr, r⟩ := S.rep i _ h
    rw [e] at e'
    cases e'
    exact ⟨n, .inr (.inr fr), r.here⟩
theorem Sta.ownMut (S : Sta K π c F H σ ρ) {i : Nat} {p : Addr} (h : OwnAt σ ρ i p) : ∃ o, H p = some o ∧ Mut o := by
  obtain ⟨e, m, h | h⟩ := h
  · obtain ⟨q, e', n, fr, r⟩ := S.rep i _ h
    rw [e] at e'
    cases e'
    exact r.mut
  · obtain ⟨e', n, fr, r⟩ := S.rep i _ h
    rw [e] at e'
    cases e'
    exact r.mut
/-- a slot gets data -/
theorem Sta.set (S : Sta K π c F H σ ρ) {i : Nat} (hi : i < ρ.length) {v : V} {d : D} (r : Rep K F v d) : Sta K π c F H (σ.set i (some v)) (ρ.set i (.val d)) := by
  have hl : i < σ.length := by rw [S.len]; exact hi
  refine ⟨S.h0, S.hio, S.f0, S.f, S.nf, by simpa using S.len, fun j s hs => ?_, fun j k p h1 h2 => ?_, S.t⟩
  · by_cases e : j = i
    · subst e
      rw [List.getElem?_set_self hi] at hs
      cases hs
      exact ⟨v, List.getElem?_set_self hl, r⟩
    · rw [List.getElem?_set_ne (Ne.symm e)] at hs
      have z := S.rep j s hs
      have g : (σ.set i (some v))[j]? = σ[j]? := List.getElem?_set_ne (Ne.symm e)
      cases s with
      | no => trivial
      | val d => obtain ⟨w, e1, r1⟩ := z; exact ⟨w, g.trans e1, r1⟩
      | own m => obtain ⟨p, e1, r1⟩ := z; exact ⟨p, g.trans e1, r1⟩
      | io m => obtain ⟨e1, r1⟩ := z; exact ⟨g.trans e1, r1⟩
  · have key : ∀ j, OwnAt (σ.set i (some v)) (ρ.set i (.val d)) j p → OwnAt σ ρ j p := fun j h => by
      obtain ⟨e, m, h⟩ := h
      by_cases q : j = i
      · subst q
        rw [List.getElem?_set_self hi] at h
        rcases h with h | h <;> cases h
      · rw [List.getElem?_set_ne (Ne.symm q)] at e h
        exact ⟨e, m, h⟩
    exact S.dis j k p (key j h1) (key k h2)
/-- a slot is forgotten -/
theorem Sta.forget (S : Sta K π c F H σ ρ) (i : Nat) : Sta K π c F H σ (ρ.set i .no) := by
  refine ⟨S.h0, S.hio, S.f0, S.f, S.nf, by simpa using S.len, fun j s hs => ?_, fun j k p h1 h2 => ?_, S.t⟩
  · by_cases e : j = i
    · subst e
      by_cases hi : j < ρ.length
      · rw [List.getElem?_set_self hi] at hs
        cases hs
        trivial
      · have z : (ρ.set j Slot.no)[j]? = none := by simp; omega
        rw [z] at hs
        cases hs
    · rw [List.getElem?_set_ne (Ne.symm e)] at hs
      exact S.rep j s hs
  · have key : ∀ j, OwnAt σ (ρ.set i .no) j p → OwnAt σ ρ j p := fun j h => by
      obtain ⟨e, m, h⟩ := h
      by_cases q : j = i
      · subst q
        by_cases hi : j < ρ.length
        · rw [List.getElem?_set_self hi] at h
          rcases h with h | h <;> cases h
        · have z : (ρ.set j Slot.no)[j]? = none := by simp; omega
          rw [z] at h
          rcases h with h | h <;> cases h
      · rw [List.getElem?_set_ne (Ne.symm q)] at h
        exact ⟨e, m, h⟩
    exact S.dis j k p (key j h1) (key k h2)
/-- a slot gets a new thing of its own -/
theorem Sta.setOwn (S : Sta K π c F H σ ρ) {i : Nat} (hi : i < ρ.length) {p : Addr} {m : M} (n : F p = none) (fr : c.H0 p = none ∨ p ∈ c.ow) (r : MRep K F H p m) (nw : ∀ j, ¬ OwnAt σ ρ j p) :
    Sta K π c F H (σ.set i (some (.ref p))) (ρ.set i (.own m)) := by
  have hl : i < σ.length := by rw [S.len]; exact hi
  refine ⟨S.h0, S.hio, S.f0, S.f, S.nf, by simpa using S.len, fun j s hs => ?_, fun j k q h1 h2 => ?_, S.t⟩
  · by_cases e : j = i
    · subst e
      rw [List.getElem?_set_self hi] at hs
      cases hs
      exact ⟨p, List.getElem?_set_self hl, n, fr, r⟩
    · rw [List.getElem?_set_ne (Ne.symm e)] at hs
      have z := S.rep j s hs
      have g : (σ.set i (some (V.ref p)))[j]? = σ[j]? := List.getElem?_set_ne (Ne.symm e)
      cases s with
      | no => trivial
      | val d => obtain ⟨w, e1, r1⟩ := z; exact ⟨w, g.trans e1, r1⟩
      | own m => obtain ⟨p, e1, r1⟩ := z; exact ⟨p, g.trans e1, r1⟩
      | io m => obtain ⟨e1, r1⟩ := z; exact ⟨g.trans e1, r1⟩
  · have key : ∀ j, OwnAt (σ.set i (some (.ref p))) (ρ.set i (.own m)) j q → (j = i ∧ q = p) ∨ (j ≠ i ∧ OwnAt σ ρ j q) := fun j h => by
      obtain ⟨e, m', h⟩ := h
      by_cases z : j = i
      · subst z
        rw [List.getElem?_set_self hl] at e
        cases e
        exact .inl ⟨rfl, rfl⟩
      · rw [List.getElem?_set_ne (Ne.symm z)] at e h
        exact .inr ⟨z, e, m', h⟩
    rcases key j h1 with ⟨a, b⟩ | ⟨a, b⟩
    · rcases key k h2 with ⟨a', b'⟩ | ⟨a', b'⟩
      · rw [a, a']
      · rw [b] at b'
        exact absurd b' (nw k)
    · rcases key k h2 with ⟨a', b'⟩ | ⟨a', b'⟩
      · rw [b'] at b
        exact absurd b (nw j)
      · exact S.dis j k q b b'
/-- our own thing has changed -/
theorem Sta.change (S : Sta K π c F H σ ρ) {i : Nat} {p : Addr} {m : M} {o : HO} (h : OwnAt σ ρ i p) (r : MRep K F (upd H p o) p m) (s' : Slot) (hs' : (s' = .own m ∧ ∃ m0, ρ[i]? = some (.own m0)) ∨ (s' = .io m ∧ ∃ m0, ρ[i]? = some (.io m0))) :
    Sta K π c F (upd H p o) σ (ρ.set i s') := by
  obtain ⟨n, fr, o0, ho⟩ := S.ownAt h
  have hi : i < ρ.length := by
    obtain ⟨_, m0, z | z⟩ := h <;> exact (List.getElem?_eq_some_iff.mp z).1
  obtain ⟨om, hom, mm⟩ := S.ownMut h
  refine ⟨fun q u e nq nq' nt => ?_, fun q hq => ?_, S.f0, sm_updR S.f n, S.nf, by simpa using S.len, fun j s hs => ?_, fun j k q h1 h2 => ?_, ⟨tabs_upd S.t.tb hom mm, fun q ps e => ?_, S.t.nt⟩⟩
  · have z : q ≠ p := fun z => by
      subst z
      rcases fr with z | z | z
      · rw [e] at z; cases z
      · exact nq' z
      · exact nq z
    rw [upd_ne z]
    exact S.h0 q u e nq nq' nt
  · by_cases z : q = p
    · subst z
      exact ⟨o, upd_same⟩
    · rw [upd_ne z]
      exact S.hio q hq
  · by_cases e : j = i
    · subst e
      rw [List.getElem?_set_self hi] at hs
      cases hs
      rcases hs' with ⟨rfl, m0, z⟩ | ⟨rfl, m0, z⟩
      · obtain ⟨p', e1, e2, e3, e4⟩ := S.rep j _ z
        have hp := h.1
        rw [e1] at hp
        cases hp
        exact ⟨p, e1, n, e3, r⟩
      · obtain ⟨e1, e2, e3, e4⟩ := S.rep j _ z
        have hp : p = π j := by
          have := h.1
          rw [e1] at this
          cases this
          rfl
        subst hp
        exact ⟨e1, e2, e3, r⟩
    · rw [List.getElem?_set_ne (Ne.symm e)] at hs
      have z := S.rep j s hs
      cases s with
      | no => trivial
      | val d => exact z
      | own m' =>
        obtain ⟨q, e1, e2, e3, r1⟩ := z
        have nq : q ≠ p := fun z => by
          subst z
          exact e (S.dis j i q ⟨e1, m', .inl hs⟩ h)
        exact ⟨q, e1, e2, e3, r1.mono (Same.refl _) fun u hu => by rw [upd_ne nq]; exact hu⟩
      | io m' =>
        obtain ⟨e1, e2, e3, r1⟩ := z
        have nq : π j ≠ p := fun z => by
          rw [z] at e1
          exact e (S.dis j i p ⟨e1, m', .inr hs⟩ h)
        exact ⟨e1, e2, e3, r1.mono (Same.refl _) fun u hu => by rw [upd_ne nq]; exact hu⟩
  · have key : ∀ j, OwnAt σ (ρ.set i s') j q → OwnAt σ ρ j q := fun j hj => by
      obtain ⟨e, m', hj⟩ := hj
      by_cases z : j = i
      · subst z
        rcases hs' with ⟨_, m0, y⟩ | ⟨_, m0, y⟩
        · exact ⟨e, m0, .inl y⟩
        · exact ⟨e, m0, .inr y⟩
      · rw [List.getElem?_set_ne (Ne.symm z)] at hj
        exact ⟨e, m', hj⟩
    exact S.dis j k q (key j h1) (key k h2)
  · obtain ⟨ps', e'⟩ := S.t.tk q ps e
    exact ⟨ps', by rw [upd_ne (fun z => by subst z; rw [hom] at e'; cases e'; exact mm.nt _ rfl)]; exact e'⟩
/-- our own list is frozen -/
theorem Sta.freeze (S : Sta K π c F H σ ρ) {i : Nat} {ds : List D} (h : ρ[i]? = some (.own (.lst ds))) (hn : c.ow = []) :
    ∃ F', Grw F F F' F' ∧ Same F F' ∧ Sta K π c F' H σ (ρ.set i (.val (.lst ds))) := by
  obtain ⟨p, e, n, fr, vs, ho, r⟩ := S.rep i _ h
  have hi : i < ρ.length := (List.getElem?_eq_some_iff.mp h).1
  have hp : c.H0 p = none := by
    rcases fr with z | z
    · exact z
    · rw [hn] at z
      cases z
  have sm : Same F (upd F p (.lst vs)) := sm_new n
  refine ⟨upd F p (.lst vs), ⟨sm, extN sm, Same.refl _, fun q o h1 h2 => (by rw [h1] at h2; cases h2), .of sm fun x => x.upd (by intro ps z; cases z)⟩, sm, S.h0, S.hio, S.f0.trans sm, fun a u q => ?_, fun q o e1 e2 => ?_, by simpa using S.len, fun j s hs => ?_, fun j k q h1 h2 => ?_, ⟨S.t.tb, S.t.tk, S.t.nt.upd (by intro ps z; cases z)⟩⟩
  · by_cases z : a = p
    · subst z
      rw [upd_same] at q
      cases q
      exact ho
    · rw [upd_ne z] at q
      exact S.f _ _ q
  · rw [upd_ne (fun z => by subst z; rw [hp] at e1; cases e1)]
    exact S.nf q o e1 e2
  · by_cases z : j = i
    · subst z
      rw [List.getElem?_set_self hi] at hs
      cases hs
      exact ⟨_, e, .lst upd_same (r.mono sm)⟩
    · rw [List.getElem?_set_ne (Ne.symm z)] at hs
      have y := S.rep j s hs
      cases s with
      | no => trivial
      | val d => obtain ⟨w, e1, r1⟩ := y; exact ⟨w, e1, r1.mono sm⟩
      | own m' =>
        obtain ⟨q, e1, e2, e3, r1⟩ := y
        have nq : q ≠ p := fun w => by
          subst w
          exact z (S.dis j i q ⟨e1, m', .inl hs⟩ ⟨e, _, .inl h⟩)
        exact ⟨q, e1, by rw [upd_ne nq]; exact e2, e3, r1.mono sm fun _ hu => hu⟩
      | io m' =>
        obtain ⟨e1, e2, e3, r1⟩ := y
        have nq : π j ≠ p := fun w => by
          rw [w] at e1
          exact z (S.dis j i p ⟨e1, m', .inr hs⟩ ⟨e, _, .inl h⟩)
        exact ⟨e1, by rw [upd_ne nq]; exact e2, e3, r1.mono sm fun _ hu => hu⟩
  · have key : ∀ j, OwnAt σ (ρ.set i (.val (.lst ds))) j q → OwnAt σ ρ j q := fun j hj => by
      obtain ⟨e, m', hj⟩ := hj
      by_cases z : j = i
      · subst z
        rw [List.getElem?_set_self hi] at hj
        rcases hj with hj | hj <;> cases hj
      · rw [List.getElem?_set_ne (Ne.symm z)] at hj
        exact ⟨e, m', hj⟩
    exact S.dis j k q (key j h1) (key k h2)
end
end
end FL
/-! FL2: readings by functions, rules for expressions and tests. -/
namespace FL
open PySem PySem.Spec PyProof.Rows L2

inductive R (α : Type) where
  | ok (a : α) (ρ : Rho)
  | exc (C : Str) (fs : List (Str × D)) (ρ : Rho)
  | stuck
def R.bind {α β : Type} (x : R α) (k : α → Rho → R β) : R β := match x with
  | .ok a ρ => k a ρ
  | .exc C fs ρ => .exc C fs ρ
  | .stuck => .stuck
def R.of {α : Type} (x : Option α) (ρ : Rho) : R α := match x with
  | some a => .ok a ρ
  | none => .stuck
theorem R.ok_bind {α β : Type} (a : α) (ρ : Rho) (k : α → Rho → R β) : (R.ok a ρ).bind k = k a ρ := rfl
theorem R.exc_bind {α β : Type} (C : Str) (fs : List (Str × D)) (ρ : Rho) (k : α → Rho → R β) : (R.exc C fs ρ : R α).bind k = .exc C fs ρ := rfl
theorem R.stuck_bind {α β : Type} (k : α → Rho → R β) : (R.stuck : R α).bind k = .stuck := rfl
theorem R.of_some {α : Type} (a : α) (ρ : Rho) : R.of (some a) ρ = .ok a ρ := rfl
theorem R.of_none {α : Type} (ρ : Rho) : (R.of none ρ : R α) = .stuck := rfl
abbrev EF := Rho → R D
abbrev TF := Rho → R Bool

/-- how results lie -/
abbrev Rel (β α : Type) := Cfg → Hp → Hp → L2.St → Rho → β → α → Prop
section
variable [FE]
section
variable (K : PySem.W.Frag) (π : Nat → Addr) (W : WX)
def relE : Rel V D := fun _ F _ _ _ v d => Rep K F v d
def relT : Rel Bool Bool := fun _ _ _ _ _ b c => b = c
def relA : Rel (List V) (List D) := fun _ F _ _ _ vs ds => Reps K F vs ds
def relM : Rel V M := fun c F H σ ρ v m => ∃ p, v = .ref p ∧ F p = none ∧ c.H0 p = none ∧ (∀ j, ¬ OwnAt σ ρ j p) ∧ MRep K F H p m

def Po {α β : Type} (rel : Rel β α) (c : Cfg) (F : Hp) (σ : L2.St) (Q : β → Hp → Prop) : R α → Prop
  | .ok a ρ' => ∀ v F' H', Same F F' → Sta K π c F' H' σ ρ' → rel c F' H' σ ρ' v a → Q v H'
  | .exc C fs ρ' => ∀ d fsV F' H', Same F F' → Sta K π c F' H' σ ρ' → XD F' d fsV → fsV.map (·.1) = fs.map (·.1) → Reps K F' (fsV.map (·.2)) (fs.map (·.2)) → W (.ref (FE.cl C)) d σ H'
  | .stuck => False
def tG {α β : Type} (rel : Rel β α) (f : Rho → R α) : L2.St → Hp → (β → Hp → Prop) → Prop := fun σ H Q => ∃ c F ρ, Sta K π c F H σ ρ ∧ Po K π W rel c F σ Q (f ρ)
abbrev tE (f : EF) : TE := tG K π W (relE K) f
abbrev tT (f : TF) : TT := tG K π W relT f
abbrev tA (f : Rho → R (List D)) : TA := tG K π W (relA K) f
abbrev tM (f : Rho → R M) : TE := tG K π W (relM K) f
end

section
variable {K : PySem.W.Frag} {π : Nat → Addr} {W : WX} {α β α' β' : Type} {rel : Rel β α} {rel' : Rel β' α'} {c : Cfg} {F F' H H' : Hp} {σ : L2.St} {ρ ρ' : Rho}
theorem Po.mono {Q : β → Hp → Prop} (s : Same F F') : ∀ {r : R α}, Po K π W rel c F σ Q r → Po K π W rel c F' σ Q r
  | .ok a ρ', h => fun v F2 H2 s2 => h v F2 H2 (s.trans s2)
  | .exc C fs ρ', h => fun dd fsV F2 H2 s2 => h dd fsV F2 H2 (s.trans s2)
  | .stuck, h => h
theorem Po.imp {Q Q' : β → Hp → Prop} {r : R α} (h : Po K π W rel c F σ Q r) (k : ∀ v F' H' ρ' a, Same F F' → Sta K π c F' H' σ ρ' → rel c F' H' σ ρ' v a → Q v H' → Q' v H') : Po K π W rel c F σ Q' r := by
  cases r with
  | ok a ρ' => exact fun v F2 H2 s2 S r => k v F2 H2 ρ' a s2 S r (h v F2 H2 s2 S r)
  | exc C fs ρ' => exact h
  | stuck => exact h
/-- what follows a part -/
theorem po_bind {f : Rho → R α} {k : α → Rho → R α'} {Q : β' → Hp → Prop} {Q1 : β → Hp → Prop} (S : Sta K π c F H σ ρ) (h : Po K π W rel' c F σ Q ((f ρ).bind k))
    (cont : ∀ v F' H' ρ' a, Same F F' → Sta K π c F' H' σ ρ' → rel c F' H' σ ρ' v a → Po K π W rel' c F' σ Q (k a ρ') → Q1 v H') : tG K π W rel f σ H Q1 := by
  refine ⟨c, F, ρ, S, ?_⟩
  cases e : f ρ with
  | ok a ρ' =>
    rw [e] at h
    have h : Po K π W rel' c F σ Q (k a ρ') := h
    exact fun v F2 H2 s2 S2 r => cont v F2 H2 ρ' a s2 S2 r (h.mono s2)
  | exc C fs ρ' =>
    rw [e] at h
    exact h
  | stuck =>
    rw [e] at h
    exact h
/-- what a pure operation asks, at the end -/
theorem po_of {x : Option α} {Q : β → Hp → Prop} (h : Po K π W rel c F σ Q (R.of x ρ)) : ∃ a, x = some a ∧ ∀ v F' H', Same F F' → Sta K π c F' H' σ ρ → rel c F' H' σ ρ v a → Q v H' := by
  cases x with
  | none => exact h.elim
  | some a => exact ⟨a, rfl, h⟩
end

section
variable {X : Cx} {π : Nat → Addr} {W : WX} {e a b d : Expr} {es : List Expr} {pos p : Pos}
theorem PE.imp {t t' : TE} (h : PE X e t) (k : ∀ σ H Q, t' σ H Q → t σ H Q) : PE X e t' := ⟨fun pins s σ H Q I q => h.run pins s σ H Q I (k σ H Q q)⟩
theorem PT.imp {t t' : TT} (h : PT X e t) (k : ∀ σ H Q, t' σ H Q → t σ H Q) : PT X e t' := ⟨fun pins s σ H Q I q => h.run pins s σ H Q I (k σ H Q q)⟩
theorem PW.imp {t t' : TT} (h : PW X e t) (k : ∀ σ H Q, t' σ H Q → t σ H Q) : PW X e t' := ⟨fun wh pins s σ H Q I q => h.run wh pins s σ H Q I (k σ H Q q)⟩
theorem PA.imp {t t' : TA} (h : PA X es t) (k : ∀ σ H Q, t' σ H Q → t σ H Q) : PA X es t' := ⟨fun ps pins s σ H Q I q => h.run ps pins s σ H Q I (k σ H Q q)⟩

/-! ### names, constants -/
def vr (i : Nat) : EF := fun ρ => match ρ[i]? with
  | some (.val d) => .ok d ρ
  | _ => .stuck
def cst (d : D) : EF := fun ρ => .ok d ρ
theorem fe_vr {i : Nat} {x : Str} (h : PE X (.Name x pos) (tVar i)) : PE X (.Name x pos) (tE X.K π W (vr i)) := PE.imp h fun σ H Q ⟨c, F, ρ, S, q⟩ => by
  unfold vr at q
  split at q
  · rename_i d e
    obtain ⟨v, e1, r⟩ := S.val e
    exact ⟨v, e1, q v F H (Same.refl _) S r⟩
  · exact q.elim
theorem fe_cst {v : V} {d : D} (h : PE X e (tC v)) (hr : ∀ F, Rep X.K F v d) : PE X e (tE X.K π W (cst d)) := PE.imp h fun σ H Q ⟨c, F, ρ, S, q⟩ => q v F H (Same.refl _) S (hr F)
theorem fe_int {i : Int} {j : Nat} : PE X (.Constant (.int i) j pos) (tE X.K π W (cst (.int i))) := fe_cst pe_int fun _ => .int i
theorem fe_bl {i : Bool} {j : Nat} : PE X (.Constant (.bool i) j pos) (tE X.K π W (cst (.bl i))) := fe_cst pe_bl fun _ => .bl i
theorem fe_non {j : Nat} : PE X (.Constant .none j pos) (tE X.K π W (cst .non)) := fe_cst pe_non fun _ => .non
theorem fe_str {i : Str} {j : Nat} : PE X (.Constant (.str i) j pos) (tE X.K π W (cst (.str i))) := fe_cst pe_str fun _ => .str i
/-- a module's int -/
theorem fe_gint {x : Str} {i : Int} {t : Tok} (hg : Gl X x) (hm : X.mg x = some (.int i t)) (hd : (x == ("__debug__" : Str)) = false := by decide) : PE X (.Name x pos) (tE X.K π W (cst (.int i))) := fe_cst (pe_glob (v := .int i) hg hm ⟨t, rfl⟩ hd) fun _ => .int i
theorem fe_gstr {x : Str} {i : Str} {t : Tok} (hg : Gl X x) (hm : X.mg x = some (.str i t)) (hd : (x == ("__debug__" : Str)) = false := by decide) : PE X (.Name x pos) (tE X.K π W (cst (.str i))) := fe_cst (pe_glob (v := .str i) hg hm ⟨t, rfl⟩ hd) fun _ => .str i
/-- a module's tuple -/
theorem fe_gtup {x : Str} {a : Addr} {xs : List V} {ds : List D} (hg : Gl X x) (hm : X.mg x = some (.ref a)) (hs : ∀ F, SqT X.K F a xs) (hr : ∀ F, Reps X.K F xs ds) (hd : (x == ("__debug__" : Str)) = false := by decide) : PE X (.Name x pos) (tE X.K π W (cst (.tup ds))) :=
  fe_cst (pe_glob (v := .ref a) hg hm rfl hd) fun F => .tup (hs F) (hr F)
/-- a module's def -/
theorem fe_gfn {x : Str} {f : Addr} (hg : Gl X x) (hm : X.mg x = some (.ref f)) (hd : (x == ("__debug__" : Str)) = false := by decide) : PE X (.Name x pos) (tE X.K π W (cst (.fn f))) := fe_cst (pe_glob (v := .ref f) hg hm rfl hd) fun _ => .fn f

/-! ### operators -/
def op1 (o : D → Option D) (f : EF) : EF := fun ρ => (f ρ).bind fun x ρ => R.of (o x) ρ
def op2 (o : D → D → Option D) (f g : EF) : EF := fun ρ => (f ρ).bind fun x ρ => (g ρ).bind fun y ρ => R.of (o x y) ρ
def Op1 (K : PySem.W.Frag) (o : D → Option D) (r : V → Hp → VK → Prop) : Prop := ∀ {F H : Hp} {x : V} {dx d : D} {Q : VK}, Same F H → Rep K F x dx → o dx = some d → (∀ v F' H', Grw F H F' H' → Rep K F' v d → Q v H') → r x H Q
def Op2 (K : PySem.W.Frag) (o : D → D → Option D) (r : R2) : Prop := ∀ {F H : Hp} {x y : V} {dx dy d : D} {Q : VK}, Same F H → Rep K F x dx → Rep K F y dy → o dx dy = some d → (∀ v F' H', Grw F H F' H' → Rep K F' v d → Q v H') → r x y H Q
section
variable {K : PySem.W.Frag} {r r' : R2} {o o' : D → D → Option D} {f g h : EF}
theorem Op2.orL (q : Op2 K o r) : Op2 K o (fun x y H Q => r x y H Q ∨ r' x y H Q) := fun s a b e k => .inl (q s a b e k)
theorem Op2.orR (q : Op2 K o r') : Op2 K o (fun x y H Q => r x y H Q ∨ r' x y H Q) := fun s a b e k => .inr (q s a b e k)
/-- the reading of two operands and an operation -/
theorem rd_op2 {σ : L2.St} {H : Hp} {Q : VK} (q : Op2 K o r) (t : tE K π W (op2 o f g) σ H Q) : tOp r (tE K π W f) (tE K π W g) σ H Q := by
  obtain ⟨c, F, ρ, S, P⟩ := t
  refine po_bind S P fun x F1 H1 ρ1 dx s1 S1 r1 P1 => ?_
  refine po_bind S1 P1 fun y F2 H2 ρ2 dy s2 S2 r2 P2 => ?_
  obtain ⟨d, e, P3⟩ := po_of P2
  exact q S2.f (Rep.mono s2 r1) r2 e fun v F3 H3 gr rv => P3 v F3 H3 gr.f (S2.grow gr) rv
theorem rd_op1 {ru : V → Hp → VK → Prop} {o : D → Option D} {σ : L2.St} {H : Hp} {Q : VK} (q : Op1 K o ru) (t : tE K π W (op1 o f) σ H Q) : tUn ru (tE K π W f) σ H Q := by
  obtain ⟨c, F, ρ, S, P⟩ := t
  refine po_bind S P fun x F1 H1 ρ1 dx s1 S1 r1 P1 => ?_
  obtain ⟨d, e, P3⟩ := po_of P1
  exact q S1.f r1 e fun v F3 H3 gr rv => P3 v F3 H3 gr.f (S1.grow gr) rv
end
theorem fe_bin {op : Operator} {r : R2} {o : D → D → Option D} {f g : EF} (ho : OpR X (binaryOp op) r) (q : Op2 X.K o r) (ha : PE X a (tE X.K π W f)) (hb : PE X b (tE X.K π W g)) : PE X (.BinOp a op b pos) (tE X.K π W (op2 o f g)) :=
  PE.imp (pe_op ho ha hb) fun _ _ _ => rd_op2 q
theorem fe_un {op : UnaryOp} {r : V → Hp → VK → Prop} {o : D → Option D} {f : EF} (ho : UnR X (unaryOp op) r) (q : Op1 X.K o r) (ha : PE X a (tE X.K π W f)) : PE X (.UnaryOp op a pos) (tE X.K π W (op1 o f)) :=
  PE.imp (pe_un ho ha) fun _ _ _ => rd_op1 q
theorem fe_cmp {op : CmpOp} {r : R2} {o : D → D → Option D} {f g : EF} (ho : OpR X (compareOp op) r) (q : Op2 X.K o r) (ha : PE X a (tE X.K π W f)) (hb : PE X b (tE X.K π W g)) (hm : behindInMarks op b = false) : PE X (.Compare a [op] [b] pos) (tE X.K π W (op2 o f g)) :=
  PE.imp (pe_cmpR ho ha hb hm) fun _ _ _ => rd_op2 q
def tst (f : EF) : TF := fun ρ => (f ρ).bind fun x ρ => R.of (match x with | .bl b => some b | _ => none) ρ
theorem rd_tst {K : PySem.W.Frag} {f : EF} {σ : L2.St} {H : Hp} {Q : Bool → Hp → Prop} (t : tT K π W (tst f) σ H Q) : (tE K π W f) σ H fun x H1 => ∃ k, x = .bl k ∧ Q k H1 := by
  obtain ⟨c, F, ρ, S, P⟩ := t
  refine po_bind S P fun x F1 H1 ρ1 dx s1 S1 r1 P1 => ?_
  obtain ⟨d, e, P3⟩ := po_of P1
  cases r1 with
  | bl b =>
    cases e
    exact ⟨_, rfl, P3 _ F1 H1 (Same.refl _) S1 rfl⟩
  | _ => cases e
theorem ft_cmp {op : CmpOp} {r : R2} {o : D → D → Option D} {f g : EF} (ho : OpR X (compareOp op) r) (q : Op2 X.K o r) (ha : PE X a (tE X.K π W f)) (hb : PE X b (tE X.K π W g)) (hm : behindInMarks op b = false) : PT X (.Compare a [op] [b] pos) (tT X.K π W (tst (op2 o f g))) :=
  PT.imp (pt_cmpR ho ha hb hm) fun σ H Q t => by
    obtain ⟨c, F, ρ, S, P⟩ := t
    exact rd_op2 (π := π) (W := W) q (rd_tst ⟨c, F, ρ, S, P⟩)
/-- a chain of two comparisons -/
def chn (o o' : D → D → Option D) (f g h : EF) : EF := fun ρ => (f ρ).bind fun x ρ => (g ρ).bind fun y ρ => (R.of (o x y) ρ).bind fun z ρ => match z with
  | .bl true => (h ρ).bind fun w ρ => R.of (o' y w) ρ
  | .bl false => .ok (.bl false) ρ
  | _ => .stuck
theorem rd_chn {K : PySem.W.Frag} {r r' : R2} {o o' : D → D → Option D} {f g h : EF} {σ : L2.St} {H : Hp} {Q : VK} (q : Op2 K o r) (q' : Op2 K o' r') (t : tE K π W (chn o o' f g h) σ H Q) : tChain r r' (tE K π W f) (tE K π W g) (tE K π W h) σ H Q := by
  obtain ⟨c, F, ρ, S, P⟩ := t
  refine po_bind S P fun x F1 H1 ρ1 dx s1 S1 r1 P1 => ?_
  refine po_bind S1 P1 fun y F2 H2 ρ2 dy s2 S2 r2 P2 => ?_
  cases ed : o dx dy with
  | none =>
    rw [ed] at P2
    exact P2.elim
  | some d =>
    rw [ed] at P2
    refine q S2.f (Rep.mono s2 r1) r2 ed fun v F3 H3 gr rv => ?_
    have S3 := S2.grow gr
    cases rv with
    | bl b =>
      cases b with
      | true =>
        refine ⟨true, rfl, ?_⟩
        show (if true = true then _ else _)
        rw [if_pos rfl]
        have P3 : Po K π W (relE K) c F2 σ Q ((h ρ2).bind fun w ρ => R.of (o' dy w) ρ) := P2
        refine po_bind S3 (P3.mono gr.f) fun w F4 H4 ρ4 dw s4 S4 r4 P4 => ?_
        obtain ⟨d', e', P5⟩ := po_of P4
        exact q' S4.f (Rep.mono s4 (Rep.mono gr.f r2)) r4 e' fun v F5 H5 gr' rv => P5 v F5 H5 gr'.f (S4.grow gr') rv
      | false =>
        refine ⟨false, rfl, ?_⟩
        show (if false = true then _ else _)
        rw [if_neg Bool.false_ne_true]
        exact P2 (.bl false) F3 H3 gr.f S3 (.bl false)
    | _ => exact P2.elim
theorem fe_chn {op op' : CmpOp} {r r' : R2} {o o' : D → D → Option D} {f g h : EF} (ho : OpR X (compareOp op) r) (ho' : OpR X (compareOp op') r') (q : Op2 X.K o r) (q' : Op2 X.K o' r') (ha : PE X a (tE X.K π W f)) (hb : PE X b (tE X.K π W g)) (hd : PE X d (tE X.K π W h)) (hm : lastMarks [op, op'] [b, d] = false) :
    PE X (.Compare a [op, op'] [b, d] pos) (tE X.K π W (chn o o' f g h)) := PE.imp (pe_chain ho ho' ha hb hd (hm := hm)) fun _ _ _ => rd_chn q q'
theorem ft_chn {op op' : CmpOp} {r r' : R2} {o o' : D → D → Option D} {f g h : EF} (ho : OpR X (compareOp op) r) (ho' : OpR X (compareOp op') r') (q : Op2 X.K o r) (q' : Op2 X.K o' r') (ha : PE X a (tE X.K π W f)) (hb : PE X b (tE X.K π W g)) (hd : PE X d (tE X.K π W h)) (hm : lastMarks [op, op'] [b, d] = false) :
    PT X (.Compare a [op, op'] [b, d] pos) (tT X.K π W (tst (chn o o' f g h))) := PT.imp (pt_chain ho ho' ha hb hd (hm := hm)) fun σ H Q t => by
  obtain ⟨c, F, ρ, S, P⟩ := t
  exact rd_chn (π := π) (W := W) q q' (rd_tst ⟨c, F, ρ, S, P⟩)

/-! ### and, or, not, if -/
def anT (f g : TF) : TF := fun ρ => (f ρ).bind fun b ρ => if b = true then g ρ else .ok false ρ
def orT (f g : TF) : TF := fun ρ => (f ρ).bind fun b ρ => if b = true then .ok true ρ else g ρ
def noT (f : TF) : TF := fun ρ => (f ρ).bind fun b ρ => .ok (!b) ρ
def blE (f : TF) : EF := fun ρ => (f ρ).bind fun b ρ => .ok (.bl b) ρ
def ifE (t : TF) (f g : EF) : EF := fun ρ => (t ρ).bind fun b ρ => if b = true then f ρ else g ρ
def anE (f g : EF) : EF := fun ρ => (tst f ρ).bind fun b ρ => if b = true then g ρ else .ok (.bl false) ρ
def orE (f g : EF) : EF := fun ρ => (tst f ρ).bind fun b ρ => if b = true then .ok (.bl true) ρ else g ρ
section
variable {f g : TF} {rest : List Expr}
theorem fw_and (ha : PT X a (tT X.K π W f)) (hb : PW X (.BoolOp .And (b :: rest) pos) (tT X.K π W g)) : PW X (.BoolOp .And (a :: b :: rest) pos) (tT X.K π W (anT f g)) :=
  PW.imp (pw_and ha hb) fun σ H Q ⟨c, F, ρ, S, P⟩ => by
    refine po_bind S P fun b' F1 H1 ρ1 b1 s1 S1 r1 P1 => ?_
    cases r1
    cases b' with
    | true =>
      rw [if_pos rfl] at P1 ⊢
      exact ⟨c, F1, ρ1, S1, P1⟩
    | false =>
      rw [if_neg Bool.false_ne_true] at P1 ⊢
      exact P1 false F1 H1 (Same.refl _) S1 rfl
theorem fw_or (ha : PT X a (tT X.K π W f)) (hb : PW X (.BoolOp .Or (b :: rest) pos) (tT X.K π W g)) : PW X (.BoolOp .Or (a :: b :: rest) pos) (tT X.K π W (orT f g)) :=
  PW.imp (pw_or ha hb) fun σ H Q ⟨c, F, ρ, S, P⟩ => by
    refine po_bind S P fun b' F1 H1 ρ1 b1 s1 S1 r1 P1 => ?_
    cases r1
    cases b' with
    | true =>
      rw [if_pos rfl] at P1 ⊢
      exact P1 true F1 H1 (Same.refl _) S1 rfl
    | false =>
      rw [if_neg Bool.false_ne_true] at P1 ⊢
      exact ⟨c, F1, ρ1, S1, P1⟩
theorem ft_not (ha : PT X a (tT X.K π W f)) : PT X (.UnaryOp .Not a pos) (tT X.K π W (noT f)) :=
  PT.imp (pt_not ha) fun σ H Q ⟨c, F, ρ, S, P⟩ => by
    refine po_bind S P fun b' F1 H1 ρ1 b1 s1 S1 r1 P1 => ?_
    cases r1
    exact P1 (!b') F1 H1 (Same.refl _) S1 rfl
theorem ft_val {f : EF} (h : PE X e (tE X.K π W f)) (he : ∀ whole, isTrue e X.env whole = (do let v ← whole; standAt e.pos; holding [v] (truthy v)) := by intro _; rfl) : PT X e (tT X.K π W (tst f)) :=
  PT.imp (pt_val h he) fun _ _ _ => rd_tst
theorem fe_not {f : EF} (ha : PE X a (tE X.K π W f)) : PE X (.UnaryOp .Not a pos) (tE X.K π W (blE (noT (tst f)))) :=
  PE.imp (pe_not ha) fun σ H Q ⟨c, F, ρ, S, P⟩ => by
    refine rd_tst (Q := fun k H1 => Q (.bl (!k)) H1) ⟨c, F, ρ, S, ?_⟩
    unfold blE noT at P
    cases ef : tst f ρ with
    | ok b' ρ1 =>
      rw [ef] at P
      have P : Po X.K π W (relE X.K) c F σ Q (.ok (.bl (!b')) ρ1) := P
      exact fun v F1 H1 s1 S1 r1 => by
        cases r1
        exact P _ F1 H1 s1 S1 (.bl _)
    | exc C fs ρ1 => rw [ef] at P; exact P
    | stuck => rw [ef] at P; exact P
theorem fe_and {f g : EF} (ha : PE X a (tE X.K π W f)) (hb : PE X (.BoolOp .And (b :: rest) pos) (tE X.K π W g)) : PE X (.BoolOp .And (a :: b :: rest) pos) (tE X.K π W (anE f g)) :=
  PE.imp (pe_and ha hb) fun σ H Q ⟨c, F, ρ, S, P⟩ => by
    have z : tT X.K π W (tst f) σ H fun k H1 => if k = true then (tE X.K π W g) σ H1 Q else Q (.bl false) H1 := by
      refine po_bind S P fun b' F1 H1 ρ1 b1 s1 S1 r1 P1 => ?_
      cases r1
      cases b' with
      | true =>
        rw [if_pos rfl] at P1 ⊢
        exact ⟨c, F1, ρ1, S1, P1⟩
      | false =>
        rw [if_neg Bool.false_ne_true] at P1 ⊢
        exact P1 _ F1 H1 (Same.refl _) S1 (.bl false)
    exact rd_tst z
theorem fe_or {f g : EF} (ha : PE X a (tE X.K π W f)) (hb : PE X (.BoolOp .Or (b :: rest) pos) (tE X.K π W g)) : PE X (.BoolOp .Or (a :: b :: rest) pos) (tE X.K π W (orE f g)) :=
  PE.imp (pe_or ha hb) fun σ H Q ⟨c, F, ρ, S, P⟩ => by
    have z : tT X.K π W (tst f) σ H fun k H1 => if k = true then Q (.bl true) H1 else (tE X.K π W g) σ H1 Q := by
      refine po_bind S P fun b' F1 H1 ρ1 b1 s1 S1 r1 P1 => ?_
      cases r1
      cases b' with
      | true =>
        rw [if_pos rfl] at P1 ⊢
        exact P1 _ F1 H1 (Same.refl _) S1 (.bl true)
      | false =>
        rw [if_neg Bool.false_ne_true] at P1 ⊢
        exact ⟨c, F1, ρ1, S1, P1⟩
    exact rd_tst z
theorem fe_if {t : TF} {f g : EF} (hc : PT X d (tT X.K π W t)) (ha : PE X a (tE X.K π W f)) (hb : PE X b (tE X.K π W g)) : PE X (.IfExp d a b pos) (tE X.K π W (ifE t f g)) :=
  PE.imp (pe_ifExp hc ha hb) fun σ H Q ⟨c, F, ρ, S, P⟩ => by
    refine po_bind S P fun b' F1 H1 ρ1 b1 s1 S1 r1 P1 => ?_
    cases r1
    cases b' with
    | true =>
      rw [if_pos rfl] at P1 ⊢
      exact ⟨c, F1, ρ1, S1, P1⟩
    | false =>
      rw [if_neg Bool.false_ne_true] at P1 ⊢
      exact ⟨c, F1, ρ1, S1, P1⟩
/-- truth of any value -/
def truD : D → Option Bool
  | .non => some false
  | .bl b => some b
  | .int i => some (i != 0)
  | .str x => if x.length ≤ 100000 then some (x.length != 0) else none
  | .tup xs => some (!xs.isEmpty)
  | .lst xs => some (!xs.isEmpty)
  | _ => none
def tru (f : EF) : TF := fun ρ => (f ρ).bind fun x ρ => R.of (truD x) ρ
theorem le_line {n : Nat} (h : n ≤ 100000) : n ≤ sizeLine := Nat.le_trans h (by decide)
theorem lt_line {n : Nat} (h : n ≤ 100000) : n < sizeLine := Nat.lt_of_le_of_lt h (by decide)
end

/-! ### argument lists, displays -/
def nilA : Rho → R (List D) := fun ρ => .ok [] ρ
def cnsA (f : EF) (g : Rho → R (List D)) : Rho → R (List D) := fun ρ => (f ρ).bind fun x ρ => (g ρ).bind fun xs ρ => .ok (x :: xs) ρ
theorem fa_nil : PA X [] (tA X.K π W nilA) := PA.imp pa_nil fun σ H Q ⟨c, F, ρ, S, P⟩ => P [] F H (Same.refl _) S .nil
theorem fa_cons {f : EF} {g : Rho → R (List D)} (ha : PE X e (tE X.K π W f)) (hr : PA X es (tA X.K π W g)) (hs : starEach (e :: es) X.env = (false, eval e X.env) :: starEach es X.env := by rfl) : PA X (e :: es) (tA X.K π W (cnsA f g)) :=
  PA.imp (pa_cons ha hr hs) fun σ H Q ⟨c, F, ρ, S, P⟩ => by
    refine po_bind S P fun x F1 H1 ρ1 dx s1 S1 r1 P1 => ?_
    refine po_bind S1 P1 fun xs F2 H2 ρ2 ds s2 S2 r2 P2 => ?_
    exact P2 (x :: xs) F2 H2 (Same.refl _) S2 (.cons (Rep.mono s2 r1) r2)
def small (n : Nat) : Bool := decide (n ≤ 100000)
theorem small_le {n : Nat} (h : small n = true) : n ≤ 100000 := of_decide_eq_true h
def dTup (g : Rho → R (List D)) : EF := fun ρ => (g ρ).bind fun xs ρ => if small xs.length = true then .ok (.tup xs) ρ else .stuck
def dLst (g : Rho → R (List D)) : Rho → R M := fun ρ => (g ρ).bind fun xs ρ => if small xs.length = true then .ok (.lst xs) ρ else .stuck
theorem fe_tup {x1} {g : Rho → R (List D)} (h : PA X es (tA X.K π W g)) : PE X (.Tuple es x1 pos) (tE X.K π W (dTup g)) :=
  PE.imp (pe_tup h) fun σ H Q ⟨c, F, ρ, S, P⟩ => by
    refine po_bind S P fun xs F1 H1 ρ1 ds s1 S1 r1 P1 => ?_
    split at P1
    · rename_i hz
      have hl : xs.length ≤ 100000 := by rw [Reps.length r1]; exact small_le hz
      refine ⟨le_line hl, fun p hp => ?_⟩
      have gr := Grw.newF (o := .tup xs) S1.f hp
      exact P1 _ _ _ gr.f (S1.grow gr) (.tup (SqT.of upd_same) (Reps.mono gr.f r1))
    · exact P1.elim
theorem Sta.fresh {K : PySem.W.Frag} {c : Cfg} {F H : Hp} {σ : L2.St} {ρ : Rho} (S : Sta K π c F H σ ρ) {q : Addr} (h : H q = none) : F q = none ∧ c.H0 q = none ∧ ∀ j, ¬ OwnAt σ ρ j q := by
  refine ⟨Same.free S.f h, ?_, fun j hj => ?_⟩
  · cases e : c.H0 q with
    | none => rfl
    | some o =>
      obtain ⟨o', e'⟩ := S.any e
      rw [h] at e'
      cases e'
  · obtain ⟨o, e⟩ := (S.ownAt hj).2.2
    rw [h] at e
    cases e
theorem fm_lst {g : Rho → R (List D)} (h : PA X es (tA X.K π W g)) : PE X (.List es pos) (tM X.K π W (dLst g)) :=
  PE.imp (pe_lst h) fun σ H Q ⟨c, F, ρ, S, P⟩ => by
    refine po_bind S P fun xs F1 H1 ρ1 ds s1 S1 r1 P1 => ?_
    split at P1
    · rename_i hz
      have hl : xs.length ≤ 100000 := by rw [Reps.length r1]; exact small_le hz
      refine ⟨le_line hl, fun p hp => ?_⟩
      have gr := Grw.newO (o := .lst xs) S1.f hp
      obtain ⟨f1, f2, f3⟩ := S1.fresh hp
      exact P1 _ _ _ gr.f (S1.grow gr) ⟨p, rfl, f1, f2, f3, xs, upd_same, r1⟩
    · exact P1.elim
/-- a new list, as data -/
def frz (f : Rho → R M) : EF := fun ρ => (f ρ).bind fun m ρ => match m with
  | .lst ds => .ok (.lst ds) ρ
  | .ins _ _ => .stuck
theorem fe_frz {f : Rho → R M} (h : PE X e (tM X.K π W f)) : PE X e (tE X.K π W (frz f)) :=
  PE.imp h fun σ H Q ⟨c, F, ρ, S, P⟩ => by
    refine po_bind S P fun v F1 H1 ρ1 m s1 S1 r1 P1 => ?_
    obtain ⟨p, rfl, f1, f2, f3, hm⟩ := r1
    cases m with
    | ins C fs => exact P1.elim
    | lst ds =>
      obtain ⟨vs, ho, r⟩ := hm
      have sm : Same F1 (upd F1 p (.lst vs)) := sm_new f1
      refine P1 (.ref p) (upd F1 p (.lst vs)) H1 sm ?_ (.lst upd_same (Reps.mono sm r))
      refine ⟨S1.h0, S1.hio, S1.f0.trans sm, fun a u q => ?_, fun q o e n => ?_, S1.len, fun i s hs => ?_, S1.dis, ⟨S1.t.tb, S1.t.tk, S1.t.nt.upd (by intro ps z; cases z)⟩⟩
      · by_cases z : a = p
        · subst z
          rw [upd_same] at q
          cases q
          exact ho
        · rw [upd_ne z] at q
          exact S1.f _ _ q
      · rw [upd_ne (fun z => by subst z; rw [f2] at e; cases e)]
        exact S1.nf q o e n
      · have z := S1.rep i s hs
        cases s with
        | no => trivial
        | val d => obtain ⟨w, e1, q⟩ := z; exact ⟨w, e1, q.mono sm⟩
        | own m' =>
          obtain ⟨q, e1, e2, e3, q1⟩ := z
          have nq : q ≠ p := fun w => by subst w; exact f3 i ⟨e1, m', .inl hs⟩
          exact ⟨q, e1, by rw [upd_ne nq]; exact e2, e3, q1.mono sm fun _ hu => hu⟩
        | io m' =>
          obtain ⟨e1, e2, e3, q1⟩ := z
          have nq : π i ≠ p := fun w => by rw [w] at e1; exact f3 i ⟨e1, m', .inr hs⟩
          exact ⟨e1, by rw [upd_ne nq]; exact e2, e3, q1.mono sm fun _ hu => hu⟩
end
end
end FL
/-! FL3: operations on data. -/
namespace FL
open PySem PySem.Spec PyProof.Rows L2

/-! ### data as the library's data -/
mutual
def toP : D → PyData
  | .non => .none
  | .bl b => .bool b
  | .int i => .int i
  | .str x => .str x
  | .tup xs => .tuple (toPs xs)
  | .lst xs => .list (toPs xs)
  | .scr _ => .none
  | .fn _ => .none
  | .dct _ => .none
  | .exc _ _ => .none
def toPs : List D → List PyData
  | [] => []
  | x :: xs => toP x :: toPs xs
end
theorem toPs_eq : ∀ xs : List D, toPs xs = xs.map toP
  | [] => rfl
  | x :: xs => by rw [toPs, toPs_eq xs, List.map_cons]
/-- plain data, at most n deep -/
def shp : Nat → D → Bool
  | _, .non => true
  | _, .bl _ => true
  | _, .int _ => true
  | _, .str x => PyData.strOk x
  | n + 1, .tup xs => xs.all (shp n)
  | n + 1, .lst xs => xs.all (shp n)
  | _, _ => false
theorem shp_all {n : Nat} : ∀ {xs : List D}, (∀ x, shp n x = true → (toP x).canLay0 = true ∧ (toP x).depth ≤ n) → xs.all (shp n) = true → PyData.canLayAll0 (toPs xs) = true ∧ PyData.depthAll (toPs xs) ≤ n
  | [], _, _ => ⟨by simp [toPs, PyData.canLayAll0], by simp [toPs, PyData.depthAll]⟩
  | x :: xs, h, e => by
    rw [List.all_cons, Bool.and_eq_true] at e
    obtain ⟨h1, h2⟩ := h x e.1
    obtain ⟨h3, h4⟩ := shp_all (n := n) h e.2
    simp only [toPs, PyData.canLayAll0, PyData.depthAll, h1, h3, Bool.and_self, true_and]
    omega
theorem shp_ok : ∀ (n : Nat) (d : D), shp n d = true → (toP d).canLay0 = true ∧ (toP d).depth ≤ n
  | n, .non, _ => ⟨by simp [toP, PyData.canLay0], by simp [toP, PyData.depth]⟩
  | n, .bl _, _ => ⟨by simp [toP, PyData.canLay0], by simp [toP, PyData.depth]⟩
  | n, .int _, _ => ⟨by simp [toP, PyData.canLay0], by simp [toP, PyData.depth]⟩
  | n, .str x, h => ⟨by simpa [toP, PyData.canLay0, shp] using h, by simp [toP, PyData.depth]⟩
  | n + 1, .tup xs, h => by
    obtain ⟨h1, h2⟩ := shp_all (n := n) (shp_ok n) (by simpa [shp] using h)
    simp only [toP, PyData.canLay0, PyData.depth, h1, true_and]
    omega
  | n + 1, .lst xs, h => by
    obtain ⟨h1, h2⟩ := shp_all (n := n) (shp_ok n) (by simpa [shp] using h)
    simp only [toP, PyData.canLay0, PyData.depth, h1, true_and]
    omega
  | 0, .tup xs, h => by simp [shp] at h
  | 0, .lst xs, h => by simp [shp] at h
  | n, .scr _, h => by cases n <;> simp [shp] at h
  | n, .fn _, h => by cases n <;> simp [shp] at h
  | n, .dct _, h => by cases n <;> simp [shp] at h
  | n, .exc _ _, h => by cases n <;> simp [shp] at h
section
variable {K : PySem.W.Frag} {F H : Hp}
theorem dpAll_of {n : Nat} (h : ∀ v d, shp n d = true → Rep K F v d → Dp K H v (toP d)) : ∀ {vs : List V} {ds : List D}, ds.all (shp n) = true → Reps K F vs ds → DpAll K H vs (toPs ds)
  | _, _, _, .nil => by rw [toPs]; exact .nil
  | _, _, e, .cons r rs => by
    rw [List.all_cons, Bool.and_eq_true] at e
    rw [toPs]
    exact .cons (h _ _ e.1 r) (dpAll_of h e.2 rs)
theorem dp_of (s : Same F H) : ∀ (n : Nat) (v : V) (d : D), shp n d = true → Rep K F v d → Dp K H v (toP d)
  | n, _, .non, _, .non => by rw [toP]; exact .non
  | n, _, .bl _, _, .bl _ => by rw [toP]; exact .bl _
  | n, _, .int _, _, .int _ => by rw [toP]; exact .int _
  | n, _, .str _, _, .str _ => by rw [toP]; exact .str _
  | n + 1, _, .tup xs, h, .tup q r => by rw [toP]; exact .tup (sm_tup s q) (dpAll_of (dp_of s n) (by simpa [shp] using h) r)
  | n + 1, _, .lst xs, h, .lst q r => by rw [toP]; exact .lst (SqL.of (s _ _ q)) (dpAll_of (dp_of s n) (by simpa [shp] using h) r)
  | 0, _, .tup xs, h, _ => by simp [shp] at h
  | 0, _, .lst xs, h, _ => by simp [shp] at h
  | n, _, .scr _, h, _ => by cases n <;> simp [shp] at h
  | n, _, .fn _, h, _ => by cases n <;> simp [shp] at h
  | n, _, .dct _, h, _ => by cases n <;> simp [shp] at h
  | n, _, .exc _ _, h, _ => by cases n <;> simp [shp] at h
end
theorem shaped_of {d : D} (h : shp 8 d = true) : SeqAt.shaped (toP d) = true := by
  obtain ⟨h1, h2⟩ := shp_ok 8 d h
  unfold SeqAt.shaped
  rw [h1, Bool.true_and]
  exact decide_eq_true (by omega)
def eqd (x y : D) : Bool := PyData.eqv (toP x) (toP y)
def eqds (xs ys : List D) : Bool := PyData.eqvAll (toPs xs) (toPs ys)
def eqD (x y : D) : Option D := if shp 8 x = true ∧ shp 8 y = true then some (.bl (eqd x y)) else none
def neD (x y : D) : Option D := if shp 8 x = true ∧ shp 8 y = true then some (.bl (!eqd x y)) else none

/-! ### arithmetic -/
def addD : D → D → Option D
  | .int a, .int b => some (.int (a + b))
  | .str a, .str b => if small (a.length + b.length) = true then some (.str (a ++ b)) else none
  | .lst xs, .lst ys => if small (xs.length + ys.length) = true then some (.lst (xs ++ ys)) else none
  | .tup xs, .tup ys => if small (xs.length + ys.length) = true then some (.tup (xs ++ ys)) else none
  | _, _ => none
def subD : D → D → Option D
  | .int a, .int b => some (.int (a - b))
  | _, _ => none
def mulOk (a b : Int) : Bool := decide (a.natAbs < 2 ^ 64) || decide (b.natAbs < 2 ^ 64) || decide (a.natAbs.log2 + b.natAbs.log2 < 1000000)
def mulD : D → D → Option D
  | .int a, .int b => if mulOk a b = true then some (.int (a * b)) else none
  | .lst xs, .int k => if 0 ≤ k ∧ k ≤ 100000 ∧ xs.length * k.toNat ≤ 100000 then some (.lst (List.replicate k.toNat xs).flatten) else none
  | .tup xs, .int k => if 2 ≤ k ∧ k ≤ 1000 ∧ xs.length ≤ 1000 ∧ xs ≠ [] then some (.tup (List.replicate k.toNat xs).flatten) else none
  | _, _ => none
def fdivD : D → D → Option D
  | .int a, .int b => if (b ≠ 0 ∧ b.natAbs < 1073741824) ∨ (b ≠ 0 ∧ b.natAbs.log2 < 9000) then some (.int (a.fdiv b)) else none
  | _, _ => none
def modD : D → D → Option D
  | .int a, .int b => if b ≠ 0 then some (.int (a.fmod b)) else none
  | _, _ => none
def powD : D → D → Option D
  | .int a, .int b => if 0 ≤ b ∧ b ≤ 1000000 ∧ a.natAbs < 2 ^ 64 then some (.int (a ^ b.toNat)) else none
  | _, _ => none
def negD : D → Option D
  | .int a => some (.int (-a))
  | _ => none
def cmpD (p : Int → Int → Bool) : D → D → Option D
  | .int a, .int b => some (.bl (p a b))
  | _, _ => none
def ltD := cmpD fun a b => decide (a < b)
def leD := cmpD fun a b => decide (a ≤ b)
def gtD := cmpD fun a b => decide (b < a)
def geD := cmpD fun a b => decide (b ≤ a)
def isNon : D → Bool
  | .non => true
  | _ => false
def isD : D → D → Option D
  | x, .non => some (.bl (isNon x))
  | .bl a, .bl b => some (.bl (decide (a = b)))
  | _, _ => none
def nisD : D → D → Option D
  | x, .non => some (.bl (!isNon x))
  | .bl a, .bl b => some (.bl (!decide (a = b)))
  | _, _ => none
def flatD : D → Bool
  | .non => true
  | .bl _ => true
  | .int _ => true
  | .str _ => true
  | _ => false
def inD : D → D → Option D
  | x, .lst ys => if shp 7 x = true ∧ ys.all (shp 7) = true then some (.bl (ys.any fun y => eqd y x)) else none
  | x, .tup ys => if flatD x = true ∧ ys.all flatD = true then some (.bl (ys.any fun y => eqd y x)) else none
  | .str c, .str z => match c.cps.toList with
    | [n] => some (.bl (decide (n ∈ z.cps.toList)))
    | _ => none
  | _, _ => none
def ninD (x y : D) : Option D := match inD x y with
  | some (.bl b) => some (.bl (!b))
  | _ => none

section
variable [FE]
variable {X : Cx} {K : PySem.W.Frag}
theorem Rep.inv_int {F : Hp} {v : V} {i : Int} (h : Rep K F v (.int i)) : v = .int i := by cases h; rfl
theorem q_add : Op2 K addD (fun x y H Q => (rI0 fun i j => .int (i + j)) x y H Q ∨ (∃ i j, x = V.str i ∧ y = V.str j ∧ i.length + j.length ≤ sizeLine ∧ Q (.str (i ++ j)) H) ∨ rCat x y H Q ∨ rCatA K x y H Q) := by
  intro F H x y dx dy d Q s rx ry e k
  cases rx <;> cases ry <;> first | (cases e; done) | skip
  · rename_i i j
    cases e
    exact .inl ⟨i, j, rfl, rfl, k _ F H (Grw.refl s) (.int _)⟩
  · rename_i i j
    simp only [addD] at e
    split at e
    · rename_i hz
      cases e
      exact .inr (.inl ⟨i, j, rfl, rfl, le_line (small_le hz), k _ F H (Grw.refl s) (.str _)⟩)
    · cases e
  · rename_i a xs ds h1 r1 b ys es h2 r2
    simp only [addD] at e
    split at e
    · rename_i hz
      cases e
      have hl : xs.length + ys.length ≤ 100000 := by rw [Reps.length r1, Reps.length r2]; exact small_le hz
      refine .inr (.inr (.inr ⟨a, b, xs, ys, rfl, rfl, sm_tup s h1, sm_tup s h2, le_line hl, fun z => ?_, fun z1 z2 => ?_, fun z1 z2 p hp => ?_⟩))
      · subst z
        cases r1
        exact k _ F H (Grw.refl s) (.tup h2 r2)
      · subst z2
        cases r2
        rw [List.append_nil] at *
        exact k _ F H (Grw.refl s) (.tup h1 r1)
      · have g := Grw.newF (o := .tup (xs ++ ys)) s hp
        exact k _ _ _ g (.tup (SqT.of upd_same) ((Reps.mono g.f r1).append (Reps.mono g.f r2)))
    · cases e
  · rename_i a xs ds h1 r1 b ys es h2 r2
    simp only [addD] at e
    split at e
    · rename_i hz
      cases e
      have hl : xs.length + ys.length ≤ 100000 := by rw [Reps.length r1, Reps.length r2]; exact small_le hz
      refine .inr (.inr (.inl ⟨a, b, xs, ys, rfl, rfl, s _ _ h1, s _ _ h2, le_line hl, fun p hp => ?_⟩))
      have g := Grw.newF (o := .lst (xs ++ ys)) s hp
      exact k _ _ _ g (.lst upd_same ((Reps.mono g.f r1).append (Reps.mono g.f r2)))
    · cases e
theorem o_add : OpR X (binaryOp .Add) (fun x y H Q => (rI0 fun i j => .int (i + j)) x y H Q ∨ (∃ i j, x = V.str i ∧ y = V.str j ∧ i.length + j.length ≤ sizeLine ∧ Q (.str (i ++ j)) H) ∨ rCat x y H Q ∨ rCatA X.K x y H Q) :=
  op_add.or (op_add_str.or (op_cat.or op_catA))
theorem q_sub : Op2 K subD (rI0 fun i j => .int (i - j)) := by
  intro F H x y dx dy d Q s rx ry e k
  cases rx <;> cases ry <;> first | (cases e; done) | skip
  rename_i i j
  cases e
  exact ⟨i, j, rfl, rfl, k _ F H (Grw.refl s) (.int _)⟩
theorem Reps.rep {F : Hp} {vs : List V} {ds : List D} (r : Reps K F vs ds) : ∀ n : Nat, Reps K F (List.replicate n vs).flatten (List.replicate n ds).flatten
  | 0 => .nil
  | n + 1 => by
    rw [List.replicate_succ, List.replicate_succ, List.flatten_cons, List.flatten_cons]
    exact r.append (Reps.rep r n)
theorem q_mul : Op2 K mulD (fun x y H Q => (rI CMul fun i j => .int (i * j)) x y H Q ∨ (rI CMulW fun i j => .int (i * j)) x y H Q ∨ rRep x y H Q ∨ rRepT K x y H Q) := by
  intro F H x y dx dy d Q s rx ry e k
  cases rx <;> cases ry <;> first | (cases e; done) | skip
  · rename_i i j
    simp only [mulD] at e
    split at e
    · rename_i hz
      cases e
      have q := k _ F H (Grw.refl s) (.int (i * j))
      unfold mulOk at hz
      rw [Bool.or_eq_true, Bool.or_eq_true, decide_eq_true_eq, decide_eq_true_eq, decide_eq_true_eq] at hz
      rcases hz with (hz | hz) | hz
      · exact .inl ⟨i, j, rfl, rfl, .inl (by omega), q⟩
      · exact .inl ⟨i, j, rfl, rfl, .inr (by omega), q⟩
      · exact .inr (.inl ⟨i, j, rfl, rfl, hz, q⟩)
    · cases e
  · rename_i a xs ds h1 r1 j
    simp only [mulD] at e
    split at e
    · rename_i hz
      cases e
      obtain ⟨z1, z2, z3, z4⟩ := hz
      refine .inr (.inr (.inr ⟨a, j, xs, rfl, rfl, sm_tup s h1, fun z => ?_, z1, z2, by rw [Reps.length r1]; exact z3, fun p hp => ?_⟩))
      · subst z
        cases r1
        exact z4 rfl
      · have g := Grw.newF (o := .tup (List.replicate j.toNat xs).flatten) s hp
        exact k _ _ _ g (.tup (SqT.of upd_same) ((Reps.mono g.f r1).rep _))
    · cases e
  · rename_i a xs ds h1 r1 j
    simp only [mulD] at e
    split at e
    · rename_i hz
      cases e
      obtain ⟨z1, z2, z3⟩ := hz
      refine .inr (.inr (.inl ⟨a, j, xs, rfl, rfl, s _ _ h1, by omega, by omega, le_line (by rw [Reps.length r1]; exact z3), fun p hp => ?_⟩))
      have g := Grw.newF (o := .lst (List.replicate j.toNat xs).flatten) s hp
      exact k _ _ _ g (.lst upd_same ((Reps.mono g.f r1).rep _))
    · cases e
theorem o_mul : OpR X (binaryOp .Mult) (fun x y H Q => (rI CMul fun i j => .int (i * j)) x y H Q ∨ (rI CMulW fun i j => .int (i * j)) x y H Q ∨ rRep x y H Q ∨ rRepT X.K x y H Q) :=
  op_mul.or (op_mulW.or (op_rep.or op_repT))
def CDivA (_ j : Int) : Prop := j ≠ 0 ∧ j.natAbs.log2 < 9000
theorem op_fdivA : OpR X (binaryOp .FloorDiv) (rI CDivA fun i j => .int (i.fdiv j)) := opI fun _ _ _ _ _ _ _ hc q => floordiv_int hc.1 q (.inl (PyProof.noPylong_of_log2 hc.2))
theorem q_fdiv : Op2 K fdivD (fun x y H Q => (rI CDivN fun i j => .int (i.fdiv j)) x y H Q ∨ (rI CDivA fun i j => .int (i.fdiv j)) x y H Q) := by
  intro F H x y dx dy d Q s rx ry e k
  cases rx <;> cases ry <;> first | (cases e; done) | skip
  rename_i i j
  simp only [fdivD] at e
  split at e
  · rename_i hz
    cases e
    have q := k _ F H (Grw.refl s) (.int (i.fdiv j))
    rcases hz with hz | hz
    · exact .inl ⟨i, j, rfl, rfl, hz, q⟩
    · exact .inr ⟨i, j, rfl, rfl, hz, q⟩
  · cases e
theorem o_fdiv : OpR X (binaryOp .FloorDiv) (fun x y H Q => (rI CDivN fun i j => .int (i.fdiv j)) x y H Q ∨ (rI CDivA fun i j => .int (i.fdiv j)) x y H Q) := op_fdivN.or op_fdivA
theorem q_mod : Op2 K modD (rI (fun _ j => j ≠ 0) fun i j => .int (i.fmod j)) := by
  intro F H x y dx dy d Q s rx ry e k
  cases rx <;> cases ry <;> first | (cases e; done) | skip
  rename_i i j
  simp only [modD] at e
  split at e
  · rename_i hz
    cases e
    exact ⟨i, j, rfl, rfl, hz, k _ F H (Grw.refl s) (.int _)⟩
  · cases e
theorem q_pow : Op2 K powD (rI CPow fun i j => .int (i ^ j.toNat)) := by
  intro F H x y dx dy d Q s rx ry e k
  cases rx <;> cases ry <;> first | (cases e; done) | skip
  rename_i i j
  simp only [powD] at e
  split at e
  · rename_i hz
    cases e
    exact ⟨i, j, rfl, rfl, hz, k _ F H (Grw.refl s) (.int _)⟩
  · cases e
theorem q_neg : Op1 K negD (rU fun i => .int (-i)) := by
  intro F H x dx d Q s rx e k
  cases rx <;> first | (cases e; done) | skip
  rename_i i
  cases e
  exact ⟨i, rfl, k _ F H (Grw.refl s) (.int _)⟩
theorem q_cmp {p : Int → Int → Bool} : Op2 K (cmpD p) (rI0 fun i j => .bl (p i j)) := by
  intro F H x y dx dy d Q s rx ry e k
  cases rx <;> cases ry <;> first | (cases e; done) | skip
  rename_i i j
  cases e
  exact ⟨i, j, rfl, rfl, k _ F H (Grw.refl s) (.bl _)⟩
theorem isNon_rep {F : Hp} {v : V} {d : D} (h : Rep K F v d) : decide (v = .non) = isNon d := by cases h <;> rfl
theorem q_is : Op2 K isD (fun x y H Q => (y = .non ∧ Q (.bl (decide (x = .non))) H) ∨ rIsB x y H Q) := by
  intro F H x y dx dy d Q s rx ry e k
  cases ry with
  | non =>
    have e : some (D.bl (isNon dx)) = some d := by cases dx <;> exact e
    cases e
    exact .inl ⟨rfl, by rw [isNon_rep rx]; exact k _ F H (Grw.refl s) (.bl _)⟩
  | bl b =>
    cases rx <;> first | (cases e; done) | skip
    rename_i a
    cases e
    exact .inr ⟨a, b, rfl, rfl, k _ F H (Grw.refl s) (.bl _)⟩
  | _ => cases rx <;> cases e
theorem o_is : OpR X (compareOp .Is) (fun x y H Q => (y = .non ∧ Q (.bl (decide (x = .non))) H) ∨ rIsB x y H Q) := op_isN.or op_isBl
theorem q_nis : Op2 K nisD (fun x y H Q => (y = .non ∧ Q (.bl (!decide (x = .non))) H) ∨ rNotB x y H Q) := by
  intro F H x y dx dy d Q s rx ry e k
  cases ry with
  | non =>
    have e : some (D.bl (!isNon dx)) = some d := by cases dx <;> exact e
    cases e
    exact .inl ⟨rfl, by rw [isNon_rep rx]; exact k _ F H (Grw.refl s) (.bl _)⟩
  | bl b =>
    cases rx <;> first | (cases e; done) | skip
    rename_i a
    cases e
    exact .inr ⟨a, b, rfl, rfl, k _ F H (Grw.refl s) (.bl _)⟩
  | _ => cases rx <;> cases e
theorem o_nis : OpR X (compareOp .IsNot) (fun x y H Q => (y = .non ∧ Q (.bl (!decide (x = .non))) H) ∨ rNotB x y H Q) := op_notN.or op_notBl
theorem q_eq : Op2 K eqD (rEqD K) := by
  intro F H x y dx dy d Q s rx ry e k
  unfold eqD at e
  split at e
  · rename_i hz
    cases e
    exact ⟨_, _, dp_of s 8 _ _ hz.1 rx, dp_of s 8 _ _ hz.2 ry, shaped_of hz.1, shaped_of hz.2, k _ F H (Grw.refl s) (.bl _)⟩
  · cases e
theorem q_ne : Op2 K neD (rNeD K) := by
  intro F H x y dx dy d Q s rx ry e k
  unfold neD at e
  split at e
  · rename_i hz
    cases e
    exact ⟨_, _, dp_of s 8 _ _ hz.1 rx, dp_of s 8 _ _ hz.2 ry, shaped_of hz.1, shaped_of hz.2, k _ F H (Grw.refl s) (.bl _)⟩
  · cases e
theorem flat_rep {F : Hp} {v : V} {d : D} (r : Rep K F v d) (h : flatD d = true) : flatV v = true := by cases r <;> first | rfl | cases h
theorem flats_rep {F : Hp} : ∀ {vs : List V} {ds : List D}, Reps K F vs ds → ds.all flatD = true → vs.all flatV = true
  | _, _, .nil, _ => rfl
  | _, _, .cons r rs, h => by
    rw [List.all_cons, Bool.and_eq_true] at h ⊢
    exact ⟨flat_rep r h.1, flats_rep rs h.2⟩
theorem eqv_rep {F : Hp} {x y : V} {dx dy : D} (r : Rep K F x dx) (q : Rep K F y dy) (h : flatD dx = true) (h' : flatD dy = true) : eqV x y = eqd dx dy := by
  cases r <;> cases q <;> first | (cases h; done) | (cases h'; done) | (simp [eqd, toP, PyData.eqv, eqV]; done) | (simp only [eqd, toP, PyData.eqv, eqV]; done) | rfl
theorem anyv_rep {F : Hp} {x : V} {dx : D} (r : Rep K F x dx) (h : flatD dx = true) : ∀ {vs : List V} {ds : List D}, Reps K F vs ds → ds.all flatD = true → (vs.any fun y => eqV y x) = ds.any fun y => eqd y dx
  | _, _, .nil, _ => rfl
  | _, _, .cons q qs, e => by
    rw [List.all_cons, Bool.and_eq_true] at e
    rw [List.any_cons, List.any_cons, eqv_rep q r e.1 h, anyv_rep r h qs e.2]
theorem any_toPs {dx : D} : ∀ ds : List D, ((toPs ds).any fun z => PyData.eqv z (toP dx)) = ds.any fun y => eqd y dx
  | [] => rfl
  | d :: ds => by
    rw [toPs, List.any_cons, List.any_cons, any_toPs ds]
    rfl
theorem shp_mono1 : ∀ (n : Nat) (d : D), shp n d = true → shp (n + 1) d = true
  | n, .non, _ => by simp [shp]
  | n, .bl _, _ => by simp [shp]
  | n, .int _, _ => by simp [shp]
  | n, .str x, h => by simpa [shp] using h
  | n + 1, .tup xs, h => by
    simp only [shp, List.all_eq_true] at h ⊢
    exact fun x hx => shp_mono1 n x (h x hx)
  | n + 1, .lst xs, h => by
    simp only [shp, List.all_eq_true] at h ⊢
    exact fun x hx => shp_mono1 n x (h x hx)
  | 0, .tup xs, h => by simp [shp] at h
  | 0, .lst xs, h => by simp [shp] at h
  | n, .scr _, h => by cases n <;> simp [shp] at h
  | n, .fn _, h => by cases n <;> simp [shp] at h
  | n, .dct _, h => by cases n <;> simp [shp] at h
  | n, .exc _ _, h => by cases n <;> simp [shp] at h
def rInA (K : PySem.W.Frag) : R2 := fun x y H Q => rInD K x y H Q ∨ rIn K false x y H Q ∨ (∃ (c : Nat) (z : Str), x = .str ⟨#[c]⟩ ∧ y = .str z ∧ Q (.bl (decide (c ∈ z.cps.toList))) H)
theorem str_one {c : Str} {n : Nat} (h : c.cps.toList = [n]) : c = ⟨#[n]⟩ := by
  obtain ⟨a⟩ := c
  congr 1
  exact Array.toList_inj.mp h
theorem in_cases {F H : Hp} {x y : V} {dx dy d : D} {Q : VK} (s : Same F H) (rx : Rep K F x dx) (ry : Rep K F y dy) (e : inD dx dy = some d) :
    ∃ b, d = .bl b ∧ (((∃ p q, Dp K H x p ∧ Dp K H y (.list q) ∧ SeqAt.shaped p = true ∧ SeqAt.shaped (.list q) = true ∧ (q.any fun z => PyData.eqv z p) = b)) ∨ (∃ p xs, y = .ref p ∧ (SqL K H p xs ∨ SqT K H p xs) ∧ flatV x = true ∧ xs.all flatV = true ∧ inV x xs = b) ∨
      (∃ (c : Nat) (z : Str), x = .str ⟨#[c]⟩ ∧ y = .str z ∧ decide (c ∈ z.cps.toList) = b)) := by
  cases ry with
  | @lst a ys ds h1 r1 =>
    have e : (if shp 7 dx = true ∧ ds.all (shp 7) = true then some (D.bl (ds.any fun y => eqd y dx)) else none) = some d := by cases dx <;> exact e
    split at e
    · rename_i hz
      cases e
      have e8 : shp 8 (.lst ds) = true := by simpa [shp] using hz.2
      refine ⟨_, rfl, .inl ⟨_, _, dp_of s 7 _ _ hz.1 rx, ?_, shaped_of (shp_mono1 7 _ hz.1), ?_, any_toPs ds⟩⟩
      · have z := dp_of s 8 _ _ e8 (Rep.lst (K := K) h1 r1)
        rw [toP] at z
        exact z
      · have z := shaped_of e8
        rw [toP] at z
        exact z
    · cases e
  | @tup a ys ds h1 r1 =>
    have e : (if flatD dx = true ∧ ds.all flatD = true then some (D.bl (ds.any fun y => eqd y dx)) else none) = some d := by cases dx <;> exact e
    split at e
    · rename_i hz
      cases e
      exact ⟨_, rfl, .inr (.inl ⟨a, ys, rfl, .inr (sm_tup s h1), flat_rep rx hz.1, flats_rep r1 hz.2, anyv_rep rx hz.1 r1 hz.2⟩)⟩
    · cases e
  | str z =>
    cases rx with
    | str c =>
      simp only [inD] at e
      split at e
      · rename_i n hn
        cases e
        exact ⟨_, rfl, .inr (.inr ⟨n, z, by rw [str_one hn], rfl, rfl⟩)⟩
      · cases e
    | _ => cases e
  | _ => cases rx <;> cases e
theorem q_in : Op2 K inD (rInA K) := by
  intro F H x y dx dy d Q s rx ry e k
  obtain ⟨b, rfl, h⟩ := in_cases (Q := Q) s rx ry e
  have q := k (.bl b) F H (Grw.refl s) (.bl b)
  rcases h with ⟨p, w, h1, h2, h3, h4, h5⟩ | ⟨p, xs, h1, h2, h3, h4, h5⟩ | ⟨c, z, h1, h2, h3⟩
  · exact .inl ⟨p, w, h1, h2, h3, h4, by rw [h5]; exact q⟩
  · refine .inr (.inl ⟨p, xs, h1, h2, h3, h4, ?_⟩)
    rw [if_neg Bool.false_ne_true, h5]
    exact q
  · exact .inr (.inr ⟨c, z, h1, h2, by rw [h3]; exact q⟩)
theorem o_in (hu : X.A.units + 65 < cLine) : OpR X (compareOp .In) (rInA X.K) := (op_inD hu).or (op_in_seq.or op_in_sign)
def rNinA (K : PySem.W.Frag) : R2 := fun x y H Q => rNotInD K x y H Q ∨ rIn K true x y H Q ∨ (∃ (c : Nat) (z : Str), x = .str ⟨#[c]⟩ ∧ y = .str z ∧ Q (.bl (!decide (c ∈ z.cps.toList))) H)
theorem q_nin : Op2 K ninD (rNinA K) := by
  intro F H x y dx dy d Q s rx ry e k
  unfold ninD at e
  split at e
  · rename_i b0 e0
    cases e
    obtain ⟨b, eb, h⟩ := in_cases (Q := Q) s rx ry e0
    cases eb
    have q := k (.bl (!b0)) F H (Grw.refl s) (.bl _)
    rcases h with ⟨p, w, h1, h2, h3, h4, h5⟩ | ⟨p, xs, h1, h2, h3, h4, h5⟩ | ⟨c, z, h1, h2, h3⟩
    · exact .inl ⟨p, w, h1, h2, h3, h4, by rw [h5]; exact q⟩
    · refine .inr (.inl ⟨p, xs, h1, h2, h3, h4, ?_⟩)
      rw [if_pos rfl, h5]
      exact q
    · exact .inr (.inr ⟨c, z, h1, h2, by rw [h3]; exact q⟩)
  · cases e
theorem o_nin (hu : X.A.units + 65 < cLine) : OpR X (compareOp .NotIn) (rNinA X.K) := (op_notInD hu).or (op_notIn_seq.or op_notIn_sign)
end
end FL
/-! FL4: subscripts, slices, built-in calls. -/
namespace FL
open PySem PySem.Spec PyProof.Rows L2

/-! ### a tuple read backwards -/
section
variable {prog : Program} {w : World} {A : Around} {E : Value → Shared → Prop} {s : Shared}
theorem applied_rev {sl : Addr} {vl vu vs : Value} {n : Nat} {Q : Int × Int × Nat → Shared → Prop} (hs : s.heap.IsSliceOf sl vl vu vs) (pl : IsPart vl none) (pu : IsPart vu none) (ps : IsPart vs (some (-1)))
    (h : Q ((n : Int) - 1, -1, n) s) : wpAny (model prog w) A (Builtin.Slice.sliceApplied (.ref sl) (pure (n : Int))) Q E s := by
  obtain ⟨os, hos, hcs, hds⟩ := id hs
  unfold Builtin.Slice.sliceApplied Builtin.Slice.sliceFields
  refine wpAny_bind (wpAny_bind (wpAny_field hos hds (x := vl) rfl (wpAny_bind (wpAny_field hos hds (x := vu) rfl (wpAny_bind (wpAny_field hos hds (x := vs) rfl (wpAny_pure ?_)))))))
  refine wpAny_bind (HT.slicePart_ ps ?_)
  show wpAny _ _ (if ((-1 : Int) == 0) = true then _ else _) _ _ s
  rw [if_neg (by decide)]
  refine wpAny_bind (HT.slicePart_ pl (wpAny_bind (HT.slicePart_ pu (wpAny_bind (wpAny_pure ?_)))))
  have ea : Builtin.Slice.sliceAdjust none none (-1) (n : Int) = ((n : Int) - 1, -1) := by
    unfold Builtin.Slice.sliceAdjust
    have h1 : ((-1 : Int) < 0) := by omega
    simp only [h1, if_true]
  show wpAny _ _ (match Builtin.Slice.sliceAdjust none none (-1) (n : Int) with | (lo, hi) => pure (lo, (-1 : Int), Builtin.Slice.slicePlaces lo hi (-1))) _ _ s
  rw [ea]
  show wpAny _ _ (pure ((n : Int) - 1, (-1 : Int), Builtin.Slice.slicePlaces ((n : Int) - 1) (-1) (-1))) _ _ s
  have ep : Builtin.Slice.slicePlaces ((n : Int) - 1) (-1) (-1) = n := by
    unfold Builtin.Slice.slicePlaces
    have h1 : ¬ ((-1 : Int) > 0) := by omega
    simp only [h1, if_false]
    have e2 : (-(-1) : Int) = 1 := by omega
    rw [e2, Int.ediv_one]
    split <;> omega
  rw [ep]
  exact wpAny_pure h
theorem pick_rev (xs : Array Value) : ((List.range xs.size).filterMap fun (m : Nat) => xs[((xs.size : Int) - 1 + (m : Int) * (-1)).toNat]?).toArray = xs.toList.reverse.toArray := by
  have h := PySem.W.krv_pick xs
  unfold slicePick at h
  rw [PySem.W.krv_bounds] at h
  have h : ((sliceRange ((xs.size : Int) - 1) (-1) (-1)).filterMap (xs[·]?)).toArray = xs.toList.reverse.toArray := h
  rw [PySem.W.krv_sliceRange, List.filterMap_map] at h
  rw [← h]
  congr 1
  congr 1
  funext m
  show xs[((xs.size : Int) - 1 + (m : Int) * (-1)).toNat]? = xs[xs.size - 1 - m]?
  congr 1
  omega
theorem item_tuple_rev {t sl : Addr} {items : Array Value} {vl vu vs : Value} {Q : Value → Shared → Prop} (ht : IsTup s.heap t items) (hs : s.heap.IsSliceOf sl vl vu vs) (pl : IsPart vl none) (pu : IsPart vu none) (ps : IsPart vs (some (-1)))
    (h : Q (.ref s.heap.objs.size) { s with heap := s.heap.push { cls := .type "tuple", data := .seq items.toList.reverse.toArray } })
    (hsz : items.size ≤ sizeLine) : wpAny (model prog w) A (getItem (.ref t) (.ref sl)) Q E s := by
  have htake : sizeOk (.seq items.toList.reverse.toArray) := by
    show items.toList.reverse.toArray.size ≤ sizeLine
    rw [List.size_toArray, List.length_reverse, Array.length_toList]
    exact hsz
  obtain ⟨os, hos, hcs, hds⟩ := id hs
  have hTs : s.TypeIs (.ref sl) "slice" := ⟨os, hos, hcs⟩
  unfold getItem
  try with_reducible refine wpAny_holding ?_
  first | refine wpAny_bind (wpAny_pure ?_) | skip
  refine wpAny_bind (wpAny_sequenceKey ht.typeIs (by decide) ?_)
  refine wpAny_bind (wpAny_callSpecial?_slot (name := Str.ofString "__getitem__") ht.typeIs PyProof.Rows.slot_tuple_getitem
    (wpAny_call_entry PyProof.Rows.slot_tuple_getitem ht.typeIs entry_tuple_getitem ?_ (args_tuple_getitem _ _)))
  show wpAny _ _ (Builtin.Tuple.tupleItemsOf (.ref t) >>= _) _ _ s
  refine wpAny_bind (tupleItemsOf_ ht ?_)
  refine wpAny_bind (wpAny_typeOf hTs ?_)
  rw [if_pos (by decide)]
  refine wpAny_bind (applied_rev hs pl pu ps ?_)
  have hno : ¬ ((((items.size : Int) - 1) == 0 && (-1 : Int) == 1 && items.size == items.size) = true) := by
    rw [show ((-1 : Int) == 1) = false by decide, Bool.and_false, Bool.false_and]
    exact Bool.false_ne_true
  show wpAny _ _ (if (((items.size : Int) - 1) == 0 && (-1 : Int) == 1 && items.size == items.size) = true then _ else _) _ _ s
  rw [if_neg hno, pick_rev]
  first
    | exact wpAny_bind (m := Builtin.Tuple.tupleExact _) (wpAny_newObj_type (wpAny_pure ⟨_, rfl, wpAny_pure h⟩) htake)
    | exact wpAny_bind (m := Builtin.Tuple.tupleExact _) (wpAny_newObj_type (wpAny_bind (wpAny_pure (wpAny_pure ⟨_, rfl, wpAny_pure h⟩))) htake)
    | exact wpAny_bind (wpAny_bind (m := Builtin.Tuple.tupleExact _) (wpAny_newObj_type (wpAny_pure (wpAny_pure ⟨_, rfl, wpAny_pure h⟩)) htake))
    | exact wpAny_bind (wpAny_bind (m := Builtin.Tuple.tupleExact _) (wpAny_newObj_type (wpAny_pure ⟨_, rfl, wpAny_pure h⟩) htake))
end
def revD : D → Option D
  | .tup xs => some (.tup xs.reverse)
  | .lst xs => some (.lst xs.reverse)
  | _ => none
section
variable [FE]
variable {X : Cx} {π : Nat → Addr} {W : WX}
def rRevA (K : PySem.W.Frag) : V → Hp → VK → Prop := fun x H Q => ∃ a xs, x = .ref a ∧ ((SqL K H a xs ∧ ∀ p, H p = none → Q (.ref p) (upd H p (.lst xs.reverse))) ∨ (SqT K H a xs ∧ ∀ p, H p = none → Q (.ref p) (upd H p (.tup xs.reverse))))
theorem pe_revA {e : Expr} {te : TE} {k : Nat} {p1 p2 p3 pos : Pos} (he : PE X e te) : PE X (.Subscript e (.Slice none none (some (.UnaryOp .USub (.Constant (.int 1) k p1) p2)) p3) pos) (tUn (rRevA X.K) te) := by
  refine ⟨fun pins s σ H Q I h => ?_⟩
  refine Subscript_ (thn (he.run pins s σ H _ I h) fun v s1 ⟨x, H1, I1, r1, q1⟩ => ?_)
  obtain ⟨a, xs, rfl, q⟩ := q1
  cases r1
  have hst : PO X (some (.UnaryOp .USub (.Constant (.int 1) k p1) p2)) (tPart (tUn (rU fun i => .int (-i)) (tC (.int 1)))) := po_some (pe_un un_neg pe_int)
  refine wpAny_Slice (thn (po_none.run pins s1 σ H1 (fun o H2 => o = none ∧ H2 = H1) I1 ⟨rfl, rfl⟩) fun vl s2 ⟨l, H2, I2, pl, el, e2⟩ => ?_)
  subst el e2
  refine thn (po_none.run pins s2 σ H2 (fun o H3 => o = none ∧ H3 = H2) I2 ⟨rfl, rfl⟩) fun vu s3 ⟨u, H3, I3, pu, eu, e3⟩ => ?_
  subst eu e3
  refine thn (hst.run pins s3 σ H3 (fun o H4 => o = some (-1) ∧ H4 = H3) I3 ⟨1, rfl, -1, rfl, rfl, rfl⟩) fun vs s4 ⟨o, H4, I4, ps, eo, e4⟩ => ?_
  subst eo e4
  have I5 : Inv X pins σ H4 { s4 with heap := s4.heap.push { cls := .type "slice", data := .fields #[vl, vu, vs] } } := I4.kept (t' := s4.toks) fun b ob q => Heap.get?_push_of_some _ q
  show wpAny (model X.prog X.w) X.A (subscriptTail e (.Slice none none (some (.UnaryOp .USub (.Constant (.int 1) k p1) p2)) p3) (.ref a) (.ref s4.heap.objs.size)) (EP X pins σ Q) X.xe { s4 with heap := s4.heap.push { cls := .type "slice", data := .fields #[vl, vu, vs] } }
  rcases q with ⟨hx, q⟩ | ⟨hx, q⟩
  · obtain ⟨its, r, ht, hz⟩ := I5.list hx
    have hlen := r.length
    refine tail_any (ops := [.ref a, .ref s4.heap.objs.size]) ht.isList.typeIs (PySem.slot_list_getitem.lookup) ?_ (by with_unfolding_all rfl)
    refine wpAny_getItem_list_slice ht.isList (Heap.IsSliceOf.new _ vl vu vs) pl pu ps (by decide) ?_ (by rw [List.size_toArray]; omega)
    rw [PySem.W.krv_pick]
    refine ⟨.ref _, _, I5.laid (t' := s4.toks) (o := .lst xs.reverse) (fun b ob q => Heap.get?_push_of_some _ q) (Nat.le_refl _) ?_, rfl, q _ (I5.hok.fresh (Nat.le_refl _))⟩
    exact ⟨by rw [List.length_reverse]; exact hz, _, 0, r.reverse, Heap.get?_push_size _ rfl⟩
  · obtain ⟨its, r, ht, hz⟩ := I5.tuple hx
    have hlen := r.length
    refine tail_any (ops := [.ref a, .ref s4.heap.objs.size]) ht.typeIs (PyProof.Rows.slot_tuple_getitem.lookup) ?_ (by with_unfolding_all rfl)
    refine item_tuple_rev ht (Heap.IsSliceOf.new _ vl vu vs) pl pu ps ?_ (by rw [List.size_toArray]; omega)
    refine ⟨.ref _, _, I5.laid (t' := s4.toks) (o := .tup xs.reverse) (fun b ob q => Heap.get?_push_of_some _ q) (Nat.le_refl _) ?_, rfl, q _ (I5.hok.fresh (Nat.le_refl _))⟩
    exact ⟨by rw [List.length_reverse]; exact hz, _, r.reverse, IsTup.new _ _⟩
theorem q_rev {K : PySem.W.Frag} : Op1 K revD (rRevA K) := by
  intro F H x dx d Q s rx e k
  cases rx <;> first | (cases e; done) | skip
  · rename_i a xs ds h1 r1
    cases e
    refine ⟨a, xs, rfl, .inr ⟨sm_tup s h1, fun p hp => ?_⟩⟩
    have g := Grw.newF (o := .tup xs.reverse) s hp
    exact k _ _ _ g (.tup (SqT.of upd_same) (Reps.mono g.f r1).reverse)
  · rename_i a xs ds h1 r1
    cases e
    refine ⟨a, xs, rfl, .inl ⟨SqL.of (s _ _ h1), fun p hp => ?_⟩⟩
    have g := Grw.newF (o := .lst xs.reverse) s hp
    exact k _ _ _ g (.lst upd_same (Reps.mono g.f r1).reverse)
theorem fe_rev {e : Expr} {f : EF} {k : Nat} {p1 p2 p3 pos : Pos} (he : PE X e (tE X.K π W f)) : PE X (.Subscript e (.Slice none none (some (.UnaryOp .USub (.Constant (.int 1) k p1) p2)) p3) pos) (tE X.K π W (op1 revD f)) :=
  PE.imp (pe_revA he) fun _ _ _ => rd_op1 q_rev
end

/-! ### subscripts -/
def ixD : D → D → Option D
  | .tup xs, .int i => atI xs i
  | .lst xs, .int i => atI xs i
  | .scr ns, .int i => (atI ns i).map D.int
  | .str z, .int i => if z.length ≤ 100000 then (atI z.cps.toList i).map fun c => D.str ⟨#[c]⟩ else none
  | _, _ => none
theorem Reps.atI {K : PySem.W.Frag} {F : Hp} {vs : List V} {ds : List D} {i : Int} {d : D} (r : Reps K F vs ds) (h : L2.atI ds i = some d) : ∃ v, L2.atI vs i = some v ∧ Rep K F v d := by
  unfold L2.atI at h ⊢
  rw [Reps.length r]
  cases e : ixN ds.length i with
  | none => rw [e] at h; cases h
  | some j =>
    rw [e] at h
    exact r.get h
theorem atI_map {α β : Type} (f : α → β) (xs : List α) (i : Int) : L2.atI (xs.map f) i = (L2.atI xs i).map f := by
  unfold L2.atI
  rw [List.length_map]
  cases ixN xs.length i with
  | none => rfl
  | some j =>
    show (xs.map f)[j]? = (xs[j]?).map f
    rw [List.getElem?_map]
variable [FE] in
theorem q_ix {K : PySem.W.Frag} : Op2 K ixD (rIx K) := by
  intro F H x y dx dy d Q s rx ry e k
  cases rx <;> cases ry <;> first | (cases e; done) | skip
  · rename_i z i
    simp only [ixD] at e
    split at e
    · rename_i hz
      cases h : L2.atI z.cps.toList i with
      | none => rw [h] at e; cases e
      | some c =>
        rw [h] at e
        cases e
        exact .inr (.inr ⟨z, i, c, rfl, rfl, le_line hz, h, k _ F H (Grw.refl s) (.str _)⟩)
    · cases e
  · rename_i a xs ds h1 r1 i
    obtain ⟨v, h2, r2⟩ := r1.atI e
    exact .inr (.inl ⟨a, xs, i, v, rfl, rfl, sm_tup s h1, h2, k _ F H (Grw.refl s) r2⟩)
  · rename_i a xs ds h1 r1 i
    obtain ⟨v, h2, r2⟩ := r1.atI e
    exact .inl ⟨a, xs, i, v, rfl, rfl, SqL.of (s _ _ h1), h2, k _ F H (Grw.refl s) r2⟩
  · rename_i a ns h1 i
    simp only [ixD] at e
    cases h : L2.atI ns i with
    | none => rw [h] at e; cases e
    | some c =>
      rw [h] at e
      cases e
      exact .inl ⟨a, ns.map V.int, i, .int c, rfl, rfl, Same.seq s h1, by rw [atI_map, h]; rfl, k _ F H (Grw.refl s) (.int c)⟩
section
variable [FE]
variable {X : Cx} {π : Nat → Addr} {W : WX} {a b : Expr} {pos p2 : Pos}
theorem fe_ix {f g : EF} (ha : PE X a (tE X.K π W f)) (hb : PE X b (tE X.K π W g)) (hs : PlainIx b) : PE X (.Subscript a b pos) (tE X.K π W (op2 ixD f g)) := PE.imp (pe_ix ix_seq ha hb hs) fun _ _ _ => rd_op2 q_ix

/-! ### slices -/
def relO : Rel (Option Int) (Option Int) := fun _ _ _ _ _ b c => b = c
abbrev tO (K : PySem.W.Frag) (π : Nat → Addr) (W : WX) (f : Rho → R (Option Int)) : TO := tG K π W relO f
def noO : Rho → R (Option Int) := fun ρ => .ok none ρ
def smO (f : EF) : Rho → R (Option Int) := fun ρ => (f ρ).bind fun x ρ => match x with
  | .int i => .ok (some i) ρ
  | _ => .stuck
theorem PO.imp {o : Option Expr} {t t' : TO} (h : PO X o t) (k : ∀ σ H Q, t' σ H Q → t σ H Q) : PO X o t' := ⟨fun pins s σ H Q I q => h.run pins s σ H Q I (k σ H Q q)⟩
theorem fo_none : PO X none (tO X.K π W noO) := PO.imp po_none fun σ H Q ⟨c, F, ρ, S, P⟩ => P none F H (Same.refl _) S rfl
theorem fo_some {f : EF} (ha : PE X a (tE X.K π W f)) : PO X (some a) (tO X.K π W (smO f)) := PO.imp (po_some ha) fun σ H Q ⟨c, F, ρ, S, P⟩ => by
  refine po_bind S P fun x F1 H1 ρ1 dx s1 S1 r1 P1 => ?_
  cases r1 <;> first | (exact P1.elim) | skip
  rename_i i
  exact ⟨i, rfl, P1 (some i) F1 H1 (Same.refl _) S1 rfl⟩
def cut {α : Type} (xs : List α) (lo hi : Option Int) : List α := (xs.drop (HT.sIx xs.length 0 lo)).take (HT.sIx xs.length xs.length hi - HT.sIx xs.length 0 lo)
def cutD (d : D) (lo hi : Option Int) : Option D := match d with
  | .tup xs => some (.tup (cut xs lo hi))
  | .lst xs => some (.lst (cut xs lo hi))
  | .scr ns => some (.lst ((cut ns lo hi).map D.int))
  | .str z => if z.length ≤ 100000 then some (.str (cutS z lo hi)) else none
  | _ => none
def slF (f : EF) (g h : Rho → R (Option Int)) : EF := fun ρ => (f ρ).bind fun x ρ => (g ρ).bind fun l ρ => (h ρ).bind fun u ρ => R.of (cutD x l u) ρ
theorem Reps.cut {K : PySem.W.Frag} {F : Hp} {vs : List V} {ds : List D} (r : Reps K F vs ds) (lo hi : Option Int) : Reps K F (cutV vs lo hi) (FL.cut ds lo hi) := by
  unfold cutV FL.cut
  rw [Reps.length r]
  exact (r.drop _).take _
theorem cut_map {α β : Type} (f : α → β) (xs : List α) (lo hi : Option Int) : cut (xs.map f) lo hi = (cut xs lo hi).map f := by
  unfold cut
  rw [List.length_map, List.map_take, List.map_drop]
theorem cut_whole {α : Type} {xs : List α} {lo hi : Option Int} (h : HT.sIx xs.length 0 lo = 0 ∧ HT.sIx xs.length xs.length hi = xs.length) : cut xs lo hi = xs := by
  unfold cut
  rw [h.1, h.2, List.drop_zero, Nat.sub_zero, List.take_length]
def rSlAll (K : PySem.W.Frag) : V → Option Int → Option Int → Hp → VK → Prop := fun x lo hi H Q => rSlA K x lo hi H Q ∨ rSlL K x lo hi H Q ∨ rSlS x lo hi H Q
theorem q_cut {K : PySem.W.Frag} {F H : Hp} {x : V} {dx d : D} {lo hi : Option Int} {Q : VK} (s : Same F H) (rx : Rep K F x dx) (e : cutD dx lo hi = some d) (k : ∀ v F' H', Grw F H F' H' → Rep K F' v d → Q v H') : rSlAll K x lo hi H Q := by
  cases rx <;> first | (cases e; done) | skip
  · rename_i z
    simp only [cutD] at e
    split at e
    · rename_i hz
      cases e
      exact .inr (.inr ⟨z, rfl, le_line hz, k _ F H (Grw.refl s) (.str _)⟩)
    · cases e
  · rename_i a xs ds h1 r1
    cases e
    refine .inl ⟨a, xs, rfl, sm_tup s h1, fun hw => ?_, fun hw p hp => ?_⟩
    · rw [Reps.length r1] at hw
      rw [cut_whole hw] at k
      exact k _ F H (Grw.refl s) (.tup h1 r1)
    · have g := Grw.newF (o := .tup (cutV xs lo hi)) s hp
      exact k _ _ _ g (.tup (SqT.of upd_same) ((Reps.mono g.f r1).cut lo hi))
  · rename_i a xs ds h1 r1
    cases e
    refine .inr (.inl ⟨a, xs, rfl, SqL.of (s _ _ h1), fun p hp => ?_⟩)
    have g := Grw.newF (o := .lst (cutV xs lo hi)) s hp
    exact k _ _ _ g (.lst upd_same ((Reps.mono g.f r1).cut lo hi))
  · rename_i a ns h1
    cases e
    refine .inr (.inl ⟨a, ns.map V.int, rfl, Same.seq s h1, fun p hp => ?_⟩)
    have g := Grw.newF (o := .lst (cutV (ns.map V.int) lo hi)) s hp
    refine k _ _ _ g (.lst upd_same ?_)
    rw [show cutV (ns.map V.int) lo hi = (cut ns lo hi).map V.int from cut_map V.int ns lo hi]
    exact Reps.ints _
theorem fe_sl {f : EF} {g h : Rho → R (Option Int)} {lo hi : Option Expr} (ha : PE X a (tE X.K π W f)) (hl : PO X lo (tO X.K π W g)) (hu : PO X hi (tO X.K π W h)) : PE X (.Subscript a (.Slice lo hi none p2) pos) (tE X.K π W (slF f g h)) :=
  PE.imp (pe_slice (r := rSlAll X.K) (sl_tupA.or (sl_list.or sl_str)) ha hl hu) fun σ H Q ⟨c, F, ρ, S, P⟩ => by
    refine po_bind S P fun x F1 H1 ρ1 dx s1 S1 r1 P1 => ?_
    refine po_bind S1 P1 fun l F2 H2 ρ2 dl s2 S2 r2 P2 => ?_
    refine po_bind S2 P2 fun u F3 H3 ρ3 du s3 S3 r3 P3 => ?_
    obtain ⟨d, e, P4⟩ := po_of P3
    cases r2
    cases r3
    exact q_cut S3.f (Rep.mono (s2.trans s3) r1) e fun v F4 H4 gr rv => P4 v F4 H4 gr.f (S3.grow gr) rv
end

/-! ### calls of built-ins -/
variable [FE] in
def OpC (K : PySem.W.Frag) (o : List D → Option D) (r : List V → Hp → VK → Prop) : Prop := ∀ {F H : Hp} {vs : List V} {ds : List D} {d : D} {Q : VK}, Same F H → Reps K F vs ds → o ds = some d → (∀ v F' H', Grw F H F' H' → Rep K F' v d → Q v H') → r vs H Q
def opC (o : List D → Option D) (g : Rho → R (List D)) : EF := fun ρ => (g ρ).bind fun xs ρ => R.of (o xs) ρ
section
variable [FE]
variable {X : Cx} {π : Nat → Addr} {W : WX} {e : Expr} {es : List Expr} {pos p : Pos} {x : Str} {id T : String} {r : List V → Hp → VK → Prop} {o : List D → Option D} {g : Rho → R (List D)}
theorem rd_opC {K : PySem.W.Frag} {σ : L2.St} {H : Hp} {Q : VK} (q : OpC K o r) (t : tE K π W (opC o g) σ H Q) : tCB r (tA K π W g) σ H Q := by
  obtain ⟨c, F, ρ, S, P⟩ := t
  refine po_bind S P fun vs F1 H1 ρ1 ds s1 S1 r1 P1 => ?_
  obtain ⟨d, e, P2⟩ := po_of P1
  exact q S1.f r1 e fun v F2 H2 gr rv => P2 v F2 H2 gr.f (S1.grow gr) rv
theorem fe_callB (q : OpC X.K o r) (hc : CallR X (.builtin id) r) (hg : Gl X x) (hm : X.mg x = none) (hv : bootBuiltins x = some (.builtin id)) (ha : PA X (e :: es) (tA X.K π W g)) (hn : x ≠ "__name__" := by decide) (hdb : (x == ("__debug__" : Str)) = false := by decide)
    (he : starEach (e :: es) X.env = (false, eval e X.env) :: starEach es X.env := by rfl) (hpl : (backTo pos (starEach es X.env)).any (·.1) = false := by rfl) : PE X (.Call (.Name x p) (e :: es) [] pos) (tE X.K π W (opC o g)) :=
  PE.imp (pe_callB hc hg hm hv ha hn hdb he hpl) fun _ _ _ => rd_opC q
theorem fe_callTy (q : OpC X.K o r) (hc : CallR X (.type T) r) (hg : Gl X x) (hm : X.mg x = none) (hv : bootBuiltins x = some (.type T)) (ha : PA X (e :: es) (tA X.K π W g)) (hn : x ≠ "__name__" := by decide) (hdb : (x == ("__debug__" : Str)) = false := by decide)
    (he : starEach (e :: es) X.env = (false, eval e X.env) :: starEach es X.env := by rfl) (hpl : (backTo pos (starEach es X.env)).any (·.1) = false := by rfl) : PE X (.Call (.Name x p) (e :: es) [] pos) (tE X.K π W (opC o g)) :=
  PE.imp (pe_callTy hc hg hm hv ha hn hdb he hpl) fun _ _ _ => rd_opC q
end
/-- len -/
def lenC : List D → Option D
  | [.str z] => if z.length ≤ 100000 then some (.int z.length) else none
  | [.tup xs] => some (.int xs.length)
  | [.lst xs] => some (.int xs.length)
  | [.scr ns] => some (.int ns.length)
  | _ => none
def rLenA (K : PySem.W.Frag) : List V → Hp → VK → Prop := fun xs H Q => ∃ x n, xs = [x] ∧ LenV K x H n ∧ Q (.int n) H
theorem Reps.one {K : PySem.W.Frag} {F : Hp} {vs : List V} {d : D} (r : Reps K F vs [d]) : ∃ v, vs = [v] ∧ Rep K F v d := by
  cases r with
  | cons h t =>
    cases t
    exact ⟨_, rfl, h⟩
theorem Reps.two {K : PySem.W.Frag} {F : Hp} {vs : List V} {d e : D} (r : Reps K F vs [d, e]) : ∃ v w, vs = [v, w] ∧ Rep K F v d ∧ Rep K F w e := by
  cases r with
  | cons h t =>
    obtain ⟨w, rfl, h2⟩ := Reps.one t
    exact ⟨_, _, rfl, h, h2⟩
section
variable [FE]
variable {X : Cx} {K : PySem.W.Frag}
theorem q_len : OpC K lenC (rLenA K) := by
  intro F H vs ds d Q s r e k
  unfold lenC at e
  split at e
  · rename_i z
    split at e
    · rename_i hz
      cases e
      obtain ⟨v, rfl, h⟩ := Reps.one r
      cases h
      exact ⟨.str z, z.length, rfl, ⟨le_line hz, rfl⟩, k _ F H (Grw.refl s) (.int _)⟩
    · cases e
  · cases e
    obtain ⟨v, rfl, h⟩ := Reps.one r
    cases h with
    | tup h1 r1 => exact ⟨_, _, rfl, .inr ⟨_, sm_tup s h1, rfl⟩, by rw [Reps.length r1]; exact k _ F H (Grw.refl s) (.int _)⟩
  · cases e
    obtain ⟨v, rfl, h⟩ := Reps.one r
    cases h with
    | lst h1 r1 => exact ⟨_, _, rfl, .inl ⟨_, SqL.of (s _ _ h1), rfl⟩, by rw [Reps.length r1]; exact k _ F H (Grw.refl s) (.int _)⟩
  · cases e
    obtain ⟨v, rfl, h⟩ := Reps.one r
    cases h with
    | scr h1 => exact ⟨_, _, rfl, .inl ⟨_, Same.seq s h1, rfl⟩, by rw [List.length_map]; exact k _ F H (Grw.refl s) (.int _)⟩
  · cases e
theorem o_len : CallR X (.builtin "len") (rLenA X.K) := call_len
def absC : List D → Option D
  | [.int i] => some (.int (if i < 0 then -i else i))
  | _ => none
theorem q_abs : OpC K absC (fun xs H Q => ∃ i, xs = [V.int i] ∧ Q (.int (if i < 0 then -i else i)) H) := by
  intro F H vs ds d Q s r e k
  unfold absC at e
  split at e
  · cases e
    obtain ⟨v, rfl, h⟩ := Reps.one r
    cases h
    exact ⟨_, rfl, k _ F H (Grw.refl s) (.int _)⟩
  · cases e
def intC : List D → Option D
  | [.int i] => some (.int i)
  | [.bl b] => some (.int (if b then 1 else 0))
  | _ => none
theorem q_int : OpC K intC (fun xs H Q => (∃ i, xs = [V.int i] ∧ Q (.int i) H) ∨ ∃ k, xs = [V.bl k] ∧ Q (.int (if k then 1 else 0)) H) := by
  intro F H vs ds d Q s r e k
  unfold intC at e
  split at e
  · cases e
    obtain ⟨v, rfl, h⟩ := Reps.one r
    cases h
    exact .inl ⟨_, rfl, k _ F H (Grw.refl s) (.int _)⟩
  · cases e
    obtain ⟨v, rfl, h⟩ := Reps.one r
    cases h
    exact .inr ⟨_, rfl, k _ F H (Grw.refl s) (.int _)⟩
  · cases e
def maxC : List D → Option D
  | [.int i, .int j] => some (.int (if j > i then j else i))
  | _ => none
theorem q_max : OpC K maxC (fun xs H Q => ∃ i j, xs = [V.int i, V.int j] ∧ Q (.int (if j > i then j else i)) H) := by
  intro F H vs ds d Q s r e k
  unfold maxC at e
  split at e
  · cases e
    obtain ⟨v, w, rfl, h, h2⟩ := Reps.two r
    cases h
    cases h2
    exact ⟨_, _, rfl, k _ F H (Grw.refl s) (.int _)⟩
  · cases e
def minC : List D → Option D
  | [.int i, .int j] => some (.int (if j < i then j else i))
  | _ => none
theorem q_min : OpC K minC (fun xs H Q => ∃ i j, xs = [V.int i, V.int j] ∧ Q (.int (if j < i then j else i)) H) := by
  intro F H vs ds d Q s r e k
  unfold minC at e
  split at e
  · cases e
    obtain ⟨v, w, rfl, h, h2⟩ := Reps.two r
    cases h
    cases h2
    exact ⟨_, _, rfl, k _ F H (Grw.refl s) (.int _)⟩
  · cases e
/-- tuple(x) -/
def tupC : List D → Option D
  | [.lst xs] => some (.tup xs)
  | [.tup xs] => some (.tup xs)
  | _ => none
theorem q_tup : OpC K tupC (fun xs H Q => ∃ p ys, xs = [V.ref p] ∧ ((SqL K H p ys ∧ ∀ l, H l = none → Q (.ref l) (upd H l (.tup ys))) ∨ (SqT K H p ys ∧ Q (.ref p) H))) := by
  intro F H vs ds d Q s r e k
  unfold tupC at e
  split at e
  · cases e
    obtain ⟨v, rfl, h⟩ := Reps.one r
    cases h with
    | lst h1 r1 =>
      refine ⟨_, _, rfl, .inl ⟨SqL.of (s _ _ h1), fun p hp => ?_⟩⟩
      exact k _ _ _ (Grw.newF s hp) (.tup (SqT.of upd_same) (Reps.mono (sm_new (Same.free s hp)) r1))
  · cases e
    obtain ⟨v, rfl, h⟩ := Reps.one r
    cases h with
    | tup h1 r1 => exact ⟨_, _, rfl, .inr ⟨sm_tup s h1, k _ F H (Grw.refl s) (.tup h1 r1)⟩⟩
  · cases e
/-- list(x), as data -/
def lstC : List D → Option D
  | [.lst xs] => some (.lst xs)
  | [.tup xs] => some (.lst xs)
  | [.scr ns] => some (.lst (ns.map D.int))
  | _ => none
theorem q_lst : OpC K lstC (fun xs H Q => ∃ p ys, xs = [V.ref p] ∧ (SqL K H p ys ∨ SqT K H p ys) ∧ ∀ l, H l = none → Q (.ref l) (upd H l (.lst ys))) := by
  intro F H vs ds d Q s r e k
  unfold lstC at e
  split at e
  · cases e
    obtain ⟨v, rfl, h⟩ := Reps.one r
    cases h with
    | lst h1 r1 =>
      refine ⟨_, _, rfl, .inl (SqL.of (s _ _ h1)), fun p hp => ?_⟩
      exact k _ _ _ (Grw.newF s hp) (.lst upd_same (Reps.mono (sm_new (Same.free s hp)) r1))
  · cases e
    obtain ⟨v, rfl, h⟩ := Reps.one r
    cases h with
    | tup h1 r1 =>
      refine ⟨_, _, rfl, .inr (sm_tup s h1), fun p hp => ?_⟩
      exact k _ _ _ (Grw.newF s hp) (.lst upd_same (Reps.mono (sm_new (Same.free s hp)) r1))
  · cases e
    obtain ⟨v, rfl, h⟩ := Reps.one r
    cases h with
    | scr h1 =>
      refine ⟨_, _, rfl, .inl (Same.seq s h1), fun p hp => ?_⟩
      exact k _ _ _ (Grw.newF s hp) (.lst upd_same (Reps.ints _))
  · cases e
/-- all, any of a list of truths -/
def bools : List D → Option (List Bool)
  | [] => some []
  | .bl b :: r => (bools r).map (b :: ·)
  | _ :: _ => none
theorem bools_rep {F : Hp} : ∀ {vs : List V} {ds : List D} {bs : List Bool}, Reps K F vs ds → bools ds = some bs → vs = bs.map V.bl
  | _, [], _, .nil, e => by cases e; rfl
  | _, .bl b :: ds, bs, .cons h r, e => by
    cases h
    simp only [bools] at e
    cases h : bools ds with
    | none => rw [h] at e; cases e
    | some l =>
      rw [h] at e
      cases e
      rw [bools_rep r h]
      rfl
  | _, .non :: _, _, _, e => by cases e
  | _, .int _ :: _, _, _, e => by cases e
  | _, .str _ :: _, _, _, e => by cases e
  | _, .tup _ :: _, _, _, e => by cases e
  | _, .lst _ :: _, _, _, e => by cases e
  | _, .scr _ :: _, _, _, e => by cases e
  | _, .fn _ :: _, _, _, e => by cases e
  | _, .dct _ :: _, _, _, e => by cases e
  | _, .exc _ _ :: _, _, _, e => by cases e
def allC : List D → Option D
  | [.lst xs] => (bools xs).map fun bs => .bl (bs.all id)
  | _ => none
def anyC : List D → Option D
  | [.lst xs] => (bools xs).map fun bs => .bl (bs.any id)
  | _ => none
theorem q_all : OpC K allC (rAll K) := by
  intro F H vs ds d Q s r e k
  unfold allC at e
  split at e
  · rename_i xs
    cases hb : bools xs with
    | none => rw [hb] at e; cases e
    | some bs =>
      rw [hb] at e
      cases e
      obtain ⟨v, rfl, h⟩ := Reps.one r
      cases h with
      | lst h1 r1 =>
        rw [bools_rep r1 hb] at h1
        exact ⟨_, bs, rfl, SqL.of (s _ _ h1), k _ F H (Grw.refl s) (.bl _)⟩
  · cases e
theorem q_any : OpC K anyC (rAny K) := by
  intro F H vs ds d Q s r e k
  unfold anyC at e
  split at e
  · rename_i xs
    cases hb : bools xs with
    | none => rw [hb] at e; cases e
    | some bs =>
      rw [hb] at e
      cases e
      obtain ⟨v, rfl, h⟩ := Reps.one r
      cases h with
      | lst h1 r1 =>
        rw [bools_rep r1 hb] at h1
        exact ⟨_, bs, rfl, SqL.of (s _ _ h1), k _ F H (Grw.refl s) (.bl _)⟩
  · cases e
/-- divmod -/
def dmC : List D → Option D
  | [.int a, .int b] => if 0 < b ∧ b < 1073741824 then some (.tup [.int (a / b), .int (a % b)]) else none
  | _ => none
theorem q_dm : OpC K dmC (fun xs H Q => ∃ i j, xs = [V.int i, V.int j] ∧ CDiv i j ∧ ∀ p, H p = none → Q (.ref p) (upd H p (.tup [.int (i / j), .int (i % j)]))) := by
  intro F H vs ds d Q s r e k
  unfold dmC at e
  split at e
  · split at e
    · rename_i hz
      cases e
      obtain ⟨v, w, rfl, h, h2⟩ := Reps.two r
      cases h
      cases h2
      refine ⟨_, _, rfl, hz, fun p hp => ?_⟩
      exact k _ _ _ (Grw.newF s hp) (.tup (SqT.of upd_same) (.cons (.int _) (.cons (.int _) .nil)))
    · cases e
  · cases e
end
end FL
/-! FL5: statements, loops. -/
namespace FL
open PySem PySem.Spec PyProof.Rows L2

inductive Res where
  | v (d : D)
  | m (m : M)
inductive Fl where
  | nx
  | rt (r : Res)
  | bk
  | ct
abbrev SF := Rho → R Fl
section
variable [FE]
variable (K : PySem.W.Frag) (π : Nat → Addr) (W : WX)
def relR (c : Cfg) (F H : Hp) (σ : L2.St) (ρ : Rho) (v : V) : Res → Prop
  | .v d => Rep K F v d
  | .m m => relM K c F H σ ρ v m
def PoS (c : Cfg) (F : Hp) (σ : L2.St) (D : Ends) : R Fl → Prop
  | .ok .nx ρ' => ∀ σ' F' H', Same F F' → Sta K π c F' H' σ' ρ' → D.nx σ' H'
  | .ok (.rt r) ρ' => ∀ v σ' F' H', Same F F' → Sta K π c F' H' σ' ρ' → relR K c F' H' σ' ρ' v r → D.rt v H'
  | .ok .bk ρ' => ∀ σ' F' H', Same F F' → Sta K π c F' H' σ' ρ' → D.bk σ' H'
  | .ok .ct ρ' => ∀ σ' F' H', Same F F' → Sta K π c F' H' σ' ρ' → D.ct σ' H'
  | .exc C fs ρ' => ∀ dd fsV σ' F' H', Same F F' → Sta K π c F' H' σ' ρ' → XD F' dd fsV → fsV.map (·.1) = fs.map (·.1) → Reps K F' (fsV.map (·.2)) (fs.map (·.2)) → W (.ref (FE.cl C)) dd σ' H'
  | .stuck => False
def tS (f : SF) : TS := fun D σ H => ∃ c F ρ, c.ow = [] ∧ Sta K π c F H σ ρ ∧ PoS K π W c F σ D (f ρ)
/-- a target -/
abbrev GF := D → Rho → Option Rho
def Off (ns : List Nat) (σ σ' : L2.St) : Prop := σ'.length = σ.length ∧ ∀ j, j ∉ ns → σ'[j]? = σ[j]?
def PoG (ns : List Nat) (c : Cfg) (F : Hp) (σ : L2.St) (Q : L2.St → Hp → Prop) : Option Rho → Prop
  | some ρ' => ∀ σ' F' H', Same F F' → Off ns σ σ' → Sta K π c F' H' σ' ρ' → Q σ' H'
  | none => False
def tGt (ns : List Nat) (g : GF) : TG := fun v σ H Q => ∃ c F ρ d, Sta K π c F H σ ρ ∧ Rep K F v d ∧ PoG K π ns c F σ Q (g d ρ)
abbrev GFs := List D → Rho → Option Rho
def tGts (ns : List Nat) (g : GFs) : TGs := fun vs σ H Q => ∃ c F ρ ds, Sta K π c F H σ ρ ∧ Reps K F vs ds ∧ PoG K π ns c F σ Q (g ds ρ)
end
section
variable [FE]
variable {K : PySem.W.Frag} {π : Nat → Addr} {W : WX} {c : Cfg} {F F' H H' : Hp} {σ σ' : L2.St} {ρ ρ' : Rho} {D : Ends}
theorem PoS.mono (s : Same F F') : ∀ {r : R Fl}, PoS K π W c F σ D r → PoS K π W c F' σ' D r
  | .ok .nx ρ', h => fun σ2 F2 H2 s2 => h σ2 F2 H2 (s.trans s2)
  | .ok (.rt r) ρ', h => fun v σ2 F2 H2 s2 => h v σ2 F2 H2 (s.trans s2)
  | .ok .bk ρ', h => fun σ2 F2 H2 s2 => h σ2 F2 H2 (s.trans s2)
  | .ok .ct ρ', h => fun σ2 F2 H2 s2 => h σ2 F2 H2 (s.trans s2)
  | .exc C fs ρ', h => fun dd fsV σ2 F2 H2 s2 => h dd fsV σ2 F2 H2 (s.trans s2)
  | .stuck, h => h
/-- an expression, then what follows -/
theorem pos_bind {α β : Type} {rel : Rel β α} {f : Rho → R α} {k : α → Rho → R Fl} {Q1 : β → Hp → Prop} (S : Sta K π c F H σ ρ) (h : PoS K π W c F σ D ((f ρ).bind k))
    (cont : ∀ v F' H' ρ' a, Same F F' → Sta K π c F' H' σ ρ' → rel c F' H' σ ρ' v a → PoS K π W c F' σ D (k a ρ') → Q1 v H') : tG K π W rel f σ H Q1 := by
  refine ⟨c, F, ρ, S, ?_⟩
  cases e : f ρ with
  | ok a ρ' =>
    rw [e] at h
    have h : PoS K π W c F σ D (k a ρ') := h
    exact fun v F2 H2 s2 S2 r => cont v F2 H2 ρ' a s2 S2 r (h.mono s2)
  | exc C fs ρ' =>
    rw [e] at h
    exact fun dd fsV F2 H2 s2 S2 => h dd fsV σ F2 H2 s2 S2
  | stuck =>
    rw [e] at h
    exact h
theorem Off.refl {ns : List Nat} (σ : L2.St) : Off ns σ σ := ⟨rfl, fun _ _ => rfl⟩
theorem Off.trans {ns ms : List Nat} {σ1 σ2 σ3 : L2.St} (a : Off ns σ1 σ2) (b : Off ms σ2 σ3) : Off (ns ++ ms) σ1 σ3 := ⟨b.1.trans a.1, fun j hj => (b.2 j fun z => hj (List.mem_append_right _ z)).trans (a.2 j fun z => hj (List.mem_append_left _ z))⟩
theorem Off.set {i : Nat} {σ : L2.St} {x : Option V} : Off [i] σ (σ.set i x) := ⟨by simp, fun j hj => List.getElem?_set_ne (fun z => hj (by simp [z]))⟩
theorem PoG.mono {ns : List Nat} {Q : L2.St → Hp → Prop} (s : Same F F') : ∀ {r : Option Rho}, PoG K π ns c F σ Q r → PoG K π ns c F' σ Q r
  | some ρ', h => fun σ2 F2 H2 s2 => h σ2 F2 H2 (s.trans s2)
  | none, h => h.elim
end

section
variable [FE]
variable {X : Cx} {π : Nat → Addr} {W : WX} {e a b : Expr} {pos : Pos} {st : Stmt} {rest : List Stmt}
theorem PS.imp {t t' : TS} (h : PS X st t) (k : ∀ D σ H, t' D σ H → t D σ H) : PS X st t' := ⟨fun pins s σ H D I q => h.run pins s σ H D I (k D σ H q)⟩
theorem PSs.imp {t t' : TS} (h : PSs X rest t) (k : ∀ D σ H, t' D σ H → t D σ H) : PSs X rest t' := ⟨fun pins s σ H D I q => h.run pins s σ H D I (k D σ H q)⟩
theorem PG.imp {t t' : TG} (h : PG X e t) (k : ∀ v σ H Q, t' v σ H Q → t v σ H Q) : PG X e t' := ⟨fun pins s σ H v u Q I r q => h.run pins s σ H v u Q I r (k v σ H Q q)⟩
theorem PGs.imp {es : List Expr} {t t' : TGs} (h : PGs X es t) (k : ∀ v σ H Q, t' v σ H Q → t v σ H Q) : PGs X es t' := ⟨fun pins s σ H v u Q I r q => h.run pins s σ H v u Q I r (k v σ H Q q)⟩

/-! ### blocks -/
def nxS : SF := fun ρ => .ok .nx ρ
def seqS (f g : SF) : SF := fun ρ => (f ρ).bind fun fl ρ => match fl with
  | .nx => g ρ
  | o => .ok o ρ
theorem fss_nil : PSs X [] (tS X.K π W nxS) := PSs.imp pss_nil fun D σ H ⟨c, F, ρ, h0, S, P⟩ => P σ F H (Same.refl _) S
theorem fss_cons {f g : SF} (h1 : PS X st (tS X.K π W f)) (h2 : PSs X rest (tS X.K π W g)) : PSs X (st :: rest) (tS X.K π W (seqS f g)) :=
  PSs.imp (pss_cons h1 h2) fun D σ H ⟨c, F, ρ, h0, S, P⟩ => by
    refine ⟨c, F, ρ, h0, S, ?_⟩
    unfold seqS at P
    cases ef : f ρ with
    | stuck => rw [ef] at P; exact P
    | exc C fs ρ' => rw [ef] at P; exact P
    | ok fl ρ' =>
      rw [ef] at P
      cases fl with
      | nx => exact fun σ2 F2 H2 s2 S2 => ⟨c, F2, ρ', h0, S2, PoS.mono s2 P⟩
      | rt r => exact P
      | bk => exact P
      | ct => exact P
theorem fss_one {f : SF} (h1 : PS X st (tS X.K π W f)) : PSs X [st] (tS X.K π W f) := pss_one h1
/-- a slot's own list becomes data -/
def frzAt (i : Nat) (ρ : Rho) : Option Rho := match ρ[i]? with
  | some (.own (.lst ds)) => some (ρ.set i (.val (.lst ds)))
  | _ => none
def frzS (i : Nat) (g : SF) : SF := fun ρ => match frzAt i ρ with
  | some ρ' => g ρ'
  | none => .stuck
theorem fss_frz {i : Nat} {g : SF} (h : PSs X rest (tS X.K π W g)) : PSs X rest (tS X.K π W (frzS i g)) :=
  PSs.imp h fun D σ H ⟨c, F, ρ, h0, S, P⟩ => by
    unfold frzS frzAt at P
    cases e : ρ[i]? with
    | none => rw [e] at P; exact P.elim
    | some s =>
      rw [e] at P
      cases s with
      | own m =>
        cases m with
        | lst ds =>
          obtain ⟨F', _, sm, S'⟩ := S.freeze e h0
          exact ⟨c, F', _, h0, S', PoS.mono sm P⟩
        | ins _ _ => exact P.elim
      | no => exact P.elim
      | val _ => exact P.elim
      | io _ => exact P.elim
/-- some slots are forgotten -/
def wipeR (ks : List Nat) (ρ : Rho) : Rho := ks.foldl (fun ρ i => ρ.set i .no) ρ
theorem Sta.wipe {K : PySem.W.Frag} {c : Cfg} {F H : Hp} {σ : L2.St} : ∀ {ks : List Nat} {ρ : Rho}, Sta K π c F H σ ρ → Sta K π c F H σ (wipeR ks ρ)
  | [], _, S => S
  | k :: ks, _, S => Sta.wipe (ks := ks) (S.forget k)

/-! ### small statements -/
def exS (f : EF) : SF := fun ρ => (f ρ).bind fun _ ρ => .ok .nx ρ
theorem fs_expr {f : EF} (he : PE X e (tE X.K π W f)) (hs : swapsWith e none pos.line X.env = pure false := by rfl) : PS X (.Expr e pos) (tS X.K π W (exS f)) :=
  PS.imp (ps_expr he hs) fun D σ H ⟨c, F, ρ, h0, S, P⟩ => by
    refine pos_bind S P fun v F1 H1 ρ1 d s1 S1 r1 P1 => ?_
    exact P1 σ F1 H1 (Same.refl _) S1
def retS (f : EF) : SF := fun ρ => (f ρ).bind fun d ρ => .ok (.rt (.v d)) ρ
theorem fs_ret {f : EF} (he : PE X e (tE X.K π W f)) : PS X (.Return (some e) pos) (tS X.K π W (retS f)) :=
  PS.imp (ps_ret he) fun D σ H ⟨c, F, ρ, h0, S, P⟩ => by
    refine pos_bind S P fun v F1 H1 ρ1 d s1 S1 r1 P1 => ?_
    exact P1 v σ F1 H1 (Same.refl _) S1 r1
def retM (f : Rho → R M) : SF := fun ρ => (f ρ).bind fun d ρ => .ok (.rt (.m d)) ρ
theorem fs_retM {f : Rho → R M} (he : PE X e (tM X.K π W f)) : PS X (.Return (some e) pos) (tS X.K π W (retM f)) :=
  PS.imp (ps_ret he) fun D σ H ⟨c, F, ρ, h0, S, P⟩ => by
    refine pos_bind S P fun v F1 H1 ρ1 d s1 S1 r1 P1 => ?_
    exact P1 v σ F1 H1 (Same.refl _) S1 r1
def ifS (t : TF) (f g : SF) : SF := fun ρ => (t ρ).bind fun b ρ => if b = true then f ρ else g ρ
theorem fs_if {c : Expr} {xs ys : List Stmt} {t : TF} {f g : SF} (hc : PT X c (tT X.K π W t)) (ha : PSs X xs (tS X.K π W f)) (hb : PSs X ys (tS X.K π W g)) : PS X (.If c xs ys pos) (tS X.K π W (ifS t f g)) :=
  PS.imp (ps_if hc ha hb) fun D σ H ⟨c, F, ρ, h0, S, P⟩ => by
    refine pos_bind S P fun b F1 H1 ρ1 d s1 S1 r1 P1 => ?_
    cases r1
    cases b with
    | true =>
      rw [if_pos rfl] at P1 ⊢
      exact ⟨c, F1, ρ1, h0, S1, P1⟩
    | false =>
      rw [if_neg Bool.false_ne_true] at P1 ⊢
      exact ⟨c, F1, ρ1, h0, S1, P1⟩
theorem fs_pass : PS X (.Pass pos) (tS X.K π W nxS) := PS.imp ps_pass fun D σ H ⟨c, F, ρ, h0, S, P⟩ => P σ F H (Same.refl _) S
def bkS : SF := fun ρ => .ok .bk ρ
def ctS : SF := fun ρ => .ok .ct ρ
theorem fs_break : PS X (.Break pos) (tS X.K π W bkS) := PS.imp ps_break fun D σ H ⟨c, F, ρ, h0, S, P⟩ => P σ F H (Same.refl _) S
theorem fs_continue : PS X (.Continue pos) (tS X.K π W ctS) := PS.imp ps_continue fun D σ H ⟨c, F, ρ, h0, S, P⟩ => P σ F H (Same.refl _) S
def stS : SF := fun _ => .stuck
/-- a statement that the proof never comes to -/
theorem fs_never : PS X st (tS X.K π W stS) := PS.imp (t := tNever) ps_never fun D σ H ⟨c, F, ρ, h0, S, P⟩ => P

/-! ### names stored -/
def setR (i : Nat) (s : Slot) (ρ : Rho) : Option Rho := if i < ρ.length then some (ρ.set i s) else none
def nxO : Option Rho → R Fl
  | some ρ => .ok .nx ρ
  | none => .stuck
def setS (i : Nat) (f : EF) : SF := fun ρ => (f ρ).bind fun d ρ => nxO (setR i (.val d) ρ)
theorem fs_set {i : Nat} {x : Str} {f : EF} {pos' : Pos} (hN : X.N.Nodup) (hi : X.N[i]? = some x) (hx : Loc X.env.scope x) (he : PE X e (tE X.K π W f)) (hs : swapsWith e (some (.Name x pos')) pos.line X.env = pure false := by rfl)
    (hf : X.fn x = true ∨ X.env.scope.names.lookup x = some .local := by first | exact .inl rfl | exact .inr rfl | assumption) : PS X (.Assign [.Name x pos'] e pos) (tS X.K π W (setS i f)) :=
  PS.imp (ps_set hN hi hx he hs hf) fun D σ H ⟨c, F, ρ, h0, S, P⟩ => by
    refine pos_bind S P fun v F1 H1 ρ1 d s1 S1 r1 P1 => ?_
    unfold setR at P1
    split at P1
    · rename_i hl
      exact P1 _ F1 H1 (Same.refl _) (S1.set hl r1)
    · exact P1.elim
def setM (i : Nat) (f : Rho → R M) : SF := fun ρ => (f ρ).bind fun m ρ => nxO (setR i (.own m) ρ)
theorem fs_setM {i : Nat} {x : Str} {f : Rho → R M} {pos' : Pos} (hN : X.N.Nodup) (hi : X.N[i]? = some x) (hx : Loc X.env.scope x) (he : PE X e (tM X.K π W f)) (hs : swapsWith e (some (.Name x pos')) pos.line X.env = pure false := by rfl)
    (hf : X.fn x = true ∨ X.env.scope.names.lookup x = some .local := by first | exact .inl rfl | exact .inr rfl | assumption) : PS X (.Assign [.Name x pos'] e pos) (tS X.K π W (setM i f)) :=
  PS.imp (ps_set hN hi hx he hs hf) fun D σ H ⟨c, F, ρ, h0, S, P⟩ => by
    refine pos_bind S P fun v F1 H1 ρ1 m s1 S1 r1 P1 => ?_
    obtain ⟨p, rfl, f1, f2, f3, hm⟩ := r1
    unfold setR at P1
    split at P1
    · rename_i hl
      exact P1 _ F1 H1 (Same.refl _) (S1.setOwn hl f1 (.inl f2) hm f3)
    · exact P1.elim
/-- targets -/
def nmG (i : Nat) : GF := fun d ρ => setR i (.val d) ρ
theorem fg_name {i : Nat} {x : Str} (hN : X.N.Nodup) (hi : X.N[i]? = some x) (hx : Loc X.env.scope x) (hf : X.fn x = true ∨ X.env.scope.names.lookup x = some .local := by first | exact .inl rfl | exact .inr rfl | assumption) : PG X (.Name x pos) (tGt X.K π [i] (nmG i)) :=
  PG.imp (pg_name hN hi hx hf) fun v σ H Q ⟨c, F, ρ, d, S, r, P⟩ => by
    unfold nmG setR at P
    split at P
    · rename_i hl
      exact P _ F H (Same.refl _) Off.set (S.set hl r)
    · exact P.elim
def nilG : GFs := fun ds ρ => match ds with
  | [] => some ρ
  | _ => none
def cnsG (g : GF) (h : GFs) : GFs := fun ds ρ => match ds with
  | d :: ds => (g d ρ).bind fun ρ => h ds ρ
  | [] => none
theorem fgs_nil : PGs X [] (tGts X.K π [] nilG) := PGs.imp pgs_nil fun vs σ H Q ⟨c, F, ρ, ds, S, r, P⟩ => by
  cases r with
  | nil => exact ⟨rfl, P σ F H (Same.refl _) (Off.refl _) S⟩
  | cons _ _ => exact P.elim
theorem fgs_cons {es : List Expr} {g : GF} {h : GFs} {ns ms : List Nat} (h1 : PG X e (tGt X.K π ns g)) (h2 : PGs X es (tGts X.K π ms h)) (hs : (assignEach (e :: es) X.env).map (·.2) = assign e X.env :: (assignEach es X.env).map (·.2) := by rfl) : PGs X (e :: es) (tGts X.K π (ns ++ ms) (cnsG g h)) :=
  PGs.imp (pgs_cons h1 h2 hs) fun vs σ H Q ⟨c, F, ρ, ds, S, r, P⟩ => by
    cases r with
    | nil => exact P.elim
    | @cons v vs d ds rv rs =>
      refine ⟨v, vs, rfl, c, F, ρ, d, S, rv, ?_⟩
      have P : PoG X.K π (ns ++ ms) c F σ Q ((g d ρ).bind fun ρ => h ds ρ) := P
      cases eg : g d ρ with
      | some ρ' =>
        rw [eg] at P
        have P : PoG X.K π (ns ++ ms) c F σ Q (h ds ρ') := P
        refine fun σ2 F2 H2 s2 of2 S2 => ⟨c, F2, ρ', ds, S2, rs.mono s2, ?_⟩
        cases eh : h ds ρ' with
        | none => rw [eh] at P; exact P
        | some ρ2 =>
          rw [eh] at P
          exact fun σ3 F3 H3 s3 of3 S3 => P σ3 F3 H3 (s2.trans s3) (of2.trans of3) S3
      | none => rw [eg] at P; exact P
def tupG (n : Nat) (h : GFs) : GF := fun d ρ => match d with
  | .tup ds => if ds.length = n then h ds ρ else none
  | _ => none
theorem fg_tup {es : List Expr} {k : Nat} {h : GFs} {n : Nat} (hc : X.calm = true) {ns : List Nat} (hh : PGs X es (tGts X.K π ns h)) (hn : (assignEach es X.env).length = n := by rfl) (hst : (assignEach es X.env).findIdx? (·.1) = none := by rfl) : PG X (.Tuple es k pos) (tGt X.K π ns (tupG n h)) :=
  PG.imp (pg_tup hc hh hn hst) fun v σ H Q ⟨c, F, ρ, d, S, r, P⟩ => by
    cases r with
    | @tup a xs ds h1 r1 =>
      have P : PoG X.K π ns c F σ Q (if ds.length = n then h ds ρ else none) := P
      split at P
      · rename_i hl
        exact ⟨a, xs, rfl, sm_tup S.f h1, by rw [Reps.length r1]; exact hl, c, F, ρ, ds, S, r1, P⟩
      · exact P.elim
    | _ => exact P.elim
def asgS (f : EF) (g : GF) : SF := fun ρ => (f ρ).bind fun d ρ => nxO (g d ρ)
theorem fs_asg {tg : Expr} {f : EF} {g : GF} {ns : List Nat} (he : PE X e (tE X.K π W f)) (hg : PG X tg (tGt X.K π ns g)) (hs : swapsWithSole [tg] e pos.line X.env = pure false := by rfl) (hw : swappedStores [tg] e X.env = pure none := by rfl)
    (h1 : (assignEach [tg] X.env).map (·.2) = [assign tg X.env] := by rfl) : PS X (.Assign [tg] e pos) (tS X.K π W (asgS f g)) :=
  PS.imp (ps_asg he hg hs hw h1) fun D σ H ⟨c, F, ρ, h0, S, P⟩ => by
    refine pos_bind S P fun v F1 H1 ρ1 d s1 S1 r1 P1 => ?_
    refine ⟨c, F1, ρ1, d, S1, r1, ?_⟩
    cases eg : g d ρ1 with
    | some ρ' =>
      rw [eg] at P1
      exact fun σ2 F2 H2 s2 _ S2 => P1 σ2 F2 H2 s2 S2
    | none => rw [eg] at P1; exact P1
/-- a, b = x, y -/
def parS (i j : Nat) (g : Rho → R (List D)) : SF := fun ρ => (g ρ).bind fun ds ρ => nxO (match ds with
  | [x, y] => (setR i (.val x) ρ).bind fun ρ => setR j (.val y) ρ
  | _ => none)
theorem fs_par {i j : Nat} {x y : Str} {px py pt : Pos} {kt k2 pt2} {g : Rho → R (List D)} (hc : X.calm = true) (hN : X.N.Nodup) (hi : X.N[i]? = some x) (hj : X.N[j]? = some y) (hij : i ≠ j)
    (hx : X.env.scope.names.lookup x = some .local) (hy : X.env.scope.names.lookup y = some .local) (ha : PA X [a, b] (tA X.K π W g))
    (hw : swappedStores [.Tuple [.Name x px, .Name y py] kt pt] (.Tuple [a, b] k2 pt2) X.env = pure (some [x, y]))
    (hs : swapsWithSole [.Tuple [.Name x px, .Name y py] kt pt] (.Tuple [a, b] k2 pt2) pos.line X.env = pure false := by rfl) :
    PS X (.Assign [.Tuple [.Name x px, .Name y py] kt pt] (.Tuple [a, b] k2 pt2) pos) (tS X.K π W (parS i j g)) :=
  PS.imp (ps_par hc hN hi hj hij hx hy ha hw hs) fun D σ H ⟨c, F, ρ, h0, S, P⟩ => by
    refine pos_bind S P fun vs F1 H1 ρ1 ds s1 S1 r1 P1 => ?_
    split at P1
    · obtain ⟨v, w, rfl, r2, r3⟩ := Reps.two r1
      unfold setR at P1
      split at P1
      · rename_i hl
        have P1 : PoS X.K π W c F1 σ D (nxO (if j < (ρ1.set i (.val _)).length then some _ else none)) := P1
        split at P1
        · rename_i hl2
          exact ⟨v, w, rfl, P1 _ F1 H1 (Same.refl _) ((S1.set hl r2).set hl2 r3)⟩
        · exact P1.elim
      · exact P1.elim
    · exact P1.elim
def par3S (i j l : Nat) (g : Rho → R (List D)) : SF := fun ρ => (g ρ).bind fun ds ρ => nxO (match ds with
  | [x, y, z] => (setR i (.val x) ρ).bind fun ρ => (setR j (.val y) ρ).bind fun ρ => setR l (.val z) ρ
  | _ => none)
theorem Reps.three {K : PySem.W.Frag} {F : Hp} {vs : List V} {d e f : D} (r : Reps K F vs [d, e, f]) : ∃ v w u, vs = [v, w, u] ∧ Rep K F v d ∧ Rep K F w e ∧ Rep K F u f := by
  cases r with
  | cons h t =>
    obtain ⟨w, u, rfl, h2, h3⟩ := Reps.two t
    exact ⟨_, _, _, rfl, h, h2, h3⟩
theorem setR_some {i : Nat} {s : Slot} {ρ ρ' : Rho} (h : setR i s ρ = some ρ') : i < ρ.length ∧ ρ' = ρ.set i s := by
  unfold setR at h
  split at h
  · cases h
    exact ⟨‹_›, rfl⟩
  · cases h
theorem fs_par3 {i j l : Nat} {x y z : Str} {d : Expr} {px py pz pt : Pos} {kt k2 pt2} {g : Rho → R (List D)} (hc : X.calm = true) (hN : X.N.Nodup) (hi : X.N[i]? = some x) (hj : X.N[j]? = some y) (hl : X.N[l]? = some z) (hij : i ≠ j) (hil : i ≠ l) (hjl : j ≠ l)
    (hx : X.env.scope.names.lookup x = some .local) (hy : X.env.scope.names.lookup y = some .local) (hz : X.env.scope.names.lookup z = some .local) (ha : PA X [a, b, d] (tA X.K π W g))
    (hw : swappedStores [.Tuple [.Name x px, .Name y py, .Name z pz] kt pt] (.Tuple [a, b, d] k2 pt2) X.env = pure (some [x, y, z]))
    (hs : swapsWithSole [.Tuple [.Name x px, .Name y py, .Name z pz] kt pt] (.Tuple [a, b, d] k2 pt2) pos.line X.env = pure false := by rfl) :
    PS X (.Assign [.Tuple [.Name x px, .Name y py, .Name z pz] kt pt] (.Tuple [a, b, d] k2 pt2) pos) (tS X.K π W (par3S i j l g)) :=
  PS.imp (ps_par3 hc hN hi hj hl hij hil hjl hx hy hz ha hw hs) fun D σ H ⟨c, F, ρ, h0, S, P⟩ => by
    refine pos_bind S P fun vs F1 H1 ρ1 ds s1 S1 r1 P1 => ?_
    split at P1
    · rename_i d1 d2 d3
      obtain ⟨v, w, u, rfl, r2, r3, r4⟩ := Reps.three r1
      cases e1 : setR i (.val d1) ρ1 with
      | none => rw [e1] at P1; exact P1.elim
      | some ρ2 =>
        rw [e1] at P1
        obtain ⟨hl1, rfl⟩ := setR_some e1
        cases e2 : setR j (.val d2) (ρ1.set i (.val d1)) with
        | none =>
          have P1 : PoS X.K π W c F1 σ D (nxO ((setR j (.val d2) (ρ1.set i (.val d1))).bind fun ρ => setR l (.val d3) ρ)) := P1
          rw [e2] at P1
          exact P1.elim
        | some ρ3 =>
          have P1 : PoS X.K π W c F1 σ D (nxO ((setR j (.val d2) (ρ1.set i (.val d1))).bind fun ρ => setR l (.val d3) ρ)) := P1
          rw [e2] at P1
          obtain ⟨hl2, rfl⟩ := setR_some e2
          have P1 : PoS X.K π W c F1 σ D (nxO (setR l (.val d3) ((ρ1.set i (.val d1)).set j (.val d2)))) := P1
          cases e3 : setR l (.val d3) ((ρ1.set i (.val d1)).set j (.val d2)) with
          | none => rw [e3] at P1; exact P1.elim
          | some ρ4 =>
            rw [e3] at P1
            obtain ⟨hl3, rfl⟩ := setR_some e3
            exact ⟨v, w, u, rfl, P1 _ F1 H1 (Same.refl _) (((S1.set hl1 r2).set hl2 r3).set hl3 r4)⟩
    · exact P1.elim

/-! ### our own lists -/
/-- the list of slot i, put back by the way it stands -/
def getM (i : Nat) (ρ : Rho) : Option (List D × (List D → Slot)) := match ρ[i]? with
  | some (.own (.lst ds)) => some (ds, fun es => .own (.lst es))
  | some (.io (.lst ds)) => some (ds, fun es => .io (.lst es))
  | _ => none
theorem Sta.getM {K : PySem.W.Frag} {c : Cfg} {F H : Hp} {σ : L2.St} {ρ : Rho} (S : Sta K π c F H σ ρ) {i : Nat} {ds : List D} {k : List D → Slot} (h : FL.getM i ρ = some (ds, k)) :
    ∃ p vs, σ[i]? = some (some (.ref p)) ∧ H p = some (.lst vs) ∧ Reps K F vs ds ∧ ∀ es ws, Reps K F ws es → Sta K π c F (upd H p (.lst ws)) σ (ρ.set i (k es)) := by
  unfold FL.getM at h
  split at h
  · rename_i ds' e
    cases h
    obtain ⟨p, e1, n, fr, vs, ho, r⟩ := S.rep i _ e
    exact ⟨p, vs, e1, ho, r, fun es ws q => S.change (o := .lst ws) ⟨e1, _, .inl e⟩ (m := .lst es) ⟨ws, upd_same, q⟩ _ (.inl ⟨rfl, _, e⟩)⟩
  · rename_i ds' e
    cases h
    obtain ⟨e1, n, fr, vs, ho, r⟩ := S.rep i _ e
    exact ⟨_, vs, e1, ho, r, fun es ws q => S.change (o := .lst ws) ⟨e1, _, .inr e⟩ (m := .lst es) ⟨ws, upd_same, q⟩ _ (.inr ⟨rfl, _, e⟩)⟩
  · cases h
/-- x.append(e) -/
def mutS (i : Nat) (f : EF) (o : List D → D → Option (List D)) : SF := fun ρ => match getM i ρ with
  | none => .stuck
  | some _ => (f ρ).bind fun d ρ => match getM i ρ with
    | some (ds, k) => match o ds d with
      | some es => .ok .nx (ρ.set i (k es))
      | none => .stuck
    | none => .stuck
def appO (ds : List D) (d : D) : Option (List D) := if small (ds.length + 1) = true then some (ds ++ [d]) else none
def extO (ds : List D) (d : D) : Option (List D) := match d with
  | .lst es => if small (ds.length + es.length) = true then some (ds ++ es) else none
  | _ => none
/-- what a method of our own list asks -/
theorem rd_mut {K : PySem.W.Frag} {i : Nat} {f : EF} {o : List D → D → Option (List D)} {r : V → List V → Hp → VK → Prop} {σ : L2.St} {H : Hp} {D : Ends}
    (q : ∀ {F H : Hp} {p : Addr} {vs : List V} {ds es : List FL.D} {v : V} {d : FL.D} {Q : VK}, Same F H → H p = some (.lst vs) → Reps K F vs ds → Rep K F v d → o ds d = some es → (∀ ws, Reps K F ws es → Q .non (upd H p (.lst ws))) → r (.ref p) [v] H Q)
    (h : tS K π W (mutS i f o) D σ H) : tDrop (tBM K "list" r (tVar i) (tCons (tE K π W f) tNil)) D σ H := by
  obtain ⟨c, F, ρ, h0, S, P⟩ := h
  unfold mutS at P
  split at P
  · exact P.elim
  · rename_i z eg
    obtain ⟨ds0, k0⟩ := z
    obtain ⟨p, vs0, e0, ho0, _⟩ := S.getM eg
    refine ⟨.ref p, e0, .inl ⟨rfl, vs0, SqL.of ho0⟩, ?_⟩
    have key : tE K π W f σ H fun v H1 => r (.ref p) [v] H1 fun _ H2 => D.nx σ H2 := by
      refine pos_bind S P fun v F1 H1 ρ1 d s1 S1 r1 P1 => ?_
      split at P1
      · rename_i ds k eg2
        split at P1
        · rename_i es eo
          obtain ⟨p', vs, e1, ho, rr, fin⟩ := S1.getM eg2
          rw [e0] at e1
          cases e1
          exact q S1.f ho rr r1 eo fun ws hw => P1 _ F1 _ (Same.refl _) (fin _ _ hw)
        · exact P1.elim
      · exact P1.elim
    exact key
theorem fs_append {i : Nat} {x : Str} {f : EF} {p apos cpos : Pos} (hx : PE X (.Name x p) (tVar i)) (he : PE X e (tE X.K π W f)) (hs : swapsWith (.Call (.Attribute (.Name x p) "append" apos) [e] [] cpos) none pos.line X.env = pure false := by rfl)
    (hbase : attributeBase (.Name x p) "append" X.env (eval (.Name x p) X.env) = eval (.Name x p) X.env := by rfl)
    (hfew : ((backTo cpos (starEach [e] X.env)).all (fun x => !x.1) && (backToKw cpos (keywordEach [] X.env)).all (fun x => x.1.isSome) && decide ([e].length + ([] : List Keyword).length + (if ([] : List Keyword).isEmpty then 0 else 1) < 30)) = true := by rfl)
    (hline : (apos.endLine == cpos.line) = true := by rfl) (hst : starEach [e] X.env = (false, eval e X.env) :: starEach [] X.env := by rfl) :
    PS X (.Expr (.Call (.Attribute (.Name x p) "append" apos) [e] [] cpos) pos) (tS X.K π W (mutS i f appO)) :=
  PS.imp (ps_expr (pe_bm PySem.F.plainAttrs_list PySem.F.slot_list_append PySem.F.type_list_append mt_append hx (pa_cons he pa_nil hst) hbase hfew hline hst (by rfl)) hs) fun D σ H h =>
    rd_mut (r := rAppend) (fun {F H p vs ds es v d Q} s ho rr rv eo k => by
      unfold appO at eo
      split at eo
      · rename_i hz
        cases eo
        have hl := small_le hz
        exact ⟨p, vs, v, rfl, rfl, ho, lt_line (by rw [Reps.length rr]; omega), k _ (rr.snoc rv)⟩
      · cases eo) h
theorem fs_extend {i : Nat} {x : Str} {f : EF} {p apos cpos : Pos} (hx : PE X (.Name x p) (tVar i)) (he : PE X e (tE X.K π W f)) (hs : swapsWith (.Call (.Attribute (.Name x p) "extend" apos) [e] [] cpos) none pos.line X.env = pure false := by rfl)
    (hbase : attributeBase (.Name x p) "extend" X.env (eval (.Name x p) X.env) = eval (.Name x p) X.env := by rfl)
    (hfew : ((backTo cpos (starEach [e] X.env)).all (fun x => !x.1) && (backToKw cpos (keywordEach [] X.env)).all (fun x => x.1.isSome) && decide ([e].length + ([] : List Keyword).length + (if ([] : List Keyword).isEmpty then 0 else 1) < 30)) = true := by rfl)
    (hline : (apos.endLine == cpos.line) = true := by rfl) (hst : starEach [e] X.env = (false, eval e X.env) :: starEach [] X.env := by rfl) :
    PS X (.Expr (.Call (.Attribute (.Name x p) "extend" apos) [e] [] cpos) pos) (tS X.K π W (mutS i f extO)) :=
  PS.imp (ps_expr (pe_bm PySem.F.plainAttrs_list PySem.F.slot_list_extend PySem.F.type_list_extend mt_extend hx (pa_cons he pa_nil hst) hbase hfew hline hst (by rfl)) hs) fun D σ H h =>
    rd_mut (r := rExtend) (fun {F H p vs ds es v d Q} s ho rr rv eo k => by
      unfold extO at eo
      split at eo
      · rename_i zs
        split at eo
        · rename_i hz
          cases eo
          have hl := small_le hz
          cases rv with
          | @lst b zv _ h1 r1 => exact ⟨p, b, vs, zv, rfl, rfl, ho, s _ _ h1, le_line (by rw [Reps.length rr, Reps.length r1]; exact hl), k _ (rr.append r1)⟩
        · cases eo
      · cases eo) h
/-- x[j] = e, of our own list -/
def putO (ds : List D) (j : D) (d : D) : Option (List D) := match j with
  | .int z => match ixN ds.length z with
    | some n => some (ds.set n d)
    | none => none
  | _ => none
def subG (i : Nat) (g : EF) : D → Rho → R Unit := fun d ρ => match getM i ρ with
  | none => .stuck
  | some _ => (g ρ).bind fun j ρ => match getM i ρ with
    | some (ds, k) => match putO ds j d with
      | some es => .ok () (ρ.set i (k es))
      | none => .stuck
    | none => .stuck
def subS (i : Nat) (f g : EF) : SF := fun ρ => (f ρ).bind fun d ρ => (subG i g d ρ).bind fun _ ρ => .ok .nx ρ
theorem fs_sub {i : Nat} {x : Str} {j : Expr} {f g : EF} {p tpos : Pos} (hx : PE X (.Name x p) (tVar i)) (he : PE X e (tE X.K π W f)) (hj : PE X j (tE X.K π W g))
    (ha : ∀ v, assign (.Subscript (.Name x p) j tpos) X.env v = (do
      let ov ← holding [v] (eval (.Name x p) X.env)
      let iv ← holding [v, ov] (eval j X.env)
      standAt tpos
      holding [v, ov, iv] (setItem ov iv v)
      release [v, ov, iv] []) := by intro _; rfl)
    (hs : swapsWithSole [(.Subscript (.Name x p) j tpos)] e pos.line X.env = pure false := by rfl) (hw : swappedStores [(.Subscript (.Name x p) j tpos)] e X.env = pure none := by rfl)
    (h1 : (assignEach [(.Subscript (.Name x p) j tpos)] X.env).map (·.2) = [assign (.Subscript (.Name x p) j tpos) X.env] := by rfl) :
    PS X (.Assign [.Subscript (.Name x p) j tpos] e pos) (tS X.K π W (subS i f g)) :=
  PS.imp (ps_asg he (pg_sub hx hj set_list ha) hs hw h1) fun D σ H ⟨c, F, ρ, h0, S, P⟩ => by
    refine pos_bind S P fun v F1 H1 ρ1 d s1 S1 r1 P1 => ?_
    unfold subG at P1
    split at P1
    · exact P1.elim
    · rename_i z eg
      obtain ⟨ds0, k0⟩ := z
      obtain ⟨q, vs0, e0, ho0, _⟩ := S1.getM eg
      refine ⟨.ref q, e0, ?_⟩
      have P2 : PoS X.K π W c F1 σ D ((g ρ1).bind fun j ρ => (match getM i ρ with
        | some (ds, k) => match putO ds j d with
          | some es => (R.ok () (ρ.set i (k es)) : R Unit)
          | none => .stuck
        | none => .stuck).bind fun _ ρ => .ok .nx ρ) := by
        cases hg : g ρ1 with
        | ok a b => rw [hg] at P1; exact P1
        | exc C fs b => rw [hg] at P1; exact P1
        | stuck => rw [hg] at P1; exact P1
      refine pos_bind S1 P2 fun w F2 H2 ρ2 dj s2 S2 r2 P3 => ?_
      cases eg2 : getM i ρ2 with
      | none => rw [eg2] at P3; exact P3.elim
      | some z =>
        obtain ⟨ds, k⟩ := z
        rw [eg2] at P3
        obtain ⟨q', vs, e1, ho, rr, fin⟩ := S2.getM eg2
        rw [e0] at e1
        cases e1
        cases ep : putO ds dj d with
        | none =>
          have P3 : PoS X.K π W c F2 σ D ((match putO ds dj d with
            | some es => (R.ok () (ρ2.set i (k es)) : R Unit)
            | none => .stuck).bind fun _ ρ => .ok .nx ρ) := P3
          rw [ep] at P3
          exact P3.elim
        | some es =>
          have P3 : PoS X.K π W c F2 σ D ((match putO ds dj d with
            | some es => (R.ok () (ρ2.set i (k es)) : R Unit)
            | none => .stuck).bind fun _ ρ => .ok .nx ρ) := P3
          rw [ep] at P3
          have P3 : PoS X.K π W c F2 σ D (.ok .nx (ρ2.set i (k es))) := P3
          unfold putO at ep
          split at ep
          · rename_i zz
            split at ep
            · rename_i n en
              cases ep
              cases r2
              refine ⟨q, vs, zz, n, rfl, rfl, ho, by rw [Reps.length rr]; exact en, P3 _ F2 _ (Same.refl _) (fin _ _ (Reps.set (Rep.mono s2 r1) n rr))⟩
            · cases ep
          · cases ep
/-- x[j], of our own list -/
def ixM (i : Nat) (g : EF) : EF := fun ρ => match getM i ρ with
  | none => .stuck
  | some _ => (g ρ).bind fun j ρ => match getM i ρ, j with
    | some (ds, _), .int z => R.of (atI ds z) ρ
    | _, _ => .stuck
theorem fe_ixM {i : Nat} {x : Str} {g : EF} {p : Pos} (hx : PE X (.Name x p) (tVar i)) (hb : PE X b (tE X.K π W g)) (hs : PlainIx b) : PE X (.Subscript (.Name x p) b pos) (tE X.K π W (ixM i g)) :=
  PE.imp (pe_ix ix_list hx hb hs) fun σ H Q ⟨c, F, ρ, S, P⟩ => by
    unfold ixM at P
    split at P
    · exact P.elim
    · rename_i z eg
      obtain ⟨ds0, k0⟩ := z
      obtain ⟨q, vs0, e0, ho0, _⟩ := S.getM eg
      refine ⟨.ref q, e0, ?_⟩
      refine po_bind S P fun w F2 H2 ρ2 dj s2 S2 r2 P3 => ?_
      cases eg2 : getM i ρ2 with
      | none =>
        rw [eg2] at P3
        exact P3.elim
      | some z =>
        obtain ⟨ds, k⟩ := z
        rw [eg2] at P3
        obtain ⟨q', vs, e1, ho, rr, fin⟩ := S2.getM eg2
        rw [e0] at e1
        cases e1
        cases r2 <;> first | (exact P3.elim) | skip
        rename_i zz
        obtain ⟨d, ed, P4⟩ := po_of P3
        obtain ⟨v, h2, r3⟩ := rr.atI ed
        exact ⟨q, vs, zz, v, rfl, rfl, SqL.of ho, h2, P4 v F2 H2 (Same.refl _) S2 r3⟩
/-- len of our own list -/
def lenM (i : Nat) : EF := fun ρ => match getM i ρ with
  | some (ds, _) => .ok (.int ds.length) ρ
  | none => .stuck
theorem fe_lenM {i : Nat} {x y : Str} {p q : Pos} (hx : PE X (.Name x p) (tVar i)) (hy : y = "len" := by rfl) (hg : Gl X y) (hm : X.mg y = none) (he : starEach [.Name x p] X.env = (false, eval (.Name x p) X.env) :: starEach [] X.env := by rfl) (hpl : (backTo pos (starEach [] X.env)).any (·.1) = false := by rfl) :
    PE X (.Call (.Name y q) [.Name x p] [] pos) (tE X.K π W (lenM i)) := by
  subst hy
  exact PE.imp (pe_callB (o_len (X := X)) hg hm boot_len (pa_cons hx pa_nil he) (by decide) (by decide) he hpl) fun σ H Q ⟨c, F, ρ, S, P⟩ => by
    unfold lenM at P
    split at P
    · rename_i ds k eg
      obtain ⟨q', vs, e1, ho, rr, fin⟩ := S.getM eg
      exact ⟨.ref q', e1, .ref q', vs.length, rfl, .inl ⟨vs, SqL.of ho, rfl⟩, by rw [Reps.length rr]; exact P _ F H (Same.refl _) S (.int _)⟩
    · exact P.elim
end
end FL
/-! FL6: loops, comprehensions. -/
namespace FL
open PySem PySem.Spec PyProof.Rows L2

/-! ### while -/
def whN (ks : List Nat) (t : TF) (b : SF) : Nat → Rho → R Fl
  | 0, _ => .stuck
  | n + 1, ρ => (t ρ).bind fun c ρ => if c = true then (b ρ).bind fun fl ρ => match fl with
      | .nx => whN ks t b n (wipeR ks ρ)
      | .ct => whN ks t b n (wipeR ks ρ)
      | .bk => .ok .nx (wipeR ks ρ)
      | .rt r => .ok (.rt r) ρ
    else .ok .nx ρ
def isStuck : R Fl → Bool
  | .stuck => true
  | _ => false
open Classical in
noncomputable def whS (ks : List Nat) (t : TF) (b : SF) : SF := fun ρ => if h : ∃ n, isStuck (whN ks t b n ρ) = false then whN ks t b (Classical.choose h) ρ else .stuck
theorem whN_mono {ks : List Nat} {t : TF} {b : SF} : ∀ {n m : Nat} {ρ : Rho}, n ≤ m → isStuck (whN ks t b n ρ) = false → whN ks t b m ρ = whN ks t b n ρ
  | 0, _, _, _, h => by cases h
  | n + 1, 0, _, hl, _ => by omega
  | n + 1, m + 1, ρ, hl, h => by
    unfold whN at h ⊢
    cases et : t ρ with
    | stuck => rfl
    | exc C fs ρ' => rfl
    | ok c ρ' =>
      rw [et] at h
      simp only [R.ok_bind] at h ⊢
      cases c with
      | false => rfl
      | true =>
        rw [if_pos rfl] at h ⊢
        cases eb : b ρ' with
        | stuck => rfl
        | exc C fs ρ2 => simp only [eb, R.exc_bind]; rfl
        | ok fl ρ2 =>
          rw [eb] at h
          simp only [R.ok_bind, if_true] at h ⊢
          cases fl with
          | nx => exact whN_mono (by omega) h
          | ct => exact whN_mono (by omega) h
          | bk => rfl
          | rt r => rfl
theorem whS_eq {ks : List Nat} {t : TF} {b : SF} {n : Nat} {ρ : Rho} (h : isStuck (whN ks t b n ρ) = false) : whS ks t b ρ = whN ks t b n ρ := by
  have hx : ∃ n, isStuck (whN ks t b n ρ) = false := ⟨n, h⟩
  unfold whS
  rw [dif_pos hx]
  have h2 := Classical.choose_spec hx
  rcases Nat.le_total n (Classical.choose hx) with z | z
  · exact whN_mono z h
  · exact (whN_mono z h2).symm
section
variable [FE]
variable {X : Cx} {π : Nat → Addr} {W : WX} {pos : Pos}
theorem fs_while {cx : Expr} {body : List Stmt} {t : TF} {b : SF} {ks : List Nat} (hp : PassesOwn (model X.prog X.w) X.A X.env X.xe) (hc : PT X cx (tT X.K π W t)) (hb : PSs X body (tS X.K π W b)) : PS X (.While cx body [] pos) (tS X.K π W (whS ks t b)) :=
  PS.imp (ps_while hp hc hb) fun D σ H ⟨c, F, ρ, h0, S, P⟩ => by
    unfold whS at P
    split at P
    · rename_i hx
      generalize Classical.choose hx = n at P
      refine ⟨fun m σ H => ∃ F ρ, Sta X.K π c F H σ ρ ∧ PoS X.K π W c F σ D (whN ks t b m ρ), ⟨n, F, ρ, S, P⟩, ?_⟩
      rintro m σ1 H1 ⟨F1, ρ1, S1, P1⟩
      cases m with
      | zero => exact P1.elim
      | succ m =>
        unfold whN at P1
        refine pos_bind S1 P1 fun b' F2 H2 ρ2 d s2 S2 r2 P2 => ?_
        cases r2
        cases b' with
        | false =>
          rw [if_neg Bool.false_ne_true] at P2 ⊢
          exact P2 σ1 F2 H2 (Same.refl _) S2
        | true =>
          rw [if_pos rfl] at P2 ⊢
          refine ⟨fun σ3 H3 => ∃ F3 ρ3, Sta X.K π c F3 H3 σ3 ρ3 ∧ PoS X.K π W c F3 σ3 D (whN ks t b m ρ3), fun σ3 H3 w => ⟨m, Nat.lt_succ_self m, w⟩, c, F2, ρ2, h0, S2, ?_⟩
          cases eb : b ρ2 with
          | stuck => rw [eb] at P2; exact P2
          | exc C fs ρ3 => rw [eb] at P2; exact P2
          | ok fl ρ3 =>
            rw [eb] at P2
            cases fl with
            | nx => exact fun σ3 F3 H3 s3 S3 => ⟨F3, _, S3.wipe, PoS.mono s3 P2⟩
            | ct => exact fun σ3 F3 H3 s3 S3 => ⟨F3, _, S3.wipe, PoS.mono s3 P2⟩
            | bk => exact fun σ3 F3 H3 s3 S3 => P2 σ3 F3 H3 s3 S3.wipe
            | rt r => exact P2
    · exact P.elim
end

/-! ### what is walked -/
variable [FE] in
structure Wk (K : PySem.W.Frag) (F : Hp) (J : It) (ds : List D) : Prop where
  go : ∀ F' H', Same F F' → Same F' H' → ∀ i d, ds[i]? = some d → J.go i H' ∧ ∀ x H2, J.yld i H' x H2 → ∃ F2, Grw F' H' F2 H2 ∧ Rep K F2 x d
  stop : ∀ H', Same F H' → J.stop ds.length H'
variable [FE] in
theorem Wk.mono {K : PySem.W.Frag} {F F' : Hp} {J : It} {ds : List D} (w : Wk K F J ds) (s : Same F F') : Wk K F' J ds := ⟨fun F2 H2 s1 s2 => w.go F2 H2 (s.trans s1) s2, fun H2 s1 => w.stop H2 (s.trans s1)⟩
variable [FE] in
def relI (K : PySem.W.Frag) : Rel It (List D) := fun _ F _ _ _ J ds => Wk K F J ds
abbrev IF := Rho → R (List D)
variable [FE] in
abbrev tI (K : PySem.W.Frag) (π : Nat → Addr) (W : WX) (it : IF) : TI := tG K π W (relI K) it
section
variable [FE]
variable {X : Cx} {π : Nat → Addr} {W : WX} {tg e a b : Expr} {pos p : Pos}
theorem PI.imp {w w' : TI} (h : PI X tg e w) (k : ∀ σ H R, w' σ H R → w σ H R) : PI X tg e w' := ⟨fun pins s σ H R I q => h.run pins s σ H R I (k σ H R q)⟩
def seqD : D → Option (List D)
  | .tup xs => some xs
  | .lst xs => some xs
  | .scr ns => some (ns.map D.int)
  | _ => none
def seqI (f : EF) : IF := fun ρ => (f ρ).bind fun d ρ => R.of (seqD d) ρ
theorem wk_listL {K : PySem.W.Frag} {F : Hp} {q : Addr} {xs : List V} {ds : List D} (h : SqL K F q xs) (r : Reps K F xs ds) : Wk K F (Itl K q) ds := by
  refine ⟨fun F' H' s1 s2 i d hd => ?_, fun H' s => ⟨xs, Same.seq s h, by rw [Reps.length r]; exact Nat.le_refl _⟩⟩
  obtain ⟨v, hv, rv⟩ := r.get hd
  refine ⟨⟨xs, v, Same.seq (s1.trans s2) h, hv⟩, fun x H2 ⟨e1, e2⟩ => ?_⟩
  subst e1
  have := e2 xs (Same.seq (s1.trans s2) h)
  rw [hv] at this
  cases this
  exact ⟨F', Grw.refl s2, rv.mono s1⟩
theorem wk_tup {K : PySem.W.Frag} {F : Hp} {q : Addr} {xs : List V} {ds : List D} (h : SqT K F q xs) (r : Reps K F xs ds) : Wk K F (Itt K q) ds := by
  refine ⟨fun F' H' s1 s2 i d hd => ?_, fun H' s => ⟨xs, sm_tup s h, by rw [Reps.length r]; exact Nat.le_refl _⟩⟩
  obtain ⟨v, hv, rv⟩ := r.get hd
  refine ⟨⟨xs, v, sm_tup (s1.trans s2) h, hv⟩, fun x H2 ⟨e1, e2⟩ => ?_⟩
  subst e1
  have := e2 xs (sm_tup (s1.trans s2) h)
  rw [hv] at this
  cases this
  exact ⟨F', Grw.refl s2, rv.mono s1⟩
theorem PI.or {w w' : TI} (h : PI X tg e w) (h' : PI X tg e w') : PI X tg e (fun σ H R => w σ H R ∨ w' σ H R) := ⟨fun pins s σ H R I q => q.elim (h.run pins s σ H R I) (h'.run pins s σ H R I)⟩
theorem fi_seq {f : EF} (he : PE X e (tE X.K π W f)) : PI X tg e (tI X.K π W (seqI f)) :=
  PI.imp (PI.or (pi_list he) (pi_tup he)) fun σ H R ⟨c, F, ρ, S, P⟩ => by
    unfold seqI at P
    cases ef : f ρ with
    | stuck => rw [ef] at P; exact P.elim
    | exc C fs ρ1 =>
      rw [ef] at P
      exact .inl ⟨c, F, ρ, S, by rw [ef]; exact P⟩
    | ok d ρ1 =>
      rw [ef] at P
      have P : Po X.K π W (relI X.K) c F σ R (FL.R.of (seqD d) ρ1) := P
      cases d <;> first | (exact P.elim) | skip
      · rename_i xs
        refine .inr ⟨c, F, ρ, S, ?_⟩
        rw [ef]
        intro v F1 H1 s1 S1 r1
        cases r1 with
        | @tup q vs _ h1 r1 => exact ⟨q, rfl, ⟨vs, sm_tup S1.f h1⟩, P _ F1 H1 s1 S1 (wk_tup h1 r1)⟩
      · rename_i xs
        refine .inl ⟨c, F, ρ, S, ?_⟩
        rw [ef]
        intro v F1 H1 s1 S1 r1
        cases r1 with
        | @lst q vs _ h1 r1 => exact ⟨q, rfl, ⟨vs, SqL.of (S1.f _ _ h1)⟩, P _ F1 H1 s1 S1 (wk_listL (SqL.of h1) r1)⟩
      · rename_i ns
        refine .inl ⟨c, F, ρ, S, ?_⟩
        rw [ef]
        intro v F1 H1 s1 S1 r1
        cases r1 with
        | @scr q _ h1 => exact ⟨q, rfl, ⟨_, Same.seq S1.f h1⟩, P _ F1 H1 s1 S1 (wk_listL h1 (Reps.ints _))⟩
/-- range -/
def rangeL (lo : Int) : Nat → List D
  | 0 => []
  | n + 1 => .int lo :: rangeL (lo + 1) n
theorem rangeL_length : ∀ (n : Nat) (lo : Int), (rangeL lo n).length = n
  | 0, _ => rfl
  | n + 1, lo => by rw [rangeL, List.length_cons, rangeL_length n]
theorem rangeL_get : ∀ (n : Nat) (lo : Int) (i : Nat) (d : D), (rangeL lo n)[i]? = some d → i < n ∧ d = .int (lo + i)
  | 0, _, _, _, h => by simp [rangeL] at h
  | n + 1, lo, 0, d, h => by
    simp [rangeL] at h
    exact ⟨by omega, by rw [← h]; simp⟩
  | n + 1, lo, i + 1, d, h => by
    obtain ⟨h1, h2⟩ := rangeL_get n (lo + 1) i d (by simpa [rangeL] using h)
    refine ⟨by omega, ?_⟩
    rw [h2]
    congr 1
    omega
theorem wk_range {K : PySem.W.Frag} {F : Hp} {lo : Int} {n : Nat} : Wk K F (Itr lo n) (rangeL lo n) := by
  refine ⟨fun F' H' s1 s2 i d hd => ?_, fun H' s => ?_⟩
  · obtain ⟨h1, rfl⟩ := rangeL_get n lo i d hd
    refine ⟨h1, fun x H2 ⟨e1, e2⟩ => ?_⟩
    subst e1
    subst e2
    exact ⟨F', Grw.refl s2, .int _⟩
  · rw [rangeL_length]
    exact Nat.le_refl _
def rgOk (i : Int) : Bool := decide (i.natAbs < 2 ^ 62)
def rng1 (g : Rho → R (List D)) : IF := fun ρ => (g ρ).bind fun ds ρ => R.of (match ds with
  | [.int j] => if rgOk j = true then some (rangeL 0 j.toNat) else none
  | _ => none) ρ
def rng2 (g : Rho → R (List D)) : IF := fun ρ => (g ρ).bind fun ds ρ => R.of (match ds with
  | [.int i, .int j] => if rgOk i = true ∧ rgOk j = true then some (rangeL i (j - i).toNat) else none
  | _ => none) ρ
theorem fi_range1 {g : Rho → R (List D)} (hg : Gl X "range") (hm : X.mg "range" = none) (ha : PA X [a] (tA X.K π W g)) (hs : starEach [a] X.env = [(false, eval a X.env)] := by rfl) : PI X tg (.Call (.Name "range" p) [a] [] pos) (tI X.K π W (rng1 g)) :=
  PI.imp (pi_range1 hg hm ha hs) fun σ H R ⟨c, F, ρ, S, P⟩ => by
    refine po_bind S P fun vs F1 H1 ρ1 ds s1 S1 r1 P1 => ?_
    obtain ⟨l, e, P2⟩ := po_of P1
    split at e
    · rename_i j
      split at e
      · rename_i hz
        cases e
        obtain ⟨v, rfl, h⟩ := Reps.one r1
        cases h
        have hz : j.natAbs < 2 ^ 62 := of_decide_eq_true hz
        exact ⟨j, rfl, by omega, by omega, P2 _ F1 H1 (Same.refl _) S1 wk_range⟩
      · cases e
    · cases e
theorem fi_range2 {g : Rho → R (List D)} (hg : Gl X "range") (hm : X.mg "range" = none) (ha : PA X [a, b] (tA X.K π W g)) (hs : starEach [a, b] X.env = [(false, eval a X.env), (false, eval b X.env)] := by rfl) (hs2 : starEach [b] X.env = [(false, eval b X.env)] := by rfl) :
    PI X tg (.Call (.Name "range" p) [a, b] [] pos) (tI X.K π W (rng2 g)) :=
  PI.imp (pi_range2 hg hm ha hs hs2) fun σ H R ⟨c, F, ρ, S, P⟩ => by
    refine po_bind S P fun vs F1 H1 ρ1 ds s1 S1 r1 P1 => ?_
    obtain ⟨l, e, P2⟩ := po_of P1
    split at e
    · rename_i i j
      split at e
      · rename_i hz
        cases e
        obtain ⟨v, w, rfl, h, h2⟩ := Reps.two r1
        cases h
        cases h2
        have z1 : i.natAbs < 2 ^ 62 := of_decide_eq_true hz.1
        have z2 : j.natAbs < 2 ^ 62 := of_decide_eq_true hz.2
        exact ⟨i, j, rfl, ⟨by omega, by omega, by omega, by omega⟩, P2 _ F1 H1 (Same.refl _) S1 wk_range⟩
      · cases e
    · cases e

/-! ### for -/
/-- behind a turn -/
def aftF (ks : List Nat) (k : Rho → R Fl) : Fl → Rho → R Fl
  | .nx, ρ => k (wipeR ks ρ)
  | .ct, ρ => k (wipeR ks ρ)
  | .bk, ρ => .ok .nx (wipeR ks ρ)
  | .rt r, ρ => .ok (.rt r) ρ
def bindO {α : Type} (x : Option Rho) (k : Rho → R α) : R α := match x with
  | some ρ => k ρ
  | none => .stuck
def forL (ks : List Nat) (g : GF) (b : SF) : List D → Rho → R Fl
  | [], ρ => .ok .nx ρ
  | d :: ds, ρ => bindO (g d ρ) fun ρ => (b ρ).bind (aftF ks (forL ks g b ds))
def forS (ks : List Nat) (it : IF) (g : GF) (b : SF) : SF := fun ρ => (it ρ).bind fun ds ρ => forL ks g b ds ρ
theorem fs_for {body : List Stmt} {it : IF} {g : GF} {b : SF} {ks ns : List Nat} (hp : PassesOwn (model X.prog X.w) X.A X.env X.xe) (hc : X.calm = true) (hi : PI X tg e (tI X.K π W it)) (hg : PG X tg (tGt X.K π ns g)) (hb : PSs X body (tS X.K π W b))
    (hs : ∀ x, foldedSetIterable e X.env x = pure x := by intro _; rfl) : PS X (.For tg e body [] pos) (tS X.K π W (forS ks it g b)) :=
  PS.imp (ps_for hp hc hi hg hb hs) fun D σ H ⟨c, F, ρ, h0, S, P⟩ => by
    refine pos_bind S P fun J F1 H1 ρ1 ds s1 S1 wk P1 => ?_
    refine ⟨fun i m σ H => i + m = ds.length ∧ ∃ F ρ, Same F1 F ∧ Sta X.K π c F H σ ρ ∧ PoS X.K π W c F σ D (forL ks g b (ds.drop i) ρ), ⟨ds.length, by omega, F1, ρ1, Same.refl _, S1, P1⟩, ?_⟩
    rintro i m σ2 H2 ⟨him, F2, ρ2, s2, S2, P2⟩
    cases m with
    | zero =>
      have hi : i = ds.length := by omega
      subst hi
      rw [List.drop_length] at P2
      exact .inl ⟨wk.stop H2 (s2.trans S2.f), P2 σ2 F2 H2 (Same.refl _) S2⟩
    | succ m =>
      have hlt : i < ds.length := by omega
      obtain ⟨hgo, hy⟩ := wk.go F2 H2 s2 S2.f i ds[i] (by simp [hlt])
      rw [List.drop_eq_getElem_cons hlt] at P2
      refine .inr ⟨hgo, fun σ3 H3 => ∃ F3 ρ3, Same F1 F3 ∧ Sta X.K π c F3 H3 σ3 ρ3 ∧ PoS X.K π W c F3 σ3 D (forL ks g b (ds.drop (i + 1)) ρ3), fun σ3 H3 ⟨F3, ρ3, a1, a2, a3⟩ => ⟨m, Nat.lt_succ_self m, by omega, F3, ρ3, a1, a2, a3⟩, fun x H3 yl => ?_⟩
      obtain ⟨F3, gr, rx⟩ := hy x H3 yl
      refine ⟨c, F3, ρ2, ds[i], S2.grow gr, rx, ?_⟩
      have P2 : PoS X.K π W c F2 σ2 D (bindO (g ds[i] ρ2) fun ρ => (b ρ).bind (aftF ks (forL ks g b (ds.drop (i + 1))))) := P2
      cases eg : g ds[i] ρ2 with
      | none => rw [eg] at P2; exact P2
      | some ρ3 =>
        rw [eg] at P2
        intro σ4 F4 H4 s4 of4 S4
        refine ⟨c, F4, ρ3, h0, S4, ?_⟩
        have P2 : PoS X.K π W c F4 σ4 D ((b ρ3).bind (aftF ks (forL ks g b (ds.drop (i + 1))))) := PoS.mono (gr.f.trans s4) P2
        have s14 : Same F1 F4 := s2.trans (gr.f.trans s4)
        cases eb : b ρ3 with
        | stuck => rw [eb] at P2; exact P2
        | exc C fs ρ4 => rw [eb] at P2; exact P2
        | ok fl ρ4 =>
          rw [eb] at P2
          cases fl with
          | nx => exact fun σ5 F5 H5 s5 S5 => ⟨F5, _, s14.trans s5, S5.wipe, PoS.mono s5 P2⟩
          | ct => exact fun σ5 F5 H5 s5 S5 => ⟨F5, _, s14.trans s5, S5.wipe, PoS.mono s5 P2⟩
          | bk => exact fun σ5 F5 H5 s5 S5 => P2 σ5 F5 H5 s5 S5.wipe
          | rt r => exact P2

end

/-! ### comprehensions -/
/-- an exception: nothing is said of it -/
def noX {α : Type} (x : R α) : R α := match x with
  | .exc _ _ _ => .stuck
  | y => y
abbrev W0 : WX := fun _ _ _ _ => False
/-- the turns of a comprehension -/
def cmpL (ks : List Nat) (g : GF) (t : TF) (f : EF) : List D → List D → Rho → R M
  | acc, [], ρ => .ok (.lst acc) ρ
  | acc, d :: ds, ρ => bindO (g d ρ) fun ρ => (noX (t ρ)).bind fun b ρ => if b = true then (noX (f ρ)).bind fun x ρ => if small (acc.length + 1) = true then cmpL ks g t f (acc ++ [x]) ds (wipeR ks ρ) else .stuck else cmpL ks g t f acc ds (wipeR ks ρ)
/-- the slots of a comprehension's names as they were -/
def resR : List Nat → Rho → Rho → Option Rho
  | [], _, ρ => some ρ
  | k :: ks, ρ0, ρ => match ρ0[k]? with
    | some (.val d) => resR ks ρ0 (ρ.set k (.val d))
    | some .no => resR ks ρ0 (ρ.set k .no)
    | none => resR ks ρ0 ρ
    | _ => none
def cmpM (ks : List Nat) (it : IF) (g : GF) (t : TF) (f : EF) : Rho → R M := fun ρ => (it ρ).bind fun ds ρ0 => (cmpL ks g t f [] ds (wipeR ks ρ0)).bind fun m ρ => bindO (resR ks ρ0 ρ) fun ρ => .ok m ρ
theorem wipe_at {σ : L2.St} {j : Nat} : ∀ {vs : List Nat}, j ∈ vs → j < σ.length → (wipe σ vs)[j]? = some none
  | v :: vs, h, hl => by
    unfold wipe
    by_cases e : v = j
    · subst e
      exact List.getElem?_set_self (by rw [wipe_length]; exact hl)
    · rw [List.getElem?_set_ne e]
      exact wipe_at ((List.mem_cons.mp h).resolve_left (fun z => e z.symm)) hl
theorem wipe_off {σ σ' : L2.St} {vs : List Nat} (h : Off vs σ σ') : wipe σ' vs = wipe σ vs := by
  refine List.ext_getElem? fun j => ?_
  by_cases hj : j ∈ vs
  · by_cases hl : j < σ.length
    · rw [wipe_at hj hl, wipe_at hj (by rw [h.1]; exact hl)]
    · rw [List.getElem?_eq_none (by rw [wipe_length, h.1]; omega), List.getElem?_eq_none (by rw [wipe_length]; omega)]
  · rw [wipe_out hj, wipe_out hj, h.2 j hj]
theorem wipe_wipe {σ : L2.St} {vs : List Nat} : wipe (wipe σ vs) vs = wipe σ vs := (wipe_off (σ := σ) (σ' := wipe σ vs) ⟨wipe_length _ _, fun j hj => wipe_out hj⟩)
theorem wipeR_get {j : Nat} : ∀ {ks : List Nat} {ρ : Rho}, (wipeR ks ρ)[j]? = if j ∈ ks ∧ j < ρ.length then some .no else ρ[j]?
  | [], ρ => by simp [wipeR]
  | k :: ks, ρ => by
    show (wipeR ks (ρ.set k .no))[j]? = _
    rw [wipeR_get, List.length_set]
    by_cases hl : j < ρ.length
    · by_cases h1 : j ∈ ks
      · rw [if_pos ⟨h1, hl⟩, if_pos ⟨List.mem_cons_of_mem _ h1, hl⟩]
      · rw [if_neg (fun z => h1 z.1)]
        by_cases h2 : k = j
        · subst h2
          rw [List.getElem?_set_self hl, if_pos ⟨List.mem_cons_self, hl⟩]
        · rw [List.getElem?_set_ne h2, if_neg (fun z => (List.mem_cons.mp z.1).elim (fun q => h2 q.symm) h1)]
    · rw [if_neg (fun z => hl z.2), if_neg (fun z => hl z.2)]
      rw [List.getElem?_eq_none (by rw [List.length_set]; omega), List.getElem?_eq_none (by omega)]
section
variable [FE]
variable {K : PySem.W.Frag} {π : Nat → Addr} {c : Cfg} {F F' H H' : Hp} {σ : L2.St} {ρ ρ' : Rho}
/-- into the block: the names of the block are not seen -/
theorem Sta.into (S : Sta K π c F H σ ρ) (ks : List Nat) : Sta K π c F H (L2.wipe σ ks) (wipeR ks ρ) := by
  have S1 : Sta K π c F H σ (wipeR ks ρ) := S.wipe
  have hl : (wipeR ks ρ).length = ρ.length := by rw [← S1.len, S.len]
  have out : ∀ j, j ∉ ks → (L2.wipe σ ks)[j]? = σ[j]? := fun j hj => wipe_out hj
  have nin : ∀ j s, (wipeR ks ρ)[j]? = some s → s ≠ .no → j ∉ ks := fun j s e hs hj => by
    rw [wipeR_get] at e
    by_cases hlt : j < ρ.length
    · rw [if_pos ⟨hj, hlt⟩] at e
      cases e
      exact hs rfl
    · rw [if_neg (fun z => hlt z.2), List.getElem?_eq_none (by omega)] at e
      cases e
  refine ⟨S1.h0, S1.hio, S1.f0, S1.f, S1.nf, by rw [L2.wipe_length]; exact S1.len, fun j s hs => ?_, fun i j p h1 h2 => ?_, S1.t⟩
  · have z := S1.rep j s hs
    cases s with
    | no => trivial
    | val d => obtain ⟨v, e, r⟩ := z; exact ⟨v, (out j (nin j _ hs (fun q => nomatch q))).trans e, r⟩
    | own m => obtain ⟨p, e, r⟩ := z; exact ⟨p, (out j (nin j _ hs (fun q => nomatch q))).trans e, r⟩
    | io m => obtain ⟨e, r⟩ := z; exact ⟨(out j (nin j _ hs (fun q => nomatch q))).trans e, r⟩
  · have key : ∀ j, OwnAt (L2.wipe σ ks) (wipeR ks ρ) j p → OwnAt σ (wipeR ks ρ) j p := fun j ⟨e, m, h⟩ => by
      have hj : j ∉ ks := by
        rcases h with h | h
        · exact nin j _ h (fun q => nomatch q)
        · exact nin j _ h (fun q => nomatch q)
      exact ⟨(out j hj).symm.trans e, m, h⟩
    exact S1.dis i j p (key i h1) (key j h2)
/-- out of the block -/
theorem Sta.outof {ks : List Nat} (S0 : Sta K π c F H σ ρ) (g : Same F F') : ∀ {ls : List Nat} {ρ1 ρ2 : Rho}, (∀ l ∈ ls, l ∈ ks) → (∀ j s, ρ1[j]? = some s → SlotOk K π c F' H' σ j s) → (∀ i j p, OwnAt σ ρ1 i p → OwnAt σ ρ1 j p → i = j) → ρ1.length = ρ.length → resR ls ρ ρ1 = some ρ2 →
    (∀ j s, ρ2[j]? = some s → SlotOk K π c F' H' σ j s) ∧ (∀ i j p, OwnAt σ ρ2 i p → OwnAt σ ρ2 j p → i = j) ∧ ρ2.length = ρ.length ∧ ∀ j p, OwnAt σ ρ2 j p → OwnAt σ ρ1 j p
  | [], ρ1, ρ2, _, h1, h2, h3, e => by
    cases e
    exact ⟨h1, h2, h3, fun _ _ h => h⟩
  | l :: ls, ρ1, ρ2, hs, h1, h2, h3, e => by
    have step : ∀ s : Slot, SlotOk K π c F' H' σ l s → isO s = false → isI s = false → resR ls ρ (ρ1.set l s) = some ρ2 → (∀ j s, ρ2[j]? = some s → SlotOk K π c F' H' σ j s) ∧ (∀ i j p, OwnAt σ ρ2 i p → OwnAt σ ρ2 j p → i = j) ∧ ρ2.length = ρ.length ∧ ∀ j p, OwnAt σ ρ2 j p → OwnAt σ ρ1 j p := fun s ok no ni e => by
      have key : ∀ j p, OwnAt σ (ρ1.set l s) j p → OwnAt σ ρ1 j p := fun j p ⟨q, m, h⟩ => by
        by_cases hj : l = j
        · subst hj
          by_cases hlt : l < ρ1.length
          · rw [List.getElem?_set_self hlt] at h
            rcases h with h | h
            · cases h; cases no
            · cases h; cases ni
          · rw [List.getElem?_eq_none (by rw [List.length_set]; omega)] at h
            rcases h with h | h <;> cases h
        · rw [List.getElem?_set_ne hj] at h
          exact ⟨q, m, h⟩
      have q1 : ∀ j s', (ρ1.set l s)[j]? = some s' → SlotOk K π c F' H' σ j s' := fun j s' e' => by
        by_cases hj : l = j
        · subst hj
          by_cases hlt : l < ρ1.length
          · rw [List.getElem?_set_self hlt] at e'
            cases e'
            exact ok
          · rw [List.getElem?_eq_none (by rw [List.length_set]; omega)] at e'
            cases e'
        · rw [List.getElem?_set_ne hj] at e'
          exact h1 j s' e'
      obtain ⟨a1, a2, a3, a4⟩ := Sta.outof S0 g (ls := ls) (ρ1 := ρ1.set l s) (fun l hl => hs l (List.mem_cons_of_mem _ hl)) q1 (fun i j p a b => h2 i j p (key i p a) (key j p b)) (by rw [List.length_set]; exact h3) e
      exact ⟨a1, a2, a3, fun j p h => key j p (a4 j p h)⟩
    unfold resR at e
    cases eq : ρ[l]? with
    | none =>
      rw [eq] at e
      exact Sta.outof S0 g (fun l hl => hs l (List.mem_cons_of_mem _ hl)) h1 h2 h3 e
    | some s =>
      rw [eq] at e
      cases s with
      | no => exact step .no trivial rfl rfl e
      | val d =>
        obtain ⟨v, e1, r⟩ := S0.rep l _ eq
        exact step (.val d) ⟨v, e1, r.mono g⟩ rfl rfl e
      | own m => cases e
      | io m => cases e
/-- a list that is no slot's changes -/
theorem Sta.other (S : Sta K π c F H σ ρ) {p : Addr} {o : HO} (n : F p = none) (n0 : c.H0 p = none) (nio : p ∉ c.io ∧ p ∉ c.ow) (nw : ∀ j, ¬ OwnAt σ ρ j p) {om : HO} (hom : H p = some om) (mm : Mut om) : Sta K π c F (upd H p o) σ ρ := by
  refine ⟨fun q u e h1 h2 nt => ?_, fun q hq => ?_, S.f0, sm_updR S.f n, S.nf, S.len, fun j s hs => ?_, S.dis, ⟨tabs_upd S.t.tb hom mm, fun q ps e => by
    obtain ⟨ps', e'⟩ := S.t.tk q ps e
    exact ⟨ps', by rw [upd_ne (fun z => by subst z; rw [hom] at e'; cases e'; exact mm.nt _ rfl)]; exact e'⟩, S.t.nt⟩⟩
  · rw [upd_ne (fun z => by subst z; rw [n0] at e; cases e)]
    exact S.h0 q u e h1 h2 nt
  · rw [upd_ne (fun z => by subst z; exact hq.elim nio.1 nio.2)]
    exact S.hio q hq
  · have z := S.rep j s hs
    cases s with
    | no => trivial
    | val d => exact z
    | own m =>
      obtain ⟨q, e1, e2, e3, r⟩ := z
      have nq : q ≠ p := fun w => by subst w; exact nw j ⟨e1, m, .inl hs⟩
      exact ⟨q, e1, e2, e3, r.mono (Same.refl _) fun u hu => by rw [upd_ne nq]; exact hu⟩
    | io m =>
      obtain ⟨e1, e2, e3, r⟩ := z
      have nq : π j ≠ p := fun w => by rw [w] at e1; exact nw j ⟨e1, m, .inr hs⟩
      exact ⟨e1, e2, e3, r.mono (Same.refl _) fun u hu => by rw [upd_ne nq]; exact hu⟩
theorem Sta.notOwn (S : Sta K π c F H σ ρ) {p : Addr} {o : HO} (hH : c.H0 p = some o) (hn : p ∉ c.io ∧ p ∉ c.ow) : ∀ j, ¬ OwnAt σ ρ j p := fun j h => by
  obtain ⟨_, z, _⟩ := S.ownAt h
  rcases z with z | z | z
  · rw [hH] at z; cases z
  · exact hn.2 z
  · exact hn.1 z
end

section
variable [FE]
variable {X : Cx} {π : Nat → Addr} {W : WX}
theorem rd_lc {it : IF} {g : GF} {t : TF} {f : EF} {ns vs : List Nat} {σ : L2.St} {H : Hp} {Q : VK} (hns : ∀ j ∈ ns, j ∈ vs) (h : tM X.K π W (cmpM vs it g t f) σ H Q) : tLc (tI X.K π W it) (tGt X.K π ns g) (tT X.K π W0 t) (tE X.K π W0 f) vs σ H Q := by
  obtain ⟨c, F, ρ, S, P⟩ := h
  refine po_bind S P fun J F1 H1 ρ1 ds s1 S1 wk P1 => ?_
  intro Dd hD
  obtain ⟨fD, hD0, nD⟩ := S1.fresh hD
  have hDio : Dd ∉ c.io ∧ Dd ∉ c.ow := by
    refine ⟨fun z => ?_, fun z => ?_⟩
    · obtain ⟨o, e⟩ := S1.hio Dd (.inl z)
      rw [hD] at e
      cases e
    · obtain ⟨o, e⟩ := S1.hio Dd (.inr z)
      rw [hD] at e
      cases e
  refine ⟨fun i m H' => i + m = ds.length ∧ ∃ F2 ρ2 accV accD, Same F1 F2 ∧ Sta X.K π c F2 H' (wipe σ vs) ρ2 ∧ H' Dd = some (.lst accV) ∧ Reps X.K F2 accV accD ∧ F2 Dd = none ∧ (∀ j, ¬ OwnAt (wipe σ vs) ρ2 j Dd) ∧
      Po X.K π W (relM X.K) c F2 σ Q ((cmpL vs g t f accD (ds.drop i) ρ2).bind fun m ρ => bindO (resR vs ρ1 ρ) fun ρ => .ok m ρ), ⟨ds.length, by omega, F1, wipeR vs ρ1, [], [], Same.refl _, ?_, upd_same, .nil, fD, ?_, P1⟩, ?_⟩
  · exact (S1.into vs).grow (Grw.newO S1.f hD)
  · intro j hj
    obtain ⟨_, _, o, e⟩ := (S1.into vs).ownAt hj
    rw [hD] at e
    cases e
  · rintro i m H2 ⟨him, F2, ρ2, accV, accD, s2, S2, hacc, racc, f2D, nw2, P2⟩
    cases m with
    | zero =>
      have hi : i = ds.length := by omega
      subst hi
      rw [List.drop_length] at P2
      refine .inl ⟨wk.stop H2 (s2.trans S2.f), ?_⟩
      have P2 : Po X.K π W (relM X.K) c F2 σ Q (bindO (resR vs ρ1 ρ2) fun ρ => .ok (.lst accD) ρ) := P2
      cases er : resR vs ρ1 ρ2 with
      | none => rw [er] at P2; exact P2.elim
      | some ρ3 =>
        rw [er] at P2
        have l12 : ρ2.length = ρ1.length := by
          have h1 := S2.len
          have h2 := S1.len
          rw [wipe_length] at h1
          omega
        have q1 : ∀ j s, ρ2[j]? = some s → SlotOk X.K π c F2 H2 σ j s := fun j s hj => by
          have z := S2.rep j s hj
          cases s with
          | no => trivial
          | val d => obtain ⟨v, e, r⟩ := z; exact ⟨v, (wipe_some e).1, r⟩
          | own m => obtain ⟨p, e, r⟩ := z; exact ⟨p, (wipe_some e).1, r⟩
          | io m => obtain ⟨e, r⟩ := z; exact ⟨(wipe_some e).1, r⟩
        have key : ∀ j p, OwnAt σ ρ2 j p → OwnAt (wipe σ vs) ρ2 j p := fun j p ⟨e, m, h⟩ => by
          refine ⟨?_, m, h⟩
          rcases h with h | h
          · obtain ⟨q, e1, _⟩ := S2.rep j _ h
            have := (wipe_some e1).1
            rw [e] at this
            cases this
            exact e1
          · obtain ⟨e1, _⟩ := S2.rep j _ h
            have := (wipe_some e1).1
            rw [e] at this
            cases this
            exact e1
        obtain ⟨a1, a2, a3, a4⟩ := S1.outof (ks := vs) (F' := F2) (H' := H2) s2 (ls := vs) (ρ1 := ρ2) (ρ2 := ρ3) (fun l hl => hl) q1 (fun i j p h1 h2 => S2.dis i j p (key i p h1) (key j p h2)) l12 er
        have S3 : Sta X.K π c F2 H2 σ ρ3 := ⟨S2.h0, S2.hio, S2.f0, S2.f, S2.nf, by rw [a3]; exact S1.len, a1, a2, S2.t⟩
        exact P2 (.ref Dd) F2 H2 (Same.refl _) S3 ⟨Dd, rfl, f2D, hD0, fun j hj => nw2 j (key j Dd (a4 j Dd hj)), accV, hacc, racc⟩
    | succ m =>
      have hlt : i < ds.length := by omega
      obtain ⟨hgo, hy⟩ := wk.go F2 H2 s2 S2.f i ds[i] (by simp [hlt])
      rw [List.drop_eq_getElem_cons hlt] at P2
      refine .inr ⟨hgo, fun H' => ∃ F2 ρ2 accV accD, Same F1 F2 ∧ Sta X.K π c F2 H' (wipe σ vs) ρ2 ∧ H' Dd = some (.lst accV) ∧ Reps X.K F2 accV accD ∧ F2 Dd = none ∧ (∀ j, ¬ OwnAt (wipe σ vs) ρ2 j Dd) ∧
        Po X.K π W (relM X.K) c F2 σ Q ((cmpL vs g t f accD (ds.drop (i + 1)) ρ2).bind fun m ρ => bindO (resR vs ρ1 ρ) fun ρ => .ok m ρ), fun H' h => ⟨m, Nat.lt_succ_self m, by omega, h⟩, fun x H3 yl => ?_⟩
      obtain ⟨F3, gr, rx⟩ := hy x H3 yl
      have T2 := S2.self
      have hT : (cfg F2 H2 (wipe σ vs) ρ2).H0 Dd = some (.lst accV) := hacc
      have hTn : Dd ∉ (cfg F2 H2 (wipe σ vs) ρ2).io ∧ Dd ∉ (cfg F2 H2 (wipe σ vs) ρ2).ow := by
        refine ⟨fun z => ?_, fun z => ?_⟩
        · obtain ⟨j, s, e, h, k⟩ := mem_adrs.mp z
          cases s with
          | io m => exact nw2 j ⟨e, m, .inr h⟩
          | no => cases k
          | val _ => cases k
          | own _ => cases k
        · obtain ⟨j, s, e, h, k⟩ := mem_adrs.mp z
          cases s with
          | own m => exact nw2 j ⟨e, m, .inl h⟩
          | no => cases k
          | val _ => cases k
          | io _ => cases k
      refine ⟨cfg F2 H2 (wipe σ vs) ρ2, F3, ρ2, ds[i], T2.grow gr, rx, ?_⟩
      have P2 : Po X.K π W (relM X.K) c F2 σ Q ((bindO (g ds[i] ρ2) fun ρ => (noX (t ρ)).bind fun b ρ => if b = true then (noX (f ρ)).bind fun x ρ => if small (accD.length + 1) = true then cmpL vs g t f (accD ++ [x]) (ds.drop (i + 1)) (wipeR vs ρ) else .stuck
        else cmpL vs g t f accD (ds.drop (i + 1)) (wipeR vs ρ)).bind fun m ρ => bindO (resR vs ρ1 ρ) fun ρ => .ok m ρ) := P2
      cases eg : g ds[i] ρ2 with
      | none => rw [eg] at P2; exact P2
      | some ρ3 =>
        rw [eg] at P2
        intro σ4 F4 H4 s4 of4 T4
        have of5 : Off vs (wipe σ vs) σ4 := ⟨of4.1, fun j hj => of4.2 j fun z => hj (hns j z)⟩
        have w4 : wipe σ4 vs = wipe σ vs := (wipe_off of5).trans wipe_wipe
        refine ⟨w4, cfg F2 H2 (wipe σ vs) ρ2, F4, ρ3, T4, ?_⟩
        have s24 : Same F2 F4 := gr.f.trans s4
        have P4 := Po.mono s24 P2
        cases et : t ρ3 with
        | stuck => simp only [bindO, et, noX, R.stuck_bind] at P4; exact P4.elim
        | exc C fs ρ4 => simp only [bindO, et, noX, R.stuck_bind] at P4; exact P4.elim
        | ok b ρ4 =>
          simp only [bindO, et, noX, R.ok_bind] at P4
          intro b' F5 H5 s5 T5 rb
          cases rb
          -- the turn's end
          have fin : ∀ {F6 H6 ρ6 acV acD}, Same F5 F6 → Sta X.K π (cfg F2 H2 (wipe σ vs) ρ2) F6 H6 σ4 ρ6 → Reps X.K F6 acV acD → Sta X.K π c F6 (upd H6 Dd (.lst acV)) (wipe σ vs) (wipeR vs ρ6) ∧ F6 Dd = none ∧ (∀ j, ¬ OwnAt (wipe σ vs) (wipeR vs ρ6) j Dd) := fun {F6 H6 ρ6 acV acD} s6 T6 r6 => by
            have n6 : F6 Dd = none := T6.nf Dd _ hT f2D
            have B6 := (S2.back T6).into vs
            have B6T := T6.into vs
            rw [w4] at B6 B6T
            have nw6 : ∀ j, ¬ OwnAt (wipe σ vs) (wipeR vs ρ6) j Dd := B6T.notOwn hT hTn
            exact ⟨B6.other n6 hD0 hDio nw6 (T6.h0 Dd _ hT hTn.1 hTn.2 (by intro ps z; cases z)) (.inl ⟨_, rfl⟩), n6, nw6⟩
          cases b with
          | false =>
            rw [if_neg Bool.false_ne_true] at P4 ⊢
            have hd5 : H5 Dd = some (.lst accV) := T5.h0 Dd _ hT hTn.1 hTn.2 (by intro ps z; cases z)
            obtain ⟨k1, k2, k3⟩ := fin (Same.refl _) T5 (racc.mono (s24.trans s5))
            have ee : upd H5 Dd (.lst accV) = H5 := by
              funext q
              by_cases z : q = Dd
              · subst z
                rw [upd_same, hd5]
              · rw [upd_ne z]
            rw [ee] at k1
            exact ⟨F5, _, accV, accD, s2.trans (s24.trans s5), k1, hd5, racc.mono (s24.trans s5), k2, k3, P4.mono s5⟩
          | true =>
            rw [if_pos rfl] at P4 ⊢
            refine ⟨cfg F2 H2 (wipe σ vs) ρ2, F5, ρ4, T5, ?_⟩
            cases ef : f ρ4 with
            | stuck => simp only [ef, noX, R.stuck_bind] at P4; exact P4.elim
            | exc C fs ρ5 => simp only [ef, noX, R.stuck_bind] at P4; exact P4.elim
            | ok d ρ5 =>
              simp only [ef, noX, R.ok_bind] at P4
              intro y F6 H6 s6 T6 ry
              split at P4
              · rename_i hz
                have hd6 : H6 Dd = some (.lst accV) := T6.h0 Dd _ hT hTn.1 hTn.2 (by intro ps z; cases z)
                have s26 : Same F2 F6 := s24.trans (s5.trans s6)
                have rr := (racc.mono s26).snoc ry
                obtain ⟨k1, k2, k3⟩ := fin s6 T6 rr
                have hl := small_le hz
                exact ⟨accV, hd6, lt_line (by rw [Reps.length racc]; omega), F6, _, _, _, s2.trans s26, k1, upd_same, rr, k2, k3, P4.mono (s5.trans s6)⟩
              · exact P4.elim
theorem fm_lc {elt tg iter : Expr} {ifs : List Expr} {scope : Scope} {own : List (Str × Nat)} {pos : Pos} {it : IF} {g : GF} {t : TF} {f : EF} {ns : List Nat} (hc : X.calm = true) (hN : X.N.Nodup) (hi : PI X tg iter (tI X.K π W it)) (ok : BlkOk X.N X.env.scope scope own)
    (hg : ∀ (s : Shared) (H : Hp) (C : Addr) (cl : List (Str × Addr)) (fp : List Addr), PG (X.blk s H scope (compEnvC scope cl C X.env) fp) tg (tGt X.K π ns g))
    (ht : ∀ (s : Shared) (H : Hp) (C : Addr) (cl : List (Str × Addr)) (fp : List Addr), PTs (X.blk s H scope (compEnvC scope cl C X.env) fp) ifs (tT X.K π W0 t))
    (he : ∀ (s : Shared) (H : Hp) (C : Addr) (cl : List (Str × Addr)) (fp : List Addr), PE (X.blk s H scope (compEnvC scope cl C X.env) fp) elt (tE X.K π W0 f))
    (hns : ∀ j ∈ ns, j ∈ own.map (·.2)) (hs : ∀ x, foldedSetIterable iter X.env x = pure x := by intro _; rfl) : PE X (.ListComp elt [⟨tg, iter, ifs, 0⟩] scope pos) (tM X.K π W (cmpM (own.map (·.2)) it g t f)) := by
  exact PE.imp (pe_lc hc hN hi ok hg ht he (hs := hs)) fun _ _ _ h => rd_lc hns h
end
end FL
/-! FL7: defs and their calls. -/
namespace FL
open PySem PySem.Spec PyProof.Rows L2

/-! ### what a def promises -/
structure RoomG (k : Nat) (A : Around) : Prop where
  r : Room k A
  g : A.guards = some []
theorem RoomG.mono {j k : Nat} {A : Around} (r : RoomG k A) (h : j ≤ k) : RoomG j A := ⟨r.r.mono h, r.g⟩
theorem RoomG.deeper {k : Nat} {A : Around} (r : RoomG (k + 1) A) (env : Env) : RoomG k (A.deeper env) := ⟨r.r.deeper env, r.g⟩
structure FnG (P : Program) (w : World) (K : PySem.W.Frag) (mg : Str → Option Value) (base : Heap) (k : Nat) (f : Addr) (fd : FuncData) (ps : List Str) (sp : Sp) : Prop where
  len : ∀ vs H Q E, sp vs H Q E → vs.length = ps.length
  run : ∀ (A : Around) (outer : List Env) (s : Shared) (H : Hp) (args : Args) (us : List Value) (vs : List V) (Q : VK) (E : XK), RoomG k A → Env0 P w K mg base A outer s H → BindsTo s fd args (ps.zip us) → Vals vs us → sp vs H Q E →
    codeAny (model P w) A (.call (.ref f) args) (CR (L2N.CX P w) outer P w H s Q E) s
theorem FnG.mono {P : Program} {w : World} {K : PySem.W.Frag} {mg : Str → Option Value} {base : Heap} {j k : Nat} {f : Addr} {fd : FuncData} {ps : List Str} {sp : Sp} (F : FnG P w K mg base j f fd ps sp) (h : j ≤ k) : FnG P w K mg base k f fd ps sp :=
  ⟨F.len, fun A outer s H args us vs Q E hr => F.run A outer s H args us vs Q E (hr.mono h)⟩

inductive Arg where
  | val (d : D)
  | io (m : M)
inductive RG where
  | ok (r : Res) (outs : List M)
  | exc (C : Str) (fs : List (Str × D)) (outs : List M)
  | stuck
inductive ArgsR (K : PySem.W.Frag) (F H : Hp) : List V → List Arg → Prop
  | nil : ArgsR K F H [] []
  | val {v : V} {d : D} {vs : List V} {as : List Arg} : Rep K F v d → ArgsR K F H vs as → ArgsR K F H (v :: vs) (.val d :: as)
  | io {p : Addr} {m : M} {vs : List V} {as : List Arg} : F p = none → MRep K F H p m → ArgsR K F H vs as → ArgsR K F H (.ref p :: vs) (.io m :: as)
def ioA : List V → List Arg → List Addr
  | v :: vs, .io _ :: as => (match v with | .ref p => [p] | _ => []) ++ ioA vs as
  | _ :: vs, .val _ :: as => ioA vs as
  | _, _ => []
theorem ioA_io {p : Addr} {m : M} {vs : List V} {as : List Arg} : ioA (.ref p :: vs) (.io m :: as) = p :: ioA vs as := rfl
theorem ioA_val {v : V} {d : D} {vs : List V} {as : List Arg} : ioA (v :: vs) (.val d :: as) = ioA vs as := rfl
variable [FE] in
structure PostG (K : PySem.W.Frag) (F H : Hp) (A : List Addr) (outs : List M) (F' H' : Hp) : Prop where
  f : Same F F'
  fh : Same F' H'
  keep : ∀ q o, H q = some o → q ∉ A → NT o → H' q = some o
  nf : ∀ q o, H q = some o → F q = none → F' q = none
  outs : Paired (fun p m => MRep K F' H' p m) A outs
  t : StT ⟨H, F, A, []⟩ F' H'
def ResR (K : PySem.W.Frag) (H F' H' : Hp) (v : V) : Res → Prop
  | .v d => Rep K F' v d
  | .m m => ∃ p, v = .ref p ∧ H p = none ∧ F' p = none ∧ MRep K F' H' p m
variable [FE] in
def PoR (K : PySem.W.Frag) (F H : Hp) (A : List Addr) (Q : VK) (E : XK) : RG → Prop
  | .ok r outs => ∀ v F' H', PostG K F H A outs F' H' → ResR K H F' H' v r → Q v H'
  | .exc C fs outs => ∀ dd fsV F' H', PostG K F H A outs F' H' → XD F' dd fsV → fsV.map (·.1) = fs.map (·.1) → Reps K F' (fsV.map (·.2)) (fs.map (·.2)) → E (.ref (FE.cl C)) dd H'
  | .stuck => False
variable [FE] in
def spG (K : PySem.W.Frag) (n : Nat) (G : List Arg → RG) : Sp := fun vs H Q E => ∃ F as, (Same F H ∧ LamX.Tabs FE.tabs H ∧ NoT F) ∧ ArgsR K F H vs as ∧ vs.length = n ∧ (ioA vs as).Nodup ∧ PoR K F H (ioA vs as) Q E (G as)
theorem ArgsR.length {K : PySem.W.Frag} {F H : Hp} : ∀ {vs : List V} {as : List Arg}, ArgsR K F H vs as → vs.length = as.length
  | _, _, .nil => rfl
  | _, _, .val _ r => congrArg (· + 1) (ArgsR.length r)
  | _, _, .io _ _ r => congrArg (· + 1) (ArgsR.length r)

/-- where a def's body runs -/
abbrev cxF (P : Program) (w : World) (K : PySem.W.Frag) (mg : Str → Option Value) (base : Heap) (N : List Str) (qual : Str) (scope : Scope) (f : Addr) (cd : Value) (A : Around) (outer : List Env) (s : Shared) (H : Hp) (E : XK) : Cx := cxOf (L2N.CX P w) P w K mg base N qual scope f cd A outer s H E
theorem RoomG.u64 {k : Nat} {A : Around} (r : RoomG k A) : A.units + 64 < cLine := by have := r.r.un; omega
theorem RoomG.u65 {k : Nat} {A : Around} (r : RoomG k A) : A.units + 65 < cLine := by have := r.r.un; omega
/-! ### a def's body -/
def toS : Arg → Slot
  | .val d => .val d
  | .io m => .io m
def collect : List Arg → Nat → Rho → Option (List M)
  | [], _, _ => some []
  | .val _ :: as, i, ρ => collect as (i + 1) ρ
  | .io _ :: as, i, ρ => match ρ[i]? with
    | some (.io m) => (collect as (i + 1) ρ).map (m :: ·)
    | _ => none
def endG (as : List Arg) (k : List M → RG) (ρ : Rho) : RG := match collect as 0 ρ with
  | some outs => k outs
  | none => .stuck
def rho0 (l : Nat) (as : List Arg) : Rho := as.map toS ++ List.replicate (l - as.length) .no
/-- the def by its body: l names -/
def bodyG (l : Nat) (g : SF) (as : List Arg) : RG := match g (rho0 l as) with
  | .ok .nx ρ => endG as (.ok (.v .non)) ρ
  | .ok (.rt r) ρ => endG as (.ok r) ρ
  | .exc C fs ρ => endG as (.exc C fs) ρ
  | _ => .stuck
def adrV : Option V → Addr
  | some (.ref p) => p
  | _ => 0
section
variable {K : PySem.W.Frag} {F H : Hp} {vs : List V} {as : List Arg}
theorem ArgsR.at : ∀ {vs : List V} {as : List Arg} {i : Nat} {a : Arg}, ArgsR K F H vs as → as[i]? = some a → ∃ v, vs[i]? = some v ∧ match a with
    | .val d => Rep K F v d
    | .io m => ∃ p, v = .ref p ∧ F p = none ∧ MRep K F H p m ∧ p ∈ ioA vs as
  | _, _, _, _, .nil, e => by simp at e
  | _, _, 0, _, .val h r, e => by
    simp at e
    subst e
    exact ⟨_, rfl, h⟩
  | _, _, 0, _, .io n h r, e => by
    simp at e
    subst e
    exact ⟨_, rfl, _, rfl, n, h, by simp [ioA]⟩
  | _, _, i + 1, a, .val h r, e => by
    obtain ⟨v, h1, h2⟩ := ArgsR.at (i := i) (a := a) r (by simpa using e)
    exact ⟨v, by simpa using h1, h2⟩
  | _, _, i + 1, a, .io n h r, e => by
    obtain ⟨v, h1, h2⟩ := ArgsR.at (i := i) (a := a) r (by simpa using e)
    refine ⟨v, by simpa using h1, ?_⟩
    cases a with
    | val d => exact h2
    | io m =>
      obtain ⟨p, e1, e2, e3, e4⟩ := h2
      exact ⟨p, e1, e2, e3, by simp [ioA, e4]⟩
theorem ArgsR.here : ∀ {vs : List V} {as : List Arg}, ArgsR K F H vs as → ∀ q ∈ ioA vs as, ∃ o, H q = some o
  | _, _, .nil, q, h => by simp [ioA] at h
  | _, _, .val _ r, q, h => ArgsR.here r q (by simpa [ioA] using h)
  | _, _, .io n m r, q, h => by
    rw [ioA_io] at h
    rcases List.mem_cons.mp h with h | h
    · rw [h]; exact m.here
    · exact ArgsR.here r q h
/-- two places of one thing -/
theorem ArgsR.uniq : ∀ {vs : List V} {as : List Arg} {i j : Nat} {p : Addr} {m m' : M}, ArgsR K F H vs as → (ioA vs as).Nodup → as[i]? = some (.io m) → as[j]? = some (.io m') → vs[i]? = some (.ref p) → vs[j]? = some (.ref p) → i = j
  | _, _, _, _, _, _, _, .nil, _, e, _, _, _ => by simp at e
  | _, _, 0, 0, _, _, _, _, _, _, _, _, _ => rfl
  | _, _, i + 1, j + 1, p, m, m', .val _ r, nd, e1, e2, e3, e4 => by
    rw [ArgsR.uniq (i := i) (j := j) (p := p) (m := m) (m' := m') r (by simpa [ioA] using nd) (by simpa using e1) (by simpa using e2) (by simpa using e3) (by simpa using e4)]
  | _, _, i + 1, j + 1, p, m, m', .io _ _ r, nd, e1, e2, e3, e4 => by
    rw [ioA_io] at nd
    have nd := List.nodup_cons.mp nd
    rw [ArgsR.uniq (i := i) (j := j) (p := p) (m := m) (m' := m') r nd.2 (by simpa using e1) (by simpa using e2) (by simpa using e3) (by simpa using e4)]
  | _, _, 0, j + 1, p, m, m', .val _ r, nd, e1, e2, e3, e4 => by simp at e1
  | _, _, i + 1, 0, p, m, m', .val _ r, nd, e1, e2, e3, e4 => by simp at e2
  | _, _, 0, j + 1, p, m, m', .io _ _ r, nd, e1, e2, e3, e4 => by
    rw [ioA_io] at nd
    have nd := List.nodup_cons.mp nd
    obtain ⟨v, h1, q, h2, _, _, h3⟩ := r.at (i := j) (a := .io m') (by simpa using e2)
    rw [List.getElem?_cons_succ, h1] at e4
    cases e4
    cases h2
    simp at e3
    subst e3
    exact absurd h3 nd.1
  | _, _, i + 1, 0, p, m, m', .io _ _ r, nd, e1, e2, e3, e4 => by
    rw [ioA_io] at nd
    have nd := List.nodup_cons.mp nd
    obtain ⟨v, h1, q, h2, _, _, h3⟩ := r.at (i := i) (a := .io m) (by simpa using e1)
    rw [List.getElem?_cons_succ, h1] at e3
    cases e3
    cases h2
    simp at e4
    subst e4
    exact absurd h3 nd.1
theorem start_get {N : List Str} {vs : List V} {i : Nat} {v : V} (h : vs[i]? = some v) : (L2.start N vs)[i]? = some (some v) := by
  unfold L2.start
  have hl : i < vs.length := (List.getElem?_eq_some_iff.mp h).1
  rw [List.getElem?_append_left (by simpa using hl), List.getElem?_map, h]
  rfl
theorem rho0_get {l i : Nat} {as : List Arg} {s : Slot} (h : (rho0 l as)[i]? = some s) : s = .no ∨ ∃ a, as[i]? = some a ∧ s = toS a := by
  unfold rho0 at h
  by_cases hl : i < as.length
  · rw [List.getElem?_append_left (by simpa using hl), List.getElem?_map] at h
    cases e : as[i]? with
    | none => rw [e] at h; cases h
    | some a =>
      rw [e] at h
      cases h
      exact .inr ⟨a, rfl, rfl⟩
  · rw [List.getElem?_append_right (by simpa using hl), List.getElem?_replicate] at h
    split at h
    · cases h
      exact .inl rfl
    · cases h
variable [FE] in
theorem Sta.start {N : List Str} (s : Same F H ∧ LamX.Tabs FE.tabs H ∧ NoT F) (r : ArgsR K F H vs as) (nd : (ioA vs as).Nodup) (hl : vs.length ≤ N.length) :
    Sta K (fun i => adrV vs[i]?) ⟨H, F, ioA vs as, []⟩ F H (L2.start N vs) (rho0 N.length as) := by
  have hlen := r.length
  refine ⟨fun q o e _ _ _ => e, fun q hq => ?_, Same.refl _, s.1, fun q o _ n => n, ?_, fun i sl hs => ?_, fun i j p h1 h2 => ?_, ⟨s.2.1, fun q ps e => ⟨ps, e⟩, s.2.2⟩⟩
  · rcases hq with hq | hq
    · exact r.here q hq
    · cases hq
  · unfold L2.start rho0
    rw [List.length_append, List.length_append, List.length_map, List.length_map, List.length_replicate, List.length_replicate]
    omega
  · rcases rho0_get hs with rfl | ⟨a, ha, rfl⟩
    · trivial
    · obtain ⟨v, hv, z⟩ := r.at ha
      cases a with
      | val d => exact ⟨v, start_get hv, z⟩
      | io m =>
        obtain ⟨p, rfl, n, hm, hp⟩ := z
        have e : adrV vs[i]? = p := by rw [hv]; rfl
        refine ⟨?_, ?_, ?_, ?_⟩
        · show _ = some (some (V.ref (adrV vs[i]?)))
          rw [e]
          exact start_get hv
        · show F (adrV vs[i]?) = none
          rw [e]
          exact n
        · show adrV vs[i]? ∈ ioA vs as
          rw [e]
          exact hp
        · show MRep K F H (adrV vs[i]?) m
          rw [e]
          exact hm
  · have key : ∀ j, OwnAt (L2.start N vs) (rho0 N.length as) j p → ∃ m, as[j]? = some (.io m) ∧ vs[j]? = some (.ref p) := fun j ⟨e, m, h⟩ => by
      have z : ∃ m, as[j]? = some (.io m) := by
        rcases h with h | h
        · rcases rho0_get h with h | ⟨a, _, h⟩
          · cases h
          · cases a <;> cases h
        · rcases rho0_get h with h | ⟨a, ha, h⟩
          · cases h
          · cases a with
            | val d => cases h
            | io m' => exact ⟨m', ha⟩
      obtain ⟨m', ha⟩ := z
      obtain ⟨v, hv, _⟩ := r.at ha
      have := start_get (N := N) hv
      rw [e] at this
      cases this
      exact ⟨m', ha, hv⟩
    obtain ⟨m1, a1, b1⟩ := key i h1
    obtain ⟨m2, a2, b2⟩ := key j h2
    exact r.uniq nd a1 a2 b1 b2
variable [FE] in
/-- what the handed things hold at the end -/
theorem collect_ok {F' H' : Hp} {σ : L2.St} {c : Cfg} {π : Nat → Addr} {ρ : Rho} (S : Sta K π c F' H' σ ρ) : ∀ {vs : List V} {as : List Arg} {i : Nat} {outs : List M}, ArgsR K F H vs as → (∀ j v, vs[j]? = some v → π (i + j) = adrV (some v)) → collect as i ρ = some outs → Paired (fun p m => MRep K F' H' p m) (ioA vs as) outs
  | _, _, _, _, .nil, _, e => by
    cases e
    exact .nil
  | _, _, i, outs, .val _ r, h, e => by
    have := collect_ok S (i := i + 1) r (fun j v hv => by rw [← h (j + 1) v (by simpa using hv)]; congr 1; omega) (by simpa [collect] using e)
    simpa [ioA] using this
  | _, _, i, outs, .io (p := p) n m r, h, e => by
    unfold collect at e
    split at e
    · rename_i m1 e1
      cases e2 : collect _ (i + 1) ρ with
      | none => rw [e2] at e; cases e
      | some l =>
        rw [e2] at e
        cases e
        have := collect_ok S (i := i + 1) r (fun j v hv => by rw [← h (j + 1) v (by simpa using hv)]; congr 1; omega) e2
        obtain ⟨_, _, _, q⟩ := S.rep i _ e1
        have hp : π i = p := by
          have z := h 0 (.ref p) (by simp)
          simpa [adrV] using z
        rw [hp] at q
        have z : Paired (fun p m => MRep K F' H' p m) (p :: ioA _ _) (m1 :: l) := .cons q this
        simpa [ioA] using z
    · cases e
end
section
variable {P : Program} {w : World} {K : PySem.W.Frag} {mg : Str → Option Value} {base : Heap}
variable [FE] in
/-- from a body: what follows it in the def's caller -/
theorem body_end {N : List Str} {F H : Hp} {vs : List V} {as : List Arg} {Q : VK} {E : XK} {g : SF} (s : Same F H ∧ LamX.Tabs FE.tabs H ∧ NoT F) (r : ArgsR K F H vs as) (nd : (ioA vs as).Nodup) (hl : vs.length ≤ N.length) (h : PoR K F H (ioA vs as) Q E (bodyG N.length g as)) :
    tS K (fun i => adrV vs[i]?) (fun cls d _ H => E cls d H) g { nx := fun _ H' => Q .non H', rt := Q } (L2.start N vs) H := by
  refine ⟨⟨H, F, ioA vs as, []⟩, F, rho0 N.length as, rfl, Sta.start s r nd hl, ?_⟩
  unfold bodyG at h
  have post : ∀ {σ' : L2.St} {F' H' : Hp} {ρ' : Rho} {outs : List M}, Sta K (fun i => adrV vs[i]?) ⟨H, F, ioA vs as, []⟩ F' H' σ' ρ' → collect as 0 ρ' = some outs → PostG K F H (ioA vs as) outs F' H' := fun {σ' F' H' ρ' outs} S e =>
    ⟨S.f0, S.f, fun q o eq n nt => S.h0 q o eq n (fun z => by cases z) nt, fun q o eq n => S.nf q o eq n, collect_ok S r (fun j v hv => by simp [hv]) e, ⟨S.t.tb, S.t.tk, S.t.nt⟩⟩
  cases eg : g (rho0 N.length as) with
  | stuck => rw [eg] at h; exact h
  | exc C fs ρ' =>
    rw [eg] at h
    have h : PoR K F H (ioA vs as) Q E (endG as (.exc C fs) ρ') := h
    unfold endG at h
    cases ec : collect as 0 ρ' with
    | none => rw [ec] at h; exact h.elim
    | some outs =>
      rw [ec] at h
      exact fun dd fsV σ' F' H' s' S' => h dd fsV F' H' (post S' ec)
  | ok fl ρ' =>
    rw [eg] at h
    cases fl with
    | bk => exact h.elim
    | ct => exact h.elim
    | nx =>
      have h : PoR K F H (ioA vs as) Q E (endG as (.ok (.v .non)) ρ') := h
      unfold endG at h
      cases ec : collect as 0 ρ' with
      | none => rw [ec] at h; exact h.elim
      | some outs =>
        rw [ec] at h
        exact fun σ' F' H' s' S' => h .non F' H' (post S' ec) .non
    | rt rr =>
      have h : PoR K F H (ioA vs as) Q E (endG as (.ok rr) ρ') := h
      unfold endG at h
      cases ec : collect as 0 ρ' with
      | none => rw [ec] at h; exact h.elim
      | some outs =>
        rw [ec] at h
        refine fun v σ' F' H' s' S' rv => h v F' H' (post S' ec) ?_
        cases rr with
        | v d => exact rv
        | m m =>
          obtain ⟨p, e, n, n0, _, hm⟩ := rv
          exact ⟨p, e, n0, n, hm⟩
variable [FE] in
/-- THE RULE for a def -/
theorem fnG {x qual : Str} {st : Stmt} {f : Addr} {fd : FuncData} {N ps : List Str} {k : Nat} {g : SF} (Fd : Fun K x qual st f fd) (Sc : FnScope N ps (defScope st))
    (hbody : ∀ (cdv : Value) (A : Around) (outer : List Env) (s : Shared) (H : Hp) (E : XK) (π : Nat → Addr) (W : WX), RoomG k (cxF P w K mg base N qual (defScope st) f cdv A outer s H E).A → L2N.Takes (cxF P w K mg base N qual (defScope st) f cdv A outer s H E) W →
      PassesOwn (model P w) (cxF P w K mg base N qual (defScope st) f cdv A outer s H E).A (cxF P w K mg base N qual (defScope st) f cdv A outer s H E).env (cxF P w K mg base N qual (defScope st) f cdv A outer s H E).xe →
      PSs (cxF P w K mg base N qual (defScope st) f cdv A outer s H E) (defBody st) (tS K π W g)) : FnG P w K mg base (k + 1) f fd ps (spG K ps.length (bodyG N.length g)) := by
  obtain ⟨oc, od, kV, doc, pm, an, cdv, ct, osl, rfl, lk, hcd⟩ := Fd.ex
  refine ⟨fun vs H Q E ⟨_, _, _, _, h, _⟩ => h, fun A outer s H args us vs Q E hr e0 hb r hsp => ?_⟩
  obtain ⟨F, as, sm, ra, hl, nd, hP⟩ := hsp
  have KX : K.In s.heap := e0.mod.kin.keeps fun b o e => (e0.bs b o e).1
  have lim : s.heap.NoLimit := e0.mod.nolimit.keeps fun b o e => (e0.bs b o e).1
  have hps : ps.length ≤ N.length := by
    have := congrArg List.length Sc.pre
    rw [List.length_take] at this
    omega
  refine codeAny_call_function hr.r.depth (KX _ _ lk) rfl Sc.co Sc.gen rfl (PySem.W.codeRec_of KX hcd) (hb _ _ _ _ ?_)
  refine wpAny_newFunctionEnv_cells Sc.kind (fun ⟨n, v⟩ hy => ?_) fun env he s1 x => ?_
  · rcases Sc.par n (List.of_mem_zip hy).1 with q | q
    · exact .inl q
    · exact .inr ⟨q, PySem.W.cellsFrom_some _ _ _ (.inl q)⟩
  · subst he
    refine ⟨lim.keeps x.toInCall.keep, codeAny_func ?_⟩
    have hx := hbody cdv A outer s H E (fun i => adrV vs[i]?) (fun cls d _ H => E cls d H) (hr.deeper _) (L2N.takes_of rfl rfl rfl rfl) (passes_of rfl)
    have I : Inv (cxOf (L2N.CX P w) P w K mg base N qual (defScope st) f cdv A outer s H E) [] (L2.start N vs) H s1 := inv_start Sc hr.r.hd e0 hl r x
    have run := hx.run [] s1 (L2.start N vs) H { nx := fun _ H' => Q .non H', rt := Q } I (body_end sm ra nd (by omega) hP)
    refine wpAny_mono run (fun fl s' hs => ?_) fun e s' hs => hs
    cases fl with
    | ret u =>
      obtain ⟨v, σ', H', J, rv, q⟩ := hs
      exact ⟨v, H', J.os, J.bare, J.base, J.hok, rv, q⟩
    | next =>
      obtain ⟨σ', H', J, q⟩ := hs
      exact ⟨V.non, H', J.os, J.bare, J.base, J.hok, rfl, q⟩
    | brk =>
      obtain ⟨_, _, _, q⟩ := hs
      exact q.elim
    | cont =>
      obtain ⟨_, _, _, q⟩ := hs
      exact q.elim
end
end FL
/-! FL8: calls of defs. -/
namespace FL
open PySem PySem.Spec PyProof.Rows L2

/-! ### arguments -/
inductive AA where
  | val (d : D)
  | sl (i : Nat)
inductive AAs (K : PySem.W.Frag) (F : Hp) (σ : L2.St) : List V → List AA → Prop
  | nil : AAs K F σ [] []
  | val {v : V} {d : D} {vs : List V} {as : List AA} : Rep K F v d → AAs K F σ vs as → AAs K F σ (v :: vs) (.val d :: as)
  | sl {v : V} {i : Nat} {vs : List V} {as : List AA} : σ[i]? = some (some v) → AAs K F σ vs as → AAs K F σ (v :: vs) (.sl i :: as)
def relB (K : PySem.W.Frag) : Rel (List V) (List AA) := fun _ F _ σ _ vs as => AAs K F σ vs as
abbrev BF := Rho → R (List AA)
section
variable {K : PySem.W.Frag} {F F' H H' : Hp} {σ : L2.St} {vs : List V} {as : List AA}
theorem AAs.mono (e : Same F F') : ∀ {vs : List V} {as : List AA}, AAs K F σ vs as → AAs K F' σ vs as
  | _, _, .nil => .nil
  | _, _, .val h r => .val (h.mono e) (AAs.mono e r)
  | _, _, .sl h r => .sl h (AAs.mono e r)
theorem AAs.length : ∀ {vs : List V} {as : List AA}, AAs K F σ vs as → vs.length = as.length
  | _, _, .nil => rfl
  | _, _, .val _ r => congrArg (· + 1) (AAs.length r)
  | _, _, .sl _ r => congrArg (· + 1) (AAs.length r)
theorem AAs.append : ∀ {vs ws : List V} {as bs : List AA}, AAs K F σ vs as → AAs K F σ ws bs → AAs K F σ (vs ++ ws) (as ++ bs)
  | _, _, _, _, .nil, r => r
  | _, _, _, _, .val h q, r => .val h (AAs.append q r)
  | _, _, _, _, .sl h q, r => .sl h (AAs.append q r)
theorem AAs.get : ∀ {vs : List V} {as : List AA} (i : Nat), AAs K F σ vs as → (∃ v a, vs[i]? = some v ∧ as[i]? = some a ∧ AAs K F σ [v] [a]) ∨ (vs[i]? = none ∧ as[i]? = none)
  | _, _, _, .nil => .inr ⟨by simp, by simp⟩
  | _, _, 0, .val h _ => .inl ⟨_, _, rfl, rfl, .val h .nil⟩
  | _, _, 0, .sl h _ => .inl ⟨_, _, rfl, rfl, .sl h .nil⟩
  | _, _, i + 1, .val _ r => by simpa using AAs.get i r
  | _, _, i + 1, .sl _ r => by simpa using AAs.get i r
def pick {α : Type} (ord : List Nat) (l : List α) : List α := ord.filterMap fun i => l[i]?
theorem AAs.pick (r : AAs K F σ vs as) : ∀ ord : List Nat, AAs K F σ (FL.pick ord vs) (FL.pick ord as)
  | [] => .nil
  | i :: ord => by
    have z := AAs.pick r ord
    unfold FL.pick at z ⊢
    rcases r.get i with ⟨v, a, e1, e2, h⟩ | ⟨e1, e2⟩
    · rw [List.filterMap_cons, List.filterMap_cons, e1, e2]
      exact h.append z
    · rw [List.filterMap_cons, List.filterMap_cons, e1, e2]
      exact z
theorem vals_get : ∀ {vs : List V} {us : List Value} (i : Nat), Vals vs us → (∃ v u, vs[i]? = some v ∧ us[i]? = some u ∧ Vals [v] [u]) ∨ (vs[i]? = none ∧ us[i]? = none)
  | _, _, _, .nil => .inr ⟨by simp, by simp⟩
  | _, _, 0, .cons h _ => .inl ⟨_, _, rfl, rfl, .cons h .nil⟩
  | _, _, i + 1, .cons _ r => by simpa using vals_get i r
theorem vals_pick {vs : List V} {us : List Value} (r : Vals vs us) : ∀ ord : List Nat, Vals (pick ord vs) (pick ord us)
  | [] => .nil
  | i :: ord => by
    have z := vals_pick r ord
    unfold pick at z ⊢
    rcases vals_get i r with ⟨v, a, e1, e2, h⟩ | ⟨e1, e2⟩
    · rw [List.filterMap_cons, List.filterMap_cons, e1, e2]
      exact h.append z
    · rw [List.filterMap_cons, List.filterMap_cons, e1, e2]
      exact z
end
def ioM (ρ : Rho) (i : Nat) : Option M := match ρ[i]? with
  | some (.own m) => some m
  | some (.io m) => some m
  | _ => none
def toArgs (ρ : Rho) : List AA → Option (List Arg)
  | [] => some []
  | .val d :: as => (toArgs ρ as).map (.val d :: ·)
  | .sl i :: as => (ioM ρ i).bind fun m => (toArgs ρ as).map (.io m :: ·)
def slsA : List AA → List Nat
  | [] => []
  | .val _ :: as => slsA as
  | .sl i :: as => i :: slsA as
def newM : List AA → List M → Nat → Option M
  | .sl j :: as, m :: ms, i => if i = j then some m else newM as ms i
  | .val _ :: as, ms, i => newM as ms i
  | _, _, _ => none
def putM (m : M) : Slot → Slot
  | .own _ => .own m
  | .io _ => .io m
  | s => s
def putA (as : List AA) (outs : List M) (ρ : Rho) : Rho := ρ.mapIdx fun i s => match newM as outs i with
  | some m => putM m s
  | none => s
def nodN : List Nat → Bool
  | [] => true
  | a :: l => !(l.contains a) && nodN l
theorem nodN_of : ∀ {l : List Nat}, nodN l = true → l.Nodup
  | [], _ => List.nodup_nil
  | a :: l, h => by
    unfold nodN at h
    rw [Bool.and_eq_true] at h
    refine List.nodup_cons.mpr ⟨fun z => ?_, nodN_of h.2⟩
    have := h.1
    rw [List.contains_iff_mem.mpr z] at this
    cases this
section
variable [FE]
variable {K : PySem.W.Frag} {π : Nat → Addr} {c : Cfg} {F F' H H' : Hp} {σ : L2.St} {ρ : Rho} {vs : List V} {as : List AA} {gs : List Arg} {outs : List M}
theorem Sta.ioM (S : Sta K π c F H σ ρ) {i : Nat} {m : M} (h : FL.ioM ρ i = some m) : ∃ p, σ[i]? = some (some (.ref p)) ∧ F p = none ∧ MRep K F H p m ∧ OwnAt σ ρ i p := by
  unfold FL.ioM at h
  split at h
  · rename_i m' e
    cases h
    obtain ⟨p, e1, e2, _, e4⟩ := S.rep i _ e
    exact ⟨p, e1, e2, e4, e1, m, .inl e⟩
  · rename_i m' e
    cases h
    obtain ⟨e1, e2, _, e4⟩ := S.rep i _ e
    exact ⟨π i, e1, e2, e4, e1, m, .inr e⟩
  · cases h
theorem AAs.args (S : Sta K π c F H σ ρ) : ∀ {vs : List V} {as : List AA} {gs : List Arg}, AAs K F σ vs as → toArgs ρ as = some gs → ArgsR K F H vs gs
  | _, _, _, .nil, e => by
    cases e
    exact .nil
  | _, _, gs, .val (as := as) h r, e => by
    unfold toArgs at e
    cases e1 : toArgs ρ as with
    | none => rw [e1] at e; cases e
    | some l =>
      rw [e1] at e
      cases e
      exact .val h (AAs.args S r e1)
  | _, _, gs, .sl (i := i) (as := as) h r, e => by
    unfold toArgs at e
    cases e0 : FL.ioM ρ i with
    | none => rw [e0] at e; cases e
    | some m =>
      rw [e0] at e
      cases e1 : toArgs ρ as with
      | none => rw [e1] at e; cases e
      | some l =>
        rw [e1] at e
        cases e
        obtain ⟨p, a1, a2, a3, a4⟩ := S.ioM e0
        rw [h] at a1
        cases a1
        exact .io a2 a3 (AAs.args S r e1)
theorem AAs.own (S : Sta K π c F H σ ρ) {q : Addr} : ∀ {vs : List V} {as : List AA} {gs : List Arg}, AAs K F σ vs as → toArgs ρ as = some gs → q ∈ ioA vs gs → ∃ i ∈ slsA as, OwnAt σ ρ i q
  | _, _, _, .nil, e, h => by
    cases e
    simp [ioA] at h
  | _, _, gs, .val (as := as) h r, e, hq => by
    unfold toArgs at e
    cases e1 : toArgs ρ as with
    | none => rw [e1] at e; cases e
    | some l =>
      rw [e1] at e
      cases e
      obtain ⟨i, hi, o⟩ := AAs.own S r e1 (by simpa [ioA] using hq)
      exact ⟨i, by simpa [slsA] using hi, o⟩
  | _, _, gs, .sl (i := i) (as := as) h r, e, hq => by
    unfold toArgs at e
    cases e0 : FL.ioM ρ i with
    | none => rw [e0] at e; cases e
    | some m =>
      rw [e0] at e
      cases e1 : toArgs ρ as with
      | none => rw [e1] at e; cases e
      | some l =>
        rw [e1] at e
        cases e
        obtain ⟨p, a1, a2, a3, a4⟩ := S.ioM e0
        rw [h] at a1
        cases a1
        rw [ioA_io] at hq
        rcases List.mem_cons.mp hq with z | z
        · subst z
          exact ⟨i, by simp [slsA], a4⟩
        · obtain ⟨j, hj, o⟩ := AAs.own S r e1 z
          exact ⟨j, by simp [slsA, hj], o⟩
theorem AAs.nod (S : Sta K π c F H σ ρ) : ∀ {vs : List V} {as : List AA} {gs : List Arg}, AAs K F σ vs as → toArgs ρ as = some gs → (slsA as).Nodup → (ioA vs gs).Nodup
  | _, _, _, .nil, e, _ => by
    cases e
    exact List.nodup_nil
  | _, _, gs, .val (as := as) h r, e, nd => by
    unfold toArgs at e
    cases e1 : toArgs ρ as with
    | none => rw [e1] at e; cases e
    | some l =>
      rw [e1] at e
      cases e
      simpa [ioA] using AAs.nod S r e1 (by simpa [slsA] using nd)
  | _, _, gs, .sl (i := i) (as := as) h r, e, nd => by
    unfold toArgs at e
    cases e0 : FL.ioM ρ i with
    | none => rw [e0] at e; cases e
    | some m =>
      rw [e0] at e
      cases e1 : toArgs ρ as with
      | none => rw [e1] at e; cases e
      | some l =>
        rw [e1] at e
        cases e
        obtain ⟨p, a1, a2, a3, a4⟩ := S.ioM e0
        rw [h] at a1
        cases a1
        have nd := List.nodup_cons.mp (show (i :: slsA as).Nodup from nd)
        rw [ioA_io]
        refine List.nodup_cons.mpr ⟨fun z => ?_, AAs.nod S r e1 nd.2⟩
        obtain ⟨j, hj, o⟩ := AAs.own S r e1 z
        have := S.dis i j _ a4 o
        subst this
        exact nd.1 hj
theorem AAs.new (S : Sta K π c F H σ ρ) {rr : Addr → M → Prop} {i : Nat} {q : Addr} (ow : OwnAt σ ρ i q) : ∀ {vs : List V} {as : List AA} {gs : List Arg} {outs : List M}, AAs K F σ vs as → toArgs ρ as = some gs → Paired rr (ioA vs gs) outs →
    (∃ m, newM as outs i = some m ∧ rr q m) ∨ (newM as outs i = none ∧ q ∉ ioA vs gs)
  | _, _, _, _, .nil, e, pr => by
    cases e
    exact .inr ⟨rfl, by simp [ioA]⟩
  | _, _, gs, outs, .val (as := as) h r, e, pr => by
    unfold toArgs at e
    cases e1 : toArgs ρ as with
    | none => rw [e1] at e; cases e
    | some l =>
      rw [e1] at e
      cases e
      have z := AAs.new S ow r e1 (rr := rr) (outs := outs) (by simpa [ioA] using pr)
      simpa [newM, ioA] using z
  | _, _, gs, outs, .sl (i := j) (as := as) h r, e, pr => by
    unfold toArgs at e
    cases e0 : FL.ioM ρ j with
    | none => rw [e0] at e; cases e
    | some m =>
      rw [e0] at e
      cases e1 : toArgs ρ as with
      | none => rw [e1] at e; cases e
      | some l =>
        rw [e1] at e
        cases e
        obtain ⟨p, a1, a2, a3, a4⟩ := S.ioM e0
        rw [h] at a1
        cases a1
        rw [ioA_io] at pr ⊢
        cases pr with
        | @cons _ m1 _ ms h1 h2 =>
          by_cases z : i = j
          · subst z
            have : q = p := by
              have := ow.1
              rw [h] at this
              cases this
              rfl
            subst this
            exact .inl ⟨m1, by show (if i = i then _ else _) = _; rw [if_pos rfl], h1⟩
          · have e3 : newM (.sl j :: as) (m1 :: ms) i = newM as ms i := by show (if i = j then _ else _) = _; rw [if_neg z]
            rw [e3]
            rcases AAs.new S ow r e1 h2 with ⟨m2, y1, y2⟩ | ⟨y1, y2⟩
            · exact .inl ⟨m2, y1, y2⟩
            · refine .inr ⟨y1, fun w => ?_⟩
              rcases List.mem_cons.mp w with w | w
              · subst w
                exact z (S.dis i j _ ow a4)
              · exact y2 w
theorem paired_mem {α β : Type} {r : α → β → Prop} : ∀ {xs : List α} {ys : List β} {x : α}, Paired r xs ys → x ∈ xs → ∃ y, r x y
  | _, _, _, .nil, h => by cases h
  | _, _, _, .cons h t, m => by
    rcases List.mem_cons.mp m with e | m
    · subst e
      exact ⟨_, h⟩
    · exact paired_mem t m
/-- behind a call -/
theorem Sta.post (S : Sta K π c F H σ ρ) (r : AAs K F σ vs as) (e : toArgs ρ as = some gs) (P : PostG K F H (ioA vs gs) outs F' H') : Sta K π c F' H' σ (putA as outs ρ) := by
  have own : ∀ {q}, q ∈ ioA vs gs → ∃ i, OwnAt σ ρ i q := fun hq => by
    obtain ⟨i, _, o⟩ := r.own S e hq
    exact ⟨i, o⟩
  have lk : ∀ {i s}, (putA as outs ρ)[i]? = some s → ∃ s0, ρ[i]? = some s0 ∧ s = (match newM as outs i with | some m => putM m s0 | none => s0) := fun {i s} h => by
    unfold putA at h
    rw [List.getElem?_mapIdx] at h
    cases e : ρ[i]? with
    | none => rw [e] at h; cases h
    | some s0 =>
      rw [e] at h
      cases h
      exact ⟨s0, rfl, rfl⟩
  have any : ∀ {q o}, H q = some o → ∃ o', H' q = some o' := fun {q o} ho => by
    by_cases z : q ∈ ioA vs gs
    · obtain ⟨m, hm⟩ := paired_mem P.outs z
      exact hm.here
    · by_cases zt : ∃ ps, o = .tbl ps
      · obtain ⟨ps, rfl⟩ := zt
        obtain ⟨ps', e'⟩ := P.t.tk q ps ho
        exact ⟨_, e'⟩
      · exact ⟨o, P.keep q o ho z fun ps y => zt ⟨ps, y⟩⟩
  refine ⟨fun q o eq n1 n2 nt => ?_, fun q hq => ?_, S.f0.trans P.f, P.fh, fun q o e1 e2 => ?_, by unfold putA; rw [List.length_mapIdx]; exact S.len, fun i s hs => ?_, fun i j p h1 h2 => ?_, ⟨P.t.tb, fun q ps e => by
    obtain ⟨ps', e'⟩ := S.t.tk q ps e
    exact P.t.tk q ps' e', P.t.nt⟩⟩
  · refine P.keep q o (S.h0 q o eq n1 n2 nt) (fun z => ?_) nt
    obtain ⟨i, o'⟩ := own z
    rcases (S.ownAt o').2.1 with y | y | y
    · rw [eq] at y; cases y
    · exact n2 y
    · exact n1 y
  · obtain ⟨o, ho⟩ := S.hio q hq
    exact any ho
  · obtain ⟨o', e'⟩ := S.any e1
    exact P.nf q o' e' (S.nf q o e1 e2)
  · obtain ⟨s0, h0, rfl⟩ := lk hs
    have z := S.rep i s0 h0
    cases s0 with
    | no =>
      cases newM as outs i <;> trivial
    | val d =>
      obtain ⟨v, e1, r1⟩ := z
      cases newM as outs i with
      | none => exact ⟨v, e1, r1.mono P.f⟩
      | some m => exact ⟨v, e1, r1.mono P.f⟩
    | own m0 =>
      obtain ⟨p, e1, e2, e3, e4⟩ := z
      obtain ⟨o, ho, hmu⟩ := e4.mut
      rcases r.new S (i := i) (q := p) ⟨e1, m0, .inl h0⟩ e P.outs with ⟨m, y1, y2⟩ | ⟨y1, y2⟩
      · rw [y1]
        exact ⟨p, e1, P.nf p o ho e2, e3, y2⟩
      · rw [y1]
        exact ⟨p, e1, P.nf p o ho e2, e3, e4.mono P.f fun o' ho' => P.keep p o' ho' y2 (by rw [ho] at ho'; cases ho'; exact hmu.nt)⟩
    | io m0 =>
      obtain ⟨e1, e2, e3, e4⟩ := z
      obtain ⟨o, ho, hmu⟩ := e4.mut
      rcases r.new S (i := i) (q := π i) ⟨e1, m0, .inr h0⟩ e P.outs with ⟨m, y1, y2⟩ | ⟨y1, y2⟩
      · rw [y1]
        exact ⟨e1, P.nf _ o ho e2, e3, y2⟩
      · rw [y1]
        exact ⟨e1, P.nf _ o ho e2, e3, e4.mono P.f fun o' ho' => P.keep _ o' ho' y2 (by rw [ho] at ho'; cases ho'; exact hmu.nt)⟩
  · have key : ∀ j, OwnAt σ (putA as outs ρ) j p → OwnAt σ ρ j p := fun j h => by
      obtain ⟨e, m, h⟩ := h
      rcases h with h | h
      · obtain ⟨s0, h0, e0⟩ := lk h
        cases s0 with
        | own m0 => exact ⟨e, m0, .inl h0⟩
        | io m0 => exact ⟨e, m0, .inr h0⟩
        | no => cases hn : newM as outs j <;> rw [hn] at e0 <;> cases e0
        | val d => cases hn : newM as outs j <;> rw [hn] at e0 <;> cases e0
      · obtain ⟨s0, h0, e0⟩ := lk h
        cases s0 with
        | own m0 => exact ⟨e, m0, .inl h0⟩
        | io m0 => exact ⟨e, m0, .inr h0⟩
        | no => cases hn : newM as outs j <;> rw [hn] at e0 <;> cases e0
        | val d => cases hn : newM as outs j <;> rw [hn] at e0 <;> cases e0
    exact S.dis i j p (key i h1) (key j h2)
end

/-! ### the reading of a call -/
def okA (n : Nat) (as : List AA) : Bool := as.length == n && nodN (slsA as)
def callG {α : Type} (n : Nat) (G : List Arg → RG) (f : BF) (k : Res → Rho → R α) : Rho → R α := fun ρ => (f ρ).bind fun as ρ => if okA n as = true then match toArgs ρ as with
    | some gs => match G gs with
      | .ok r outs => k r (putA as outs ρ)
      | .exc C fs outs => .exc C fs (putA as outs ρ)
      | .stuck => .stuck
    | none => .stuck
  else .stuck
def asE : Res → Rho → R D
  | .v d, ρ => .ok d ρ
  | .m (.lst ds), ρ => .ok (.lst ds) ρ
  | .m (.ins _ _), _ => .stuck
def asM : Res → Rho → R M
  | .m m, ρ => .ok m ρ
  | .v _, _ => .stuck
abbrev callE (n : Nat) (G : List Arg → RG) (f : BF) : EF := callG n G f asE
abbrev callM (n : Nat) (G : List Arg → RG) (f : BF) : Rho → R M := callG n G f asM
section
variable [FE]
variable {X : Cx} {π : Nat → Addr} {W : WX} {e : Expr} {es : List Expr} {pos p : Pos} {k : Nat} {f : Addr} {fd : FuncData} {ps ks : List Str} {G : List Arg → RG} {x : Str} {kws : List Keyword} {nm : Option Str} {kpos : Pos}
abbrev tB (K : PySem.W.Frag) (π : Nat → Addr) (W : WX) (f : BF) : TA := tG K π W (relB K) f
def nilB : BF := fun ρ => .ok [] ρ
def cnsB (f : EF) (g : BF) : BF := fun ρ => (f ρ).bind fun x ρ => (g ρ).bind fun xs ρ => .ok (.val x :: xs) ρ
def slB (i : Nat) (g : BF) : BF := fun ρ => match ioM ρ i with
  | some _ => (g ρ).bind fun xs ρ => .ok (.sl i :: xs) ρ
  | none => .stuck
theorem rd_nilB {K : PySem.W.Frag} {σ : L2.St} {H : Hp} {Q : List V → Hp → Prop} : tB K π W nilB σ H Q → tNil σ H Q := fun ⟨c, F, ρ, S, P⟩ => P [] F H (Same.refl _) S .nil
theorem rd_cnsB {K : PySem.W.Frag} {σ : L2.St} {H : Hp} {Q : List V → Hp → Prop} {f : EF} {g : BF} : tB K π W (cnsB f g) σ H Q → tCons (tE K π W f) (tB K π W g) σ H Q := fun ⟨c, F, ρ, S, P⟩ => by
  refine po_bind S P fun x F1 H1 ρ1 dx s1 S1 r1 P1 => ?_
  refine po_bind S1 P1 fun xs F2 H2 ρ2 ds s2 S2 r2 P2 => ?_
  exact P2 (x :: xs) F2 H2 (Same.refl _) S2 (.val (Rep.mono s2 r1) r2)
theorem rd_slB {K : PySem.W.Frag} {σ : L2.St} {H : Hp} {Q : List V → Hp → Prop} {i : Nat} {g : BF} : tB K π W (slB i g) σ H Q → tCons (tVar i) (tB K π W g) σ H Q := fun ⟨c, F, ρ, S, P⟩ => by
  unfold slB at P
  cases e : ioM ρ i with
  | none => rw [e] at P; exact P.elim
  | some m =>
    rw [e] at P
    obtain ⟨p, e1, _⟩ := S.ioM e
    refine ⟨_, e1, ?_⟩
    refine po_bind S P fun xs F2 H2 ρ2 ds s2 S2 r2 P2 => ?_
    exact P2 (_ :: xs) F2 H2 (Same.refl _) S2 (.sl e1 r2)
theorem fb_nil : PA X [] (tB X.K π W nilB) := PA.imp pa_nil fun σ H Q => rd_nilB
theorem fb_cons {f : EF} {g : BF} (ha : PE X e (tE X.K π W f)) (hr : PA X es (tB X.K π W g)) (hs : starEach (e :: es) X.env = (false, eval e X.env) :: starEach es X.env := by rfl) : PA X (e :: es) (tB X.K π W (cnsB f g)) :=
  PA.imp (pa_cons ha hr hs) fun σ H Q => rd_cnsB
theorem fb_sl {i : Nat} {g : BF} (ha : PE X e (tVar i)) (hr : PA X es (tB X.K π W g)) (hs : starEach (e :: es) X.env = (false, eval e X.env) :: starEach es X.env := by rfl) : PA X (e :: es) (tB X.K π W (slB i g)) :=
  PA.imp (pa_cons ha hr hs) fun σ H Q => rd_slB
theorem PK.imp {t t' : TA} (h : PK X kws t) (k : ∀ σ H Q, t' σ H Q → t σ H Q) : PK X kws t' := ⟨fun pos pins s σ H Q I q => h.run pos pins s σ H Q I (k σ H Q q)⟩
theorem fk_nil : PK X [] (tB X.K π W nilB) := PK.imp pk_nil fun σ H Q => rd_nilB
theorem fk_cons {f : EF} {g : BF} (ha : PE X e (tE X.K π W f)) (hr : PK X kws (tB X.K π W g)) : PK X (⟨nm, e, kpos⟩ :: kws) (tB X.K π W (cnsB f g)) :=
  PK.imp (pk_cons ha hr) fun σ H Q => rd_cnsB
theorem fk_sl {i : Nat} {g : BF} (ha : PE X e (tVar i)) (hr : PK X kws (tB X.K π W g)) : PK X (⟨nm, e, kpos⟩ :: kws) (tB X.K π W (slB i g)) :=
  PK.imp (pk_cons ha hr) fun σ H Q => rd_slB

/-- the callee runs -/
theorem run_fnG {pins : List (Addr × Obj)} {σ : L2.St} {H : Hp} {s : Shared} {Q : VK} {us : List Value} {vs : List V} {sp : Sp} {args : Args} (F : FnG X.prog X.w X.K X.mg X.base k f fd ps sp) (hr : RoomG k X.A) (tk : L2N.Takes X W)
    (hb : BindsTo s fd args (ps.zip us)) (I : Inv X pins σ H s) (r : Vals vs us) (h : sp vs H Q fun cls d H' => W cls d σ H') : codeAny (model X.prog X.w) X.A (.call (.ref f) args) (fun r s' => match r with
      | .ok (.ret u) => EP X pins σ Q u s'
      | .ok _ => False
      | .error e => X.xe e s') s := by
  refine codeAny_mono (F.run X.A X.stack s H args us vs Q _ hr I.env0 hb r h) fun r s' hq => ?_
  cases r with
  | error e => exact L2N.passAt tk σ pins H s e s' I hq
  | ok fl =>
    cases fl with
    | ret u => exact I.after hq
    | next => exact False.elim hq
    | brk => exact False.elim hq
    | cont => exact False.elim hq
theorem codeAny_any {M : Model} {A : Around} {c : Code} {R R' : Result → Shared → Prop} {s : Shared} (h : codeAny M A c R s) (k : ∀ r s', R r s' → R' r s') : codeAny M A c R' s := codeAny_mono h k
/-- from the reading of the arguments -/
theorem rd_call {α : Type} {rel : Rel V α} {σ : L2.St} {H : Hp} {Q : VK} {vs : List V} {as : List AA} {c : Cfg} {F : Hp} {ρ : Rho} {n : Nat} {kk : Res → Rho → R α}
    (hk : ∀ {r : Res} {ρ' : Rho} {v : V} {F' H' : Hp}, ResR X.K H F' H' v r → Sta X.K π c F' H' σ ρ' → c.H0 = c.H0 → (∀ q, H q = none → c.H0 q = none ∧ ∀ j, ¬ OwnAt σ ρ' j q) → Po X.K π W rel c F' σ Q (kk r ρ') → Q v H')
    (S : Sta X.K π c F H σ ρ) (ra : AAs X.K F σ vs as) (P : Po X.K π W rel c F σ Q (if okA n as = true then match toArgs ρ as with
      | some gs => match G gs with
        | .ok r outs => kk r (putA as outs ρ)
        | .exc C fs outs => .exc C fs (putA as outs ρ)
        | .stuck => .stuck
      | none => .stuck
    else .stuck)) : spG X.K n G vs H Q fun cls d H' => W cls d σ H' := by
  split at P
  · rename_i hok
    unfold okA at hok
    rw [Bool.and_eq_true] at hok
    have hl := beq_iff_eq.mp hok.1
    have hn := nodN_of hok.2
    cases e : toArgs ρ as with
    | none => rw [e] at P; exact P.elim
    | some gs =>
      rw [e] at P
      refine ⟨F, gs, ⟨S.f, S.t.tb, S.t.nt⟩, ra.args S e, ra.length.trans hl, ra.nod S e hn, ?_⟩
      have P : Po X.K π W rel c F σ Q (match G gs with
        | .ok r outs => kk r (putA as outs ρ)
        | .exc C fs outs => .exc C fs (putA as outs ρ)
        | .stuck => .stuck) := P
      cases eg : G gs with
      | stuck => rw [eg] at P; exact P
      | exc C fs outs =>
        rw [eg] at P
        exact fun dd fsV F' H' po hd hf hr => P dd fsV F' H' po.f (S.post ra e po) hd hf hr
      | ok r outs =>
        rw [eg] at P
        refine fun v F' H' po rv => hk rv (S.post ra e po) rfl (fun q hq => ?_) (Po.mono po.f P)
        refine ⟨?_, fun j hj => ?_⟩
        · cases z : c.H0 q with
          | none => rfl
          | some o =>
            obtain ⟨o', e'⟩ := S.any z
            rw [hq] at e'
            cases e'
        · have S' := S.post ra e po
          have z : ∃ m, ρ[j]? = some (.own m) ∨ ρ[j]? = some (.io m) := by
            obtain ⟨_, m, h⟩ := hj
            have lk : ∃ s0, ρ[j]? = some s0 ∧ ((∃ m, s0 = .own m) ∨ ∃ m, s0 = .io m) := by
              rcases h with h | h
              · unfold putA at h
                rw [List.getElem?_mapIdx] at h
                cases e0 : ρ[j]? with
                | none => rw [e0] at h; cases h
                | some s0 =>
                  rw [e0] at h
                  cases s0 with
                  | own m0 => exact ⟨_, rfl, .inl ⟨m0, rfl⟩⟩
                  | io m0 => exact ⟨_, rfl, .inr ⟨m0, rfl⟩⟩
                  | no => cases hn : newM as outs j <;> simp [hn, putM] at h
                  | val d => cases hn : newM as outs j <;> simp [hn, putM] at h
              · unfold putA at h
                rw [List.getElem?_mapIdx] at h
                cases e0 : ρ[j]? with
                | none => rw [e0] at h; cases h
                | some s0 =>
                  rw [e0] at h
                  cases s0 with
                  | own m0 => exact ⟨_, rfl, .inl ⟨m0, rfl⟩⟩
                  | io m0 => exact ⟨_, rfl, .inr ⟨m0, rfl⟩⟩
                  | no => cases hn : newM as outs j <;> simp [hn, putM] at h
                  | val d => cases hn : newM as outs j <;> simp [hn, putM] at h
            obtain ⟨s0, h0, ⟨m, rfl⟩ | ⟨m, rfl⟩⟩ := lk
            · exact ⟨m, .inl h0⟩
            · exact ⟨m, .inr h0⟩
          obtain ⟨o, ho⟩ := (S.ownAt ⟨hj.1, z⟩).2.2
          rw [hq] at ho
          cases ho
  · exact P.elim
theorem frz_new {K : PySem.W.Frag} {c : Cfg} {F H : Hp} {σ : L2.St} {ρ : Rho} (S : Sta K π c F H σ ρ) {p : Addr} {vs : List V} (ho : H p = some (.lst vs)) (f1 : F p = none) (f2 : c.H0 p = none) (f3 : ∀ j, ¬ OwnAt σ ρ j p) : Same F (upd F p (.lst vs)) ∧ Sta K π c (upd F p (.lst vs)) H σ ρ := by
  have sm : Same F (upd F p (.lst vs)) := sm_new f1
  refine ⟨sm, S.h0, S.hio, S.f0.trans sm, fun a u q => ?_, fun q o e n => ?_, S.len, fun i s hs => ?_, S.dis, ⟨S.t.tb, S.t.tk, S.t.nt.upd (by intro ps z; cases z)⟩⟩
  · by_cases z : a = p
    · subst z
      rw [upd_same] at q
      cases q
      exact ho
    · rw [upd_ne z] at q
      exact S.f _ _ q
  · rw [upd_ne (fun z => by subst z; rw [f2] at e; cases e)]
    exact S.nf q o e n
  · have z := S.rep i s hs
    cases s with
    | no => trivial
    | val d => obtain ⟨w, e1, q⟩ := z; exact ⟨w, e1, q.mono sm⟩
    | own m' =>
      obtain ⟨q, e1, e2, e3, q1⟩ := z
      have nq : q ≠ p := fun w => by subst w; exact f3 i ⟨e1, m', .inl hs⟩
      exact ⟨q, e1, by rw [upd_ne nq]; exact e2, e3, q1.mono sm fun _ hu => hu⟩
    | io m' =>
      obtain ⟨e1, e2, e3, q1⟩ := z
      have nq : π i ≠ p := fun w => by rw [w] at e1; exact f3 i ⟨e1, m', .inr hs⟩
      exact ⟨e1, by rw [upd_ne nq]; exact e2, e3, q1.mono sm fun _ hu => hu⟩
theorem k_asE {σ : L2.St} {H : Hp} {Q : VK} {c : Cfg} {r : Res} {ρ' : Rho} {v : V} {F' H' : Hp} (rv : ResR X.K H F' H' v r) (S : Sta X.K π c F' H' σ ρ') (nw : ∀ q, H q = none → c.H0 q = none ∧ ∀ j, ¬ OwnAt σ ρ' j q) (P : Po X.K π W (relE X.K) c F' σ Q (asE r ρ')) : Q v H' := by
  cases r with
  | v d => exact P v F' H' (Same.refl _) S rv
  | m m =>
    cases m with
    | ins _ _ => exact P.elim
    | lst ds =>
      obtain ⟨p, rfl, n, nF, vs, ho, r⟩ := rv
      obtain ⟨sm, S'⟩ := frz_new S ho nF (nw p n).1 (nw p n).2
      exact P _ _ H' sm S' (.lst upd_same (r.mono sm))
theorem k_asM {σ : L2.St} {H : Hp} {Q : VK} {c : Cfg} {r : Res} {ρ' : Rho} {v : V} {F' H' : Hp} (rv : ResR X.K H F' H' v r) (S : Sta X.K π c F' H' σ ρ') (nw : ∀ q, H q = none → c.H0 q = none ∧ ∀ j, ¬ OwnAt σ ρ' j q) (P : Po X.K π W (relM X.K) c F' σ Q (asM r ρ')) : Q v H' := by
  cases r with
  | v d => exact P.elim
  | m m =>
    obtain ⟨p, rfl, n, nF, hm⟩ := rv
    exact P _ F' H' (Same.refl _) S ⟨p, rfl, nF, (nw p n).1, (nw p n).2, hm⟩
/-- how a def's arguments bind: n positional ones, keywords ks; the parameters in the order ord -/
def KB (K : PySem.W.Frag) (fd : FuncData) (ps ks : List Str) (n : Nat) (ord : List Nat) : Prop :=
  ∀ (s : Shared) (us ws : List Value), K.In s.heap → us.length = n → ws.length = ks.length → BindsTo s fd ⟨us, ks.zip ws⟩ (ps.zip (pick ord (us ++ ws)))
/-- f(e, ..) -/
theorem rd_bind1 {α : Type} {rel : Rel V α} {f : BF} {σ : L2.St} {H : Hp} {Q : VK} {n : Nat} {kk : Res → Rho → R α}
    (hk : ∀ {c : Cfg} {σ : L2.St} {H : Hp} {r : Res} {ρ' : Rho} {v : V} {F' H' : Hp}, ResR X.K H F' H' v r → Sta X.K π c F' H' σ ρ' → c.H0 = c.H0 → (∀ q, H q = none → c.H0 q = none ∧ ∀ j, ¬ OwnAt σ ρ' j q) → Po X.K π W rel c F' σ Q (kk r ρ') → Q v H')
    (t : tG X.K π W rel (callG n G f kk) σ H Q) : tB X.K π W f σ H fun vs H1 => spG X.K n G vs H1 Q fun cls d H' => W cls d σ H' := by
  obtain ⟨c, F, ρ, S, P⟩ := t
  refine po_bind S P fun vs F1 H1 ρ1 as s1 S1 r1 P1 => ?_
  exact rd_call hk S1 r1 P1
theorem fc_call {α : Type} {rel : Rel V α} {g : BF} {kk : Res → Rho → R α}
    (hk : ∀ {Q : VK} {c : Cfg} {σ : L2.St} {H : Hp} {r : Res} {ρ' : Rho} {v : V} {F' H' : Hp}, ResR X.K H F' H' v r → Sta X.K π c F' H' σ ρ' → c.H0 = c.H0 → (∀ q, H q = none → c.H0 q = none ∧ ∀ j, ¬ OwnAt σ ρ' j q) → Po X.K π W rel c F' σ Q (kk r ρ') → Q v H')
    (Fn : FnG X.prog X.w X.K X.mg X.base k f fd ps (spG X.K ps.length G)) (hr : RoomG k X.A) (tk : L2N.Takes X W) (hg : Gl X x) (hm : X.mg x = some (.ref f)) (hkp : PySem.W.keepIn X.K (.ref f) = true) (hb : Binds X.K fd ps [])
    (ha : PA X (e :: es) (tB X.K π W g)) (hdb : (x == ("__debug__" : Str)) = false := by decide) (he : starEach (e :: es) X.env = (false, eval e X.env) :: starEach es X.env := by rfl) (hpl : (backTo pos (starEach es X.env)).any (·.1) = false := by rfl) :
    PE X (.Call (.Name x p) (e :: es) [] pos) (tG X.K π W rel (callG ps.length G g kk)) := by
  refine ⟨fun pins s σ H Q I h => ?_⟩
  refine wpAny_Call_Name_kw (ld_glob I hg hm ?_ hdb)
  refine PySem.W.callWith_K (h₀ := X.base) I.ok.mod.kin hkp (thn (ha.run pos pins s σ H _ I (rd_bind1 hk h)) fun us s1 ⟨vs, H1, I1, r, q⟩ => ⟨I1.kIn, ?_⟩) he hpl
  have b := hb s1 us I1.kIn (by rw [List.append_nil, ← r.length]; exact Fn.len _ _ _ _ q)
  rw [List.append_nil] at b
  refine wpAny_call (codeAny_mono (run_fnG Fn hr tk b I1 r q) fun r s' hq => ?_)
  cases r with
  | error e => exact hq
  | ok fl =>
    cases fl with
    | ret u => exact hq
    | next => exact False.elim hq
    | brk => exact False.elim hq
    | cont => exact False.elim hq
theorem fc_call0 {α : Type} {rel : Rel V α} {kk : Res → Rho → R α}
    (hk : ∀ {Q : VK} {c : Cfg} {σ : L2.St} {H : Hp} {r : Res} {ρ' : Rho} {v : V} {F' H' : Hp}, ResR X.K H F' H' v r → Sta X.K π c F' H' σ ρ' → c.H0 = c.H0 → (∀ q, H q = none → c.H0 q = none ∧ ∀ j, ¬ OwnAt σ ρ' j q) → Po X.K π W rel c F' σ Q (kk r ρ') → Q v H')
    (Fn : FnG X.prog X.w X.K X.mg X.base k f fd ps (spG X.K ps.length G)) (hr : RoomG k X.A) (tk : L2N.Takes X W) (hg : Gl X x) (hm : X.mg x = some (.ref f)) (hkp : PySem.W.keepIn X.K (.ref f) = true) (hb : Binds X.K fd ps [])
    (hdb : (x == ("__debug__" : Str)) = false := by decide) : PE X (.Call (.Name x p) [] [] pos) (tG X.K π W rel (callG ps.length G nilB kk)) := by
  refine ⟨fun pins s σ H Q I h => ?_⟩
  refine wpAny_Call_Name_kw (ld_glob I hg hm ?_ hdb)
  have q := rd_nilB (rd_bind1 hk h)
  refine PySem.W.callWith_K0 I.kIn hkp ?_
  have b := hb s [] I.kIn (by rw [List.append_nil]; exact Fn.len _ _ _ _ q)
  rw [List.append_nil] at b
  refine wpAny_call (codeAny_mono (run_fnG (us := []) Fn hr tk b I .nil q) fun r s' hq => ?_)
  cases r with
  | error e => exact hq
  | ok fl =>
    cases fl with
    | ret u => exact hq
    | next => exact False.elim hq
    | brk => exact False.elim hq
    | cont => exact False.elim hq
/-- both lists of a call with keywords, in the parameters' order -/
def kwB (n m : Nat) (ord : List Nat) (f g : BF) : BF := fun ρ => (f ρ).bind fun as ρ => (g ρ).bind fun bs ρ => if as.length = n ∧ bs.length = m then .ok (pick ord (as ++ bs)) ρ else .stuck
theorem rd_bindK {α : Type} {rel : Rel V α} {f g : BF} {σ : L2.St} {H : Hp} {Q : VK} {n a m : Nat} {ord : List Nat} {kk : Res → Rho → R α}
    (hk : ∀ {c : Cfg} {σ : L2.St} {H : Hp} {r : Res} {ρ' : Rho} {v : V} {F' H' : Hp}, ResR X.K H F' H' v r → Sta X.K π c F' H' σ ρ' → c.H0 = c.H0 → (∀ q, H q = none → c.H0 q = none ∧ ∀ j, ¬ OwnAt σ ρ' j q) → Po X.K π W rel c F' σ Q (kk r ρ') → Q v H')
    (t : tG X.K π W rel (callG n G (kwB a m ord f g) kk) σ H Q) : tB X.K π W f σ H fun vs H1 => tB X.K π W g σ H1 fun ws H2 => vs.length = a ∧ ws.length = m ∧ spG X.K n G (pick ord (vs ++ ws)) H2 Q fun cls d H' => W cls d σ H' := by
  obtain ⟨c, F, ρ, S, P⟩ := t
  have P : Po X.K π W rel c F σ Q ((f ρ).bind fun as ρ => ((g ρ).bind fun bs ρ => if as.length = a ∧ bs.length = m then .ok (pick ord (as ++ bs)) ρ else .stuck).bind fun as ρ => if okA n as = true then match toArgs ρ as with
      | some gs => match G gs with
        | .ok r outs => kk r (putA as outs ρ)
        | .exc C fs outs => .exc C fs (putA as outs ρ)
        | .stuck => .stuck
      | none => .stuck
    else .stuck) := by
    unfold callG kwB at P
    cases ef : f ρ with
    | stuck => rw [ef] at P; exact P
    | exc C fs ρ' => rw [ef] at P; exact P
    | ok as ρ' => rw [ef] at P; exact P
  refine po_bind S P fun vs F1 H1 ρ1 as s1 S1 r1 P1 => ?_
  have P1 : Po X.K π W rel c F1 σ Q ((g ρ1).bind fun bs ρ => (if as.length = a ∧ bs.length = m then R.ok (pick ord (as ++ bs)) ρ else .stuck).bind fun as ρ => if okA n as = true then match toArgs ρ as with
      | some gs => match G gs with
        | .ok r outs => kk r (putA as outs ρ)
        | .exc C fs outs => .exc C fs (putA as outs ρ)
        | .stuck => .stuck
      | none => .stuck
    else .stuck) := by
    cases eg : g ρ1 with
    | stuck => rw [eg] at P1; exact P1
    | exc C fs ρ' => rw [eg] at P1; exact P1
    | ok as ρ' => rw [eg] at P1; exact P1
  refine po_bind S1 P1 fun ws F2 H2 ρ2 bs s2 S2 r2 P2 => ?_
  split at P2
  · rename_i hl
    exact ⟨r1.length.trans hl.1, r2.length.trans hl.2, rd_call hk S2 (((r1.mono s2).append r2).pick ord) P2⟩
  · exact P2.elim
theorem fc_callK {α : Type} {rel : Rel V α} {g h : BF} {n : Nat} {ord : List Nat} {kk : Res → Rho → R α}
    (hk : ∀ {Q : VK} {c : Cfg} {σ : L2.St} {H : Hp} {r : Res} {ρ' : Rho} {v : V} {F' H' : Hp}, ResR X.K H F' H' v r → Sta X.K π c F' H' σ ρ' → c.H0 = c.H0 → (∀ q, H q = none → c.H0 q = none ∧ ∀ j, ¬ OwnAt σ ρ' j q) → Po X.K π W rel c F' σ Q (kk r ρ') → Q v H')
    (Fn : FnG X.prog X.w X.K X.mg X.base k f fd ps (spG X.K ps.length G)) (hr : RoomG k X.A) (tk : L2N.Takes X W) (hg : Gl X x) (hm : X.mg x = some (.ref f)) (hkp : PySem.W.keepIn X.K (.ref f) = true) (hb : KB X.K fd ps ks n ord)
    (ha : PA X (e :: es) (tB X.K π W g)) (hw : PK X kws (tB X.K π W h)) (hall : (backToKw pos (keywordEach kws X.env)).all (·.1.isSome) = true := by rfl) (hks : (backToKw pos (keywordEach kws X.env)).filterMap (·.1) = ks := by rfl)
    (hdb : (x == ("__debug__" : Str)) = false := by decide) (he : starEach (e :: es) X.env = (false, eval e X.env) :: starEach es X.env := by rfl)
    (hpl : ((backTo pos (starEach (e :: es) X.env)).any (·.1) || (backToKw pos (keywordEach kws X.env)).any (·.1.isNone)) = false := by rfl) :
    PE X (.Call (.Name x p) (e :: es) kws pos) (tG X.K π W rel (callG ps.length G (kwB n ks.length ord g h) kk)) := by
  refine ⟨fun pins s σ H Q I hq => ?_⟩
  refine wpAny_Call_Name_kw (ld_glob I hg hm ?_ hdb)
  refine PySem.W.callWith_KW (h₀ := X.base) I.ok.mod.kin hkp hall (thn (ha.run pos pins s σ H _ I (rd_bindK hk hq)) fun us s1 ⟨vs, H1, I1, r, q⟩ => ?_) hpl he
  refine thn (hw.run pos pins s1 σ H1 _ I1 q) fun ws s2 ⟨zs, H2, I2, rz, l1, l2, q2⟩ => ⟨I2.kIn, ?_⟩
  rw [hks]
  refine wpAny_call (codeAny_mono (run_fnG Fn hr tk (hb s2 us ws I2.kIn (r.length.symm.trans l1) (rz.length.symm.trans l2)) I2 (vals_pick (r.append rz) ord) q2) fun r s' hq => ?_)
  cases r with
  | error e => exact hq
  | ok fl =>
    cases fl with
    | ret u => exact hq
    | next => exact False.elim hq
    | brk => exact False.elim hq
    | cont => exact False.elim hq
theorem fc_callK0 {α : Type} {rel : Rel V α} {h : BF} {ord : List Nat} {kk : Res → Rho → R α}
    (hk : ∀ {Q : VK} {c : Cfg} {σ : L2.St} {H : Hp} {r : Res} {ρ' : Rho} {v : V} {F' H' : Hp}, ResR X.K H F' H' v r → Sta X.K π c F' H' σ ρ' → c.H0 = c.H0 → (∀ q, H q = none → c.H0 q = none ∧ ∀ j, ¬ OwnAt σ ρ' j q) → Po X.K π W rel c F' σ Q (kk r ρ') → Q v H')
    (Fn : FnG X.prog X.w X.K X.mg X.base k f fd ps (spG X.K ps.length G)) (hr : RoomG k X.A) (tk : L2N.Takes X W) (hg : Gl X x) (hm : X.mg x = some (.ref f)) (hkp : PySem.W.keepIn X.K (.ref f) = true) (hb : KB X.K fd ps ks 0 ord)
    (hw : PK X kws (tB X.K π W h)) (hall : (backToKw pos (keywordEach kws X.env)).all (·.1.isSome) = true := by rfl) (hks : (backToKw pos (keywordEach kws X.env)).filterMap (·.1) = ks := by rfl)
    (hdb : (x == ("__debug__" : Str)) = false := by decide)
    (hpl : ((backTo pos (starEach [] X.env)).any (·.1) || (backToKw pos (keywordEach kws X.env)).any (·.1.isNone)) = false := by rfl) :
    PE X (.Call (.Name x p) [] kws pos) (tG X.K π W rel (callG ps.length G (kwB 0 ks.length ord nilB h) kk)) := by
  refine ⟨fun pins s σ H Q I hq => ?_⟩
  refine wpAny_Call_Name_kw (ld_glob I hg hm ?_ hdb)
  refine PySem.W.callWith_KW0 (h₀ := X.base) I.ok.mod.kin hkp hall ?_ hpl
  refine thn (hw.run pos pins s σ H _ I (rd_nilB (rd_bindK hk hq))) fun ws s2 ⟨zs, H2, I2, rz, l1, l2, q2⟩ => ⟨I2.kIn, ?_⟩
  rw [hks]
  refine wpAny_call (codeAny_mono (run_fnG (us := pick ord ([] ++ ws)) Fn hr tk (hb s2 [] ws I2.kIn rfl (rz.length.symm.trans l2)) I2 (vals_pick (Vals.append (show Vals [] [] from .nil) rz) ord) q2) fun r s' hq => ?_)
  cases r with
  | error e => exact hq
  | ok fl =>
    cases fl with
    | ret u => exact hq
    | next => exact False.elim hq
    | brk => exact False.elim hq
    | cont => exact False.elim hq
end
end FL
/-! FL9: isinstance, repr, truth, displays with a star, x[j] as a target, texts compared. -/
namespace FL
open PySem PySem.Spec PyProof.Rows L2

/-! ### isinstance -/
inductive Ty where
  | non | bl | int | str | tup | lst | dct
def tyN : Ty → String
  | .non => "NoneType"
  | .bl => "bool"
  | .int => "int"
  | .str => "str"
  | .tup => "tuple"
  | .lst => "list"
  | .dct => "dict"
def isTy : Ty → Ty → Bool
  | .non, .non => true
  | .bl, .bl => true
  | .bl, .int => true
  | .int, .int => true
  | .str, .str => true
  | .tup, .tup => true
  | .lst, .lst => true
  | .dct, .dct => true
  | _, _ => false
def typD : D → Option Ty
  | .non => some .non
  | .bl _ => some .bl
  | .int _ => some .int
  | .str _ => some .str
  | .tup _ => some .tup
  | .lst _ => some .lst
  | .scr _ => some .lst
  | .dct _ => some .dct
  | _ => none
def isiD (T : Ty) (d : D) : Option D := (typD d).map fun t => .bl (isTy t T)
theorem kitB_ty (T : Ty) (hT : T ≠ .non) : ∀ t : Ty, kitB (tyN t) (tyN T) = some (isTy t T) := by
  intro t
  cases T <;> first | exact absurd rfl hT | (cases t <;> decide +kernel)
section
variable {K : PySem.W.Frag} {F H : Hp}
theorem tyx_of (s : Same F H) {v : V} {d : D} {t : Ty} (r : Rep K F v d) (h : typD d = some t) : TyX K H v (.type (tyN t)) := by
  cases r with
  | non => cases h; exact .base .non
  | bl b => cases h; exact .base (.bl b)
  | int i => cases h; exact .base (.int i)
  | str x => cases h; exact .base (.str x)
  | fn a => cases h
  | exc _ _ _ => cases h
  | tup h1 _ =>
    cases h
    rcases sm_tup s h1 with z | ⟨o, us, n, h2, h3, _⟩
    · rcases z with z | ⟨o, z⟩
      · exact .base (.tup z)
      · exact .fTuple z
    · exact .kTuple h2 h3
  | lst h1 _ => cases h; exact .base (.lst (s _ _ h1))
  | scr h1 =>
    cases h
    rcases Same.seq s h1 with z | ⟨o, us, n, h2, h3, _⟩
    · rcases z with z | ⟨o, z⟩
      · exact .base (.lst z)
      · exact .base (.frz z)
    · exact .kList h2 h3
  | dct h1 _ _ => cases h; exact .base (.dK (s _ _ h1))
end
section
variable [FE]
variable {X : Cx} {π : Nat → Addr} {W : WX} {a : Expr} {pos p p2 : Pos} {x y : Str}
theorem pe_ty {T : String} {p : Pos} (hg : Gl X y) (hm : X.mg y = none) (hv : bootBuiltins y = some (.type T)) (hn : y ≠ "__name__" := by decide) (hdb : (y == ("__debug__" : Str)) = false := by decide) : PE X (.Name y p) (tC (.ty T)) :=
  ⟨fun pins s σ H Q I h => ld_blt I hg hm hv ⟨.ty T, H, I, rfl, h⟩ hn hdb⟩
theorem fe_isi {f : EF} {T : Ty} (hT : T ≠ .non) (hg : Gl X x) (hm : X.mg x = none) (hx : x = "isinstance") (hgy : Gl X y) (hmy : X.mg y = none) (hy : bootBuiltins y = some (.type (tyN T))) (ha : PE X a (tE X.K π W f)) (hn : y ≠ "__name__" := by decide) (hdb : (y == ("__debug__" : Str)) = false := by decide)
    (h1 : starEach [a, .Name y p2] X.env = (false, eval a X.env) :: starEach [.Name y p2] X.env := by rfl) (h2 : starEach [.Name y p2] X.env = (false, eval (.Name y p2) X.env) :: starEach [] X.env := by rfl) (hpl : (backTo pos (starEach [.Name y p2] X.env)).any (·.1) = false := by rfl) :
    PE X (.Call (.Name x p) [a, .Name y p2] [] pos) (tE X.K π W (op1 (isiD T) f)) := by
  subst hx
  refine PE.imp (pe_callB call_isi hg hm boot_isinstance (pa_cons ha (pa_cons (pe_ty hgy hmy hy hn hdb) pa_nil h2) h1) (by decide) (by decide) h1 hpl) fun σ H Q ⟨c, F, ρ, S, P⟩ => ?_
  refine po_bind S P fun v F1 H1 ρ1 d s1 S1 r1 P1 => ?_
  obtain ⟨d', e, P2⟩ := po_of P1
  unfold isiD at e
  cases et : typD d with
  | none => rw [et] at e; cases e
  | some t =>
    rw [et] at e
    cases e
    exact ⟨v, .ty (tyN T), .type (tyN t), .type (tyN T), _, rfl, .ty _, tyx_of S1.f r1 et, kit_ty (kitB_ty T hT t), P2 _ F1 H1 (Same.refl _) S1 (.bl _)⟩

/-! ### truth -/
theorem tru_of {K : PySem.W.Frag} {F H : Hp} (s : Same F H) {v : V} {d : D} {b : Bool} (r : Rep K F v d) (h : truD d = some b) : TruV K v H b := by
  cases r with
  | non => cases h; rfl
  | bl b => cases h; rfl
  | int i => cases h; rfl
  | str x =>
    simp only [truD] at h
    split at h
    · rename_i hz
      cases h
      refine ⟨le_line hz, ?_⟩
      rw [Bool.eq_iff_iff]
      simp
    · cases h
  | tup h1 r1 =>
    cases h
    refine .inr (.inl ⟨_, sm_tup s h1, ?_⟩)
    cases r1 <;> rfl
  | lst h1 r1 =>
    cases h
    refine .inl ⟨_, SqL.of (s _ _ h1), ?_⟩
    cases r1 <;> rfl
  | _ => cases h
theorem rd_tru {K : PySem.W.Frag} {f : EF} {σ : L2.St} {H : Hp} {Q : Bool → Hp → Prop} (t : tT K π W (tru f) σ H Q) : (tE K π W f) σ H fun x H1 => ∃ k, TruV K x H1 k ∧ Q k H1 := by
  obtain ⟨c, F, ρ, S, P⟩ := t
  refine po_bind S P fun x F1 H1 ρ1 dx s1 S1 r1 P1 => ?_
  obtain ⟨d, e, P3⟩ := po_of P1
  exact ⟨d, tru_of S1.f r1 e, P3 _ F1 H1 (Same.refl _) S1 rfl⟩
theorem ft_truth {f : EF} (ha : PE X a (tE X.K π W f)) (he : ∀ whole, isTrue a X.env whole = (do let v ← whole; standAt a.pos; holding [v] (truthy v)) := by intro _; rfl) : PT X a (tT X.K π W (tru f)) :=
  PT.imp (pt_truth ha he) fun _ _ _ => rd_tru

/-! ### texts compared -/
def twoS : D → D → Option Bool
  | .str a, .str b => some (decide (a = b))
  | _, _ => none
/-- lists of unlike lengths -/
def difL : D → D → Bool
  | .lst xs, .lst ys => xs.length != ys.length
  | _, _ => false
def eqA (x y : D) : Option D := match twoS x y with
  | some b => some (.bl b)
  | none => if difL x y = true then some (.bl false) else eqD x y
def neA (x y : D) : Option D := match twoS x y with
  | some b => some (.bl (!b))
  | none => if difL x y = true then some (.bl true) else neD x y
/-- the comparison of two lists of unlike lengths -/
def rDif (K : PySem.W.Frag) (b : Bool) : R2 := fun x y H Q => ∃ (p q : Addr) (xs ys : List V), x = .ref p ∧ y = .ref q ∧ SqL K H p xs ∧ SqL K H q ys ∧ xs.length ≠ ys.length ∧ Q (.bl b) H
theorem difL_rep {K : PySem.W.Frag} {F H : Hp} (s : Same F H) {x y : V} {dx dy : D} (rx : Rep K F x dx) (ry : Rep K F y dy) (h : difL dx dy = true) : ∃ (p q : Addr) (xs ys : List V), x = .ref p ∧ y = .ref q ∧ SqL K H p xs ∧ SqL K H q ys ∧ xs.length ≠ ys.length := by
  unfold difL at h
  split at h
  · cases rx with
    | lst h1 r1 =>
      cases ry with
      | lst h2 r2 =>
        refine ⟨_, _, _, _, rfl, rfl, SqL.of (s _ _ h1), SqL.of (s _ _ h2), ?_⟩
        rw [Reps.length r1, Reps.length r2]
        simpa using h
  · cases h
theorem op_eq_dif (hu : X.A.units + 64 < cLine) : OpR X (compareOp .Eq) (rDif X.K false) := by
  intro pins s σ H x y v u Q I rx ry h
  obtain ⟨p, q, xs, ys, rfl, rfl, h1, h2, hn, hq⟩ := h
  cases rx
  cases ry
  obtain ⟨its, r1, p1, _⟩ := I.list h1
  obtain ⟨jts, r2, p2, _⟩ := I.list h2
  refine PySem.SeqAt.eq_list_lengthsAt p1.isList p2.isList ?_ (by omega) ⟨.bl false, H, I, rfl, hq⟩
  have e1 := r1.length
  have e2 := r2.length
  simp
  omega
theorem op_ne_dif (hu : X.A.units + 64 < cLine) : OpR X (compareOp .NotEq) (rDif X.K true) := by
  intro pins s σ H x y v u Q I rx ry h
  obtain ⟨p, q, xs, ys, rfl, rfl, h1, h2, hn, hq⟩ := h
  cases rx
  cases ry
  obtain ⟨its, r1, p1, _⟩ := I.list h1
  obtain ⟨jts, r2, p2, _⟩ := I.list h2
  refine PySem.SeqAt.RcNeAt.lists_lengths p1.isList p2.isList ?_ (by omega) _ _ _ _ ⟨.bl true, H, I, rfl, hq⟩
  have e1 := r1.length
  have e2 := r2.length
  simp
  omega
theorem twoS_rep {K : PySem.W.Frag} {F : Hp} {x y : V} {dx dy : D} {b : Bool} (rx : Rep K F x dx) (ry : Rep K F y dy) (h : twoS dx dy = some b) : scal x y = true ∧ decide (x = y) = b := by
  unfold twoS at h
  split at h
  · cases rx
    cases ry
    cases h
    refine ⟨rfl, ?_⟩
    rw [decide_eq_decide]
    exact ⟨fun e => by cases e; rfl, fun e => by rw [e]⟩
  · cases h
theorem q_eqA {K : PySem.W.Frag} : Op2 K eqA (fun x y H Q => rEq x y H Q ∨ rDif K false x y H Q ∨ rEqD K x y H Q) := by
  intro F H x y dx dy d Q s rx ry e k
  unfold eqA at e
  cases es : twoS dx dy with
  | none =>
    rw [es] at e
    have e : (if difL dx dy = true then some (D.bl false) else eqD dx dy) = some d := e
    split at e
    · rename_i hz
      cases e
      obtain ⟨p, q, xs, ys, h1, h2, h3, h4, h5⟩ := difL_rep s rx ry hz
      exact .inr (.inl ⟨p, q, xs, ys, h1, h2, h3, h4, h5, k _ F H (Grw.refl s) (.bl _)⟩)
    · exact .inr (.inr (q_eq s rx ry e k))
  | some b =>
    rw [es] at e
    cases e
    obtain ⟨h1, h2⟩ := twoS_rep rx ry es
    refine .inl ⟨h1, ?_⟩
    rw [h2]
    exact k _ F H (Grw.refl s) (.bl _)
theorem q_neA {K : PySem.W.Frag} : Op2 K neA (fun x y H Q => rNe x y H Q ∨ rDif K true x y H Q ∨ rNeD K x y H Q) := by
  intro F H x y dx dy d Q s rx ry e k
  unfold neA at e
  cases es : twoS dx dy with
  | none =>
    rw [es] at e
    have e : (if difL dx dy = true then some (D.bl true) else neD dx dy) = some d := e
    split at e
    · rename_i hz
      cases e
      obtain ⟨p, q, xs, ys, h1, h2, h3, h4, h5⟩ := difL_rep s rx ry hz
      exact .inr (.inl ⟨p, q, xs, ys, h1, h2, h3, h4, h5, k _ F H (Grw.refl s) (.bl _)⟩)
    · exact .inr (.inr (q_ne s rx ry e k))
  | some b =>
    rw [es] at e
    cases e
    obtain ⟨h1, h2⟩ := twoS_rep rx ry es
    refine .inl ⟨h1, ?_⟩
    rw [h2]
    exact k _ F H (Grw.refl s) (.bl _)
theorem o_eqA (hu : X.A.units + 64 < cLine) : OpR X (compareOp .Eq) (fun x y H Q => rEq x y H Q ∨ rDif X.K false x y H Q ∨ rEqD X.K x y H Q) := op_eq.or ((op_eq_dif hu).or (op_eqD hu))
theorem o_neA (hu : X.A.units + 64 < cLine) : OpR X (compareOp .NotEq) (fun x y H Q => rNe x y H Q ∨ rDif X.K true x y H Q ∨ rNeD X.K x y H Q) := op_ne.or ((op_ne_dif hu).or (op_neD hu))

/-! ### repr -/
def showD (n : Nat) (d : D) : Bool := shp n d && (toP d).showable && small (toP d).shown.length
def reprC : List D → Option D
  | [d] => if showD 8 d = true then some (.str (toP d).shown) else none
  | _ => none
def rRepr (K : PySem.W.Frag) : List V → Hp → VK → Prop := fun xs H Q => ∃ x d, xs = [x] ∧ Dp K H x d ∧ d.canLay0 = true ∧ d.showable = true ∧ d.shown.length ≤ sizeLine ∧ d.depth ≤ 8 ∧ Q (.str d.shown) H
theorem q_repr {K : PySem.W.Frag} : OpC K reprC (rRepr K) := by
  intro F H vs ds d Q s r e k
  unfold reprC at e
  split at e
  · rename_i d0
    split at e
    · rename_i hz
      cases e
      unfold showD at hz
      rw [Bool.and_eq_true, Bool.and_eq_true] at hz
      obtain ⟨⟨z1, z2⟩, z3⟩ := hz
      obtain ⟨v, rfl, r1⟩ := Reps.one r
      obtain ⟨y1, y2⟩ := shp_ok 8 _ z1
      exact ⟨v, _, rfl, dp_of s 8 _ _ z1 r1, y1, z2, le_line (small_le z3), y2, k _ F H (Grw.refl s) (.str _)⟩
    · cases e
  · cases e
theorem o_repr (hg : X.A.guards = some []) (hu : X.A.units + 64 < cLine) : CallR X (.builtin "repr") (rRepr X.K) := by
  intro pins s σ H xs us Q I r h
  obtain ⟨x, d, rfl, dp, hc, hs, hl, hd, q⟩ := h
  cases r with
  | cons r1 rt =>
    cases rt
    have fin : ∀ {h' : Heap} {tk : Nat} {u : Tok}, (∀ b o, s.heap.get? b = some o → h'.get? b = some o) → EP X pins σ Q (.str d.shown u) { s with heap := h', toks := tk } := fun {h' tk u} hk => ⟨.str d.shown, H, I.kept (t' := tk) hk, ⟨u, rfl⟩, q⟩
    have key : ∀ a as, Reads s.heap (.ref a) d as → wpAny (model X.prog X.w) X.A (call (.builtin "repr") [.ref a]) (EP X pins σ Q) X.xe s := fun a as rd =>
      repr_of_reads' rd hs (PyData.noDict_hsm (PyData.hasDict_of_canLay d hc)) hg (by omega) (fun _ _ e => e) (fun h' u tk hk => fin hk) hl
    obtain ⟨as, rd⟩ := Dp.reads I _ _ _ dp r1
    cases dp with
    | non => cases r1; exact PySem.P.repr_of_none (fin (h' := s.heap) (fun _ _ e => e))
    | bl b =>
      cases r1
      refine PySem.P.repr_of_bool ?_
      have e : (PyData.bool b).shown = (if b then ("True" : Str) else "False") := by cases b <;> rfl
      rw [e] at fin
      exact fin (h' := s.heap) (fun _ _ e => e)
    | int i =>
      obtain ⟨t, rfl⟩ := r1
      exact PySem.P.repr_of_int (of_decide_eq_true hs) (fin (h' := s.heap) (fun _ _ e => e))
    | str y =>
      obtain ⟨t, rfl⟩ := r1
      exact PySem.P.repr_of_str (fin (h' := s.heap) (fun _ _ e => e)) hl
    | lst h1 h2 => cases r1; exact key _ _ rd
    | tup h1 h2 => cases r1; exact key _ _ rd
end

/-! ### displays with a star -/
section
variable [FE]
variable {X : Cx} {π : Nat → Addr} {W : WX} {e : Expr} {es : List Expr} {pos p : Pos}
def starA (f : EF) (g : Rho → R (List D)) : Rho → R (List D) := fun ρ => (f ρ).bind fun x ρ => (R.of (seqD x) ρ).bind fun xs ρ => (g ρ).bind fun ys ρ => .ok (xs ++ ys) ρ
theorem seq_rep {K : PySem.W.Frag} {F H : Hp} (s : Same F H) {v : V} {d : D} {ds : List D} (r : Rep K F v d) (h : seqD d = some ds) : ∃ p xs, v = .ref p ∧ (SqT K H p xs ∨ SqL K H p xs) ∧ Reps K F xs ds := by
  cases r with
  | tup h1 r1 => cases h; exact ⟨_, _, rfl, .inl (sm_tup s h1), r1⟩
  | lst h1 r1 => cases h; exact ⟨_, _, rfl, .inr (SqL.of (s _ _ h1)), r1⟩
  | scr h1 => cases h; exact ⟨_, _, rfl, .inr (Same.seq s h1), Reps.ints _⟩
  | _ => cases h
theorem fa_star {f : EF} {g : Rho → R (List D)} (ha : PE X e (tE X.K π W f)) (hr : PA X es (tA X.K π W g)) (hs : starEach (.Starred e p :: es) X.env = (true, eval e X.env) :: starEach es X.env := by rfl) : PA X (.Starred e p :: es) (tA X.K π W (starA f g)) :=
  PA.imp (StX.pa_star ha hr hs) fun σ H Q ⟨c, F, ρ, S, P⟩ => by
    refine po_bind S P fun x F1 H1 ρ1 dx s1 S1 r1 P1 => ?_
    cases ed : seqD dx with
    | none => rw [ed] at P1; exact P1.elim
    | some ds =>
      rw [ed] at P1
      obtain ⟨q, xs, rfl, hx, rs⟩ := seq_rep S1.f r1 ed
      refine ⟨q, xs, rfl, hx, ?_⟩
      have P2 : Po X.K π W (relA X.K) c F1 σ Q ((g ρ1).bind fun ys ρ => .ok (ds ++ ys) ρ) := P1
      refine po_bind S1 P2 fun ys F2 H2 ρ2 es s2 S2 r2 P3 => ?_
      exact P3 _ F2 H2 (Same.refl _) S2 ((rs.mono s2).append r2)

/-! ### x[j] as a target -/
def subGO (i : Nat) (g : EF) : GF := fun d ρ => match subG i g d ρ with
  | .ok _ ρ => some ρ
  | _ => none
theorem fg_sub {i : Nat} {x : Str} {j : Expr} {g : EF} {tpos : Pos} (hx : PE X (.Name x p) (tVar i)) (hj : PE X j (tE X.K π W g))
    (ha : ∀ v, assign (.Subscript (.Name x p) j tpos) X.env v = (do
      let ov ← holding [v] (eval (.Name x p) X.env)
      let iv ← holding [v, ov] (eval j X.env)
      standAt tpos
      holding [v, ov, iv] (setItem ov iv v)
      release [v, ov, iv] []) := by intro _; rfl) : PG X (.Subscript (.Name x p) j tpos) (tGt X.K π [] (subGO i g)) :=
  PG.imp (pg_sub hx hj set_list ha) fun v σ H Q ⟨c, F, ρ, d, S, rv, P⟩ => by
    unfold subGO subG at P
    cases eg : getM i ρ with
    | none => rw [eg] at P; exact P.elim
    | some z =>
      obtain ⟨ds0, k0⟩ := z
      rw [eg] at P
      obtain ⟨q, vs0, e0, ho0, _⟩ := S.getM eg
      refine ⟨.ref q, e0, ?_⟩
      cases hg : g ρ with
      | stuck => rw [hg] at P; exact P.elim
      | exc C fs b => rw [hg] at P; exact P.elim
      | ok dj ρ2 =>
        rw [hg] at P
        refine ⟨c, F, ρ, S, ?_⟩
        rw [hg]
        intro w F2 H2 s2 S2 r2
        cases eg2 : getM i ρ2 with
        | none =>
          simp only [R.ok_bind, eg2] at P
          exact P.elim
        | some z =>
          obtain ⟨ds, k⟩ := z
          simp only [R.ok_bind, eg2] at P
          obtain ⟨q', vs, e1, ho, rr, fin⟩ := S2.getM eg2
          rw [e0] at e1
          cases e1
          cases ep : putO ds dj d with
          | none =>
            rw [ep] at P
            exact P.elim
          | some es =>
            rw [ep] at P
            unfold putO at ep
            split at ep
            · rename_i zz
              split at ep
              · rename_i n en
                cases ep
                cases r2
                refine ⟨q, vs, zz, n, rfl, rfl, ho, by rw [Reps.length rr]; exact en, P _ F2 _ s2 (Off.refl _) (fin _ _ (Reps.set (Rep.mono s2 rv) n rr))⟩
              · cases ep
            · cases ep
/-! ### {} -/
theorem fe_dict0 : PE X (.Dict [] [] pos) (tE X.K π W (cst (.dct []))) := PE.imp pe_dnewK fun σ H Q ⟨c, F, ρ, S, P⟩ => fun q hq => by
  have g := Grw.newF (o := .dK []) S.f hq
  exact P (.ref q) _ _ g.f (S.grow g) (.dct (kvs := []) (ds := []) upd_same rfl .nil)
end
end FL
/-! FL10: a dict in a row of numbers. -/
namespace FL
open PySem PySem.Spec PyProof.Rows PySem.SeqAt PySem.MeetsSeq L2
section
variable {A : Around} {s : Shared}
theorem int_eq_dict (b : Int) (u : Tok) (l : Addr) (c : Value) (es : Array DictEntry) (n : Nat) (dd : Option Addr) (sl : Array (Option Value)) :
    Meets (Builtin.«int.__eq__» ⟨[.int b u, .ref l], []⟩) (fun _ R s => s.heap.get? l = some { cls := c, dict := dd, data := .dict es n, slots := sl } ∧ R (.ok (.ret .notImplemented)) s) :=
  .of_wp fun prog w A R s h => by obtain ⟨hp, g, d, tk, os⟩ := s; obtain ⟨hl, h⟩ := h; wp_walk using wpAny_loadPart' hl, wpAny_load hl; exact ⟨_, rfl, h⟩
theorem dict_eq_int (l : Addr) (es : Array DictEntry) (n : Nat) (dd : Option Addr) (sl : Array (Option Value)) (b : Int) (u : Tok) :
    Meets (Builtin.«dict.__eq__» ⟨[.ref l, .int b u], []⟩) (fun _ R s => s.heap.get? l = some { cls := .type "dict", dict := dd, data := .dict es n, slots := sl } ∧ R (.ok (.ret .notImplemented)) s) :=
  .of_wp fun prog w A R s h => by obtain ⟨hp, g, d, tk, os⟩ := s; obtain ⟨hl, h⟩ := h; have f1 := F.sub_int_dict; wp_walk using wpAny_loadPart' hl; exact ⟨_, rfl, h⟩
theorem rc_int_dict {l : Addr} {es : Array DictEntry} {n : Nat} {dd : Option Addr} {sl : Array (Option Value)} (b : Int) (u : Tok) (ho : s.heap.get? l = some { cls := .type "dict", dict := dd, data := .dict es n, slots := sl }) (hu : A.units < cLine) : RcAt A s (.int b u) (.ref l) false := fun prog w E Q h =>
  rc_eq_decline_or (k := false) (typeIs_int s b u) ⟨_, ho, rfl⟩ (by decide) F.sub_dict_int F.slot_int_eq F.slot_dict_eq_refl
    (fun _ hq => call_meets F.slot_int_eq (typeIs_int s b u) F.entry_int_eq (F.args_int_eq_2 _ _) (int_eq_dict b u l (.type "dict") es n dd sl) ⟨ho, hq⟩)
    (fun _ hq => call_meets F.slot_dict_eq_refl ⟨_, ho, rfl⟩ F.entry_dict_eq (F.args_dict_eq_2 _ _) (dict_eq_int l es n dd sl b u) ⟨ho, hq⟩)
    (fun _ hq => wpAny_of_eq (rfl : isSame (.int b u) (.ref l) = pure false) hq) (.inr hu) h
theorem eq_int_dict {l : Addr} {es : Array DictEntry} {n : Nat} {dd : Option Addr} {sl : Array (Option Value)} (b : Int) (u : Tok) (ho : s.heap.get? l = some { cls := .type "dict", dict := dd, data := .dict es n, slots := sl }) (hu : A.units < cLine) : EqAt A s (.int b u) (.ref l) false := fun prog w E Q h => by
  unfold eqBool
  refine wpAny_holding ?_
  refine wpAny_ite_split (fun hab => absurd (eq_of_beq hab) nofun) (fun _ => ?_)
  exact wpAny_bind (rc_int_dict b u ho hu prog w E _ (wpAny_truthy_bool h))
end

open L2
/-- a dict, in a list or tuple of numbers -/
def rInK (K : PySem.W.Frag) (neg : Bool) : R2 := fun x y H Q => ∃ (a : Addr) (kvs : List (Key × V)) (p : Addr) (ns : List Int), x = .ref a ∧ H a = some (.dK kvs) ∧ y = .ref p ∧ (SqL K H p (ns.map V.int) ∨ SqT K H p (ns.map V.int)) ∧ Q (.bl neg) H
section
variable [FE]
variable {X : Cx}
theorem ints_at {ns : List Int} {its : List Value} (r : Vals (ns.map V.int) its) : ∀ y ∈ its, ∃ i t, y = .int i t := by
  induction ns generalizing its with
  | nil => cases r; intro y hy; cases hy
  | cons n ns ih =>
    cases r with
    | cons a b =>
      intro y hy
      rcases List.mem_cons.mp hy with e | e
      · obtain ⟨t, ht⟩ := a
        exact ⟨n, t, by rw [e, ht]⟩
      · exact ih b y e
theorem op_in_k (hu : X.A.units + 64 < cLine) : OpR X (compareOp .In) (rInK X.K false) := by
  intro pins s σ H x y v u Q I rx ry h
  obtain ⟨a, kvs, p, ns, rfl, ha, rfl, hq, q⟩ := h
  cases rx
  cases ry
  obtain ⟨_, _, vs, _, o, es, ep, h1, h2, h4, _⟩ := (show ObjOk X.prog X.w H s.heap a (.dK kvs) from I.hok a _ ha)
  obtain ⟨oc, od, dt, sl⟩ := o
  have h3 : oc = .type "dict" ∧ dt = .dict es ep := ⟨h2.1, h4⟩
  obtain ⟨rfl, rfl⟩ := h3
  have key : ∀ its : List Value, Vals (ns.map V.int) its → ∀ w, w ∈ its.toArray → EqAt X.A.in1 s w (.ref a) false := fun its r w hw => by
    obtain ⟨i, t, rfl⟩ := ints_at r w (by simpa using hw)
    exact eq_int_dict i t h1 (by show X.A.units + 1 < cLine; omega)
  rcases hq with hq | hq
  · obtain ⟨its, r, pl, hz⟩ := I.list hq
    refine SeqAt.in_listAt (fun _ => false) pl.isList (key its r) ⟨.bl _, H, I, rfl, ?_⟩
    rw [show its.toArray.any (fun _ => false) = false by simp]
    exact q
  · obtain ⟨its, r, pl, hz⟩ := I.tuple hq
    refine SeqAt.in_tupleAt (fun _ => false) pl (key its r) ⟨.bl _, H, I, rfl, ?_⟩
    rw [show its.toArray.any (fun _ => false) = false by simp]
    exact q
theorem op_nin_k (hu : X.A.units + 64 < cLine) : OpR X (compareOp .NotIn) (rInK X.K true) := by
  intro pins s σ H x y v u Q I rx ry h
  obtain ⟨a, kvs, p, ns, rfl, ha, rfl, hq, q⟩ := h
  cases rx
  cases ry
  obtain ⟨_, _, vs, _, o, es, ep, h1, h2, h4, _⟩ := (show ObjOk X.prog X.w H s.heap a (.dK kvs) from I.hok a _ ha)
  obtain ⟨oc, od, dt, sl⟩ := o
  have h3 : oc = .type "dict" ∧ dt = .dict es ep := ⟨h2.1, h4⟩
  obtain ⟨rfl, rfl⟩ := h3
  have key : ∀ its : List Value, Vals (ns.map V.int) its → ∀ w, w ∈ its.toArray → EqAt X.A.in1 s w (.ref a) false := fun its r w hw => by
    obtain ⟨i, t, rfl⟩ := ints_at r w (by simpa using hw)
    exact eq_int_dict i t h1 (by show X.A.units + 1 < cLine; omega)
  rcases hq with hq | hq
  · obtain ⟨its, r, pl, hz⟩ := I.list hq
    refine SeqAt.notIn_listAt (fun _ => false) pl.isList (key its r) ⟨.bl _, H, I, rfl, ?_⟩
    rw [show its.toArray.any (fun _ => false) = false by simp]
    exact q
  · obtain ⟨its, r, pl, hz⟩ := I.tuple hq
    refine SeqAt.notIn_tupleAt (fun _ => false) pl (key its r) ⟨.bl _, H, I, rfl, ?_⟩
    rw [show its.toArray.any (fun _ => false) = false by simp]
    exact q
end
def intsD : List D → Option (List Int)
  | [] => some []
  | .int i :: ds => (intsD ds).map (i :: ·)
  | _ :: _ => none
theorem intsD_of : ∀ {ds : List D} {ns : List Int}, intsD ds = some ns → ds = ns.map D.int
  | [], _, e => by cases e; rfl
  | .int i :: ds, ns, e => by
    unfold intsD at e
    cases e1 : intsD ds with
    | none => rw [e1] at e; cases e
    | some l =>
      rw [e1] at e
      cases e
      rw [intsD_of e1]
      rfl
/-- is it a dict in a row of numbers -/
def dctIn : D → D → Bool
  | .dct _, .lst ds => (intsD ds).isSome
  | .dct _, .tup ds => (intsD ds).isSome
  | _, _ => false
def inA (x y : D) : Option D := if dctIn x y = true then some (.bl false) else inD x y
def ninA (x y : D) : Option D := if dctIn x y = true then some (.bl true) else ninD x y
theorem dctIn_rep {K : PySem.W.Frag} {F H : Hp} (s : Same F H) {x y : V} {dx dy : D} (rx : Rep K F x dx) (ry : Rep K F y dy) (h : dctIn dx dy = true) : ∃ (a : Addr) (kvs : List (Key × V)) (p : Addr) (ns : List Int), x = .ref a ∧ H a = some (.dK kvs) ∧ y = .ref p ∧ (SqL K H p (ns.map V.int) ∨ SqT K H p (ns.map V.int)) := by
  unfold dctIn at h
  split at h
  · cases rx with
    | dct h1 _ _ =>
      cases ry with
      | lst h2 r2 =>
        cases e : intsD _ with
        | none => rw [e] at h; cases h
        | some ns =>
          rw [intsD_of e] at r2
          have := Reps.of_ints r2
          subst this
          exact ⟨_, _, _, ns, rfl, s _ _ h1, rfl, .inl (SqL.of (s _ _ h2))⟩
  · cases rx with
    | dct h1 _ _ =>
      cases ry with
      | tup h2 r2 =>
        cases e : intsD _ with
        | none => rw [e] at h; cases h
        | some ns =>
          rw [intsD_of e] at r2
          have := Reps.of_ints r2
          subst this
          exact ⟨_, _, _, ns, rfl, s _ _ h1, rfl, .inr (sm_tup s h2)⟩
  · cases h
variable [FE] in
theorem q_inA {K : PySem.W.Frag} : Op2 K inA (fun x y H Q => rInK K false x y H Q ∨ rInA K x y H Q) := by
  intro F H x y dx dy d Q s rx ry e k
  unfold inA at e
  split at e
  · rename_i hz
    cases e
    obtain ⟨a, kvs, p, ns, h1, h2, h3, h4⟩ := dctIn_rep s rx ry hz
    exact .inl ⟨a, kvs, p, ns, h1, h2, h3, h4, k _ F H (Grw.refl s) (.bl _)⟩
  · exact .inr (q_in s rx ry e k)
variable [FE] in
theorem q_ninA {K : PySem.W.Frag} : Op2 K ninA (fun x y H Q => rInK K true x y H Q ∨ rNinA K x y H Q) := by
  intro F H x y dx dy d Q s rx ry e k
  unfold ninA at e
  split at e
  · rename_i hz
    cases e
    obtain ⟨a, kvs, p, ns, h1, h2, h3, h4⟩ := dctIn_rep s rx ry hz
    exact .inl ⟨a, kvs, p, ns, h1, h2, h3, h4, k _ F H (Grw.refl s) (.bl _)⟩
  · exact .inr (q_nin s rx ry e k)
variable [FE] in
theorem o_inA {X : Cx} (hu : X.A.units + 65 < cLine) : OpR X (compareOp .In) (fun x y H Q => rInK X.K false x y H Q ∨ rInA X.K x y H Q) := (op_in_k (by omega)).or (o_in hu)
variable [FE] in
theorem o_ninA {X : Cx} (hu : X.A.units + 65 < cLine) : OpR X (compareOp .NotIn) (fun x y H Q => rInK X.K true x y H Q ∨ rNinA X.K x y H Q) := (op_nin_k (by omega)).or (o_nin hu)
end FL
/-! FL11: from the law's def to the row. -/
namespace FL
open PySem PySem.Spec PyProof.Rows L2

abbrev scrO (vs : List Value) : Obj := { cls := .type "list", data := .seq vs.toArray }
abbrev tab0 : Obj := { cls := .none, data := .fields #[] }
/-- nothing is tracked but the script and the empty tables ts -/
structure Start (K : PySem.W.Frag) (h : Heap) (a : Addr) (vs : List Value) (ts : List Addr) (H : Hp) : Prop where
  only : ∀ b, H b = none ∨ (b = a ∧ ∃ xs, H b = some (.frz (scrO vs) (.lst xs))) ∨ (b ∈ ts ∧ H b = some (.tbl #[]))
  kn : H a ≠ none → K.lookup a = none
  tabs : ∀ b ∈ ts, H b = some (.tbl #[])
/-- the code objects cs with their empty tables -/
structure Codes (K : PySem.W.Frag) (h : Heap) (cs : List (Addr × Addr)) : Prop where
  t : ∀ p ∈ cs, h.get? p.2 = some tab0
  n : ∀ p ∈ cs, K.lookup p.2 = none
  c : ∀ p ∈ cs, PySem.W.CodeHd h p.1 p.2
abbrev Bm (mg : Str → Option Value) (h : Heap) : Prop := ∃ (bm : Addr) (ob : Obj), mg "__builtins__" = some (.ref bm) ∧ bm ≠ builtinsNs ∧ h.get? bm = some ob ∧ ob.cls = .type "module" ∧ ob.dict = some builtinsNs ∧ ob.data = .plain
section
variable {P : Program} {w : World} {K : PySem.W.Frag} {mg mb : Str → Option Value} {k : Nat} {fa a : Addr} {fd : FuncData} {x : Str} {G : List Arg → RG} {s1 : Shared} {vs : List Value} {ns : List Int} {cs : List (Addr × Addr)}
theorem Codes.at (C : Codes K s1.heap cs) {b : Addr} (h : b ∈ cs.map (·.2)) : s1.heap.get? b = some tab0 ∧ K.lookup b = none := by
  obtain ⟨p, hp, rfl⟩ := List.mem_map.mp h
  exact ⟨C.t p hp, C.n p hp⟩
theorem Start.other {H : Hp} (T : Start K s1.heap a vs (cs.map (·.2)) H) (C : Codes K s1.heap cs) (ha : s1.heap.get? a = some (scrO vs)) {b : Addr} {o : Obj} (e : s1.heap.get? b = some o) (hd : ∀ (us : Array Value) (n : Nat), o.data ≠ .seq us n) (hf : o.data ≠ .fields #[]) : H b = none := by
  rcases T.only b with z | ⟨rfl, _⟩ | ⟨z, _⟩
  · exact z
  · rw [ha] at e
    cases e
    exact absurd rfl (hd _ _)
  · rw [(C.at z).1] at e
    cases e
    exact absurd rfl hf
variable [FE] in
/-- one run of the law's def, at an abstract heap -/
theorem top_run (hr : RoomG k callerA) (KX : K.In s1.heap) (hns : s1.heap.Ns mainGlobals mg) (hb : s1.heap.Ns builtinsNs mb) (hbb : ∀ y : Str, y ≠ "__name__" → mb y = bootBuiltins y) (hlim : s1.heap.NoLimit) (hgen : s1.gens = #[])
    (C : Codes K s1.heap cs) (hbm : Bm mg s1.heap) (hFE : ∀ p ∈ FE.tabs, p.1 ∈ cs.map (·.2))
    (ha : s1.heap.get? a = some (scrO vs)) (Fn : ∀ base : Heap, K.In base → base.Ns mainGlobals mg → (∀ p ∈ cs, LamX.TabB base mg p.1 p.2) → FnG P w K mg base k fa fd [x] (spG K 1 G)) (hbind : ∀ (s : Shared) (u : Value), BindsTo s fd ⟨[u], []⟩ [(x, u)])
    (hG : G [.val (.scr ns)] = .ok (.v (.bl true)) []) {H : Hp} (T : Start K s1.heap a vs (cs.map (·.2)) H) (hS : SqL K (fun b => if b ∈ cs.map (·.2) then none else H b) a (ns.map V.int)) (hok : HOk P w H s1.heap) :
    codeAny (model P w) callerA (.call (.ref fa) ⟨[.ref a], []⟩) (fun r s' => (r = .ok (.ret (.bool true)) ∧ OldK s1.heap s'.heap) ∧ s'.os = s1.os ∧ AllBare s'.gens) s1 := by
  have lift : ∀ {b : Addr} {o : Obj}, s1.heap.get? b = some o → H b = none → (hidT s1.heap H).get? b = some o := hidT_get
  have nsUp : ∀ {b : Addr} {m : Str → Option Value}, s1.heap.Ns b m → (hidT s1.heap H).Ns b m := by
    rintro b m ⟨o, es, ep, e, d, r⟩
    refine ⟨o, es, ep, lift e (T.other C ha e (fun us n z => ?_) fun z => ?_), d, r⟩
    · rw [d] at z
      cases z
    · rw [d] at z
      cases z
  have kUp : K.In (hidT s1.heap H) := fun b o e => lift (KX b o e) (by
    rcases T.only b with z | ⟨rfl, xs, z⟩ | ⟨z, _⟩
    · exact z
    · have := T.kn (by rw [z]; simp)
      rw [this] at e
      cases e
    · rw [(C.at z).2] at e
      cases e)
  have limUp : (hidT s1.heap H).NoLimit := by
    obtain ⟨mc, l1, l2⟩ := hlim
    exact ⟨mc, nsUp l1, l2⟩
  have tbUp : ∀ p ∈ cs, LamX.TabB (hidT s1.heap H) mg p.1 p.2 := fun p hp => by
    obtain ⟨oc, us, file, tf, fl, tg, inF, txt, tt, g1, g2, g3, g4, g5, g6, g7, g8, g9, g10⟩ := C.c p hp
    obtain ⟨bm, ob, m1, m2, m3, m4, m5, m6⟩ := hbm
    obtain ⟨om, es, ep, q1, q2, q3⟩ := id hns
    have hp2 := C.t p hp
    refine ⟨⟨oc, us, file, tf, fl, tg, inF, txt, tt, lift g1 (T.other C ha g1 (fun ws n z => ?_) fun z => ?_), g2, g3, g4, g5, g6, g7, g8, g9, g10⟩, ⟨bm, ob, m1, m2, fun z => ?_, fun z => ?_, lift m3 (T.other C ha m3 (fun ws n z => ?_) fun z => ?_), m4, m5, m6⟩, fun z => ?_⟩
    · rw [g3] at z
      cases z
    · rw [g3] at z
      cases z
      simp at g4
    · subst z
      rw [q1] at m3
      cases m3
      rw [q2] at m6
      cases m6
    · subst z
      rw [hp2] at m3
      cases m3
      cases m6
    · rw [m6] at z
      cases z
    · rw [m6] at z
      cases z
    · rw [z, hp2] at q1
      cases q1
      cases q2
  have E0 : Env0 P w K mg (hidT s1.heap H) callerA [] s1 H :=
    ⟨rfl, ⟨kUp, nsUp hns, ⟨mb, nsUp hb, hbb⟩, limUp⟩, fun b o e => of_hidT e, Nat.le_of_eq (hidT_size _ _), trivial, (fun b hb => by cases hb), hok, .of_eq hgen⟩
  have want : spG K 1 G [.ref a] H (fun v _ => v = .bl true) (fun _ _ _ => False) := by
    refine ⟨fun b => if b ∈ cs.map (·.2) then none else H b, [.val (.scr ns)], ⟨fun b o e => ?_, fun p hp => LamX.TabS.nil (T.tabs _ (hFE p hp)), fun b o e => ?_⟩, .val (.scr hS) .nil, rfl, List.nodup_nil, ?_⟩
    · have e : (if b ∈ cs.map (·.2) then none else H b) = some o := e
      by_cases z : b ∈ cs.map (·.2)
      · rw [if_pos z] at e
        cases e
      · rw [if_neg z] at e
        exact e
    · have e : (if b ∈ cs.map (·.2) then none else H b) = some o := e
      by_cases z : b ∈ cs.map (·.2)
      · rw [if_pos z] at e
        cases e
      · rw [if_neg z] at e
        rcases T.only b with y | ⟨_, xs, y⟩ | ⟨y, _⟩
        · rw [y] at e
          cases e
        · rw [y] at e
          cases e
          intro ps q
          cases q
        · exact absurd y z
    · rw [hG]
      intro v F' H' _ rv
      cases rv
      rfl
  refine codeAny_mono ((Fn _ kUp (nsUp hns) tbUp).run callerA [] s1 H ⟨[.ref a], []⟩ [.ref a] [.ref a] (fun v _ => v = .bl true) (fun _ _ _ => False) hr E0 (hbind s1 (.ref a)) (.cons rfl .nil) want) fun r s' hq => ?_
  match r, hq with
  | .error e, hq =>
    obtain ⟨_, _, _, _, _, _, _, _, _, _, _, _, z⟩ := hq
    exact z.elim
  | .ok .next, hq => exact False.elim hq
  | .ok .brk, hq => exact False.elim hq
  | .ok .cont, hq => exact False.elim hq
  | .ok (.ret u), hq =>
    obtain ⟨v, H', os, bare, un, hok2, rv, e⟩ := hq
    have e : v = .bl true := e
    subst e
    cases (show u = Value.bool true from rv)
    have plain : ∀ b o, b ∉ cs.map (·.2) → s1.heap.get? b = some o → s'.heap.get? b = some o := fun b o nb eo => by
      rcases T.only b with z | ⟨rfl, xs, z⟩ | ⟨z, _⟩
      · exact un.keep b o eo z (fun y => by cases y) (fun y => by cases y)
      · obtain ⟨e1, _⟩ := hok b _ z
        obtain ⟨e2, _⟩ := hok2 b _ (un.frzs b _ _ z)
        rw [eo] at e1
        cases e1
        exact e2
      · exact absurd z nb
    have more : ∀ p ∈ cs, ∃ us : Array Value, s'.heap.get? p.2 = some { cls := .none, data := .fields us } := fun p hp => by
      obtain ⟨us, z⟩ := un.tbls p.2 #[] (T.tabs _ (List.mem_map.mpr ⟨p, hp, rfl⟩))
      exact ⟨_, hok2 p.2 _ z⟩
    refine ⟨⟨rfl, ⟨fun b o eo => ?_, fun b o eo => ?_⟩⟩, os, bare⟩
    · by_cases nb : b ∈ cs.map (·.2)
      · obtain ⟨p, hp, rfl⟩ := List.mem_map.mp nb
        obtain ⟨us, hu⟩ := more p hp
        rw [C.t p hp] at eo
        cases eo
        exact .inr (.inl ⟨((C.c p hp).tab (C.t p hp)).isCodeTable, rfl, #[], us, rfl, by rw [Array.empty_append]; exact hu⟩)
      · exact .inl (plain b o nb eo)
    · by_cases nb : b ∈ cs.map (·.2)
      · obtain ⟨p, hp, rfl⟩ := List.mem_map.mp nb
        obtain ⟨us, hu⟩ := more p hp
        exact ⟨_, hu⟩
      · exact ⟨o, plain b o nb eo⟩
variable [FE] in
theorem top_law (hr : RoomG k callerA) (KX : K.In s1.heap) (hns : s1.heap.Ns mainGlobals mg) (hb : s1.heap.Ns builtinsNs mb) (hbb : ∀ y : Str, y ≠ "__name__" → mb y = bootBuiltins y) (hlim : s1.heap.NoLimit) (hgen : s1.gens = #[])
    (C : Codes K s1.heap cs) (hbm : Bm mg s1.heap) (hFE : ∀ p ∈ FE.tabs, p.1 ∈ cs.map (·.2))
    (ha : s1.heap.get? a = some (scrO vs)) (hi : IntsAre vs ns) (hl : ns.length ≤ sizeLine) (Fn : ∀ base : Heap, K.In base → base.Ns mainGlobals mg → (∀ p ∈ cs, LamX.TabB base mg p.1 p.2) → FnG P w K mg base k fa fd [x] (spG K 1 G)) (hbind : ∀ (s : Shared) (u : Value), BindsTo s fd ⟨[u], []⟩ [(x, u)])
    (hG : G [.val (.scr ns)] = .ok (.v (.bl true)) []) : codeAny (model P w) callerA (.call (.ref fa) ⟨[.ref a], []⟩) (fun r s' => (r = .ok (.ret (.bool true)) ∧ OldK s1.heap s'.heap) ∧ s'.os = s1.os ∧ AllBare s'.gens) s1 := by
  have rv := vals_ints hi
  have hlen := hi.length
  have na : a ∉ cs.map (·.2) := fun z => by
    have y := (C.at z).1
    rw [ha] at y
    have y' : Data.seq vs.toArray _ = Data.fields #[] := congrArg Obj.data (Option.some.inj y)
    cases y'
  cases hk : K.lookup a with
  | some o =>
    have e := KX a o hk
    rw [ha] at e
    cases e
    refine top_run hr KX hns hb hbb hlim hgen C hbm hFE ha Fn hbind hG (H := fun b => if b ∈ cs.map (·.2) then some (.tbl #[]) else none) ⟨fun b => ?_, fun z => absurd (if_neg na) z, fun b hb => if_pos hb⟩ (.inr ⟨_, vs.toArray, 0, hk, rfl, rfl, rfl, ?_, ?_⟩) (fun b u z => ?_)
    · by_cases nb : b ∈ cs.map (·.2)
      · exact .inr (.inr ⟨nb, if_pos nb⟩)
      · exact .inl (if_neg nb)
    · rw [List.size_toArray, hlen]
      exact hl
    · simpa using rv
    · by_cases nb : b ∈ cs.map (·.2)
      · have z := (if_pos nb).symm.trans z
        cases z
        exact (C.at nb).1
      · have z := (if_neg nb).symm.trans z
        cases z
  | none =>
    refine top_run hr KX hns hb hbb hlim hgen C hbm hFE ha Fn hbind hG (H := upd (fun b => if b ∈ cs.map (·.2) then some (.tbl #[]) else none) a (.frz (scrO vs) (.lst (ns.map V.int)))) ⟨fun b => ?_, fun _ => hk, fun b hb => ?_⟩ (.inl (.inr ⟨scrO vs, ?_⟩)) (fun b u z => ?_)
    · by_cases q : b = a
      · subst q
        exact .inr (.inl ⟨rfl, _, upd_same⟩)
      · by_cases nb : b ∈ cs.map (·.2)
        · exact .inr (.inr ⟨nb, (upd_ne q).trans (if_pos nb)⟩)
        · exact .inl ((upd_ne q).trans (if_neg nb))
    · exact (upd_ne (show b ≠ a from fun z => na (by rw [← z]; exact hb))).trans (if_pos hb)
    · exact (if_neg na).trans upd_same
    · by_cases q : b = a
      · subst q
        rw [upd_same] at z
        cases z
        exact ⟨ha, by rw [List.length_map]; exact hl, vs, _, rv, ha⟩
      · rw [upd_ne q] at z
        by_cases nb : b ∈ cs.map (·.2)
        · have z := (if_pos nb).symm.trans z
          cases z
          exact (C.at nb).1
        · have z := (if_neg nb).symm.trans z
          cases z
end
theorem room_top {k : Nat} (h : k ≤ 200) : RoomG k callerA := by
  refine ⟨⟨rfl, ?_, ?_⟩, rfl⟩
  · have y : callerA.depth ≤ 310 := by decide +kernel
    have z : 1000 ≤ recursionLimit := by decide +kernel
    omega
  · have y : callerA.units ≤ 100 := by decide +kernel
    have z : 3700 ≤ cLine := by decide +kernel
    omega
/-- what is known of the law's def at the head's heap: without tables -/
def LawG (l : PySem.W.OpenLaw) (w : World) (K : PySem.W.Frag) (k n : Nat) (x : Str) (mg : Str → Option Value) (fa : Addr) (h : Heap) (G : List Arg → RG) : Prop :=
  ∃ (fe : FE) (fd : FuncData) (cs : List (Addr × Addr)), Codes K h cs ∧ (∀ p ∈ fe.tabs, p.1 ∈ cs.map (·.2)) ∧ (∀ (s : Shared) (u : Value), BindsTo s fd ⟨[u], []⟩ [(x, u)]) ∧
    (∀ base : Heap, K.In base → base.Ns mainGlobals mg → (∀ p ∈ cs, LamX.TabB base mg p.1 p.2) → FnG l.prog w K mg base k fa fd [x] (spG K 1 G)) ∧ ∀ ns : List Int, ns.length ≤ n → (∀ z ∈ ns, Builtin.Int.intBits z ≤ 1048576) → G [.val (.scr ns)] = .ok (.v (.bl true)) []
/-- the goal that the head leaves -/
theorem walkG {l : PySem.W.OpenLaw} {n k : Nat} {q : Program} {loose : List Str} {XP : (Str → Option Value) → Heap → Prop} {YP : World → Heap → Prop} {d : DefRec} {K : Params → PySem.W.Frag} {G : World → (Str → Option Value) → List Arg → RG} {x : Str}
    (hn : l.most = some n) (hn2 : n ≤ sizeLine) (hdf : d.params.defaults = []) (hk : k ≤ 200) (hY : ∀ (w : World) (h : Heap), YP w h → (K w.params).In h)
    (Fn : ∀ (w : World) (mg : Str → Option Value) (fa : Addr) (h : Heap), YP w h → (K w.params).In h → h.Ns mainGlobals mg → XP mg h → mg d.name = some (.ref fa) → LawG l w (K w.params) k n x mg fa h (G w mg)) :
    PySem.W.WalkO q loose XP YP l.row.toRowW d [] (fun f vs => PySem.call f vs) := by
  refine Att.attach_callB hn hdf fun w s₀ s₁ mg mb fa o pm cd doc a vs ns Gr Y ho hd hcd hmg hobj hints hlen hbits hg => ?_
  obtain ⟨fe, fd, cs, hC, hFE, hb, hF, hq⟩ := Fn w mg fa _ Y (hY w _ Y) Gr.T.g Gr.X hmg
  exact codeAny_mono (@top_law _ _ _ _ _ _ _ _ _ _ _ _ _ _ _ fe (room_top hk) (hY w _ Y) Gr.T.g Gr.T.b Gr.T.builtins Gr.T.nolimit hg hC Gr.T.bmain hFE hobj hints (Nat.le_trans hlen hn2) hF hb (hq ns hlen hbits)) fun r s' z => ⟨z.1.1, z.1.2, z.2⟩
end FL
/-! FL12: calls, as the printed terms write them. -/
namespace FL
open PySem PySem.Spec PyProof.Rows L2
section
variable [FE]
variable {X : Cx} {π : Nat → Addr} {W : WX} {e a b : Expr} {es : List Expr} {pos p : Pos} {k : Nat} {f : Addr} {fd : FuncData} {ps ks : List Str} {G : List Arg → RG} {x : Str} {kws : List Keyword} {g h : BF} {n : Nat} {ord : List Nat}
theorem fe_call {nn : Nat} (Fn : FnG X.prog X.w X.K X.mg X.base k f fd ps (spG X.K ps.length G)) (hr : RoomG k X.A) (tk : L2N.Takes X W) (hg : Gl X x) (hm : X.mg x = some (.ref f)) (hkp : PySem.W.keepIn X.K (.ref f) = true) (hb : Binds X.K fd ps [])
    (ha : PA X (e :: es) (tB X.K π W g)) (hdb : (x == ("__debug__" : Str)) = false := by decide) (he : starEach (e :: es) X.env = (false, eval e X.env) :: starEach es X.env := by rfl) (hpl : (backTo pos (starEach es X.env)).any (·.1) = false := by rfl) (hnn : ps.length = nn := by rfl) :
    PE X (.Call (.Name x p) (e :: es) [] pos) (tE X.K π W (callE nn G g)) := by
  subst hnn
  exact fc_call (fun rv S _ nw P => k_asE rv S nw P) Fn hr tk hg hm hkp hb ha hdb he hpl
theorem fm_call {nn : Nat} (Fn : FnG X.prog X.w X.K X.mg X.base k f fd ps (spG X.K ps.length G)) (hr : RoomG k X.A) (tk : L2N.Takes X W) (hg : Gl X x) (hm : X.mg x = some (.ref f)) (hkp : PySem.W.keepIn X.K (.ref f) = true) (hb : Binds X.K fd ps [])
    (ha : PA X (e :: es) (tB X.K π W g)) (hdb : (x == ("__debug__" : Str)) = false := by decide) (he : starEach (e :: es) X.env = (false, eval e X.env) :: starEach es X.env := by rfl) (hpl : (backTo pos (starEach es X.env)).any (·.1) = false := by rfl) (hnn : ps.length = nn := by rfl) :
    PE X (.Call (.Name x p) (e :: es) [] pos) (tM X.K π W (callM nn G g)) := by
  subst hnn
  exact fc_call (fun rv S _ nw P => k_asM rv S nw P) Fn hr tk hg hm hkp hb ha hdb he hpl
theorem fe_call0 {nn : Nat} (Fn : FnG X.prog X.w X.K X.mg X.base k f fd ps (spG X.K ps.length G)) (hr : RoomG k X.A) (tk : L2N.Takes X W) (hg : Gl X x) (hm : X.mg x = some (.ref f)) (hkp : PySem.W.keepIn X.K (.ref f) = true) (hb : Binds X.K fd ps [])
    (hdb : (x == ("__debug__" : Str)) = false := by decide) (hnn : ps.length = nn := by rfl) : PE X (.Call (.Name x p) [] [] pos) (tE X.K π W (callE nn G nilB)) := by
  subst hnn
  exact fc_call0 (fun rv S _ nw P => k_asE rv S nw P) Fn hr tk hg hm hkp hb hdb
theorem fe_callK {nn mm : Nat} (Fn : FnG X.prog X.w X.K X.mg X.base k f fd ps (spG X.K ps.length G)) (hr : RoomG k X.A) (tk : L2N.Takes X W) (hg : Gl X x) (hm : X.mg x = some (.ref f)) (hkp : PySem.W.keepIn X.K (.ref f) = true) (hb : KB X.K fd ps ks n ord)
    (ha : PA X (e :: es) (tB X.K π W g)) (hw : PK X kws (tB X.K π W h)) (hall : (backToKw pos (keywordEach kws X.env)).all (·.1.isSome) = true := by rfl) (hks : (backToKw pos (keywordEach kws X.env)).filterMap (·.1) = ks := by rfl)
    (hdb : (x == ("__debug__" : Str)) = false := by decide) (he : starEach (e :: es) X.env = (false, eval e X.env) :: starEach es X.env := by rfl)
    (hpl : ((backTo pos (starEach (e :: es) X.env)).any (·.1) || (backToKw pos (keywordEach kws X.env)).any (·.1.isNone)) = false := by rfl) (hnn : ps.length = nn := by rfl) (hmm : ks.length = mm := by rfl) :
    PE X (.Call (.Name x p) (e :: es) kws pos) (tE X.K π W (callE nn G (kwB n mm ord g h))) := by
  subst hnn
  subst hmm
  exact fc_callK (fun rv S _ nw P => k_asE rv S nw P) Fn hr tk hg hm hkp hb ha hw hall hks hdb he hpl
theorem fe_callK0 {nn mm : Nat} (Fn : FnG X.prog X.w X.K X.mg X.base k f fd ps (spG X.K ps.length G)) (hr : RoomG k X.A) (tk : L2N.Takes X W) (hg : Gl X x) (hm : X.mg x = some (.ref f)) (hkp : PySem.W.keepIn X.K (.ref f) = true) (hb : KB X.K fd ps ks 0 ord)
    (hw : PK X kws (tB X.K π W h)) (hall : (backToKw pos (keywordEach kws X.env)).all (·.1.isSome) = true := by rfl) (hks : (backToKw pos (keywordEach kws X.env)).filterMap (·.1) = ks := by rfl)
    (hdb : (x == ("__debug__" : Str)) = false := by decide)
    (hpl : ((backTo pos (starEach [] X.env)).any (·.1) || (backToKw pos (keywordEach kws X.env)).any (·.1.isNone)) = false := by rfl) (hnn : ps.length = nn := by rfl) (hmm : ks.length = mm := by rfl) :
    PE X (.Call (.Name x p) [] kws pos) (tE X.K π W (callE nn G (kwB 0 mm ord nilB h))) := by
  subst hnn
  subst hmm
  exact fc_callK0 (fun rv S _ nw P => k_asE rv S nw P) Fn hr tk hg hm hkp hb hw hall hks hdb hpl

/-! ### f(g(..)), the argument a new thing -/
def callF {α : Type} (G : List Arg → RG) (f : Rho → R M) (kk : Res → Rho → R α) : Rho → R α := fun ρ => (f ρ).bind fun m ρ => match G [.io m] with
  | .ok r _ => kk r ρ
  | .exc C fs _ => .exc C fs ρ
  | .stuck => .stuck
abbrev callFE (G : List Arg → RG) (f : Rho → R M) : EF := callF G f asE
/-- the list of one value -/
def oneM (f : Rho → R M) : Rho → R (List M) := fun ρ => (f ρ).bind fun m ρ => .ok [m] ρ
theorem Sta.postF {c : Cfg} {F F' H H' : Hp} {K : PySem.W.Frag} {σ : L2.St} {ρ : Rho} {q : Addr} {outs : List M} (S : Sta K π c F H σ ρ) (f0 : c.H0 q = none) (nw : ∀ j, ¬ OwnAt σ ρ j q) (P : PostG K F H [q] outs F' H') : Sta K π c F' H' σ ρ := by
  have ne : ∀ {b : Addr}, b ≠ q → b ∉ [q] := fun h => by simpa using h
  refine ⟨fun b o e n1 n2 nt => ?_, fun b hb => ?_, S.f0.trans P.f, P.fh, fun b o e1 e2 => ?_, S.len, fun i s hs => ?_, S.dis, ⟨P.t.tb, fun q ps e => by
    obtain ⟨ps', e'⟩ := S.t.tk q ps e
    exact P.t.tk q ps' e', P.t.nt⟩⟩
  · exact P.keep b o (S.h0 b o e n1 n2 nt) (ne fun z => by subst z; rw [f0] at e; cases e) nt
  · obtain ⟨o, ho⟩ := S.hio b hb
    by_cases z : b = q
    · subst z
      obtain ⟨m, hm⟩ := paired_mem P.outs (List.mem_singleton.mpr rfl)
      exact hm.here
    · by_cases zt : ∃ ps, o = .tbl ps
      · obtain ⟨ps, rfl⟩ := zt
        obtain ⟨ps', e'⟩ := P.t.tk b ps ho
        exact ⟨_, e'⟩
      · exact ⟨o, P.keep b o ho (ne z) fun ps y => zt ⟨ps, y⟩⟩
  · obtain ⟨o', e'⟩ := S.any e1
    exact P.nf b o' e' (S.nf b o e1 e2)
  · have z := S.rep i s hs
    cases s with
    | no => trivial
    | val d => obtain ⟨v, e1, r1⟩ := z; exact ⟨v, e1, r1.mono P.f⟩
    | own m =>
      obtain ⟨p, e1, e2, e3, e4⟩ := z
      obtain ⟨o, ho, hmu⟩ := e4.mut
      have nq : p ≠ q := fun z => by subst z; exact nw i ⟨e1, m, .inl hs⟩
      exact ⟨p, e1, P.nf p o ho e2, e3, e4.mono P.f fun o' ho' => P.keep p o' ho' (ne nq) (by rw [ho] at ho'; cases ho'; exact hmu.nt)⟩
    | io m =>
      obtain ⟨e1, e2, e3, e4⟩ := z
      obtain ⟨o, ho, hmu⟩ := e4.mut
      have nq : π i ≠ q := fun z => by rw [z] at e1; exact nw i ⟨e1, m, .inr hs⟩
      exact ⟨e1, P.nf _ o ho e2, e3, e4.mono P.f fun o' ho' => P.keep _ o' ho' (ne nq) (by rw [ho] at ho'; cases ho'; exact hmu.nt)⟩
theorem rd_callF {f : Rho → R M} {σ : L2.St} {H : Hp} {Q : VK} (t : tE X.K π W (callFE G f) σ H Q) : tCons (tM X.K π W f) tNil σ H fun vs H1 => spG X.K 1 G vs H1 Q fun cls d H' => W cls d σ H' := by
  obtain ⟨c, F, ρ, S, P⟩ := t
  refine po_bind S P fun v F1 H1 ρ1 m s1 S1 r1 P1 => ?_
  obtain ⟨q, rfl, n1, n2, n3, hm⟩ := r1
  refine ⟨F1, [.io m], ⟨S1.f, S1.t.tb, S1.t.nt⟩, .io n1 hm .nil, rfl, by rw [ioA_io]; simp [ioA], ?_⟩
  have e : ioA [V.ref q] [Arg.io m] = [q] := rfl
  rw [e]
  cases eg : G [.io m] with
  | stuck => rw [eg] at P1; exact P1
  | exc C fs outs =>
    rw [eg] at P1
    exact fun dd fsV F' H' po hd hf hr => P1 dd fsV F' H' po.f (S1.postF n2 n3 po) hd hf hr
  | ok r outs =>
    rw [eg] at P1
    refine fun v F' H' po rv => k_asE rv (S1.postF n2 n3 po) (fun b hb => ?_) (Po.mono po.f P1)
    refine ⟨?_, fun j hj => ?_⟩
    · cases z : c.H0 b with
      | none => rfl
      | some o =>
        obtain ⟨o', e'⟩ := S1.any z
        rw [hb] at e'
        cases e'
    · obtain ⟨o, ho⟩ := (S1.ownAt hj).2.2
      rw [hb] at ho
      cases ho
theorem fe_callF {f' : Rho → R M} (Fn : FnG X.prog X.w X.K X.mg X.base k f fd ps (spG X.K ps.length G)) (hl : ps.length = 1) (hr : RoomG k X.A) (tk : L2N.Takes X W) (hg : Gl X x) (hm : X.mg x = some (.ref f)) (hkp : PySem.W.keepIn X.K (.ref f) = true) (hb : Binds X.K fd ps [])
    (ha : PE X e (tM X.K π W f')) (hdb : (x == ("__debug__" : Str)) = false := by decide) (he : starEach [e] X.env = (false, eval e X.env) :: starEach [] X.env := by rfl) (hpl : (backTo pos (starEach [] X.env)).any (·.1) = false := by rfl) :
    PE X (.Call (.Name x p) [e] [] pos) (tE X.K π W (callFE G f')) := by
  refine ⟨fun pins s σ H Q I h => ?_⟩
  refine wpAny_Call_Name_kw (ld_glob I hg hm ?_ hdb)
  refine PySem.W.callWith_K (h₀ := X.base) I.ok.mod.kin hkp (thn ((pa_cons ha pa_nil he).run pos pins s σ H _ I (rd_callF h)) fun us s1 ⟨vs, H1, I1, r, q⟩ => ⟨I1.kIn, ?_⟩) he hpl
  rw [← hl] at q
  have b := hb s1 us I1.kIn (by rw [List.append_nil, ← r.length]; exact Fn.len _ _ _ _ q)
  rw [List.append_nil] at b
  refine wpAny_call (codeAny_mono (run_fnG Fn hr tk b I1 r q) fun r s' hq => ?_)
  cases r with
  | error e => exact hq
  | ok fl =>
    cases fl with
    | ret u => exact hq
    | next => exact False.elim hq
    | brk => exact False.elim hq
    | cont => exact False.elim hq
end
variable [FE] in
/-- a def of the module that may be called by its name -/
structure Cal (P : Program) (w : World) (K : PySem.W.Frag) (mg : Str → Option Value) (base : Heap) (k : Nat) (x : Str) (ps : List Str) (kbs : List (List Str × Nat × List Nat)) (G : List Arg → RG) : Prop where
  ex : ∃ (f : Addr) (fd : FuncData), FnG P w K mg base k f fd ps (spG K ps.length G) ∧ mg x = some (.ref f) ∧ PySem.W.keepIn K (.ref f) = true ∧ Binds K fd ps [] ∧ ∀ q ∈ kbs, KB K fd ps q.1 q.2.1 q.2.2
variable [FE] in
theorem cal_of {P : Program} {w : World} {K : PySem.W.Frag} {mg : Str → Option Value} {base : Heap} {k : Nat} {x qual : Str} {st : Stmt} {f : Addr} {fd : FuncData} {ps : List Str} {kbs : List (List Str × Nat × List Nat)} {G : List Arg → RG} (Fd : Fun K x qual st f fd) (hm : mg x = some (.ref f))
    (h : FnG P w K mg base k f fd ps (spG K ps.length G))
    (hb : ∀ (kV doc pm : Value) (an : Option Addr) (cdv ct : Value) (us : List Value), us.length = ps.length → bindArgs (PySem.W.fnOf x qual (defArgs st) (defBody st) (defScope st) .none kV doc pm an cdv ct) ⟨us, []⟩ = pure (ps.zip us))
    (hk : ∀ q ∈ kbs, ∀ (kV doc pm : Value) (an : Option Addr) (cdv ct : Value) (us ws : List Value), us.length = q.2.1 → ws.length = q.1.length → bindArgs (PySem.W.fnOf x qual (defArgs st) (defBody st) (defScope st) .none kV doc pm an cdv ct) ⟨us, q.1.zip ws⟩ = pure (ps.zip (pick q.2.2 (us ++ ws)))) :
    Cal P w K mg base k x ps kbs G := by
  refine ⟨f, fd, h, hm, Fd.kp, Fd.binds hb, fun q hq => ?_⟩
  obtain ⟨oc, od, kV, doc, pm, an, cdv, ct, osl, rfl, lk, hcd⟩ := Fd.ex
  exact fun s us ws _ h1 h2 => .of_eq (hk q hq kV doc pm an cdv ct us ws h1 h2)
theorem kb_nil {P : List Str × Nat × List Nat → Prop} : ∀ q ∈ ([] : List (List Str × Nat × List Nat)), P q := fun q h => by cases h
theorem kb_cons {P : List Str × Nat × List Nat → Prop} {a : List Str × Nat × List Nat} {l : List (List Str × Nat × List Nat)} (h : P a) (t : ∀ q ∈ l, P q) : ∀ q ∈ a :: l, P q := fun q hq => by
  rcases List.mem_cons.mp hq with e | e
  · subst e; exact h
  · exact t q e
theorem rm_mono {j k : Nat} {A : Around} (r : RoomG k A) (h : Nat.ble j k = true) : RoomG j A := r.mono (Nat.le_of_ble_eq_true h)
/-! ### the tests of a comprehension that has none; what the top has read -/
def yesT : TF := fun ρ => .ok true ρ
variable [FE] in
theorem pts_non {X : Cx} {π : Nat → Addr} {W : WX} : PTs X [] (tT X.K π W yesT) := ⟨fun pins s σ H Q I ⟨c, F, ρ, S, P⟩ => pts_nil.run pins s σ H Q I (P true F H (Same.refl _) S rfl)⟩
theorem loose_int {q : Program} {lv : List (Str × PySem.W.WData)} {mg : Str → Option Value} {h : Heap} {x : Str} {i : Int} (X : PySem.W.XL q lv mg h) (hm : (x, PySem.W.WData.int i) ∈ lv) : ∃ t : Tok, mg x = some (.int i t) := by
  obtain ⟨v, h1, h2⟩ := X.2.val _ hm
  cases h2
  exact ⟨_, h1⟩
theorem takes_0 {X : Cx} : L2N.Takes X W0 := fun _ _ x => by
  obtain ⟨_, _, _, _, _, _, _, _, _, _, _, _, _, _, _, _, z⟩ := x
  exact z.elim
end FL
/-! FL13: how readings are worked out. -/
namespace FL
open PySem PySem.Spec PyProof.Rows L2

/-- what follows a part, not looked into -/
inductive Hold {α β : Type} (k : α → Rho → R β) : Type where
  | mk : Hold k
def R.bd {α β : Type} (k : α → Rho → R β) (_ : Hold k) (x : R α) : R β := x.bind k
theorem R.bind_bd {α β : Type} (x : R α) (k : α → Rho → R β) : x.bind k = R.bd k .mk x := rfl
theorem R.bd_ok {α β : Type} (k : α → Rho → R β) (h : Hold k) (a : α) (ρ : Rho) : R.bd k h (.ok a ρ) = k a ρ := rfl
def goG {α : Type} (x : RG) (as : List AA) (k : Res → Rho → R α) (ρ : Rho) : R α := match x with
  | .ok r outs => k r (putA as outs ρ)
  | .exc C fs outs => .exc C fs (putA as outs ρ)
  | .stuck => .stuck
theorem goG_congr {α : Type} {x y : RG} {as : List AA} {k : Res → Rho → R α} {ρ : Rho} (h : x = y) : goG x as k ρ = goG y as k ρ := by rw [h]
theorem goG_ok {α : Type} (r : Res) (outs : List M) (as : List AA) (k : Res → Rho → R α) (ρ : Rho) : goG (.ok r outs) as k ρ = k r (putA as outs ρ) := rfl
def argG {α : Type} (x : Option (List FL.Arg)) (G : List FL.Arg → RG) (as : List AA) (k : Res → Rho → R α) (ρ : Rho) : R α := match x with
  | some gs => goG (G gs) as k ρ
  | none => .stuck
theorem argG_congr {α : Type} {x y : Option (List FL.Arg)} {G : List FL.Arg → RG} {as : List AA} {k : Res → Rho → R α} {ρ : Rho} (h : x = y) : argG x G as k ρ = argG y G as k ρ := by rw [h]
theorem argG_some {α : Type} (gs : List FL.Arg) (G : List FL.Arg → RG) (as : List AA) (k : Res → Rho → R α) (ρ : Rho) : argG (some gs) G as k ρ = goG (G gs) as k ρ := rfl
theorem callG_eq {α : Type} (n : Nat) (G : List FL.Arg → RG) (f : BF) (k : Res → Rho → R α) (ρ : Rho) : callG n G f k ρ = (f ρ).bind fun as ρ => if okA n as = true then argG (toArgs ρ as) G as k ρ else .stuck := by
  unfold callG argG goG
  congr 1
def endR (as : List FL.Arg) (x : R Fl) : RG := match x with
  | .ok .nx ρ => endG as (.ok (.v .non)) ρ
  | .ok (.rt r) ρ => endG as (.ok r) ρ
  | .exc C fs ρ => endG as (.exc C fs) ρ
  | _ => .stuck
theorem bodyG_eq (l : Nat) (g : SF) (as : List FL.Arg) : bodyG l g as = endR as (g (rho0 l as)) := by
  unfold bodyG endR
  rfl
theorem endR_rt (as : List FL.Arg) (r : Res) (ρ : Rho) : endR as (.ok (.rt r) ρ) = endG as (.ok r) ρ := rfl
theorem endR_nx (as : List FL.Arg) (ρ : Rho) : endR as (.ok .nx ρ) = endG as (.ok (.v .non)) ρ := rfl
/-- behind a statement -/
def nxt (g : SF) (fl : Fl) (ρ : Rho) : R Fl := match fl with
  | .nx => g ρ
  | o => .ok o ρ
theorem seqS_eq (f g : SF) (ρ : Rho) : seqS f g ρ = (f ρ).bind (nxt g) := rfl
theorem nxt_nx (g : SF) (ρ : Rho) : nxt g .nx ρ = g ρ := rfl
theorem nxt_rt (g : SF) (r : Res) (ρ : Rho) : nxt g (.rt r) ρ = .ok (.rt r) ρ := rfl
theorem nxt_bk (g : SF) (ρ : Rho) : nxt g .bk ρ = .ok .bk ρ := rfl
theorem nxt_ct (g : SF) (ρ : Rho) : nxt g .ct ρ = .ok .ct ρ := rfl
/-- a branch -/
def brR {α : Type} (f g : Rho → R α) (b : Bool) (ρ : Rho) : R α := if b = true then f ρ else g ρ
theorem ifS_eq (t : TF) (f g : SF) (ρ : Rho) : ifS t f g ρ = (t ρ).bind (brR f g) := rfl
theorem ifE_eq (t : TF) (f g : EF) (ρ : Rho) : ifE t f g ρ = (t ρ).bind (brR f g) := rfl
theorem brR_t {α : Type} (f g : Rho → R α) (ρ : Rho) : brR f g true ρ = f ρ := rfl
theorem brR_f {α : Type} (f g : Rho → R α) (ρ : Rho) : brR f g false ρ = g ρ := rfl
theorem anT_eq (f g : TF) (ρ : Rho) : anT f g ρ = (f ρ).bind (brR g fun ρ => .ok false ρ) := rfl
theorem orT_eq (f g : TF) (ρ : Rho) : orT f g ρ = (f ρ).bind (brR (fun ρ => .ok true ρ) g) := rfl
theorem anE_eq (f g : EF) (ρ : Rho) : anE f g ρ = (tst f ρ).bind (brR g fun ρ => .ok (.bl false) ρ) := rfl
theorem orE_eq (f g : EF) (ρ : Rho) : orE f g ρ = (tst f ρ).bind (brR (fun ρ => .ok (.bl true) ρ) g) := rfl
theorem brR_dec {α : Type} (f g : Rho → R α) (p : Prop) [Decidable p] (ρ : Rho) : brR f g (decide p) ρ = if p then f ρ else g ρ := by
  unfold brR
  by_cases h : p <;> simp [h]
def isB : D → Option Bool
  | .bl b => some b
  | _ => none
theorem tst_eq (f : EF) (ρ : Rho) : tst f ρ = (f ρ).bind fun x ρ => R.of (isB x) ρ := by
  unfold tst isB
  rfl
theorem isB_bl (b : Bool) : isB (.bl b) = some b := rfl
theorem vr_some {i : Nat} {ρ : Rho} {d : D} (h : ρ[i]? = some (.val d)) : vr i ρ = .ok d ρ := by
  unfold vr
  rw [h]
theorem eqA_int (a b : Int) : eqA (.int a) (.int b) = some (.bl (decide (a = b))) := by
  have e : (a == b) = decide (a = b) := by
    by_cases h : a = b <;> simp [h]
  rw [← e]
  rfl
theorem neA_int (a b : Int) : neA (.int a) (.int b) = some (.bl (!decide (a = b))) := by
  have e : (a == b) = decide (a = b) := by
    by_cases h : a = b <;> simp [h]
  rw [← e]
  rfl
theorem eqA_str (a b : Str) : eqA (.str a) (.str b) = some (.bl (decide (a = b))) := rfl
theorem neA_str (a b : Str) : neA (.str a) (.str b) = some (.bl (!decide (a = b))) := rfl
theorem ltD_int (a b : Int) : ltD (.int a) (.int b) = some (.bl (decide (a < b))) := rfl
theorem leD_int (a b : Int) : leD (.int a) (.int b) = some (.bl (decide (a ≤ b))) := rfl
theorem gtD_int (a b : Int) : gtD (.int a) (.int b) = some (.bl (decide (b < a))) := rfl
theorem geD_int (a b : Int) : geD (.int a) (.int b) = some (.bl (decide (b ≤ a))) := rfl
theorem addD_int (a b : Int) : addD (.int a) (.int b) = some (.int (a + b)) := rfl
theorem subD_int (a b : Int) : subD (.int a) (.int b) = some (.int (a - b)) := rfl
theorem negD_int (a : Int) : negD (.int a) = some (.int (-a)) := rfl
theorem absC_int (a : Int) : absC [.int a] = some (.int (a.natAbs : Int)) := by
  show some (D.int (if a < 0 then -a else a)) = _
  congr 2
  split <;> omega
theorem intC_int (a : Int) : intC [.int a] = some (.int a) := rfl
theorem maxC_int (a b : Int) : maxC [.int a, .int b] = some (.int (max a b)) := by
  show some (D.int (if b > a then b else a)) = _
  congr 2
  split <;> omega
theorem minC_int (a b : Int) : minC [.int a, .int b] = some (.int (min a b)) := by
  show some (D.int (if b < a then b else a)) = _
  congr 2
  split <;> omega
theorem mulOk_l {a b : Int} (h : a.natAbs < 18446744073709551616) : mulOk a b = true := by
  unfold mulOk
  rw [decide_eq_true (show a.natAbs < 2 ^ 64 from h)]
  rfl
theorem mulOk_r {a b : Int} (h : b.natAbs < 18446744073709551616) : mulOk a b = true := by
  unfold mulOk
  rw [decide_eq_true (show b.natAbs < 2 ^ 64 from h), Bool.or_true]
  rfl
theorem mulD_l {a b : Int} (h : a.natAbs < 18446744073709551616) : mulD (.int a) (.int b) = some (.int (a * b)) := by
  simp only [mulD, mulOk_l h, if_true]
theorem mulD_r {a b : Int} (h : b.natAbs < 18446744073709551616) : mulD (.int a) (.int b) = some (.int (a * b)) := by
  simp only [mulD, mulOk_r h, if_true]
theorem modD_pos {a b : Int} (h : 0 < b) : modD (.int a) (.int b) = some (.int (a % b)) := by
  have h0 : b ≠ 0 := by omega
  simp only [modD, if_pos h0, Int.fmod_eq_emod_of_nonneg a (Int.le_of_lt h)]
theorem fdivD_pos {a b : Int} (h : 0 < b) (h2 : b < 1073741824) : fdivD (.int a) (.int b) = some (.int (a / b)) := by
  have h0 : (b ≠ 0 ∧ b.natAbs < 1073741824) ∨ (b ≠ 0 ∧ b.natAbs.log2 < 9000) := .inl ⟨by omega, by omega⟩
  simp only [fdivD, if_pos h0, Int.fdiv_eq_ediv_of_nonneg a (Int.le_of_lt h)]
theorem dmC_pos {a b : Int} (h : 0 < b) (h2 : b < 1073741824) : dmC [.int a, .int b] = some (.tup [.int (a / b), .int (a % b)]) := if_pos ⟨h, h2⟩
theorem lenC_lst (xs : List D) : lenC [.lst xs] = some (.int xs.length) := rfl
theorem lenC_tup (xs : List D) : lenC [.tup xs] = some (.int xs.length) := rfl
theorem lenC_scr (xs : List Int) : lenC [.scr xs] = some (.int xs.length) := rfl
theorem atI_nat {α : Type} {xs : List α} {i : Int} {a : α} (h0 : 0 ≤ i) (h : xs[i.toNat]? = some a) : atI xs i = some a := by
  unfold atI ixN
  have hl := (List.getElem?_eq_some_iff.mp h).1
  rw [if_pos h0, if_pos (by omega)]
  exact h
/-- one of a list -/
theorem ixD_lst {xs : List D} {i : Int} (h0 : 0 ≤ i) (h1 : i < xs.length) : ∃ d ∈ xs, ixD (.lst xs) (.int i) = some d := by
  have hl : i.toNat < xs.length := by omega
  refine ⟨xs[i.toNat], List.getElem_mem hl, ?_⟩
  show atI xs i = _
  exact atI_nat h0 (List.getElem?_eq_getElem hl)

/-! ### loops -/
theorem forL_cons (ks : List Nat) (g : GF) (b : SF) (d : D) (ds : List D) (ρ : Rho) : forL ks g b (d :: ds) ρ = bindO (g d ρ) fun ρ => (b ρ).bind (aftF ks (forL ks g b ds)) := rfl
/-- a loop that keeps an invariant, or returns -/
theorem forL_inv {ks : List Nat} {g : GF} {b : SF} (I : Nat → Rho → Prop) (Z : Res → Rho → Prop) : ∀ (ds : List D) (n : Nat) (ρ : Rho), I n ρ →
    (∀ (i : Nat) (d : D) (ρ : Rho), I (n + i) ρ → ds[i]? = some d → ∃ ρ1, g d ρ = some ρ1 ∧ ((∃ ρ2, (b ρ1 = .ok .nx ρ2 ∨ b ρ1 = .ok .ct ρ2) ∧ I (n + i + 1) (wipeR ks ρ2)) ∨ ∃ r ρ2, b ρ1 = .ok (.rt r) ρ2 ∧ Z r ρ2)) →
    (∃ ρ', forL ks g b ds ρ = .ok .nx ρ' ∧ I (n + ds.length) ρ') ∨ ∃ r ρ', forL ks g b ds ρ = .ok (.rt r) ρ' ∧ Z r ρ'
  | [], n, ρ, h, _ => .inl ⟨ρ, rfl, h⟩
  | d :: ds, n, ρ, h, st => by
    obtain ⟨ρ1, e1, z⟩ := st 0 d ρ h rfl
    rw [forL_cons, e1]
    show (∃ ρ', (b ρ1).bind _ = _ ∧ _) ∨ ∃ r ρ', (b ρ1).bind _ = _ ∧ _
    rcases z with ⟨ρ2, e2, hi⟩ | ⟨r, ρ2, e2, hz⟩
    · have key := forL_inv I Z ds (n + 1) (wipeR ks ρ2) hi fun i d' ρ' h1 h2 => by
        have := st (i + 1) d' ρ' (by rw [show n + (i + 1) = n + 1 + i by omega]; exact h1) (by simpa using h2)
        rw [show n + (i + 1) + 1 = n + 1 + i + 1 by omega] at this
        exact this
      rw [show n + (d :: ds).length = n + 1 + ds.length by rw [List.length_cons]; omega]
      rcases e2 with e2 | e2 <;> (rw [e2]; exact key)
    · rw [e2]
      exact .inr ⟨r, ρ2, rfl, hz⟩
/-- a loop without a return -/
theorem forL_nx {ks : List Nat} {g : GF} {b : SF} (I : Nat → Rho → Prop) (ds : List D) (ρ : Rho) (h : I 0 ρ)
    (st : ∀ (i : Nat) (d : D) (ρ : Rho), I i ρ → ds[i]? = some d → ∃ ρ1, g d ρ = some ρ1 ∧ ∃ ρ2, b ρ1 = .ok .nx ρ2 ∧ I (i + 1) (wipeR ks ρ2)) : ∃ ρ', forL ks g b ds ρ = .ok .nx ρ' ∧ I ds.length ρ' := by
  rcases forL_inv (ks := ks) (g := g) (b := b) I (fun _ _ => False) ds 0 ρ h fun i d ρ h1 h2 => by
    rw [Nat.zero_add] at h1 ⊢
    obtain ⟨ρ1, e1, ρ2, e2, hi⟩ := st i d ρ h1 h2
    exact ⟨ρ1, e1, .inl ⟨ρ2, .inl e2, hi⟩⟩ with ⟨ρ', e, hi⟩ | ⟨_, _, _, z⟩
  · rw [Nat.zero_add] at hi
    exact ⟨ρ', e, hi⟩
  · exact z.elim
theorem forS_eq (ks : List Nat) (it : IF) (g : GF) (b : SF) (ρ : Rho) : forS ks it g b ρ = (it ρ).bind fun ds ρ => forL ks g b ds ρ := rfl
/-- a comprehension whose turns keep the state (but for its own names) -/
theorem cmpL_of {ks : List Nat} {g : GF} {t : TF} {f : EF} (I : Nat → Rho → Prop) (X : D → D → Prop) : ∀ (ds : List D) (n : Nat) (acc : List D) (ρ : Rho), acc.length + ds.length ≤ 100000 → I n ρ →
    (∀ (i : Nat) (d : D) (ρ : Rho), I (n + i) ρ → ds[i]? = some d → ∃ ρ1, g d ρ = some ρ1 ∧ ((∃ ρ2, t ρ1 = .ok false ρ2 ∧ I (n + i + 1) (wipeR ks ρ2)) ∨ ∃ ρ2 x ρ3, t ρ1 = .ok true ρ2 ∧ f ρ2 = .ok x ρ3 ∧ X d x ∧ I (n + i + 1) (wipeR ks ρ3))) →
    ∃ ys ρ', cmpL ks g t f acc ds ρ = .ok (.lst (acc ++ ys)) ρ' ∧ (∀ y ∈ ys, ∃ d ∈ ds, X d y) ∧ I (n + ds.length) ρ'
  | [], n, acc, ρ, hl, h, _ => ⟨[], ρ, by rw [List.append_nil]; rfl, (fun y hy => by simp at hy), h⟩
  | d :: ds, n, acc, ρ, hl, h, st => by
    rw [List.length_cons] at hl
    obtain ⟨ρ1, e1, z⟩ := st 0 d ρ h rfl
    have next : ∀ (acc' : List D) (ρ' : Rho), acc'.length + ds.length ≤ 100000 → I (n + 1) ρ' → ∃ ys ρ2, cmpL ks g t f acc' ds ρ' = .ok (.lst (acc' ++ ys)) ρ2 ∧ (∀ y ∈ ys, ∃ d ∈ ds, X d y) ∧ I (n + 1 + ds.length) ρ2 := fun acc' ρ' h1 h2 =>
      cmpL_of I X ds (n + 1) acc' ρ' h1 h2 fun i d' ρ' h3 h4 => by
        have := st (i + 1) d' ρ' (by rw [show n + (i + 1) = n + 1 + i by omega]; exact h3) (by simpa using h4)
        rw [show n + (i + 1) + 1 = n + 1 + i + 1 by omega] at this
        exact this
    rw [show n + (d :: ds).length = n + 1 + ds.length by rw [List.length_cons]; omega]
    unfold cmpL
    rw [e1]
    rcases z with ⟨ρ2, e2, hi⟩ | ⟨ρ2, x, ρ3, e2, e3, hx, hi⟩
    · obtain ⟨ys, ρ', e, hy, h'⟩ := next acc _ (by omega) hi
      refine ⟨ys, ρ', ?_, fun y hy' => ?_, h'⟩
      · show (noX (t ρ1)).bind _ = _
        rw [e2]
        exact e
      · obtain ⟨d', hd, hx⟩ := hy y hy'
        exact ⟨d', List.mem_cons_of_mem _ hd, hx⟩
    · obtain ⟨ys, ρ', e, hy, h'⟩ := next (acc ++ [x]) _ (by rw [List.length_append, List.length_singleton]; omega) hi
      refine ⟨x :: ys, ρ', ?_, fun y hy' => ?_, h'⟩
      · show (noX (t ρ1)).bind _ = _
        rw [e2]
        show (noX (f ρ2)).bind _ = _
        rw [e3]
        show (if small (acc.length + 1) = true then _ else _) = _
        rw [if_pos (show small (acc.length + 1) = true from decide_eq_true (by omega)), e]
        simp
      · rcases List.mem_cons.mp hy' with e | hy'
        · subst e
          exact ⟨d, List.mem_cons_self, hx⟩
        · obtain ⟨d', hd, hx⟩ := hy y hy'
          exact ⟨d', List.mem_cons_of_mem _ hd, hx⟩
/-- a comprehension whose turns keep the state: filter and map -/
theorem cmpL_pure {ks : List Nat} {g : GF} {t : TF} {f : EF} (I : Rho → Prop) (tb : D → Bool) (fx : D → D) : ∀ (ds acc : List D) (ρ : Rho), acc.length + ds.length ≤ 100000 → I ρ →
    (∀ d ∈ ds, ∀ ρ, I ρ → ∃ ρ1 ρ2, g d ρ = some ρ1 ∧ t ρ1 = .ok (tb d) ρ2 ∧ (tb d = false → I (wipeR ks ρ2)) ∧ (tb d = true → ∃ ρ3, f ρ2 = .ok (fx d) ρ3 ∧ I (wipeR ks ρ3))) →
    ∃ ρ', cmpL ks g t f acc ds ρ = .ok (.lst (acc ++ (ds.filter tb).map fx)) ρ' ∧ I ρ'
  | [], acc, ρ, hl, h, _ => ⟨ρ, by rw [List.filter_nil, List.map_nil, List.append_nil]; rfl, h⟩
  | d :: ds, acc, ρ, hl, h, st => by
    rw [List.length_cons] at hl
    obtain ⟨ρ1, ρ2, e1, e2, h1, h2⟩ := st d List.mem_cons_self ρ h
    unfold cmpL
    rw [e1]
    cases hb : tb d with
    | false =>
      obtain ⟨ρ', e, h'⟩ := cmpL_pure I tb fx ds acc _ (by omega) (h1 hb) fun d' hd => st d' (List.mem_cons_of_mem _ hd)
      refine ⟨ρ', ?_, h'⟩
      show (noX (t ρ1)).bind _ = _
      rw [e2, hb, List.filter_cons, hb, if_neg Bool.false_ne_true]
      exact e
    | true =>
      obtain ⟨ρ3, e3, h3⟩ := h2 hb
      obtain ⟨ρ', e, h'⟩ := cmpL_pure I tb fx ds (acc ++ [fx d]) _ (by rw [List.length_append, List.length_singleton]; omega) h3 fun d' hd => st d' (List.mem_cons_of_mem _ hd)
      refine ⟨ρ', ?_, h'⟩
      show (noX (t ρ1)).bind _ = _
      rw [e2, hb, List.filter_cons, hb, if_pos rfl, List.map_cons]
      show (noX (f ρ2)).bind _ = _
      rw [e3]
      show (if small (acc.length + 1) = true then _ else _) = _
      rw [if_pos (show small (acc.length + 1) = true from decide_eq_true (by omega)), e]
      simp
theorem rgOk_of {i : Int} (h : -4000000000000000000 ≤ i) (h' : i ≤ 4000000000000000000) : rgOk i = true := by
  exact decide_eq_true (by omega)
theorem rangeL_mem : ∀ (n : Nat) (lo : Int) (d : D), d ∈ rangeL lo n ↔ ∃ i : Int, d = .int i ∧ lo ≤ i ∧ i < lo + n
  | 0, lo, d => by
    rw [rangeL]
    constructor
    · intro h
      simp at h
    · rintro ⟨i, _, h1, h2⟩
      omega
  | n + 1, lo, d => by
    rw [rangeL, List.mem_cons, rangeL_mem n]
    constructor
    · rintro (rfl | ⟨i, rfl, h1, h2⟩)
      · exact ⟨lo, rfl, by omega, by omega⟩
      · exact ⟨i, rfl, by omega, by omega⟩
    · rintro ⟨i, rfl, h1, h2⟩
      by_cases h : i = lo
      · exact .inl (by rw [h])
      · exact .inr ⟨i, rfl, by omega, by omega⟩
theorem mulD_w {a b : Int} (ha : a.natAbs < 2 ^ 200) (hb : b.natAbs < 2 ^ 200) : mulD (.int a) (.int b) = some (.int (a * b)) := by
  have l : ∀ x : Nat, x < 2 ^ 200 → x.log2 < 200 := fun x h => by
    by_cases h0 : x = 0
    · subst h0
      decide
    · exact (Nat.log2_lt h0).mpr h
  have h : mulOk a b = true := by
    unfold mulOk
    have h1 := l _ ha
    have h2 := l _ hb
    rw [decide_eq_true (show a.natAbs.log2 + b.natAbs.log2 < 1000000 by omega), Bool.or_true]
  simp only [mulD, h, if_true]
theorem inA_int2 (i a b : Int) : inA (.int i) (.tup [.int a, .int b]) = some (.bl (decide (i = a) || decide (i = b))) := by
  have e : ∀ x y : Int, (y == x) = decide (x = y) := fun x y => by
    rw [Bool.eq_iff_iff, beq_iff_eq, decide_eq_true_eq]
    exact eq_comm
  show some (D.bl ((a == i) || ((b == i) || false))) = _
  rw [e, e, Bool.or_false]
theorem ninA_int2 (i a b : Int) : ninA (.int i) (.lst [.int a, .int b]) = some (.bl (!(decide (i = a) || decide (i = b)))) := by
  have e : ∀ x y : Int, (y == x) = decide (x = y) := fun x y => by
    rw [Bool.eq_iff_iff, beq_iff_eq, decide_eq_true_eq]
    exact eq_comm
  show some (D.bl (!((a == i) || ((b == i) || false)))) = _
  rw [e, e, Bool.or_false]
end FL
/-! FL14: enumerate, of lists and of tuples. -/
namespace FL
open PySem PySem.Spec PyProof.Rows L2 AutoSeq1
section
variable {prog : Program} {w : World} {A : Around} {E : Value → Shared → Prop} {s : Shared}
theorem nextOf_tup_item {it t : Addr} {i : Nat} {items : Array Value} {x : Value} {Q : Value → Shared → Prop} (hit : s.heap.IsTupleIter it t i) (ht : s.heap.IsTuple t items) (hx : items[i]? = some x)
    (hQ : ∀ h', h'.IsTupleIter it t (i + 1) → Heap.SameBut it s.heap h' → Q x { s with heap := h' }) : wpAny (model prog w) A (Builtin.SmallTypes.nextOf (.ref it)) Q E s := by
  obtain ⟨oi, hoi, ci, di⟩ := id hit
  obtain ⟨ot, hot, _, nt, dt⟩ := ht
  unfold Builtin.SmallTypes.nextOf
  refine wpAny_bind (wpAny_callSpecial?_slot (name := Str.ofString "__next__") hit.typeIs F.slot_tuple_iterator_next (wpAny_call_entry F.slot_tuple_iterator_next hit.typeIs F.entry_tuple_iterator_next ?_ (F.args_tuple_iterator_next_1 _)))
  show wpAny _ _ (field (.ref it) 0 >>= _) _ _ s
  refine wpAny_bind (wpAny_field hoi di (x := .ref t) rfl ?_)
  show wpAny _ _ (if (Value.ref t == Value.none) = true then _ else _) _ _ s
  rw [if_neg (show ¬ ((Value.ref t == Value.none) = true) by exact Bool.false_ne_true)]
  show wpAny _ _ (field (.ref it) 1 >>= _) _ _ s
  refine wpAny_bind (wpAny_field hoi di (x := .int i 0) rfl ?_)
  show wpAny _ _ (seqItems? (.ref t) >>= _) _ _ s
  refine wpAny_bind (wpAny_seqItems hot dt ?_)
  simp only [Int.toNat_natCast, hx]
  refine wpAny_bind (wpAny_setField hoi di (by simp) (wpAny_pure ⟨x, rfl, wpAny_pure (hQ _ ⟨_, Heap.get?_update_self _ hoi (Obj.isFreed_of_fields (Obj.data_mapFields di _)), (Obj.cls_mapFields ..).trans ci, ?_⟩ (Heap.SameBut.update ..))⟩))
  rw [Obj.data_mapFields di]
  simp [rawInt]
theorem nextOf_tup_end {it t : Addr} {i : Nat} {items : Array Value} {Q : Value → Shared → Prop} (hh : A.handled = none) (hit : s.heap.IsTupleIter it t i) (ht : s.heap.IsTuple t items) (hx : items[i]? = none)
    (hE : ∀ h' e, Heap.ExtBut it s.heap h' → (∃ o, h'.get? e = some o ∧ o.cls = .type "StopIteration") → E (.ref e) { s with heap := h' }) : wpAny (model prog w) A (Builtin.SmallTypes.nextOf (.ref it)) Q E s := by
  obtain ⟨oi, hoi, ci, di⟩ := id hit
  obtain ⟨ot, hot, _, nt, dt⟩ := ht
  unfold Builtin.SmallTypes.nextOf
  refine wpAny_bind (wpAny_callSpecial?_slot (name := Str.ofString "__next__") hit.typeIs F.slot_tuple_iterator_next (wpAny_call_entry F.slot_tuple_iterator_next hit.typeIs F.entry_tuple_iterator_next ?_ (F.args_tuple_iterator_next_1 _)))
  show wpAny _ _ (field (.ref it) 0 >>= _) _ _ s
  refine wpAny_bind (wpAny_field hoi di (x := .ref t) rfl ?_)
  show wpAny _ _ (if (Value.ref t == Value.none) = true then _ else _) _ _ s
  rw [if_neg (show ¬ ((Value.ref t == Value.none) = true) by exact Bool.false_ne_true)]
  show wpAny _ _ (field (.ref it) 1 >>= _) _ _ s
  refine wpAny_bind (wpAny_field hoi di (x := .int i 0) rfl ?_)
  show wpAny _ _ (seqItems? (.ref t) >>= _) _ _ s
  refine wpAny_bind (wpAny_seqItems hot dt ?_)
  simp only [Int.toNat_natCast, hx]
  refine wpAny_bind (wpAny_rule (wpAny_bind (wpAny_setField hoi di (by simp) ?_)))
  show wpAny _ _ (newExc (.type "StopIteration") [] >>= _) _ _ _
  refine wpAny_bind ?_
  simp only [newExc, newTuple]
  refine wpAny_bind (wpAny_newObj_type ?_ (by size_fits))
  refine wpAny_bind (m := firstArgMember _ _) (wpAny_of_eq (a := Value.none) (by first | rfl | (simp only [firstArgMember]; rfl)) ?_)
  refine wpAny_newObj_type ?_ (by size_fits)
  simp only [raiseNew]
  refine wpAny_bind (wpAny_handled ?_)
  first | rw [show A.in1.handled = none from hh] | rw [hh]
  exact wpAny_bind (wpAny_pure (wpAny_throw (hE _ _ (((Heap.SameBut.update ..).extBut.push _).push _) ⟨_, Heap.get?_push_size _ rfl, rfl⟩)))
end
theorem draws_tup {prog : Program} {w : World} {A : Around} (hh : A.handled = none) (it t : Addr) (hne : t ≠ it) (items : Array Value) :
    Draws prog w A it [it, t] items.size (fun i v => items[i]? = some v) (fun i h => h.IsTupleIter it t i ∧ h.IsTuple t items) where
  live := fun _ _ st => let ⟨o, ho, _⟩ := st.1; ⟨o, ho⟩
  frame := fun _ _ _ st hk => ⟨st.1.at fun o e => hk it (by simp) o e, let ⟨o, ho, r⟩ := st.2; ⟨o, hk t (by simp) o ho, r⟩⟩
  item := fun i s Q E hi st hQ => nextOf_tup_item st.1 st.2 (x := items[i]) (by simp [hi]) fun h' hit' hs' => hQ _ h' s.toks (by simp [hi]) ⟨hit', st.2.extBut hs'.extBut hne⟩ hs'
  done := fun s Q E st hE => nextOf_tup_end hh st.1 st.2 (by simp) hE
theorem enum_new_tup (l : Addr) (items : Array Value) (n : Nat) (dct : Option Addr) (sl : Array (Option Value)) :
    Meets (Builtin.«enumerate.__new__» ⟨[.type "enumerate", .ref l], []⟩) (fun _ R s => s.heap.get? l = some { cls := .type "tuple", dict := dct, data := .seq items n, slots := sl } ∧
      R (.ok (.ret (.ref (s.heap.push { cls := .type "tuple_iterator", data := .fields #[.ref l, .int 0 0] }).objs.size)))
        { s with heap := (s.heap.push { cls := .type "tuple_iterator", data := .fields #[.ref l, .int 0 0] }).push { cls := .type "enumerate", data := .fields #[.none, .bool false, .ref s.heap.objs.size, rawInt 0, .none, .none] } }) :=
  .of_wp fun prog w A R s h => by
    obtain ⟨hp, g, d, tk, os⟩ := s
    obtain ⟨hl, h⟩ := h
    have hsub := sub_enumerate
    have hT : Heap.IsTuple (Shared.heap ⟨hp, g, d, tk, os⟩) l items := ⟨_, hl, rfl, n, rfl⟩
    wp_walk using wpAny_loadPart' hl
    refine wpAny_stack_any fun st => wpAny_pure ?_
    split
    · rename_i c _ _ _ _ _
      cases (c == Value.type "enumerate")
      · wp_walk using wpAny_loadPart' hl, wpAny_pyIter_tuple hT
        exact ⟨_, rfl, h⟩
      · wp_walk using wpAny_loadPart' hl, wpAny_pyIter_tuple hT
        exact ⟨_, rfl, h⟩
    · wp_walk using wpAny_loadPart' hl, wpAny_pyIter_tuple hT
      exact ⟨_, rfl, h⟩
theorem call_enum_tup {prog : Program} {w : World} {A : Around} {E : Value → Shared → Prop} {s : Shared} {l : Addr} {items : Array Value} {Q : Value → Shared → Prop} (hL : s.heap.IsTuple l items)
    (h : ∀ h', IsEnum h' (s.heap.objs.size + 1) s.heap.objs.size 0 .none → h'.IsTupleIter s.heap.objs.size l 0 → h'.objs.size = s.heap.objs.size + 2 → (∀ b o, s.heap.get? b = some o → h'.get? b = some o) → Q (.ref (s.heap.objs.size + 1)) { s with heap := h' }) :
    wpAny (model prog w) A (call (.type "enumerate") [.ref l]) Q E s := by
  obtain ⟨⟨c, dct, dt, sl⟩, hl, hc, n, hd⟩ := hL
  have hc : c = .type "tuple" := hc
  have hd : dt = .seq items n := hd
  subst hc hd
  refine callType_new F.called_enumerate (by decide) (F.typeCall_enumerate_1 _) (F.newCall_enumerate_1 _) (fun obj => F.args_object_init_2 obj _) F.entry_enumerate_new (enum_new_tup l items n dct sl) ⟨hl, ?_⟩
  generalize hi : ({ cls := .type "tuple_iterator", data := .fields #[.ref l, .int 0 0] } : Obj) = oi
  have hz : (s.heap.push oi).objs.size = s.heap.objs.size + 1 := Heap.size_push ..
  have key : ((s.heap.push oi).push { cls := .type "enumerate", data := .fields #[.none, .bool false, .ref s.heap.objs.size, rawInt 0, .none, .none] }).get? (s.heap.objs.size + 1) = some { cls := .type "enumerate", data := .fields #[.none, .bool false, .ref s.heap.objs.size, rawInt 0, .none, .none] } := by
    have z := Heap.get?_push_size (s.heap.push oi) (o := { cls := .type "enumerate", data := .fields #[.none, .bool false, .ref s.heap.objs.size, rawInt 0, .none, .none] }) rfl
    rw [hz] at z
    exact z
  show _ ∧ _
  rw [hz]
  refine ⟨⟨_, key, rfl⟩, h _ key ⟨oi, Heap.get?_push_of_some _ (Heap.get?_push_size _ (by rw [← hi]; rfl)), by rw [← hi], by rw [← hi]; rfl⟩ (by rw [Heap.size_push, hz]) fun b o x => Heap.get?_push_of_some _ (Heap.get?_push_of_some _ x)⟩
/-- the tuple at a, each item in a new pair -/
def IteT (K : PySem.W.Frag) (a : Addr) : It :=
  ⟨fun i H => ∃ (xs : List V) (x : V), SqT K H a xs ∧ xs[i]? = some x, fun i H v H' => ∃ T x, v = .ref T ∧ H T = none ∧ H' = upd H T (.tup [.int (i : Nat), x]) ∧ ∀ xs, SqT K H a xs → xs[i]? = some x, fun i H => ∃ xs : List V, SqT K H a xs ∧ xs.length ≤ i⟩
theorem turn_enumT {P : Program} {w : World} {K : PySem.W.Frag} {elts : List Expr} {kk : Nat} {tpos : Pos} (a e it : Addr) :
    Turn P w K (.Tuple elts kk tpos) (IteT K a) [e, it] e (fun i h => (∃ old, IsEnum h e it ((i : Nat) : Int) old) ∧ h.IsTupleIter it a i ∧ e ≠ it) where
  mem := by simp
  obj := fun i h st b hb => by
    obtain ⟨⟨old, he⟩, ⟨o, ho, hc, hd⟩, _⟩ := st
    rcases (show b = e ∨ b = it by simpa using hb) with z | z
    · subst z
      exact ⟨_, he, fun v q => nomatch q⟩
    · subst z
      exact ⟨o, ho, fun v q => by rw [hd] at q; cases q⟩
  keep := fun i h h' st k => let ⟨⟨old, he⟩, hi, hne⟩ := st; ⟨⟨old, k e (by simp) _ he⟩, hi.at fun o q => k it (by simp) o q, hne⟩
  item := by
    intro X hP hw hK hc i pins s σ H E I hf st hg
    subst hP hw hK
    obtain ⟨⟨old, he⟩, hit, hne⟩ := st
    obtain ⟨xs, x, hq, hx⟩ := hg
    obtain ⟨its, rv, p, hz⟩ := I.tuple hq
    have p : s.heap.IsTuple a its.toArray := p
    obtain ⟨u, hu, ru⟩ := rv.get hx
    have hel : e < s.heap.objs.size := Heap.lt_size he
    have hil : it < s.heap.objs.size := by obtain ⟨_, q, _⟩ := hit; exact Heap.lt_size q
    have ne1 : a ≠ it := fun z => by
      subst z
      obtain ⟨o, q, c, d⟩ := hit
      obtain ⟨o', q', c', _⟩ := p
      rw [q] at q'
      cases q'
      exact absurd (c.symm.trans c') (by decide +kernel)
    have ne2 : e ∉ [it, a] := fun z => by
      rcases (show e = it ∨ e = a by simpa using z) with z | z
      · exact hne z
      · subst z
        obtain ⟨o', q', c', _⟩ := p
        rw [he] at q'
        cases q'
        exact absurd (show Value.type "enumerate" = .type "tuple" from c') (by decide +kernel)
    have hii : i < its.length := (List.getElem?_eq_some_iff.mp hu).1
    have hh : X.A.in1.handled = none := I.ok.hd hc
    refine wpAny_pyNext_enum_itemD (draws_tup (prog := X.prog) (w := X.w) hh it a ne1 its.toArray) he ⟨hit, p⟩ (by simpa using hii) hne ne2 fun y h' tk hy ho hst' hT hsz hk => ?_
    have ey : y = u := by
      have hy : its.toArray[i]? = some y := hy
      rw [List.getElem?_toArray, hu] at hy
      exact (Option.some.inj hy).symm
    subst ey
    refine ⟨_, rfl, wpAny_letOwnedTupleGo_enum (s := { s with heap := h', toks := tk + 1 }) ho fun h'' he' sb => ?_⟩
    have hT2 : h''.get? s.heap.objs.size = some { cls := .type "tuple", data := .seq #[.int i tk, y] } := (sb.2 _ (Nat.ne_of_gt hel)).trans hT
    have new : ObjOk X.prog X.w (upd H s.heap.objs.size (.tup [.int (i : Nat), x])) h'' s.heap.objs.size (.tup [.int (i : Nat), x]) := ⟨by show 2 ≤ sizeLine; decide, [.int i tk, y], .cons ⟨_, rfl⟩ (.cons ru .nil), ⟨_, hT2, rfl, _, rfl⟩⟩
    have I1 : Inv X pins σ (upd H s.heap.objs.size (.tup [.int (i : Nat), x])) { s with heap := h'', toks := tk + 1 } :=
      I.turnedNew (ch := [e, it]) (fun b ob hb q => (sb.2 b (fun z => hb (by simp [z]))).trans (hk b ob (fun z => hb (by simp [z])) (fun z => hb (by simp [z])) q)) hf (Nat.le_refl _) new
    refine ⟨.ref s.heap.objs.size, _, I1, rfl, ⟨_, x, rfl, I.hok.fresh (Nat.le_refl _), rfl, fun ys hy => by rw [I.tuple_inj hy hq]; exact hx⟩, ⟨⟨y, ?_⟩, hst'.1.at fun o q => (sb.2 it (Ne.symm hne)).trans q, hne⟩, fun b hb => ?_⟩
    · have e1 : ((i + 1 : Nat) : Int) = (i : Int) + 1 := by omega
      rw [e1]
      exact he'
    · have hb' : b < s.heap.objs.size := by
        rcases (show b = e ∨ b = it by simpa using hb) with z | z
        · rw [z]; exact hel
        · rw [z]; exact hil
      rw [upd_ne (Nat.ne_of_lt hb')]
      exact (hf b hb).1
  done := by
    intro X hP hw hK hc i pins s σ H E I hf st hg
    subst hP hw hK
    obtain ⟨⟨old, he⟩, hit, hne⟩ := st
    obtain ⟨xs, hq, hx⟩ := hg
    obtain ⟨its, rv, p, hz⟩ := I.tuple hq
    have p : s.heap.IsTuple a its.toArray := p
    obtain ⟨f0, f1, f2, f3, f4, f5⟩ := hf it (by simp)
    have hl := rv.length
    have hh : X.A.in1.handled = none := I.ok.hd hc
    have ne1 : a ≠ it := fun z => by
      subst z
      obtain ⟨o, q, c, d⟩ := hit
      obtain ⟨o', q', c', _⟩ := p
      rw [q] at q'
      cases q'
      exact absurd (c.symm.trans c') (by decide +kernel)
    have D : Draws X.prog X.w X.A.in1 it [it, a] i (fun _ _ => True) (fun j h => h.IsTupleIter it a j ∧ h.IsTuple a its.toArray ∧ j = i) :=
      { live := fun _ _ st => let ⟨o, ho, _⟩ := st.1; ⟨o, ho⟩
        frame := fun _ _ _ st hk => ⟨st.1.at fun o e => hk it (by simp) o e, (let ⟨o, ho, r⟩ := st.2.1; ⟨o, hk a (by simp) o ho, r⟩), st.2.2⟩
        item := fun j s Q E hj st hQ => absurd st.2.2 (Nat.ne_of_lt hj)
        done := fun s Q E st hE => nextOf_tup_end hh st.1 st.2.1 (by simp; omega) hE }
    exact wpAny_pyNext_enum_endD D he ⟨hit, p, rfl⟩ fun h' eb => ⟨rfl, I.turned (t' := s.toks) (fun b o hb q => eb b o hb q) f0 f1 f3 f4 f5⟩
  self := fun A i s Q E st h => let ⟨⟨_, he⟩, _⟩ := st; wpAny_pyIter_enum he h
/-! ### the reading -/
def enumL : Nat → List D → List D
  | _, [] => []
  | n, d :: ds => .tup [.int (n : Int), d] :: enumL (n + 1) ds
theorem enumL_len : ∀ (ds : List D) (n : Nat), (enumL n ds).length = ds.length
  | [], _ => rfl
  | d :: ds, n => by rw [enumL, List.length_cons, List.length_cons, enumL_len ds]
theorem enumL_get : ∀ (ds : List D) (n i : Nat) (d : D), (enumL n ds)[i]? = some d → ∃ e, ds[i]? = some e ∧ d = .tup [.int ((n + i : Nat) : Int), e]
  | [], _, _, _, h => by simp [enumL] at h
  | e :: ds, n, 0, d, h => by
    simp [enumL] at h
    exact ⟨e, rfl, h.symm⟩
  | e :: ds, n, i + 1, d, h => by
    obtain ⟨e', h1, h2⟩ := enumL_get ds (n + 1) i d (by simpa [enumL] using h)
    refine ⟨e', by simpa using h1, ?_⟩
    rw [h2, show n + 1 + i = n + (i + 1) by omega]
def enmI (f : EF) : IF := fun ρ => (f ρ).bind fun d ρ => (R.of (seqD d) ρ).bind fun ds ρ => .ok (enumL 0 ds) ρ
section
variable {K : PySem.W.Frag} {F : Hp} {q : Addr} {xs : List V} {ds : List D}
variable [FE] in
theorem wk_enumL (h : SqL K F q xs) (r : Reps K F xs ds) : Wk K F (Ite K q) (enumL 0 ds) := by
  refine ⟨fun F' H' s1 s2 i d hd => ?_, fun H' s => ⟨xs, Same.seq s h, by rw [enumL_len, Reps.length r]; exact Nat.le_refl _⟩⟩
  obtain ⟨e, he, rfl⟩ := enumL_get _ _ _ _ hd
  obtain ⟨v, hv, rv⟩ := r.get he
  refine ⟨⟨xs, v, Same.seq (s1.trans s2) h, hv⟩, fun x H2 ⟨T, y, e1, hT, e2, e3⟩ => ?_⟩
  have ey := e3 xs (Same.seq (s1.trans s2) h)
  rw [hv] at ey
  cases ey
  subst e1 e2
  have g := Grw.newF (o := .tup [.int (i : Nat), v]) s2 hT
  refine ⟨_, g, .tup (SqT.of upd_same) (.cons ?_ (.cons ((rv.mono s1).mono g.f) .nil))⟩
  rw [Nat.zero_add]
  exact .int _
variable [FE] in
theorem wk_enumT (h : SqT K F q xs) (r : Reps K F xs ds) : Wk K F (IteT K q) (enumL 0 ds) := by
  refine ⟨fun F' H' s1 s2 i d hd => ?_, fun H' s => ⟨xs, sm_tup s h, by rw [enumL_len, Reps.length r]; exact Nat.le_refl _⟩⟩
  obtain ⟨e, he, rfl⟩ := enumL_get _ _ _ _ hd
  obtain ⟨v, hv, rv⟩ := r.get he
  refine ⟨⟨xs, v, sm_tup (s1.trans s2) h, hv⟩, fun x H2 ⟨T, y, e1, hT, e2, e3⟩ => ?_⟩
  have ey := e3 xs (sm_tup (s1.trans s2) h)
  rw [hv] at ey
  cases ey
  subst e1 e2
  have g := Grw.newF (o := .tup [.int (i : Nat), v]) s2 hT
  refine ⟨_, g, .tup (SqT.of upd_same) (.cons ?_ (.cons ((rv.mono s1).mono g.f) .nil))⟩
  rw [Nat.zero_add]
  exact .int _
end
section
variable [FE]
variable {X : Cx} {π : Nat → Addr} {W : WX} {e : Expr} {pos p tpos : Pos} {elts : List Expr} {kk : Nat} {x : Str}
def iEnumT (K : PySem.W.Frag) (ta : TA) : TI := fun σ H R => ta σ H fun vs H1 => ∃ a xs, vs = [.ref a] ∧ SqT K H1 a xs ∧ R (IteT K a) H1
theorem pi_enumT {ta : TA} (hg : Gl X "enumerate") (hm : X.mg "enumerate" = none) (ha : PA X [e] ta) (hs : starEach [e] X.env = [(false, eval e X.env)] := by rfl) :
    PI X (.Tuple elts kk tpos) (.Call (.Name "enumerate" p) [e] [] pos) (iEnumT X.K ta) := by
  refine ⟨fun pins s σ H R I h => ?_⟩
  refine Call_ (ld_blt I hg hm boot_enumerate (PyProof.Rows.callWith_type1 (thn (ha.run pos pins s σ H _ I h) fun us s1 ⟨vs, H1, I1, r1, q1⟩ => ?_) hs rfl))
  obtain ⟨a, xs, rfl, hq, q⟩ := q1
  cases r1 with
  | cons r rr =>
    cases rr
    cases r
    obtain ⟨its, rv, pt, hz⟩ := I1.tuple hq
    refine call_enum_tup (show s1.heap.IsTuple a its.toArray from pt) fun h' he hit hsz hk => wpAny_pyIter_enum he ?_
    have I2 : Inv X pins σ H1 { s1 with heap := h' } := I1.kept (t' := s1.toks) hk
    refine ⟨s1.heap.objs.size + 1, [s1.heap.objs.size + 1, s1.heap.objs.size], _, _, H1, rfl, I2, turn_enumT a (s1.heap.objs.size + 1) s1.heap.objs.size, ⟨⟨.none, he⟩, hit, Nat.succ_ne_self _⟩, fun b hb => ?_, q⟩
    have hle : s1.heap.objs.size ≤ b := by
      rcases (show b = s1.heap.objs.size + 1 ∨ b = s1.heap.objs.size by simpa using hb) with z | z
      · rw [z]; exact Nat.le_add_right _ _
      · rw [z]; exact Nat.le_refl _
    exact I1.fpOk hle (I1.hok.fresh hle)
theorem fi_enum {f : EF} (hg : Gl X "enumerate") (hm : X.mg "enumerate" = none) (he : PE X e (tE X.K π W f)) (hs : starEach [e] X.env = [(false, eval e X.env)] := by rfl) (hs2 : starEach [e] X.env = (false, eval e X.env) :: starEach [] X.env := by rfl) :
    PI X (.Tuple elts kk tpos) (.Call (.Name "enumerate" p) [e] [] pos) (tI X.K π W (enmI f)) :=
  PI.imp (PI.or (pi_enum hg hm (pa_cons he pa_nil hs2) hs) (pi_enumT hg hm (pa_cons he pa_nil hs2) hs)) fun σ H R ⟨c, F, ρ, S, P⟩ => by
    unfold enmI at P
    cases ef : f ρ with
    | stuck => rw [ef] at P; exact P.elim
    | exc C fs ρ1 =>
      rw [ef] at P
      exact .inl ⟨c, F, ρ, S, by rw [ef]; exact P⟩
    | ok d ρ1 =>
      rw [ef] at P
      cases ed : seqD d with
      | none =>
        simp only [FL.R.ok_bind, ed] at P
        exact P.elim
      | some ds =>
        simp only [FL.R.ok_bind, ed] at P
        have P : Po X.K π W (relI X.K) c F σ R (.ok (enumL 0 ds) ρ1) := P
        cases d with
        | tup es =>
          cases ed
          refine .inr ⟨c, F, ρ, S, ?_⟩
          rw [ef]
          intro v F1 H1 s1 S1 r1
          cases r1 with
          | tup h1 rs => exact ⟨_, _, rfl, sm_tup S1.f h1, P _ F1 H1 s1 S1 (wk_enumT h1 rs)⟩
        | lst es =>
          cases ed
          refine .inl ⟨c, F, ρ, S, ?_⟩
          rw [ef]
          intro v F1 H1 s1 S1 r1
          cases r1 with
          | lst h1 rs => exact ⟨_, _, rfl, SqL.of (S1.f _ _ h1), P _ F1 H1 s1 S1 (wk_enumL (SqL.of h1) rs)⟩
        | scr ns =>
          cases ed
          refine .inl ⟨c, F, ρ, S, ?_⟩
          rw [ef]
          intro v F1 H1 s1 S1 r1
          cases r1 with
          | scr h1 => exact ⟨_, _, rfl, Same.seq S1.f h1, P _ F1 H1 s1 S1 (wk_enumL h1 (Reps.ints _))⟩
        | _ => cases ed
end
end FL
/-! FL15: new lists of our own, comprehensions stored on one line. -/
namespace FL
open PySem PySem.Spec PyProof.Rows L2
section
variable [FE]
variable {X : Cx} {π : Nat → Addr} {W : WX}
theorem rd_frz {K : PySem.W.Frag} {f : Rho → R M} {σ : L2.St} {H : Hp} {Q : VK} (t : tE K π W (frz f) σ H Q) : tM K π W f σ H Q := by
  obtain ⟨c, F, ρ, S, P⟩ := t
  refine po_bind S P fun v F1 H1 ρ1 m s1 S1 r1 P1 => ?_
  obtain ⟨p, rfl, f1, f2, f3, hm⟩ := r1
  cases m with
  | ins C fs => exact P1.elim
  | lst ds =>
    obtain ⟨vs, ho, r⟩ := hm
    obtain ⟨sm, S'⟩ := frz_new S1 ho f1 f2 f3
    exact P1 _ _ H1 sm S' (.lst upd_same (r.mono sm))
/-- name = [.. for ..] on one line, as data -/
theorem fs_setLc {i : Nat} {y : Str} {py : Pos} {elt tg iter : Expr} {ifs : List Expr} {scope : Scope} {own : List (Str × Nat)} {pos spos : Pos} {it : IF} {g : GF} {t : TF} {f : EF} {ns : List Nat} (hc : X.calm = true) (hN : X.N.Nodup) (hy : X.N[i]? = some y) (hyl : X.env.scope.names.lookup y = some .local)
    (hsw : swapsWith (.ListComp elt [⟨tg, iter, ifs, 0⟩] scope pos) (some (.Name y py)) spos.line X.env = pure true) (hi : PI X tg iter (tI X.K π W it)) (ok : BlkOk X.N X.env.scope scope own)
    (hg : ∀ (s : Shared) (H : Hp) (C : Addr) (cl : List (Str × Addr)) (fp : List Addr), PG (X.blk s H scope (compEnvC scope cl C X.env) fp) tg (tGt X.K π ns g))
    (ht : ∀ (s : Shared) (H : Hp) (C : Addr) (cl : List (Str × Addr)) (fp : List Addr), PTs (X.blk s H scope (compEnvC scope cl C X.env) fp) ifs (tT X.K π W0 t))
    (he : ∀ (s : Shared) (H : Hp) (C : Addr) (cl : List (Str × Addr)) (fp : List Addr), PE (X.blk s H scope (compEnvC scope cl C X.env) fp) elt (tE X.K π W0 f))
    (hns : ∀ j ∈ ns, j ∈ own.map (·.2)) (hs : ∀ x, foldedSetIterable iter X.env x = pure x := by intro _; rfl) : PS X (.Assign [.Name y py] (.ListComp elt [⟨tg, iter, ifs, 0⟩] scope pos) spos) (tS X.K π W (setS i (frz (cmpM (own.map (·.2)) it g t f)))) :=
  PS.imp (ps_setLc hc hN hy hyl hsw hi ok hg ht he (hs := hs)) fun D σ H ⟨c, F, ρ, h0, S, P⟩ => by
    refine rd_lc hns (rd_frz (pos_bind S P fun v F1 H1 ρ1 d s1 S1 r1 P1 => ?_))
    unfold setR at P1
    split at P1
    · rename_i hl
      exact P1 _ F1 H1 (Same.refl _) (S1.set hl r1)
    · exact P1.elim
/-- .. as our own list -/
theorem fs_setLcM {i : Nat} {y : Str} {py : Pos} {elt tg iter : Expr} {ifs : List Expr} {scope : Scope} {own : List (Str × Nat)} {pos spos : Pos} {it : IF} {g : GF} {t : TF} {f : EF} {ns : List Nat} (hc : X.calm = true) (hN : X.N.Nodup) (hy : X.N[i]? = some y) (hyl : X.env.scope.names.lookup y = some .local)
    (hsw : swapsWith (.ListComp elt [⟨tg, iter, ifs, 0⟩] scope pos) (some (.Name y py)) spos.line X.env = pure true) (hi : PI X tg iter (tI X.K π W it)) (ok : BlkOk X.N X.env.scope scope own)
    (hg : ∀ (s : Shared) (H : Hp) (C : Addr) (cl : List (Str × Addr)) (fp : List Addr), PG (X.blk s H scope (compEnvC scope cl C X.env) fp) tg (tGt X.K π ns g))
    (ht : ∀ (s : Shared) (H : Hp) (C : Addr) (cl : List (Str × Addr)) (fp : List Addr), PTs (X.blk s H scope (compEnvC scope cl C X.env) fp) ifs (tT X.K π W0 t))
    (he : ∀ (s : Shared) (H : Hp) (C : Addr) (cl : List (Str × Addr)) (fp : List Addr), PE (X.blk s H scope (compEnvC scope cl C X.env) fp) elt (tE X.K π W0 f))
    (hns : ∀ j ∈ ns, j ∈ own.map (·.2)) (hs : ∀ x, foldedSetIterable iter X.env x = pure x := by intro _; rfl) : PS X (.Assign [.Name y py] (.ListComp elt [⟨tg, iter, ifs, 0⟩] scope pos) spos) (tS X.K π W (setM i (cmpM (own.map (·.2)) it g t f))) :=
  PS.imp (ps_setLc hc hN hy hyl hsw hi ok hg ht he (hs := hs)) fun D σ H ⟨c, F, ρ, h0, S, P⟩ => by
    refine rd_lc hns (pos_bind (rel := relM X.K) S P fun v F1 H1 ρ1 m s1 S1 r1 P1 => ?_)
    obtain ⟨p, rfl, f1, f2, f3, hm⟩ := r1
    unfold setR at P1
    split at P1
    · rename_i hl
      exact P1 _ F1 H1 (Same.refl _) (S1.setOwn hl f1 (.inl f2) hm f3)
    · exact P1.elim
end
section
variable [FE]
variable {X : Cx} {π : Nat → Addr} {W : WX} {a b e : Expr} {es : List Expr} {pos p p2 : Pos} {x : Str}
/-- a new list at p that is ours alone -/
theorem new_lst {K : PySem.W.Frag} {c : Cfg} {F H : Hp} {σ : L2.St} {ρ : Rho} (S : Sta K π c F H σ ρ) {q : Addr} (hq : H q = none) {vs : List V} {ds : List D} (r : Reps K F vs ds) : Sta K π c F (upd H q (.lst vs)) σ ρ ∧ relM K c F (upd H q (.lst vs)) σ ρ (.ref q) (.lst ds) := by
  obtain ⟨f1, f2, f3⟩ := S.fresh hq
  exact ⟨S.grow (Grw.newO (o := .lst vs) S.f hq), q, rfl, f1, f2, f3, vs, upd_same, r⟩
def litM (f : Rho → R (List D)) : Rho → R M := fun ρ => (f ρ).bind fun ds ρ => match ds with
  | [d] => (R.of (seqD d) ρ).bind fun xs ρ => .ok (.lst xs) ρ
  | _ => .stuck
/-- list(x), a new list of our own -/
theorem fm_list {g : Rho → R (List D)} (hg : Gl X x) (hm : X.mg x = none) (hv : bootBuiltins x = some (.type "list")) (ha : PA X (e :: es) (tA X.K π W g)) (hn : x ≠ "__name__" := by decide) (hdb : (x == ("__debug__" : Str)) = false := by decide)
    (he : starEach (e :: es) X.env = (false, eval e X.env) :: starEach es X.env := by rfl) (hpl : (backTo pos (starEach es X.env)).any (·.1) = false := by rfl) : PE X (.Call (.Name x p) (e :: es) [] pos) (tM X.K π W (litM g)) :=
  PE.imp (pe_callTy call_list_of hg hm hv ha hn hdb he hpl) fun σ H Q ⟨c, F, ρ, S, P⟩ => by
    refine po_bind S P fun vs F1 H1 ρ1 ds s1 S1 r1 P1 => ?_
    split at P1
    · rename_i d
      obtain ⟨v, rfl, rv⟩ := Reps.one r1
      cases ed : seqD d with
      | none => rw [ed] at P1; exact P1.elim
      | some xs =>
        rw [ed] at P1
        obtain ⟨q, ys, rfl, hx, rs⟩ := seq_rep S1.f rv ed
        refine ⟨q, ys, rfl, hx.symm, fun l hl => ?_⟩
        obtain ⟨S2, rm⟩ := new_lst S1 hl rs
        exact P1 _ F1 _ (Same.refl _) S2 rm
    · exact P1.elim
/-- x + e, both lists, x our own -/
def catO (i : Nat) (f : EF) : Rho → R M := fun ρ => match getM i ρ with
  | none => .stuck
  | some _ => (f ρ).bind fun d ρ => match getM i ρ, d with
    | some (ds, _), .lst es => if small (ds.length + es.length) = true then .ok (.lst (ds ++ es)) ρ else .stuck
    | _, _ => .stuck
theorem fm_catO {i : Nat} {f : EF} {px : Pos} (hx : PE X (.Name x px) (tVar i)) (hb : PE X b (tE X.K π W f)) : PE X (.BinOp (.Name x px) .Add b pos) (tM X.K π W (catO i f)) :=
  PE.imp (pe_op op_cat hx hb) fun σ H Q ⟨c, F, ρ, S, P⟩ => by
    unfold catO at P
    split at P
    · exact P.elim
    · rename_i z eg
      obtain ⟨ds0, k0⟩ := z
      obtain ⟨q, vs0, e0, ho0, _⟩ := S.getM eg
      refine ⟨.ref q, e0, ?_⟩
      refine po_bind S P fun w F2 H2 ρ2 d s2 S2 r2 P3 => ?_
      split at P3
      · rename_i ds k es eg2
        split at P3
        · rename_i hz
          obtain ⟨q', vs, e1, ho, rr, fin⟩ := S2.getM eg2
          rw [e0] at e1
          cases e1
          cases r2 with
          | lst h1 rs =>
            have hl := small_le hz
            refine ⟨q, _, vs, _, rfl, rfl, ho, S2.f _ _ h1, le_line (by rw [Reps.length rr, Reps.length rs]; exact hl), fun l hl => ?_⟩
            obtain ⟨S3, rm⟩ := new_lst S2 hl (rr.append rs)
            exact P3 _ F2 _ (Same.refl _) S3 rm
        · exact P3.elim
      · exact P3.elim
/-- a + b, both lists, a new list of our own -/
def catM (f g : EF) : Rho → R M := fun ρ => (f ρ).bind fun d ρ => (g ρ).bind fun e ρ => match d, e with
  | .lst ds, .lst es => if small (ds.length + es.length) = true then .ok (.lst (ds ++ es)) ρ else .stuck
  | _, _ => .stuck
theorem fm_cat {f g : EF} (ha : PE X a (tE X.K π W f)) (hb : PE X b (tE X.K π W g)) : PE X (.BinOp a .Add b pos) (tM X.K π W (catM f g)) :=
  PE.imp (pe_op op_cat ha hb) fun σ H Q ⟨c, F, ρ, S, P⟩ => by
    refine po_bind S P fun v F1 H1 ρ1 d s1 S1 r1 P1 => ?_
    refine po_bind S1 P1 fun w F2 H2 ρ2 e s2 S2 r2 P2 => ?_
    split at P2
    · rename_i ds es
      split at P2
      · rename_i hz
        have hl := small_le hz
        cases r1 with
        | lst h1 rs1 =>
          cases r2 with
          | lst h2 rs2 =>
            refine ⟨_, _, _, _, rfl, rfl, S2.f _ _ (s2 _ _ h1), S2.f _ _ h2, le_line (by rw [Reps.length rs1, Reps.length rs2]; exact hl), fun l hl => ?_⟩
            obtain ⟨S3, rm⟩ := new_lst S2 hl ((rs1.mono s2).append rs2)
            exact P2 _ F2 _ (Same.refl _) S3 rm
      · exact P2.elim
    · exact P2.elim
/-- x[a:b] of our own list, as data -/
def slM (i : Nat) (g h : Rho → R (Option Int)) : EF := fun ρ => match getM i ρ with
  | none => .stuck
  | some _ => (g ρ).bind fun l ρ => (h ρ).bind fun u ρ => match getM i ρ with
    | some (ds, _) => .ok (.lst (cut ds l u)) ρ
    | none => .stuck
theorem fe_slM {i : Nat} {g h : Rho → R (Option Int)} {lo hi : Option Expr} {px : Pos} (hx : PE X (.Name x px) (tVar i)) (hl : PO X lo (tO X.K π W g)) (hu : PO X hi (tO X.K π W h)) : PE X (.Subscript (.Name x px) (.Slice lo hi none p2) pos) (tE X.K π W (slM i g h)) :=
  PE.imp (pe_slice (r := rSlL X.K) sl_list hx hl hu) fun σ H Q ⟨c, F, ρ, S, P⟩ => by
    unfold slM at P
    split at P
    · exact P.elim
    · rename_i z eg
      obtain ⟨ds0, k0⟩ := z
      obtain ⟨q, vs0, e0, ho0, _⟩ := S.getM eg
      refine ⟨.ref q, e0, ?_⟩
      refine po_bind S P fun l F2 H2 ρ2 dl s2 S2 r2 P2 => ?_
      refine po_bind S2 P2 fun u F3 H3 ρ3 du s3 S3 r3 P3 => ?_
      cases r2
      cases r3
      split at P3
      · rename_i ds k eg2
        obtain ⟨q', vs, e1, ho, rr, fin⟩ := S3.getM eg2
        rw [e0] at e1
        cases e1
        refine ⟨q, vs, rfl, SqL.of ho, fun l' hl' => ?_⟩
        have gr := Grw.newF (o := .lst (cutV vs l u)) S3.f hl'
        exact P3 _ _ _ gr.f (S3.grow gr) (.lst upd_same ((Reps.mono gr.f rr).cut l u))
      · exact P3.elim
end
end FL
/-! FL16: sorted of whole numbers. -/
namespace FL
open PySem PySem.Spec PyProof.Rows L2
def asInts : List D → Option (List Int)
  | [] => some []
  | .int i :: ds => (asInts ds).map (i :: ·)
  | _ :: _ => none
theorem asInts_eq : ∀ {ds : List D} {ns : List Int}, asInts ds = some ns → ds = ns.map D.int
  | [], ns, e => by cases e; rfl
  | .int i :: ds, ns, e => by
    unfold asInts at e
    cases h : asInts ds with
    | none => rw [h] at e; cases e
    | some ms => rw [h] at e; cases e; rw [asInts_eq h]; rfl
theorem asInts_map : ∀ ns : List Int, asInts (ns.map D.int) = some ns
  | [] => rfl
  | n :: ns => by show (asInts (ns.map D.int)).map (n :: ·) = _; rw [asInts_map ns]; rfl
/-- insertion of a number, sorting by it -/
def insI (x : Int) : List Int → List Int
  | [] => [x]
  | y :: ys => if x ≤ y then x :: y :: ys else y :: insI x ys
def srtI : List Int → List Int
  | [] => []
  | x :: xs => insI x (srtI xs)
theorem insI_perm (x : Int) : ∀ xs : List Int, (insI x xs).Perm (x :: xs)
  | [] => .refl _
  | y :: ys => by
    unfold insI
    split
    · exact .refl _
    · exact ((insI_perm x ys).cons y).trans (.swap x y ys)
theorem srtI_perm : ∀ xs : List Int, (srtI xs).Perm xs
  | [] => .refl _
  | x :: xs => (insI_perm x (srtI xs)).trans ((srtI_perm xs).cons x)
theorem insI_pw (x : Int) : ∀ {xs : List Int}, xs.Pairwise (· ≤ ·) → (insI x xs).Pairwise (· ≤ ·)
  | [], _ => by simp [insI]
  | y :: ys, h => by
    obtain ⟨h1, h2⟩ := List.pairwise_cons.mp h
    unfold insI
    split
    · next c =>
      refine List.pairwise_cons.mpr ⟨fun z hz => ?_, h⟩
      rcases List.mem_cons.mp hz with rfl | hz
      · exact c
      · exact Int.le_trans c (h1 z hz)
    · next c =>
      refine List.pairwise_cons.mpr ⟨fun z hz => ?_, insI_pw x h2⟩
      rcases List.mem_cons.mp ((insI_perm x ys).mem_iff.mp hz) with rfl | hz
      · omega
      · exact h1 z hz
theorem srtI_pw : ∀ xs : List Int, (srtI xs).Pairwise (· ≤ ·)
  | [] => .nil
  | x :: xs => insI_pw x (srtI_pw xs)
theorem pw_perm_eq : ∀ {xs ys : List Int}, xs.Perm ys → xs.Pairwise (· ≤ ·) → ys.Pairwise (· ≤ ·) → xs = ys
  | [], ys, p, _, _ => (List.nil_perm.mp p).symm
  | x :: xs, [], p, _, _ => absurd (List.perm_nil.mp p) (by simp)
  | x :: xs, y :: ys, p, h, k => by
    obtain ⟨h1, h2⟩ := List.pairwise_cons.mp h
    obtain ⟨k1, k2⟩ := List.pairwise_cons.mp k
    have e : x = y := by
      rcases List.mem_cons.mp (p.mem_iff.mp (List.mem_cons_self)) with a | a
      · exact a
      · rcases List.mem_cons.mp (p.mem_iff.mpr (List.mem_cons_self)) with b | b
        · exact b.symm
        · exact Int.le_antisymm (h1 y b) (k1 x a)
    subst e
    rw [pw_perm_eq (List.perm_cons x |>.mp p) h2 k2]
theorem srtI_of {xs ys : List Int} (p : ys.Perm xs) (h : ys.Pairwise (· ≤ ·)) : ys = srtI xs :=
  pw_perm_eq (p.trans (srtI_perm xs).symm) h (srtI_pw xs)
/-- sorted(x), a list of whole numbers, as data -/
def sortC : List D → Option D
  | [.lst xs] => (asInts xs).map fun ns => .lst ((srtI ns).map D.int)
  | [.scr ns] => some (.lst ((srtI ns).map D.int))
  | _ => none
variable [FE] in
theorem q_sort {K : PySem.W.Frag} : OpC K sortC (rSortedI K) := by
  intro F H vs ds d Q s r e k
  unfold sortC at e
  split at e
  · next xs =>
    cases h : asInts xs with
    | none => rw [h] at e; cases e
    | some ns =>
      rw [h] at e
      cases e
      cases asInts_eq h
      obtain ⟨v, rfl, h⟩ := Reps.one r
      cases h with
      | lst h1 r1 =>
        cases Reps.of_ints r1
        refine ⟨_, ns, rfl, SqL.of (s _ _ h1), fun ns' p pm pw hp => ?_⟩
        cases srtI_of pm pw
        exact k _ _ _ (Grw.newF s hp) (.lst upd_same (Reps.ints _))
  · next ns =>
    cases e
    obtain ⟨v, rfl, h⟩ := Reps.one r
    cases h with
    | scr h1 =>
      refine ⟨_, ns, rfl, Same.seq s h1, fun ns' p pm pw hp => ?_⟩
      cases srtI_of pm pw
      exact k _ _ _ (Grw.newF s hp) (.lst upd_same (Reps.ints _))
  · cases e
end FL
/-! FL17: set of a list of whole numbers, and sorted of such a set. -/
namespace FL
open PySem PySem.Spec PyProof.Rows L2
/-- a set that has just been made -/
abbrev newS (w : World) : Obj := { cls := .type "set", dict := none, data := .set #[] 0 (.fresh 0 0 (!w.params.followText "set-order")) }
section
variable {P : Program} {w : World} {A : Around} {E : Value → Shared → Prop} {s : Shared}
/-- what set.__init__ leaves: a set of the numbers at p, all that was there is there -/
def Filled (w : World) (p : Addr) (ns : List Int) (s s' : Shared) : Prop :=
  ∃ h' tk c, s' = { s with heap := h', toks := tk } ∧ SetR w h' p (fun j => decide (j ∈ ns)) c ∧ c ≤ ns.length ∧ ∀ b o, s.heap.get? b = some o → h'.get? b = some o
set_option maxHeartbeats 6400000 in
theorem set_listI {l : Addr} {items : Array Value} (ns : List Int) {Q : Value → Shared → Prop} (hh : A.handled = none) (hl : s.heap.IsList l items) (hit : IntsAre items.toList ns) (hb : ns.length + 1 < scanBound)
    (h : ∀ s', Filled w s.heap.objs.size ns s s' → Q (.ref s.heap.objs.size) s') :
    wpAny (model P w) A (call (.type "set") [.ref l]) Q E s := by
  have hz : items.size = ns.length := by rw [← IntsAre.length hit, Array.length_toList]
  obtain ⟨c, tl, hmro⟩ := F.called_set.mro
  have hmade := F.called_set.made
  have hsub := F.called_set.sub
  have h1 := F.called_set.notType
  have h2 := F.called_set.canCreate
  have hct := F.typeCall_set_1 (.ref l)
  have hli := F.called_set.init.lookup
  have hbi := F.called_set.init.bind (.ref s.heap.objs.size)
  have hlS : l < s.heap.objs.size := hl.elim fun o q => Heap.lt_size q.1
  have hS : (s.heap.push (newS w)).get? s.heap.objs.size = some (newS w) := Heap.get?_push_size _ rfl
  have hT : Shared.TypeIs { s with heap := s.heap.push (newS w) } (.ref s.heap.objs.size) "set" := ⟨_, hS, rfl⟩
  refine wpAny_call (codeAny_of_tree ?_)
  show wpAny _ _ (callAny (.type "set") _) _ _ _
  refine wpAny_pure ⟨Code.quiet_builtin _ (by decide +kernel), codeAny_builtin F.entry_type_call ?_⟩
  rw [Around.under_plain (weight_type_call_type "set" [.ref l] []) rfl]
  repeat (any_goals (first | assumption | wp_step))
  refine codeAny_mono (code_set_led1 (.ref l) (E := E) (Q₁ := fun obj t => obj = .ref s.heap.objs.size ∧ t = { s with heap := s.heap.push (newS w) }) ⟨rfl, rfl⟩) fun r t hr => ?_
  match r, hr with
  | .error e, hr => exact hr
  | .ok (.ret obj), hr =>
    obtain ⟨rfl, rfl⟩ := hr
    repeat (any_goals (first | assumption | wp_step))
    refine codeAny_mono (codeAny_call_builtin (R := wants (fun r t => r = .none ∧ Filled w s.heap.objs.size ns s t) E) F.called_set.init.plain F.entry_set_init (check_set_init_1 hT ?_)) fun r t hr => ?_
    · have hsls := F.sub_list_set
      have hslf := F.sub_list_frozenset
      have hne : (Value.type "list" == Value.type "dict") = false := by decide
      obtain ⟨⟨cl, di, da, sl⟩, ho, hc, nl, hd⟩ := hl
      simp only at hc hd
      subst hc
      subst hd
      have ho1 : (s.heap.push (newS w)).get? l = some { cls := .type "list", dict := di, data := .seq items nl, slots := sl } := Heap.get?_push_of_some _ ho
      have hl1 : (s.heap.push (newS w)).IsList l items := ⟨_, ho1, rfl, nl, rfl⟩
      unfold Builtin.«set.__init__» noKeywords Builtin.Frozenset.updateFrom
      generalize hPI : pyIter = PI
      wp_walk
      subst hPI
      refine wpAny_pyIter_list hl1 (wpAny_bind (wpAny_runValue ?_))
      have e1 : (s.heap.push (newS w)).objs.size = s.heap.objs.size + 1 := Heap.size_push ..
      have neq : ∀ b, b < s.heap.objs.size → b ≠ (s.heap.push (newS w)).objs.size := fun b hb => by rw [e1]; exact Nat.ne_of_lt (Nat.lt_succ_of_lt hb)
      have nel := neq l hlS
      have nes : s.heap.objs.size ≠ (s.heap.push (newS w)).objs.size := by rw [e1]; exact Nat.ne_of_lt (Nat.lt_succ_self _)
      have hval : ∀ (i : Nat) (v : Value), items[i]? = some v → ∃ k t, ns[i]? = some k ∧ v = .int k t := fun i v hv => by
        have hi : i < ns.length := hz ▸ (Array.getElem?_eq_some_iff.mp hv).1
        obtain ⟨t, e⟩ := IntsAre.int_at hit i v (by rw [Array.getElem?_toList]; exact hv)
        exact ⟨ns[i], t, List.getElem?_eq_getElem hi, by rw [e, List.getD_eq_getElem?_getD, List.getElem?_eq_getElem hi]; rfl⟩
      refine set_update_ints ((Walks.list (by simp [hh]) _ l nel items).toS) s.heap.objs.size (by
        simp only [List.mem_cons, List.not_mem_nil, or_false, not_or]
        exact ⟨nes, Nat.ne_of_gt hlS⟩) ns hz hb hval (items.size - 0) 0 _ (by omega) (Nat.zero_le _) ⟨⟨_, Heap.get?_push_size _ rfl, rfl, rfl⟩, hl1.push _⟩ ⟨0, Nat.le_refl 0, setR_new_at (Heap.get?_push_of_some _ hS)⟩ ?_
      intro s' c' hm hc' hS'
      obtain ⟨h', g2, d', tk', os'⟩ := s'
      cases (show g2 = s.gens from hm.gens)
      cases (show d' = s.drawn from hm.drawn)
      cases (show os' = s.os from hm.os)
      refine wpAny_pure (wpAny_pure ⟨rfl, h', tk', c', rfl, hS', hz ▸ hc', fun b o e => ?_⟩)
      have hb0 : b < s.heap.objs.size := Heap.lt_size e
      exact hm.heap b o (by simp only [List.mem_cons, List.not_mem_nil, or_false, not_or]; exact ⟨Nat.ne_of_lt hb0, neq b hb0⟩) (Heap.get?_push_of_some _ (Heap.get?_push_of_some _ e))
    · match r, hr with
      | .error e, hr => exact hr
      | .ok (.ret r), hr =>
        obtain ⟨rfl, f⟩ := hr
        have f' := f
        obtain ⟨h', tk, c', rfl, hS', hc', hk'⟩ := f
        repeat (any_goals (first | assumption | wp_step))
        exact h _ f'
end
end FL
/-! FL18: sorted(set(x)), x a list of fewer than 64 whole numbers. -/
namespace FL
open PySem PySem.Spec PyProof.Rows L2
/-- insertion without doubles, sorting without doubles -/
def insU (x : Int) : List Int → List Int
  | [] => [x]
  | y :: ys => if x < y then x :: y :: ys else if x = y then y :: ys else y :: insU x ys
def srtU : List Int → List Int
  | [] => []
  | x :: xs => insU x (srtU xs)
theorem insU_mem (x z : Int) : ∀ xs : List Int, z ∈ insU x xs ↔ z = x ∨ z ∈ xs
  | [] => by simp [insU]
  | y :: ys => by
    unfold insU
    split
    · simp
    · split
      · next e => subst e; simp
      · rw [List.mem_cons, insU_mem x z ys, List.mem_cons]
        constructor
        · rintro (h | h | h)
          · exact .inr (.inl h)
          · exact .inl h
          · exact .inr (.inr h)
        · rintro (h | h | h)
          · exact .inr (.inl h)
          · exact .inl h
          · exact .inr (.inr h)
theorem srtU_mem (z : Int) : ∀ xs : List Int, z ∈ srtU xs ↔ z ∈ xs
  | [] => .rfl
  | x :: xs => by
    show z ∈ insU x (srtU xs) ↔ _
    rw [insU_mem, srtU_mem z xs, List.mem_cons]
theorem insU_pw (x : Int) : ∀ {xs : List Int}, xs.Pairwise (· < ·) → (insU x xs).Pairwise (· < ·)
  | [], _ => by simp [insU]
  | y :: ys, h => by
    obtain ⟨h1, h2⟩ := List.pairwise_cons.mp h
    unfold insU
    split
    · next c =>
      refine List.pairwise_cons.mpr ⟨fun z hz => ?_, h⟩
      rcases List.mem_cons.mp hz with rfl | hz
      · exact c
      · exact Int.lt_trans c (h1 z hz)
    · split
      · exact h
      · refine List.pairwise_cons.mpr ⟨fun z hz => ?_, insU_pw x h2⟩
        rcases (insU_mem x z ys).mp hz with rfl | hz
        · omega
        · exact h1 z hz
theorem srtU_pw : ∀ xs : List Int, (srtU xs).Pairwise (· < ·)
  | [] => .nil
  | x :: xs => insU_pw x (srtU_pw xs)
theorem pw_mem_eq : ∀ {xs ys : List Int}, (∀ k, k ∈ xs ↔ k ∈ ys) → xs.Pairwise (· < ·) → ys.Pairwise (· < ·) → xs = ys
  | [], [], _, _, _ => rfl
  | [], y :: ys, m, _, _ => absurd ((m y).mpr List.mem_cons_self) (by simp)
  | x :: xs, [], m, _, _ => absurd ((m x).mp List.mem_cons_self) (by simp)
  | x :: xs, y :: ys, m, h, k => by
    obtain ⟨h1, h2⟩ := List.pairwise_cons.mp h
    obtain ⟨k1, k2⟩ := List.pairwise_cons.mp k
    have e : x = y := by
      rcases List.mem_cons.mp ((m x).mp List.mem_cons_self) with a | a
      · exact a
      · rcases List.mem_cons.mp ((m y).mpr List.mem_cons_self) with b | b
        · exact b.symm
        · have := h1 y b
          have := k1 x a
          omega
    subst e
    congr 1
    refine pw_mem_eq (fun z => ⟨fun hz => ?_, fun hz => ?_⟩) h2 k2
    · rcases List.mem_cons.mp ((m z).mp (List.mem_cons_of_mem _ hz)) with rfl | a
      · exact absurd (h1 z hz) (Int.lt_irrefl _)
      · exact a
    · rcases List.mem_cons.mp ((m z).mpr (List.mem_cons_of_mem _ hz)) with rfl | a
      · exact absurd (k1 z hz) (Int.lt_irrefl _)
      · exact a
/-- sorted(set(x)), as data -/
def sortSetC : List D → Option D
  | [.lst xs] => (asInts xs).bind fun ns => if ns.length < 64 then some (.lst ((srtU ns).map D.int)) else none
  | _ => none
/-- set(xs), a list of whole numbers -/
def rSetL (K : PySem.W.Frag) (w : World) : List V → Hp → VK → Prop := fun xs H Q => ∃ (l : Addr) (ns : List Int), xs = [V.ref l] ∧ SqL K H l (ns.map V.int) ∧ ns.length < 64 ∧
  ∀ a c, H a = none → c ≤ ns.length → Q (.ref a) (upd H a (SetO w a (fun j => decide (j ∈ ns)) c))
section
variable [FE]
variable {X : Cx} {π : Nat → Addr} {W : WX}
theorem cr_setL (hc : X.calm = true) : CallR X (.type "set") (rSetL X.K X.w) := by
  intro pins s σ H xs us Q I r h
  obtain ⟨l, ns, rfl, hl, hf, q⟩ := h
  rw [Vals.ref1 r]
  obtain ⟨its, rv, pl, hz⟩ := I.list hl
  refine set_listI ns (I.ok.hd hc) pl.isList (by simpa using ints_of_vals rv) (by unfold scanBound; omega) fun s' f => ?_
  obtain ⟨h', tk, c, rfl, R, hcn, k⟩ := f
  exact ⟨.ref s.heap.objs.size, upd H s.heap.objs.size (SetO X.w s.heap.objs.size _ c), I.laid (t' := tk) k (Nat.le_refl _) (setO_new R), rfl, q _ c (I.hok.fresh (Nat.le_refl _)) hcn⟩
theorem q_sortSet {K : PySem.W.Frag} {w : World} : OpC K sortSetC (fun xs H Q => rSetL K w xs H fun v H1 => rSortedSet w [v] H1 Q) := by
  intro F H vs ds d Q s r e k
  unfold sortSetC at e
  split at e
  · next xs =>
    cases h : asInts xs with
    | none => rw [h] at e; cases e
    | some ns =>
      rw [h] at e
      simp only [Option.bind_some] at e
      split at e
      · next hf =>
        cases e
        cases asInts_eq h
        obtain ⟨v, rfl, h⟩ := Reps.one r
        cases h with
        | lst h1 r1 =>
          cases Reps.of_ints r1
          refine ⟨_, ns, rfl, SqL.of (s _ _ h1), hf, fun a c ha hc => ⟨a, _, c, rfl, upd_same, by omega, fun ns' p pw hm _ hp => ?_⟩⟩
          have e : ns' = srtU ns := pw_mem_eq (fun z => by rw [hm z, srtU_mem]; exact decide_eq_true_iff) pw (srtU_pw ns)
          subst e
          exact k _ _ _ ((Grw.newO s ha).trans (Grw.newF (sm_updR s (Same.free s ha)) hp)) (.lst upd_same (Reps.ints _))
      · cases e
  · cases e
theorem fe_sortSet {e : Expr} {p p2 pos pos2 : Pos} {g : Rho → R (List D)} (hc : X.calm = true) (hg : Gl X "sorted") (hm : X.mg "sorted" = none) (hg2 : Gl X "set") (hm2 : X.mg "set" = none) (ha : PA X [e] (tA X.K π W g))
    (he : starEach [e] X.env = (false, eval e X.env) :: starEach [] X.env := by rfl) (hpl : (backTo pos2 (starEach [] X.env)).any (·.1) = false := by rfl) :
    PE X (.Call (.Name "sorted" p) [.Call (.Name "set" p2) [e] [] pos2] [] pos) (tE X.K π W (opC sortSetC g)) :=
  PE.imp (pe_callB (cr_sortedSet hc) hg hm (by decide +kernel) (pa_cons (pe_callTy (cr_setL hc) hg2 hm2 (by decide +kernel) ha (by decide) (by decide) he hpl) pa_nil)) fun σ H Q t => show tCB (fun xs H Q => rSetL X.K X.w xs H fun v H1 => rSortedSet X.w [v] H1 Q) (tA X.K π W g) σ H Q from rd_opC q_sortSet t
end
end FL
/-! FL19: index and count of a list of flat things. -/
namespace FL
open PySem PySem.Spec PyProof.Rows L2

/-- how often, of flat things -/
def cntV (x : V) (ys : List V) : Nat := ys.countP fun y => eqV y x
def rCntF (K : PySem.W.Frag) : V → List V → Hp → VK → Prop := fun x xs H Q => ∃ (a : Addr) (ys : List V) (y : V), x = .ref a ∧ xs = [y] ∧ SqL K H a ys ∧ flatV y = true ∧ ys.all flatV = true ∧ Q (.int (cntV y ys : Nat)) H
theorem cnt_rel {y : V} : ∀ {ys : List V} {us : List Value}, Vals ys us → ys.all flatV = true → us.countP (eqU y) = cntV y ys
  | _, _, .nil, _ => rfl
  | z :: ys, u :: us, .cons r t, f => by
    rw [List.all_cons, Bool.and_eq_true] at f
    unfold cntV
    rw [List.countP_cons, List.countP_cons, eqU_of r f.1]
    congr 1
    exact cnt_rel t f.2
theorem mt_countF {X : Cx} : MtR X "list.count" (rCntF X.K) := by
  intro pins s σ H x xs v us Q I rx rxs h
  obtain ⟨a, ys, y, rfl, rfl, hs, fy, fys, q⟩ := h
  cases rx
  obtain ⟨uy, rfl, ry⟩ := rxs.one
  obtain ⟨its, rv, ⟨⟨cls, dd, data, sl⟩, n, ho, hc, hdn, hd⟩, hlen⟩ := I.list hs
  simp only at hc hd
  subst hc hd
  refine call_meets PySem.F.slot_list_count ⟨_, ho, rfl⟩ PySem.F.entry_list_count (PySem.F.args_list_count_2 _ _)
    (SeqAt.list_countAt a its.toArray n dd sl uy (eqU y)) ⟨ho, fun u' hu' => mem_eqAt ry fy rv fys u' (by simpa using hu'), ?_⟩
  have ec : its.toArray.toList.countP (eqU y) = cntV y ys := cnt_rel rv fys
  refine ⟨.int (cntV y ys : Nat), H, I.tok _, ⟨s.toks, ?_⟩, q⟩
  show Value.int ((its.toArray.toList.countP (eqU y) : Nat) : Int) s.toks = Value.int ((cntV y ys : Nat) : Int) s.toks
  rw [ec]
def cntL (ys : List D) (x : D) : Option D := if flatD x = true ∧ ys.all flatD = true then some (.int (ys.countP fun y => eqd y x : Nat)) else none
def idxL (ys : List D) (x : D) : Option D := if flatD x = true ∧ ys.all flatD = true then (ys.findIdx? fun y => eqd y x).map fun j => .int (j : Nat) else none
section
variable [FE]
variable {K : PySem.W.Frag} {F : Hp}
theorem cnt_rep {x : V} {dx : D} (r : Rep K F x dx) (h : flatD dx = true) : ∀ {vs : List V} {ds : List D}, Reps K F vs ds → ds.all flatD = true → cntV x vs = ds.countP fun y => eqd y dx
  | _, _, .nil, _ => rfl
  | _, _, .cons q qs, e => by
    rw [List.all_cons, Bool.and_eq_true] at e
    unfold cntV
    rw [List.countP_cons, List.countP_cons, eqv_rep q r e.1 h]
    congr 1
    exact cnt_rep r h qs e.2
end
/-- by a list's method on values: what the method asks of a list with these things -/
def MtL (K : PySem.W.Frag) (o : List D → D → Option D) (r : V → List V → Hp → VK → Prop) : Prop :=
  ∀ {F H : Hp} {a : Addr} {vs : List V} {ds : List D} {x : V} {dx d : D} {Q : VK}, SqL K H a vs → Reps K F vs ds → Rep K F x dx → o ds dx = some d → (∀ v, Rep K F v d → Q v H) → r (.ref a) [x] H Q
variable [FE] in
theorem ml_cnt {K : PySem.W.Frag} : MtL K cntL (rCntF K) := by
  intro F H a vs ds x dx d Q h1 r1 rx e k
  unfold cntL at e
  split at e
  · rename_i hz
    cases e
    exact ⟨a, vs, x, rfl, rfl, h1, flat_rep rx hz.1, flats_rep r1 hz.2, by rw [cnt_rep rx hz.1 r1 hz.2]; exact k _ (.int _)⟩
  · cases e
variable [FE] in
theorem ml_idx {K : PySem.W.Frag} : MtL K idxL (rIndex K) := by
  intro F H a vs ds x dx d Q h1 r1 rx e k
  unfold idxL at e
  split at e
  · rename_i hz
    cases ej : ds.findIdx? (fun y => eqd y dx) with
    | none => rw [ej] at e; cases e
    | some j =>
      rw [ej] at e
      cases e
      obtain ⟨hj, hp, hlt⟩ := List.findIdx?_eq_some_iff_getElem.mp ej
      obtain ⟨z, hz1, rz⟩ := r1.get (i := j) (d := ds[j]) (List.getElem?_eq_getElem hj)
      have fl : ∀ {m : Nat} {d' : D}, ds[m]? = some d' → flatD d' = true := fun hm => List.all_eq_true.mp hz.2 _ (List.mem_of_getElem? hm)
      refine ⟨a, vs, x, j, z, rfl, rfl, h1, flat_rep rx hz.1, flats_rep r1 hz.2, hz1, ?_, fun m z' hm hz' => ?_, k _ (.int _)⟩
      · rw [eqv_rep rz rx (fl (List.getElem?_eq_getElem hj)) hz.1]
        exact hp
      · obtain ⟨d', hd', rd'⟩ := r1.getv hz'
        rw [eqv_rep rd' rx (fl hd') hz.1]
        obtain ⟨hm2, rfl⟩ := List.getElem?_eq_some_iff.mp hd'
        exact Bool.eq_false_iff.mpr (hlt m hm)
  · cases e
/-- the method of our own list -/
def lmM (i : Nat) (o : List D → D → Option D) (g : EF) : EF := fun ρ => match getM i ρ with
  | none => .stuck
  | some _ => (g ρ).bind fun x ρ => match getM i ρ with
    | some (ds, _) => R.of (o ds x) ρ
    | none => .stuck
/-- the method of a list that is data -/
def lmD (o : List D → D → Option D) (f g : EF) : EF := fun ρ => (f ρ).bind fun x ρ => match x with
  | .lst ys => (g ρ).bind fun y ρ => R.of (o ys y) ρ
  | _ => .stuck
section
variable [FE]
variable {X : Cx} {π : Nat → Addr} {W : WX} {a b : Expr} {p apos cpos : Pos} {x : Str} {r : V → List V → Hp → VK → Prop} {o : List D → D → Option D}
theorem rd_lmD {f g : EF} {σ : L2.St} {H : Hp} {Q : VK} (q : MtL X.K o r) (t : tE X.K π W (lmD o f g) σ H Q) : tBM X.K "list" r (tE X.K π W f) (tCons (tE X.K π W g) tNil) σ H Q := by
  obtain ⟨c, F, ρ, S, P⟩ := t
  refine po_bind S P fun x F1 H1 ρ1 dx s1 S1 r1 P1 => ?_
  cases r1 <;> first | (exact P1.elim) | skip
  rename_i l vs ds h1 r1
  refine ⟨.inl ⟨rfl, vs, SqL.of (S1.f _ _ h1)⟩, ?_⟩
  refine po_bind S1 P1 fun y F2 H2 ρ2 dy s2 S2 r2 P2 => ?_
  obtain ⟨d, e, P3⟩ := po_of P2
  exact q (SqL.of (S2.f _ _ (s2 _ _ h1))) (r1.mono s2) r2 e fun v rv => P3 v F2 H2 (Same.refl _) S2 rv
theorem rd_lmM {i : Nat} {g : EF} {σ : L2.St} {H : Hp} {Q : VK} (q : MtL X.K o r) (t : tE X.K π W (lmM i o g) σ H Q) : tBM X.K "list" r (tVar i) (tCons (tE X.K π W g) tNil) σ H Q := by
  obtain ⟨c, F, ρ, S, P⟩ := t
  unfold lmM at P
  split at P
  · exact P.elim
  · rename_i z eg
    obtain ⟨ds0, k0⟩ := z
    obtain ⟨l, vs0, e0, ho0, _⟩ := S.getM eg
    refine ⟨.ref l, e0, .inl ⟨rfl, vs0, SqL.of ho0⟩, ?_⟩
    refine po_bind S P fun y F2 H2 ρ2 dy s2 S2 r2 P3 => ?_
    cases eg2 : getM i ρ2 with
    | none =>
      rw [eg2] at P3
      exact P3.elim
    | some z =>
      obtain ⟨ds, k⟩ := z
      rw [eg2] at P3
      obtain ⟨l', vs, e1, ho, rr, _⟩ := S2.getM eg2
      rw [e0] at e1
      cases e1
      obtain ⟨d, e, P4⟩ := po_of P3
      exact q (SqL.of ho) rr r2 e fun v rv => P4 v F2 H2 (Same.refl _) S2 rv
theorem fe_cntD {f g : EF} (ha : PE X a (tE X.K π W f)) (hb : PE X b (tE X.K π W g)) (hbase : attributeBase a "count" X.env (eval a X.env) = eval a X.env := by rfl)
    (hfew : ((backTo cpos (starEach [b] X.env)).all (fun x => !x.1) && (backToKw cpos (keywordEach [] X.env)).all (fun x => x.1.isSome) && decide ([b].length + ([] : List Keyword).length + (if ([] : List Keyword).isEmpty then 0 else 1) < 30)) = true := by rfl)
    (hline : (apos.endLine == cpos.line) = true := by rfl) (hst : starEach [b] X.env = (false, eval b X.env) :: starEach [] X.env := by rfl) (hpl : (backTo cpos (starEach [] X.env)).any (·.1) = false := by rfl) :
    PE X (.Call (.Attribute a "count" apos) [b] [] cpos) (tE X.K π W (lmD cntL f g)) :=
  PE.imp (pe_bm PySem.F.plainAttrs_list PySem.F.slot_list_count PySem.F.type_list_count mt_countF ha (pa_cons hb pa_nil hst) hbase hfew hline hst hpl) fun _ _ _ h => rd_lmD ml_cnt h
theorem fe_idxD {f g : EF} (ha : PE X a (tE X.K π W f)) (hb : PE X b (tE X.K π W g)) (hbase : attributeBase a "index" X.env (eval a X.env) = eval a X.env := by rfl)
    (hfew : ((backTo cpos (starEach [b] X.env)).all (fun x => !x.1) && (backToKw cpos (keywordEach [] X.env)).all (fun x => x.1.isSome) && decide ([b].length + ([] : List Keyword).length + (if ([] : List Keyword).isEmpty then 0 else 1) < 30)) = true := by rfl)
    (hline : (apos.endLine == cpos.line) = true := by rfl) (hst : starEach [b] X.env = (false, eval b X.env) :: starEach [] X.env := by rfl) (hpl : (backTo cpos (starEach [] X.env)).any (·.1) = false := by rfl) :
    PE X (.Call (.Attribute a "index" apos) [b] [] cpos) (tE X.K π W (lmD idxL f g)) :=
  PE.imp (pe_bm PySem.F.plainAttrs_list PySem.F.slot_list_index PySem.F.type_list_index mt_index ha (pa_cons hb pa_nil hst) hbase hfew hline hst hpl) fun _ _ _ h => rd_lmD ml_idx h
theorem fe_cntM {i : Nat} {g : EF} (ha : PE X (.Name x p) (tVar i)) (hb : PE X b (tE X.K π W g)) (hbase : attributeBase (.Name x p) "count" X.env (eval (.Name x p) X.env) = eval (.Name x p) X.env := by rfl)
    (hfew : ((backTo cpos (starEach [b] X.env)).all (fun x => !x.1) && (backToKw cpos (keywordEach [] X.env)).all (fun x => x.1.isSome) && decide ([b].length + ([] : List Keyword).length + (if ([] : List Keyword).isEmpty then 0 else 1) < 30)) = true := by rfl)
    (hline : (apos.endLine == cpos.line) = true := by rfl) (hst : starEach [b] X.env = (false, eval b X.env) :: starEach [] X.env := by rfl) (hpl : (backTo cpos (starEach [] X.env)).any (·.1) = false := by rfl) :
    PE X (.Call (.Attribute (.Name x p) "count" apos) [b] [] cpos) (tE X.K π W (lmM i cntL g)) :=
  PE.imp (pe_bm PySem.F.plainAttrs_list PySem.F.slot_list_count PySem.F.type_list_count mt_countF ha (pa_cons hb pa_nil hst) hbase hfew hline hst hpl) fun _ _ _ h => rd_lmM ml_cnt h
theorem fe_idxM {i : Nat} {g : EF} (ha : PE X (.Name x p) (tVar i)) (hb : PE X b (tE X.K π W g)) (hbase : attributeBase (.Name x p) "index" X.env (eval (.Name x p) X.env) = eval (.Name x p) X.env := by rfl)
    (hfew : ((backTo cpos (starEach [b] X.env)).all (fun x => !x.1) && (backToKw cpos (keywordEach [] X.env)).all (fun x => x.1.isSome) && decide ([b].length + ([] : List Keyword).length + (if ([] : List Keyword).isEmpty then 0 else 1) < 30)) = true := by rfl)
    (hline : (apos.endLine == cpos.line) = true := by rfl) (hst : starEach [b] X.env = (false, eval b X.env) :: starEach [] X.env := by rfl) (hpl : (backTo cpos (starEach [] X.env)).any (·.1) = false := by rfl) :
    PE X (.Call (.Attribute (.Name x p) "index" apos) [b] [] cpos) (tE X.K π W (lmM i idxL g)) :=
  PE.imp (pe_bm PySem.F.plainAttrs_list PySem.F.slot_list_index PySem.F.type_list_index mt_index ha (pa_cons hb pa_nil hst) hbase hfew hline hst hpl) fun _ _ _ h => rd_lmM ml_idx h
end
end FL
/-! FL20: the program's own exception classes: made, raised. -/
namespace FL
open PySem PySem.Spec PyProof.Rows L2 PySem.W PySem.HandSPX

/-- what is said of a built-in base -/
structure TlF (B nw ini : String) (tl : List Value) : Prop where
  base : ExcBaseFacts B nw ini tl
  st : StoreFacts B tl "object.__setattr__" "object"
theorem tlV : TlF "ValueError" "ValueError.__new__" "ValueError.__init__" [.type "ValueError", .type "Exception", .type "BaseException", .type "object"] := ⟨F.excBase_ValueError, F.store_ValueError⟩
theorem tlL : TlF "LookupError" "LookupError.__new__" "LookupError.__init__" [.type "LookupError", .type "Exception", .type "BaseException", .type "object"] := ⟨F.excBase_LookupError, F.store_LookupError⟩
theorem tlA : TlF "ArithmeticError" "ArithmeticError.__new__" "ArithmeticError.__init__" [.type "ArithmeticError", .type "Exception", .type "BaseException", .type "object"] := ⟨F.excBase_ArithmeticError, F.store_ArithmeticError⟩

/-- what the written part says of an own class with an __init__ that stores its arguments under fs -/
structure ExcK (K : Frag) (C fI : Addr) (nw : String) (tl : List Value) (fs : List Str) : Prop where
  q : excInitIn K C tl nw = true
  ov : excOver K C tl = true
  hd : hasDictIn K C = true
  sa : findIn K (.ref C) "__setattr__" = some (some (.builtin "object.__setattr__"))
  ex : subIn K (.ref C) (.type "BaseException") = some true
  ty : typeIn K (.ref C) = some (.type "type")
  kp : keepIn K (.ref C) = true
  ini : findIn K (.ref C) "__init__" = some (some (.ref fI))
  fn : typeIn K (.ref fI) = some (.type "function")
  tk : ∀ f ∈ fs, takerIn K C f = some none
section
variable {prog : Program} {w : World} {A : Around} {E : Value → Shared → Prop} {R : Result → Shared → Prop} {K : Frag} {C fI x t0 dx : Addr} {B nw ini : String} {tl : List Value} {fs : List Str} {name : Str} {tk : Tok} {v : Value} {hp : Heap} {g : Array GenState} {dr : Drawn} {tn : Nat} {os : OsState}
/-- the first field -/
theorem put_first (Tl : TlF B nw ini tl) (T : ExcK K C fI nw tl fs) (hf : name ∈ fs) (X : K.In hp) (hx : hp.get? x = some (excO C t0))
    (hq : ∀ h' tk' dx, (∀ b o, b ≠ x → hp.get? b = some o → h'.get? b = some o) → hp.objs.size ≤ dx → dx ≠ x → h'.get? x = some { excO C t0 with dict := some dx } → h'.Ns1 dx (fun y => if y = name then some v else none) → R (.ok (.ret .none)) ⟨h', g, dr, tk', os⟩) :
    codeAny (model prog w) A (.call (.builtin "object.__setattr__") ⟨[.ref x, .str name tk, v], []⟩) R ⟨hp, g, dr, tn, os⟩ := by
  obtain ⟨cd, hc, hd'⟩ := any_some T.hd
  have hxs : x < hp.objs.size := Heap.lt_size hx
  refine osa_openX (s := ⟨hp, g, dr, tn, os⟩) (od := none) Tl.st X ⟨hx, rfl, rfl, trivial⟩ T.ov (T.tk name hf) fun b => ?_
  refine wpAny_bind (wpAny_pure (wpAny_bind (instanceDict_exc (t := t0) (c2 := .none) hx (looks_clsIn X hc) hd' ?_)))
  show wpAny _ _ (Builtin.ObjectAttr.storeInDict hp.objs.size (.str name tk) name v) _ _ _
  have e1 : ((hp.push (dictOf [] 0)).update x fun o => { o with dict := some hp.objs.size }).get? hp.objs.size = some (dictOf [] 0) :=
    (Heap.get?_update_ne _ _ _ _ (Nat.ne_of_gt hxs)).trans (Heap.get?_push_size _ rfl)
  refine store_in_new ⟨_, #[], 0, e1, rfl, fun e he => absurd he (by simp), fun _ => rfl⟩ fun h' tk' hn hs => ?_
  refine hq h' tk' hp.objs.size (fun b o hb ho => ?_) (Nat.le_refl _) (Nat.ne_of_gt hxs) ?_ hn
  · exact (hs.2 b (Nat.ne_of_lt (Heap.lt_size ho))).trans ((Heap.get?_update_ne _ _ _ _ hb).trans (Heap.get?_push_of_some _ ho))
  · exact (hs.2 x (Nat.ne_of_lt hxs)).trans (Heap.get?_update_self _ (Heap.get?_push_of_some _ hx) rfl)
/-- a further field -/
theorem put_more {m0 : Str → Option Value} {nl : List Str} (Tl : TlF B nw ini tl) (T : ExcK K C fI nw tl fs) (hf : name ∈ fs) (X : K.In hp) (hx : hp.get? x = some { excO C t0 with dict := some dx }) (hns : hp.Ns1 dx m0) (hw : Within m0 nl) (hz : nl.length ≤ 1000)
    (hq : ∀ h' tk', (∀ b o, b ≠ dx → hp.get? b = some o → h'.get? b = some o) → h'.Ns1 dx (fun y => if y = name then some v else m0 y) → R (.ok (.ret .none)) ⟨h', g, dr, tk', os⟩) :
    codeAny (model prog w) A (.call (.builtin "object.__setattr__") ⟨[.ref x, .str name tk, v], []⟩) R ⟨hp, g, dr, tn, os⟩ := by
  obtain ⟨cd, hc, hd'⟩ := any_some T.hd
  obtain ⟨oD, _, _, hoD, _, _⟩ := hns.count hw
  refine osa_openX (s := ⟨hp, g, dr, tn, os⟩) (od := some oD) Tl.st X ⟨hx, rfl, rfl, hoD⟩ T.ov (T.tk name hf) fun b => ?_
  refine wpAny_bind (wpAny_pure (wpAny_bind (wpAny_bind (wpAny_loadPart hx (wpAny_bind ((looks_clsIn X hc).here ?_))))))
  rw [hd']
  refine wpAny_pure (a := some dx) ?_
  exact PySem.OEX.store_in_old hns hw hz fun h' tk' hn hs => hq h' tk' (fun b o hb ho => (hs.2 b hb).trans ho) hn
end
/-! ### __init__ -/
/-- def __init__(self, f): self.f = f -/
def iA1 (f : Str) (p1 p2 : Pos) : Arguments := { posonlyargs := [], args := [{ arg := "self", annotation := none, pos := p1 }, { arg := f, annotation := none, pos := p2 }], vararg := none, kwonlyargs := [], kw_defaults := [], kwarg := none, defaults := [] }
def iB1 (f : Str) (q1 q2 q3 q4 : Pos) : List Stmt := [.Assign [.Attribute (.Name "self" q1) f q2] (.Name f q3) q4]
def iS1 (f : Str) : Scope := { kind := .function, names := [(PySem.Str.ofString "self", .local), (f, .local)], isGenerator := false, isCoroutine := false, more := [] }
/-- def __init__(self, f, g): self.f = f; self.g = g -/
def iA2 (f g : Str) (p1 p2 p3 : Pos) : Arguments := { posonlyargs := [], args := [{ arg := "self", annotation := none, pos := p1 }, { arg := f, annotation := none, pos := p2 }, { arg := g, annotation := none, pos := p3 }], vararg := none, kwonlyargs := [], kw_defaults := [], kwarg := none, defaults := [] }
def iB2 (f g : Str) (q1 q2 q3 q4 q5 q6 q7 q8 : Pos) : List Stmt := [.Assign [.Attribute (.Name "self" q1) f q2] (.Name f q3) q4, .Assign [.Attribute (.Name "self" q5) g q6] (.Name g q7) q8]
def iS2 (f g : Str) : Scope := { kind := .function, names := [(PySem.Str.ofString "self", .local), (f, .local), (g, .local)], isGenerator := false, isCoroutine := false, more := [] }
/-- what __init__ leaves of a fresh exception at x -/
structure IniE (h h' : Heap) (x C dx t1 : Addr) (m : Str → Option Value) : Prop where
  keep : ∀ b o, b ≠ x → h.get? b = some o → h'.get? b = some o
  obj : h'.get? x = some { excO C t1 with dict := some dx }
  big : h.objs.size ≤ dx
  ne : dx ≠ x
  ns : h'.Ns1 dx m
/-- __init__ at fI stores its arguments under fs -/
def IniOk (K : Frag) (C fI : Addr) (fs : List Str) : Prop := ∀ {prog : Program} {w : World} {A : Around} {R : Result → Shared → Prop} {s : Shared} {x t0 : Addr} {vs : List Value}, vs.length = fs.length → K.In s.heap → s.heap.NoLimit → s.heap.get? x = some (excO C t0) → K.lookup x = none → A.depth < recursionLimit →
  (∀ h' tk dx m, IniE s.heap h' x C dx t0 m → (∀ y, m y = (fs.zip vs).lookup y) → R (.ok (.ret .none)) { s with heap := h', toks := tk }) → codeAny (model prog w) A (.call (.ref fI) ⟨.ref x :: vs, []⟩) R s
theorem lkC {M : Model} {s : Shared} {name : Str} {scope : Scope} {L a : Addr} {cd : Value} {m : Str → Option Value} {x : Str} {pos : Pos} {v : Value} {Q : Value → Shared → Prop} {A : Around} {E : Value → Shared → Prop} (hn : s.heap.Ns L m) (hv : m x = some v) (h : Q v s)
    (hk : scope.kind = .function := by rfl) (hl : (envOfC name scope L a cd).kindOf x = some .local := by rfl) (hd : (x == ("__debug__" : Str)) = false := by decide) :
    wpAny M A (eval (.Name x pos) (envOfC name scope L a cd)) Q E s := wpAny_Name (wpAny_loadName_local hk hl hn hv h) hd
section
variable {K : Frag} {C fI : Addr} {B nw ini : String} {tl : List Value} {f g q0 : Str} {oc : Value} {od : Option Addr} {doc pm : Value} {an : Option Addr} {cdv ct : Value} {osl : Array (Option Value)} {p1 p2 p3 q1 q2 q3 q4 q5 q6 q7 q8 : Pos}
theorem ini_one (Tl : TlF B nw ini tl) (T : ExcK K C fI nw tl [f]) (ho : K.lookup fI = some ⟨oc, od, .func (fnOf "__init__" q0 (iA1 f p1 p2) (iB1 f q1 q2 q3 q4) (iS1 f) .none .none doc pm an cdv ct), osl⟩) (hcd : codeIn K cdv q0 = true)
    (hb : ∀ (x : Addr) (v : Value), bindArgs (fnOf "__init__" q0 (iA1 f p1 p2) (iB1 f q1 q2 q3 q4) (iS1 f) .none .none doc pm an cdv ct) ⟨[.ref x, v], []⟩ = pure [(("self" : Str), .ref x), (f, v)])
    (nf : f ≠ "self") (nd : (f == ("__debug__" : Str)) = false) : IniOk K C fI [f] := by
  intro prog w A R s x t0 vs hl X hlim hx hnx hroom hq
  match vs, hl with
  | [v], _ =>
  have f0 : (f == ("self" : Str)) = false := by simpa using nf
  have kf : List.lookup f (iS1 f).names = some .local := by simp [iS1, List.lookup, f0]
  have ks : List.lookup ("self" : Str) (iS1 f).names = some .local := rfl
  refine Att.call_fn (binds := [("self", .ref x), (f, v)]) X hlim ho hcd hroom (BindsTo.of_eq (hb x v)) ?_ (fun s₁ IC => ?_) rfl rfl rfl
  · rw [List.all_cons, List.all_cons, kf, ks]
    rfl
  obtain ⟨h₁, tk₁, rfl⟩ := IC.toInCall.same
  have k : ∀ b o, s.heap.get? b = some o → h₁.get? b = some o := IC.toInCall.keep
  have hn := IC.toInCall.ns
  have nd2 : ([("self" : Str), f]).Nodup := by simp [Ne.symm nf]
  have mf : bindL (envOfC q0 (iS1 f) s.heap.objs.size fI cdv).kindOf ([("self" : Str), f].zip [.ref x, v]) (fun _ => none) f = some v := bindL_get (i := 1) nd2 rfl rfl kf
  have ms : bindL (envOfC q0 (iS1 f) s.heap.objs.size fI cdv).kindOf ([("self" : Str), f].zip [.ref x, v]) (fun _ => none) "self" = some (.ref x) := bindL_get (i := 0) nd2 rfl rfl ks
  have X₁ : K.In h₁ := X.keeps k
  have hx₁ := k _ _ hx
  show wpAny _ _ (execs _ _) _ _ _
  refine wpAny_execs_cons (plainObj_wpAny_Assign_Attribute ?_)
  refine lkC (v := v) hn mf (lkC (v := .ref x) hn ms ?_ rfl ks) rfl kf nd
  refine set_plain X₁ (ox := excO C t0) (od := none) ⟨hx₁, rfl, rfl, trivial⟩ T.sa ?_
  refine put_first Tl T (List.mem_singleton.mpr rfl) X₁ hx₁ fun h₃ tk₃ dx k₃ dn dne hx₃ hn₃ => ?_
  show wpAny _ _ (execs _ _) _ _ _
  have z : s.heap.objs.size < h₁.objs.size := hn.lt
  refine wpAny_execs_nil (hq h₃ tk₃ dx _ ⟨fun b o hb e => k₃ b o hb (k b o e), hx₃, Nat.le_of_lt (Nat.lt_of_lt_of_le z dn), dne, hn₃⟩ fun y => ?_)
  show _ = List.lookup y [(f, v)]
  by_cases e : y = f
  · subst e
    rw [if_pos rfl]
    simp [List.lookup]
  · have e2 : (y == f) = false := by simpa using e
    rw [if_neg e]
    simp [List.lookup, e2]
theorem ini_two (Tl : TlF B nw ini tl) (T : ExcK K C fI nw tl [f, g]) (ho : K.lookup fI = some ⟨oc, od, .func (fnOf "__init__" q0 (iA2 f g p1 p2 p3) (iB2 f g q1 q2 q3 q4 q5 q6 q7 q8) (iS2 f g) .none .none doc pm an cdv ct), osl⟩) (hcd : codeIn K cdv q0 = true)
    (hb : ∀ (x : Addr) (v u : Value), bindArgs (fnOf "__init__" q0 (iA2 f g p1 p2 p3) (iB2 f g q1 q2 q3 q4 q5 q6 q7 q8) (iS2 f g) .none .none doc pm an cdv ct) ⟨[.ref x, v, u], []⟩ = pure [(("self" : Str), .ref x), (f, v), (g, u)])
    (nf : f ≠ "self") (ng : g ≠ "self") (nfg : f ≠ g) (nd : (f == ("__debug__" : Str)) = false) (nd' : (g == ("__debug__" : Str)) = false) : IniOk K C fI [f, g] := by
  intro prog w A R s x t0 vs hl X hlim hx hnx hroom hq
  match vs, hl with
  | [v, u], _ =>
  have f0 : (f == ("self" : Str)) = false := by simpa using nf
  have g0 : (g == ("self" : Str)) = false := by simpa using ng
  have g1 : (g == f) = false := by simpa using Ne.symm nfg
  have kf : List.lookup f (iS2 f g).names = some .local := by simp [iS2, List.lookup, f0]
  have kg : List.lookup g (iS2 f g).names = some .local := by simp [iS2, List.lookup, g0, g1]
  have ks : List.lookup ("self" : Str) (iS2 f g).names = some .local := rfl
  refine Att.call_fn (binds := [("self", .ref x), (f, v), (g, u)]) X hlim ho hcd hroom (BindsTo.of_eq (hb x v u)) ?_ (fun s₁ IC => ?_) rfl rfl rfl
  · rw [List.all_cons, List.all_cons, List.all_cons, kf, kg, ks]
    rfl
  obtain ⟨h₁, tk₁, rfl⟩ := IC.toInCall.same
  have k : ∀ b o, s.heap.get? b = some o → h₁.get? b = some o := IC.toInCall.keep
  have hn := IC.toInCall.ns
  have nd2 : ([("self" : Str), f, g]).Nodup := by simp [Ne.symm nf, Ne.symm ng, nfg]
  have mf : bindL (envOfC q0 (iS2 f g) s.heap.objs.size fI cdv).kindOf ([("self" : Str), f, g].zip [.ref x, v, u]) (fun _ => none) f = some v := bindL_get (i := 1) nd2 rfl rfl kf
  have mg : bindL (envOfC q0 (iS2 f g) s.heap.objs.size fI cdv).kindOf ([("self" : Str), f, g].zip [.ref x, v, u]) (fun _ => none) g = some u := bindL_get (i := 2) nd2 rfl rfl kg
  have ms : bindL (envOfC q0 (iS2 f g) s.heap.objs.size fI cdv).kindOf ([("self" : Str), f, g].zip [.ref x, v, u]) (fun _ => none) "self" = some (.ref x) := bindL_get (i := 0) nd2 rfl rfl ks
  have X₁ : K.In h₁ := X.keeps k
  have hx₁ := k _ _ hx
  have z : s.heap.objs.size < h₁.objs.size := hn.lt
  show wpAny _ _ (execs _ _) _ _ _
  refine wpAny_execs_cons (plainObj_wpAny_Assign_Attribute ?_)
  refine lkC (v := v) hn mf (lkC (v := .ref x) hn ms ?_ rfl ks) rfl kf nd
  refine set_plain X₁ (ox := excO C t0) (od := none) ⟨hx₁, rfl, rfl, trivial⟩ T.sa ?_
  refine put_first Tl T (List.mem_cons_self ..) X₁ hx₁ fun h₃ tk₃ dx k₃ dn dne hx₃ hn₃ => ?_
  have nL : s.heap.objs.size ≠ x := Nat.ne_of_gt (Heap.lt_size hx)
  have hn' : h₃.Ns s.heap.objs.size _ := hn.at fun o e => k₃ _ o nL e
  have X₃ : K.In h₃ := fun a o e => k₃ a o (fun z => by rw [z, hnx] at e; cases e) (X₁ a o e)
  obtain ⟨oD, esD, epD, hoD, hdD, _⟩ := id hn₃
  show wpAny _ _ (execs _ _) _ _ _
  refine wpAny_execs_cons (plainObj_wpAny_Assign_Attribute ?_)
  refine lkC (v := u) hn' mg (lkC (v := .ref x) hn' ms ?_ rfl ks) rfl kg nd'
  refine set_plain X₃ (ox := { excO C t0 with dict := some dx }) (od := some oD) ⟨hx₃, rfl, rfl, hoD⟩ T.sa ?_
  refine put_more Tl T (List.mem_cons_of_mem _ (List.mem_cons_self ..)) X₃ hx₃ hn₃ (nl := [f]) (fun y hy => ?_) (by simp) fun h₅ tk₅ k₅ hn₅ => ?_
  · by_cases e : y = f
    · rw [e]
      exact List.mem_singleton.mpr rfl
    · rw [if_neg e] at hy
      exact absurd rfl hy
  show wpAny _ _ (execs _ _) _ _ _
  refine wpAny_execs_nil (hq h₅ tk₅ dx _ ⟨fun b o hb e => k₅ b o ?_ (k₃ b o hb (k b o e)), k₅ _ _ (Ne.symm dne) hx₃, Nat.le_of_lt (Nat.lt_of_lt_of_le z dn), dne, hn₅⟩ fun y => ?_)
  · exact Nat.ne_of_lt (Nat.lt_of_lt_of_le (Heap.lt_size (k b o e)) dn)
  show _ = List.lookup y [(f, v), (g, u)]
  by_cases e : y = g
  · subst e
    rw [if_pos rfl]
    simp [List.lookup, g1]
  · have e2 : (y == g) = false := by simpa using e
    rw [if_neg e]
    by_cases e' : y = f
    · subst e'
      rw [if_pos rfl]
      simp [List.lookup]
    · have e3 : (y == f) = false := by simpa using e'
      rw [if_neg e']
      simp [List.lookup, e2, e3]
end
/-- an exception of the class at C, made -/
structure MadeE (h h' : Heap) (e C d : Addr) (m : Str → Option Value) : Prop where
  keep : ∀ b o, h.get? b = some o → h'.get? b = some o
  new : h.objs.size ≤ e
  obj : ∃ oe vs, h'.get? e = some oe ∧ oe.cls = .ref C ∧ oe.dict = some d ∧ oe.data = .fields vs ∧ vs[1]? = some .none ∧ vs[2]? = some .none
  big : h.objs.size ≤ d
  ne : d ≠ e
  ns : h'.Ns1 d m
section
variable {prog : Program} {w : World} {A : Around} {E : Value → Shared → Prop} {R : Result → Shared → Prop} {s : Shared} {K : Frag} {C fI : Addr} {B nw ini : String} {tl : List Value} {fs : List Str}
theorem exc_made (Tl : TlF B nw ini tl) (T : ExcK K C fI nw tl fs) (In : IniOk K C fI fs) {us : List Value} (hl : us.length = fs.length) (hz : fs.length ≤ 100) (X : K.In s.heap) (hlim : s.heap.NoLimit) (hroom : A.depth + 1 < recursionLimit)
    (hq : ∀ h' tk e d m, MadeE s.heap h' e C d m → (∀ y, m y = (fs.zip us).lookup y) → R (.ok (.ret (.ref e))) { s with heap := h', toks := tk }) :
    codeAny (model prog w) A (.call (.ref C) ⟨us, []⟩) R s := by
  obtain ⟨nm, N, qn, bs, bm, hdct, sn, sub, ab, col, dd, k0, k1, k2, k3, k5, hC, hT⟩ := excInit_of X T.q
  obtain ⟨hp, g, dr, tk, os⟩ := s
  have k : ∀ b o, hp.get? b = some o → ((hp.push (kdv_tup us)).push (excO C hp.objs.size)).get? b = some o := fun b o e => Heap.get?_push_of_some _ (Heap.get?_push_of_some _ e)
  have hget : ((hp.push (kdv_tup us)).push (excO C hp.objs.size)).get? (hp.objs.size + 1) = some (excO C hp.objs.size) := by heap_get
  have hnx : K.lookup (hp.objs.size + 1) = none := by
    cases e : K.lookup (hp.objs.size + 1) with
    | none => rfl
    | some o =>
      have z : hp.get? (hp.objs.size + 1) = some o := X _ _ e
      exact absurd (Nat.lt_of_succ_lt (Heap.lt_size z)) (Nat.lt_irrefl _)
  refine call_own Tl.base hT hC (looks_findIn X T.ini) (fun self => bind_fn X self T.fn) (by rw [sizeLine_eq]; omega) ?_
  refine In (s := ⟨(hp.push (kdv_tup us)).push (excO C hp.objs.size), g, dr, tk, os⟩) hl (X.keeps k) (hlim.keeps k) hget hnx ?_ fun h' tk' dx m I hm => ?_
  · show A.depth + 1 < recursionLimit
    exact hroom
  · have old : ∀ b o, hp.get? b = some o → h'.get? b = some o := fun b o e => I.keep b o (Nat.ne_of_lt (Nat.lt_succ_of_lt (Heap.lt_size e))) (k b o e)
    have z : hp.objs.size + 1 + 1 ≤ dx := by
      first
        | (simpa only [Heap.size_push] using I.big)
        | exact I.big
        | (have q := I.big; rw [Heap.size_push, Heap.size_push] at q; exact q)
    exact ⟨rfl, hq h' tk' (hp.objs.size + 1) dx m ⟨old, Nat.le_succ _, ⟨_, _, I.obj, rfl, rfl, rfl, rfl, rfl⟩, Nat.le_trans (Nat.le_trans (Nat.le_succ _) (Nat.le_succ _)) z, I.ne, I.ns⟩ hm⟩
end
theorem relO_zip : ∀ {fs : List Str} {vs : List V} {us : List Value}, Vals vs us → ∀ y, RelO ((fs.zip vs).lookup y) ((fs.zip us).lookup y)
  | [], _, _, _, y => by simp [List.lookup, RelO]
  | f :: fs, _, _, .nil, y => by simp [List.lookup, RelO]
  | f :: fs, v :: vs, u :: us, .cons r rs, y => by
    show RelO (List.lookup y ((f, v) :: fs.zip vs)) (List.lookup y ((f, u) :: fs.zip us))
    by_cases h : (y == f) = true
    · rw [List.lookup_cons, List.lookup_cons, h]
      exact r
    · have h : (y == f) = false := by simpa using h
      rw [List.lookup_cons, List.lookup_cons, h]
      exact relO_zip rs y
section
variable {X : Cx} {C fI : Addr} {B nw ini : String} {tl : List Value} {fs : List Str} {a : Expr} {as : List Expr} {ta : TA} {x : Str} {p pos pos2 : Pos} {k : Nat}
theorem pmk_X (Tl : TlF B nw ini tl) (T : ExcK X.K C fI nw tl fs) (In : IniOk X.K C fI fs) (hz : fs.length ≤ 100) (hr : Room k X.A) (hg : Gl X x) (hm : X.mg x = some (.ref C)) (ha : PA X (a :: as) ta) (hd : (x == ("__debug__" : Str)) = false := by decide)
    (he : starEach (a :: as) X.env = (false, eval a X.env) :: starEach as X.env := by rfl) (hpl : (backTo pos (starEach as X.env)).any (·.1) = false := by rfl) :
    L2N.PMk X (.Call (.Name x p) (a :: as) [] pos) (fun σ H Q => ta σ H fun vs H1 => vs.length = fs.length ∧ ∀ d, H1 d = none → Q (.ref C) (some d) (upd H1 d (.xd (fs.zip vs)))) := by
  intro pins s σ H Q I h
  refine wpAny_Call_Name_kw (ld_glob I hg hm ?_ hd)
  refine PySem.W.callWith_K (h₀ := X.base) I.ok.mod.kin T.kp (thn (ha.run pos pins s σ H _ I h) fun us s1 hh => ?_) he hpl
  obtain ⟨vs, H1, I1, r1, hl, q1⟩ := hh
  refine ⟨I1.kIn, ?_⟩
  show wpAny _ _ (call (.ref C) us) _ _ _
  have hlim := I1.nolimit
  obtain ⟨hp, g, dr, tk, os⟩ := s1
  refine wpAny_call (exc_made Tl T In (by rw [← r1.length]; exact hl) hz I1.kIn hlim (by have := hr.dp; omega) fun h' tk' e d m M hm => ?_)
  show L2N.MkP X pins σ Q (.ref e) ⟨h', g, dr, tk', os⟩
  obtain ⟨oe, fv, hoe, hc, hd, hdat, h1, h2⟩ := M.obj
  have hns := M.ns
  obtain ⟨G', g1, g2⟩ := restrict h' fun b => decide (b ≠ e)
  have gk : ∀ b, b ≠ e → G'.get? b = h'.get? b := fun b hb => g1 b (decide_eq_true hb)
  have ge : G'.get? e = none := g2 e (by simp)
  have old : ∀ b o, hp.get? b = some o → G'.get? b = some o := fun b o q => (gk b (Nat.ne_of_lt (Nat.lt_of_lt_of_le (Heap.lt_size q) M.new))).trans (M.keep b o q)
  have ob : ObjOk X.prog X.w (upd H1 d (.xd (fs.zip vs))) G' d (.xd (fs.zip vs)) :=
    ⟨_, hns.at (fun o q => (gk d M.ne).trans q), fun f => by rw [hm f]; exact relO_zip r1 f⟩
  have J : Inv X pins σ (upd H1 d (.xd (fs.zip vs))) ⟨G', g, dr, tk', os⟩ := I1.laid (t' := tk') old M.big ob
  refine ⟨e, oe, fv, ⟨G', g, dr, tk', os⟩, _, .ref C, some d, rfl, J, fun b o q => ?_, ge, hoe, ⟨hc, hd, fun us eu => by rw [hdat] at eu; cases eu; exact h2⟩, hdat, h1, ?_, rfl, I1.bare, raises_own T.ex T.ty, q1 d (I1.hok.fresh M.big)⟩
  · by_cases hb : b = e
    · have q' : G'.get? b = some o := q
      rw [hb, ge] at q'
      cases q'
    · exact (gk b hb).symm.trans q
  · rw [upd_ne (Ne.symm M.ne)]
    exact I1.hok.fresh M.new
/-- X(), X without an own __init__ -/
theorem pmk_X0 (F : ExcBaseFacts B nw ini tl) (q : PySem.W.excIn X.K C tl nw = true) (gC : X.mg x = some (.ref C)) (kC : PySem.W.keepIn X.K (.ref C) = true) (r : Raises X (.ref C)) (hg : Gl X x) (hd : (x == ("__debug__" : Str)) = false := by decide) :
    L2N.PMk X (.Call (.Name x p) [] [] pos) (fun _ H Q => Q (.ref C) none H) := by
  intro pins s σ H Q I h
  refine wpAny_Call_Name_kw (ld_glob I hg gC ?_ hd)
  refine PySem.W.callWith_K0 I.kIn kC ?_
  show wpAny _ _ (call (.ref C) []) _ _ _
  obtain ⟨bm, N, nm, qn, bs, hdct, sn, sub, ab, col, dd, k0, k1, k2, k3, k5, mN, hC, hN, hni, T⟩ := exc_obj I.kIn q
  refine wpAny_call_exc_subT F T hC hN hni (fun h' e hm => ?_) (Nat.zero_le _)
  exact L2N.mk_of I hm r h (I.hok.gone hm.new)
end
/-! ### raise -/
/-- raise n(e, ..) -/
def raiS (n : Str) (fs : List Str) (g : Rho → R (List D)) : SF := fun ρ => (g ρ).bind fun ds ρ => if ds.length = fs.length then .exc n (fs.zip ds) ρ else .stuck
def rai0 (n : Str) : SF := fun ρ => .exc n [] ρ
theorem zip_fst {α β : Type} : ∀ {fs : List α} {vs : List β}, vs.length = fs.length → (fs.zip vs).map (·.1) = fs
  | [], [], _ => rfl
  | f :: fs, v :: vs, h => by
    rw [List.zip_cons_cons, List.map_cons, zip_fst (by simpa using h)]
theorem zip_snd {α β : Type} : ∀ {fs : List α} {vs : List β}, vs.length = fs.length → (fs.zip vs).map (·.2) = vs
  | [], [], _ => rfl
  | f :: fs, v :: vs, h => by
    rw [List.zip_cons_cons, List.map_cons, zip_snd (by simpa using h)]
section
variable [FE]
variable {X : Cx} {π : Nat → Addr} {W : WX} {C fI : Addr} {B nw ini : String} {tl : List Value} {fs : List Str} {a : Expr} {as : List Expr} {x : Str} {p pos pos2 : Pos} {k : Nat}
theorem fs_raise {g : Rho → R (List D)} (hc : X.calm = true) (tk : L2N.Takes X W) (Tl : TlF B nw ini tl) (T : ExcK X.K C fI nw tl fs) (In : IniOk X.K C fI fs) (hz : fs.length ≤ 100) (hcl : FE.cl x = C) (hr : Room k X.A) (hg : Gl X x) (hm : X.mg x = some (.ref C)) (ha : PA X (a :: as) (tA X.K π W g)) (hd : (x == ("__debug__" : Str)) = false := by decide)
    (he : starEach (a :: as) X.env = (false, eval a X.env) :: starEach as X.env := by rfl) (hpl : (backTo pos (starEach as X.env)).any (·.1) = false := by rfl) :
    PS X (.Raise (some (.Call (.Name x p) (a :: as) [] pos)) none pos2) (tS X.K π W (raiS x fs g)) :=
  PS.imp (L2N.ps_raise hc tk (pmk_X Tl T In hz hr hg hm ha hd he hpl)) fun D σ H ⟨c, F, ρ, h0, S, P⟩ => by
    refine pos_bind S P fun vs F1 H1 ρ1 ds s1 S1 r1 P1 => ?_
    split at P1
    · rename_i hl
      have hl' : vs.length = fs.length := by rw [Reps.length r1]; exact hl
      refine ⟨hl', fun d hd => ?_⟩
      have gr := Grw.newF (o := .xd (fs.zip vs)) S1.f hd
      have z := P1 (some d) (fs.zip vs) σ _ _ gr.f (S1.grow gr) upd_same (by rw [zip_fst hl', zip_fst hl]) (by rw [zip_snd hl', zip_snd hl]; exact Reps.mono gr.f r1)
      rw [hcl] at z
      exact z
    · exact P1.elim
theorem fs_raise0 (hc : X.calm = true) (tk : L2N.Takes X W) (F : ExcBaseFacts B nw ini tl) (q : PySem.W.excIn X.K C tl nw = true) (hcl : FE.cl x = C) (kC : PySem.W.keepIn X.K (.ref C) = true) (hx : PySem.W.subIn X.K (.ref C) (.type "BaseException") = some true) (ht : PySem.W.typeIn X.K (.ref C) = some (.type "type"))
    (hg : Gl X x) (hm : X.mg x = some (.ref C)) (hd : (x == ("__debug__" : Str)) = false := by decide) : PS X (.Raise (some (.Call (.Name x p) [] [] pos)) none pos2) (tS X.K π W (rai0 x)) :=
  PS.imp (L2N.ps_raise hc tk (pmk_X0 F q hm kC (raises_own hx ht) hg hd)) fun D σ H ⟨c, F, ρ, h0, S, P⟩ => by
    have z := P none [] σ F H (Same.refl _) S rfl rfl .nil
    rw [hcl] at z
    exact z
end
end FL
/-! FL21: where an exception is handled: defs, isinstance, fields. -/
namespace FL
open PySem PySem.Spec PyProof.Rows L2

/-! ### classes -/
structure ExcI (K : PySem.W.Frag) (C : Addr) : Prop where
  cl : (PySem.W.clsIn K C).isSome = true
  ga : PySem.W.findIn K (.ref C) "__getattribute__" = some (some (.builtin "BaseException.__getattribute__"))
  gg : PySem.W.findIn K (.ref C) "__getattr__" = some none
  sb : PySem.W.subIn K (.ref C) (.type "BaseException") = some true
  ha : PySem.W.findIn K (.ref C) "__class__" = some (some (.builtin "object.__class__"))
  hn : PySem.W.specialIn K (.builtin "object.__class__") "__get__" = some (some (.builtin "getset_descriptor.__get__"))
  tk : PySem.W.takesIn K (.builtin "object.__class__") = some true
  hm : PySem.W.mroIn K C (.type "object") = some true
  hd : PySem.W.hasDictIn K C = true
/-- the classes: each with its bases (itself among them) and its fields -/
abbrev CT := List (Str × List Str × List Str)
/-- a class that is asked of: built-in or own -/
def cval [FE] (b : List (Str × String)) (m : Str) : Value := match b.lookup m with
  | some t => .type t
  | none => .ref (FE.cl m)
structure ClsT [FE] (K : PySem.W.Frag) (ct : CT) (tests : List Str) (b : List (Str × String)) : Prop where
  i : ∀ n v, ct.lookup n = some v → ExcI K (FE.cl n)
  t : ∀ n v, ct.lookup n = some v → ∀ m ∈ tests, PySem.W.kitOne K (.ref (FE.cl n)) (cval b m) = some (v.1.contains m)
  f : ∀ n v, ct.lookup n = some v → ∀ f ∈ v.2, PySem.W.findIn K (.ref (FE.cl n)) f = some none
/-- the same, to be computed -/
def clsB (K : PySem.W.Frag) (C : Addr) (fs : List Str) (ts : List (Value × Bool)) : Bool :=
  (PySem.W.clsIn K C).isSome && (PySem.W.findIn K (.ref C) "__getattribute__" == some (some (.builtin "BaseException.__getattribute__"))) && (PySem.W.findIn K (.ref C) "__getattr__" == some none) && (PySem.W.subIn K (.ref C) (.type "BaseException") == some true) &&
  (PySem.W.findIn K (.ref C) "__class__" == some (some (.builtin "object.__class__"))) && (PySem.W.specialIn K (.builtin "object.__class__") "__get__" == some (some (.builtin "getset_descriptor.__get__"))) && (PySem.W.takesIn K (.builtin "object.__class__") == some true) &&
  (PySem.W.mroIn K C (.type "object") == some true) && PySem.W.hasDictIn K C && fs.all (fun f => PySem.W.findIn K (.ref C) f == some none) && ts.all fun p => PySem.W.kitOne K (.ref C) p.1 == some p.2
theorem clsB_ok {K : PySem.W.Frag} {C : Addr} {fs : List Str} {ts : List (Value × Bool)} (h : clsB K C fs ts = true) : ExcI K C ∧ (∀ f ∈ fs, PySem.W.findIn K (.ref C) f = some none) ∧ ∀ p ∈ ts, PySem.W.kitOne K (.ref C) p.1 = some p.2 := by
  unfold clsB at h
  simp only [Bool.and_eq_true, beq_iff_eq, List.all_eq_true] at h
  obtain ⟨⟨⟨⟨⟨⟨⟨⟨⟨⟨h1, h2⟩, h3⟩, h4⟩, h5⟩, h6⟩, h7⟩, h8⟩, h9⟩, h10⟩, h11⟩ := h
  exact ⟨⟨h1, h2, h3, h4, h5, h6, h7, h8, h9⟩, h10, h11⟩

/-! ### where x is handled -/
structure HotX [FE] (X : Cx) (x : EId) : Prop where
  ex : ∃ oe : Obj, X.A.handled = some (.ref x.a) ∧ (x.a, oe) ∈ X.pn ∧ L2N.Zn (.ref (FE.cl x.C)) x.d oe ∧ ∃ vs, oe.data = .fields vs
section
variable [FE]
variable {X : Cx} {x0 : EId} {π : Nat → Addr} {W : WX}
theorem HotX.inst {pins : List (Addr × Obj)} {σ : L2.St} {H : Hp} {s : Shared} (h : HotX X x0) (I : Inv X pins σ H s) {F : Hp} {fsV : List (Str × V)} (sm : Same F H) (xd : XD F x0.d fsV) :
    ∃ ox od, PySem.W.InstAt s.heap x0.a ox (FE.cl x0.C) od ∧ ∀ n v, fsV.lookup n = some v → ∃ u, ∃ ob, od = some ob ∧ PySem.W.lookIn n ob = some (some u) ∧ RelV v u := by
  obtain ⟨oe, _, hp, hz, vs, hv⟩ := h.ex
  obtain ⟨hget, _⟩ := I.pin (x0.a, oe) (List.mem_append.mpr (.inl hp))
  have nc : PySem.W.notCls oe = true := by unfold PySem.W.notCls; rw [hv] <;> rfl
  cases ed : x0.d with
  | none =>
    rw [ed] at xd
    refine ⟨oe, none, ⟨hget, hz.1, nc, ?_⟩, fun n v e => ?_⟩
    · rw [hz.2.1, ed]
      trivial
    · rw [show fsV = [] from xd] at e
      cases e
  | some dd =>
    rw [ed] at xd
    have hx : ObjOk X.prog X.w H s.heap dd (.xd fsV) := I.hok dd _ (sm _ _ xd)
    obtain ⟨mA, hns, hr⟩ := hx
    obtain ⟨od, ho, hl⟩ := lookIn_ns hns
    refine ⟨oe, some od, ⟨hget, hz.1, nc, ?_⟩, fun n v e => ?_⟩
    · rw [hz.2.1, ed]
      exact ho
    · obtain ⟨u, hu, ru⟩ := RelO.some_of (v := v) (o := mA n) (by rw [← e]; exact hr n)
      exact ⟨u, od, rfl, by rw [hl, hu], ru⟩
/-! ### isinstance -/
def isx (x0 : EId) (ct : CT) (m : Str) (f : EF) : EF := fun ρ => (f ρ).bind fun v ρ => match v with
  | .exc x _ => if x = x0 then R.of ((ct.lookup x.C).map fun p => .bl (p.1.contains m)) ρ else .stuck
  | _ => .stuck
/-- the second argument: the class -/
theorem pe_own {y : Str} {p : Pos} {C : Addr} (hg : Gl X y) (hm : X.mg y = some (.ref C)) (hd : (y == ("__debug__" : Str)) = false := by decide) : PE X (.Name y p) (tC (.ref C)) := pe_glob (v := .ref C) hg hm rfl hd
theorem call_isX (hx : HotX X x0) (hI : ExcI X.K (FE.cl x0.C)) : CallR X (.builtin "isinstance") (fun xs H Q => ∃ (c : V) (cv : Value) (b : Bool), xs = [.ref x0.a, c] ∧ (∀ u, RelV c u → u = cv) ∧ PySem.W.kitOne X.K (.ref (FE.cl x0.C)) cv = some b ∧ (∃ (F : Hp) (fsV : List (Str × V)), Same F H ∧ XD F x0.d fsV) ∧ Q (.bl b) H) := by
  intro pins s σ H xs us Q I r h
  obtain ⟨c, cv, b, rfl, hcv, e, ⟨F, fsV, sm, xd⟩, q⟩ := h
  cases r with
  | cons rx rr =>
    cases rr with
    | cons rt rr =>
      cases rr
      cases rx
      have ec := hcv _ rt
      subst ec
      obtain ⟨ox, od, J, _⟩ := hx.inst I sm xd
      exact PySem.W.kia_one (PySem.W.kitx_exc hI.cl hI.ga hI.gg hI.sb hI.ha hI.hn hI.tk hI.hm) I.kIn J e (fun z => nomatch z) fun tk => ⟨.bl b, H, I.kept (t' := tk) fun _ _ z => z, rfl, q⟩
theorem rd_isx {ct : CT} {tests : List Str} {b : List (Str × String)} {m : Str} {f : EF} {c : V} {σ : L2.St} {H : Hp} {Q : VK} (T : ClsT X.K ct tests b) (hm : m ∈ tests) (hcv : ∀ u, RelV c u → u = cval b m) (t : tE X.K π W (isx x0 ct m f) σ H Q) :
    tCB (fun xs H Q => ∃ (c : V) (cv : Value) (b : Bool), xs = [.ref x0.a, c] ∧ (∀ u, RelV c u → u = cv) ∧ PySem.W.kitOne X.K (.ref (FE.cl x0.C)) cv = some b ∧ (∃ (F : Hp) (fsV : List (Str × V)), Same F H ∧ XD F x0.d fsV) ∧ Q (.bl b) H) (tCons (tE X.K π W f) (tCons (tC c) tNil)) σ H Q := by
  obtain ⟨c0, F, ρ, S, P⟩ := t
  refine po_bind S P fun v F1 H1 ρ1 d s1 S1 r1 P1 => ?_
  cases r1 <;> first | (exact P1.elim) | skip
  rename_i x fsV fs xd _ rs
  by_cases ex : x = x0
  · subst ex
    have P1 : Po X.K π W (relE X.K) c0 F1 σ Q (if x = x then R.of ((ct.lookup x.C).map fun p => D.bl (p.1.contains m)) ρ1 else .stuck) := P1
    rw [if_pos rfl] at P1
    obtain ⟨d, e, P2⟩ := po_of P1
    cases el : ct.lookup x.C with
    | none => rw [el] at e; cases e
    | some p =>
      rw [el] at e
      cases e
      exact ⟨c, cval b m, p.1.contains m, rfl, hcv, T.t _ _ el m hm, ⟨F1, fsV, S1.f, xd⟩, P2 _ F1 H1 (Same.refl _) S1 (.bl _)⟩
  · have P1 : Po X.K π W (relE X.K) c0 F1 σ Q (if x = x0 then R.of ((ct.lookup x.C).map fun p => D.bl (p.1.contains m)) ρ1 else .stuck) := P1
    rw [if_neg ex] at P1
    exact P1.elim
theorem fe_isx {ct : CT} {tests : List Str} {bb : List (Str × String)} {y : Str} {f : EF} {a : Expr} {p p2 pos : Pos} {C : Addr} (hx : HotX X x0) (T : ClsT X.K ct tests bb) (hk : ∃ v, ct.lookup x0.C = some v) (hm : y ∈ tests) (hb : bb.lookup y = none) (hy : FE.cl y = C)
    (hg : Gl X "isinstance") (hmi : X.mg "isinstance" = none) (hgy : Gl X y) (hmy : X.mg y = some (.ref C)) (ha : PE X a (tE X.K π W f)) (hd : (y == ("__debug__" : Str)) = false := by decide)
    (he : starEach [a, .Name y p2] X.env = (false, eval a X.env) :: starEach [.Name y p2] X.env := by rfl) (he2 : starEach [.Name y p2] X.env = (false, eval (.Name y p2) X.env) :: starEach [] X.env := by rfl) (hpl : (backTo pos (starEach [.Name y p2] X.env)).any (·.1) = false := by rfl) :
    PE X (.Call (.Name "isinstance" p) [a, .Name y p2] [] pos) (tE X.K π W (isx x0 ct y f)) := by
  obtain ⟨v, hv⟩ := hk
  exact PE.imp (pe_callB (call_isX hx (T.i _ _ hv)) hg hmi (by decide +kernel) (pa_cons ha (pa_cons (pe_own hgy hmy hd) pa_nil he2) he) (by decide) (by decide) he hpl) fun σ H Q t =>
    rd_isx T hm (fun u ru => by
      have e : u = .ref C := ru
      rw [e]
      unfold cval
      rw [hb, hy]) t
theorem fe_isxB {ct : CT} {tests : List Str} {bb : List (Str × String)} {y : Str} {t : String} {f : EF} {a : Expr} {p p2 pos : Pos} (hx : HotX X x0) (T : ClsT X.K ct tests bb) (hk : ∃ v, ct.lookup x0.C = some v) (hm : y ∈ tests) (hb : bb.lookup y = some t)
    (hg : Gl X "isinstance") (hmi : X.mg "isinstance" = none) (hgy : Gl X y) (hmy : X.mg y = none) (hv : bootBuiltins y = some (.type t)) (ha : PE X a (tE X.K π W f)) (hn : y ≠ "__name__" := by decide) (hd : (y == ("__debug__" : Str)) = false := by decide)
    (he : starEach [a, .Name y p2] X.env = (false, eval a X.env) :: starEach [.Name y p2] X.env := by rfl) (he2 : starEach [.Name y p2] X.env = (false, eval (.Name y p2) X.env) :: starEach [] X.env := by rfl) (hpl : (backTo pos (starEach [.Name y p2] X.env)).any (·.1) = false := by rfl) :
    PE X (.Call (.Name "isinstance" p) [a, .Name y p2] [] pos) (tE X.K π W (isx x0 ct y f)) := by
  obtain ⟨v, hv'⟩ := hk
  exact PE.imp (pe_callB (call_isX hx (T.i _ _ hv')) hg hmi (by decide +kernel) (pa_cons ha (pa_cons (pe_ty hgy hmy hv hn hd) pa_nil he2) he) (by decide) (by decide) he hpl) fun σ H Q t' =>
    rd_isx T hm (fun u ru => by
      have e : u = .type t := ru
      rw [e]
      unfold cval
      rw [hb]) t'
/-! ### a field -/
def efld (x0 : EId) (ct : CT) (n : Str) (f : EF) : EF := fun ρ => (f ρ).bind fun v ρ => match v with
  | .exc x fs => if x = x0 ∧ (ct.lookup x.C).any (fun p => p.2.contains n) = true then R.of (fs.lookup n) ρ else .stuck
  | _ => .stuck
theorem Reps.look {K : PySem.W.Frag} {F : Hp} {n : Str} {d : D} : ∀ {fsV : List (Str × V)} {fs : List (Str × D)}, fsV.map (·.1) = fs.map (·.1) → Reps K F (fsV.map (·.2)) (fs.map (·.2)) → fs.lookup n = some d → ∃ v, fsV.lookup n = some v ∧ Rep K F v d
  | [], [], _, _, h => by cases h
  | (a, v) :: fsV, (b, e) :: fs, hk, .cons r rs, h => by
    have hk1 : a = b ∧ fsV.map (·.1) = fs.map (·.1) := by simpa using hk
    obtain ⟨rfl, hk2⟩ := hk1
    by_cases c : (n == a) = true
    · rw [List.lookup_cons, c] at h ⊢
      cases h
      exact ⟨v, rfl, r⟩
    · have c : (n == a) = false := by simpa using c
      rw [List.lookup_cons, c] at h ⊢
      exact Reps.look hk2 rs h
theorem fe_efld {ct : CT} {tests : List Str} {bb : List (Str × String)} {n : Str} {f : EF} {e : Expr} {pos : Pos} (hx : HotX X x0) (T : ClsT X.K ct tests bb) (he : PE X e (tE X.K π W f)) (hb : attributeBase e n X.env (eval e X.env) = eval e X.env := by rfl) :
    PE X (.Attribute e n pos) (tE X.K π W (efld x0 ct n f)) := by
  refine ⟨fun pins s σ H Q I t => ?_⟩
  obtain ⟨c0, F, ρ, S, P⟩ := t
  refine attr_of hb (thn (he.run pins s σ H _ I (po_bind S P fun v F1 H1 ρ1 d s1 S1 r1 P1 => (show ∃ c F ρ, Sta X.K π c F H1 σ ρ ∧ ∃ (fs : List (Str × D)) (fsV : List (Str × V)), v = .ref x0.a ∧ XD F x0.d fsV ∧ fsV.map (·.1) = fs.map (·.1) ∧ Reps X.K F (fsV.map (·.2)) (fs.map (·.2)) ∧
    (∃ p, ct.lookup x0.C = some p ∧ n ∈ p.2) ∧ Po X.K π W (relE X.K) c F σ Q (R.of (fs.lookup n) ρ) from ?_))) fun u s1 hh => ?_)
  · cases r1 <;> first | (exact P1.elim) | skip
    rename_i x fsV fs xd hk rs
    have P9 : Po X.K π W (relE X.K) c0 F1 σ Q (if x = x0 ∧ (ct.lookup x.C).any (fun p => p.2.contains n) = true then R.of (fs.lookup n) ρ1 else .stuck) := P1
    clear P1
    split at P9
    · rename_i hc
      obtain ⟨rfl, hc⟩ := hc
      refine ⟨c0, F1, ρ1, S1, fs, fsV, rfl, xd, hk, rs, ?_, P9⟩
      cases el : ct.lookup x.C with
      | none => rw [el] at hc; cases hc
      | some p =>
        rw [el] at hc
        exact ⟨p, rfl, by simpa using hc⟩
    · exact P9.elim
  · obtain ⟨x, H1, I1, rx, c, F1, ρ1, S1, fs, fsV, ex, xd, hk, rs, ⟨p, hp, hn⟩, P2⟩ := hh
    subst ex
    obtain rfl : u = Value.ref x0.a := rx
    obtain ⟨d, ed, P3⟩ := po_of P2
    obtain ⟨v, hv, rv⟩ := Reps.look hk rs ed
    obtain ⟨ox, od, J, hl⟩ := hx.inst I1 S1.f xd
    obtain ⟨w, ob, rfl, h2, r2⟩ := hl n v hv
    have hI := T.i _ _ hp
    exact HandSPX.exc_get I1.kIn J hI.ga hI.gg hI.sb (PySem.W.findObj_own hI.hd (T.f _ _ hp n hn) rfl h2) (handed_of r2) ⟨v, H1, I1.tok _, r2, P3 v F1 H1 (Same.refl _) S1 rv⟩
end
end FL
/-! FL22: defs called where an exception is handled. -/
namespace FL
open PySem PySem.Spec PyProof.Rows L2

/-- nothing is raised -/
def nxc (g : SF) : SF := fun ρ => match g ρ with
  | .exc _ _ _ => .stuck
  | r => r
/-- the def by its body, x handled -/
def bodyH (l : Nat) (g : EId → SF) (x : EId) (as : List Arg) : RG := bodyG l (nxc (g x)) as
section
variable [FE]
theorem tS_nxc {K : PySem.W.Frag} {π : Nat → Addr} {W : WX} {g : SF} {D : Ends} {σ : L2.St} {H : Hp} (h : tS K π W (nxc g) D σ H) : tS K π W0 g D σ H := by
  obtain ⟨c, F, ρ, h0, S, P⟩ := h
  refine ⟨c, F, ρ, h0, S, ?_⟩
  unfold nxc at P
  cases e : g ρ with
  | ok fl ρ' =>
    rw [e] at P
    cases fl <;> exact P
  | exc C fs ρ' =>
    rw [e] at P
    exact P.elim
  | stuck =>
    rw [e] at P
    exact P
/-- what a def promises where x is handled -/
structure FnH (P : Program) (w : World) (K : PySem.W.Frag) (mg : Str → Option Value) (base : Heap) (ct : CT) (k : Nat) (f : Addr) (fd : FuncData) (ps : List Str) (sp : EId → Sp) : Prop where
  len : ∀ x vs H Q E, sp x vs H Q E → vs.length = ps.length
  run : ∀ (x : EId) (A : Around) (outer : List Env) (s : Shared) (H : Hp) (args : Args) (us : List Value) (vs : List V) (Q : VK) (E : XK) (oe : Obj), (∃ v, ct.lookup x.C = some v) → L2H.RoomH k A → A.handled = some (.ref x.a) → L2H.PinOk outer H s (x.a, oe) → L2N.Zn (.ref (FE.cl x.C)) x.d oe → (∃ vs, oe.data = .fields vs) →
    Env0 P w K mg base A outer s H → BindsTo s fd args (ps.zip us) → Vals vs us → sp x vs H Q E → codeAny (model P w) A (.call (.ref f) args) (CR (L2N.CX P w) outer P w H s Q E) s
theorem FnH.mono {P : Program} {w : World} {K : PySem.W.Frag} {mg : Str → Option Value} {base : Heap} {ct : CT} {j k : Nat} {f : Addr} {fd : FuncData} {ps : List Str} {sp : EId → Sp} (F : FnH P w K mg base ct j f fd ps sp) (h : j ≤ k) : FnH P w K mg base ct k f fd ps sp :=
  ⟨F.len, fun x A outer s H args us vs Q E oe hk hr => F.run x A outer s H args us vs Q E oe hk (hr.mono h)⟩
/-- where the body of such a def runs -/
abbrev cxW (P : Program) (w : World) (K : PySem.W.Frag) (mg : Str → Option Value) (base : Heap) (N : List Str) (qual : Str) (scope : Scope) (f : Addr) (cd : Value) (A : Around) (outer : List Env) (s : Shared) (H : Hp) (E : XK) (p : Addr × Obj) : Cx := L2H.cxH (L2N.CX P w) P w K mg base N qual scope f cd A outer s H E p
section
variable {P : Program} {w : World} {K : PySem.W.Frag} {mg : Str → Option Value} {base : Heap} {ct : CT}
theorem fnH {x qual : Str} {st : Stmt} {f : Addr} {fd : FuncData} {N ps : List Str} {k : Nat} {g : EId → SF} (Fd : Fun K x qual st f fd) (Sc : FnScope N ps (defScope st))
    (hbody : ∀ (x : EId) (cdv : Value) (A : Around) (outer : List Env) (s : Shared) (H : Hp) (E : XK) (π : Nat → Addr) (oe : Obj), (∃ v, ct.lookup x.C = some v) → L2H.RoomH k (cxW P w K mg base N qual (defScope st) f cdv A outer s H E (x.a, oe)).A → HotX (cxW P w K mg base N qual (defScope st) f cdv A outer s H E (x.a, oe)) x →
      PSs (cxW P w K mg base N qual (defScope st) f cdv A outer s H E (x.a, oe)) (defBody st) (tS K π W0 (g x))) : FnH P w K mg base ct (k + 1) f fd ps (fun x => spG K ps.length (bodyH N.length g x)) := by
  obtain ⟨oc, od, kV, doc, pm, an, cdv, ctv, osl, rfl, lk, hcd⟩ := Fd.ex
  refine ⟨fun x vs H Q E ⟨_, _, _, _, h, _⟩ => h, fun x A outer s H args us vs Q E oe hk hr hh hpin hz hf e0 hb r hsp => ?_⟩
  obtain ⟨F, as, sm, ra, hl, nd, hP⟩ := hsp
  have KX : K.In s.heap := e0.mod.kin.keeps fun b o e => (e0.bs b o e).1
  have lim : s.heap.NoLimit := e0.mod.nolimit.keeps fun b o e => (e0.bs b o e).1
  have hps : ps.length ≤ N.length := by
    have := congrArg List.length Sc.pre
    rw [List.length_take] at this
    omega
  refine codeAny_call_function hr.depth (KX _ _ lk) rfl Sc.co Sc.gen rfl (PySem.W.codeRec_of KX hcd) (hb _ _ _ _ ?_)
  refine wpAny_newFunctionEnv_cells Sc.kind (fun ⟨n, v⟩ hy => ?_) fun env he s1 x1 => ?_
  · rcases Sc.par n (List.of_mem_zip hy).1 with q | q
    · exact .inl q
    · exact .inr ⟨q, PySem.W.cellsFrom_some _ _ _ (.inl q)⟩
  · subst he
    refine ⟨lim.keeps x1.toInCall.keep, codeAny_func ?_⟩
    have hx := hbody x cdv A outer s H E (fun i => adrV vs[i]?) oe hk (hr.deeper _) ⟨oe, hh, List.mem_singleton.mpr rfl, hz, hf⟩
    have I : Inv (cxW P w K mg base N qual (defScope st) f cdv A outer s H E (x.a, oe)) [] (L2.start N vs) H s1 := L2H.inv_startH Sc hpin e0 hl r x1
    have run := hx.run [] s1 (L2.start N vs) H { nx := fun _ H' => Q .non H', rt := Q } I (tS_nxc (body_end sm ra nd (by omega) hP))
    refine wpAny_mono run (fun fl s' hs => ?_) fun e s' hs => hs
    cases fl with
    | ret u =>
      obtain ⟨v, σ', H', J, rv, q⟩ := hs
      exact ⟨v, H', J.os, J.bare, J.base, J.hok, rv, q⟩
    | next =>
      obtain ⟨σ', H', J, q⟩ := hs
      exact ⟨V.non, H', J.os, J.bare, J.base, J.hok, rfl, q⟩
    | brk =>
      obtain ⟨_, _, _, q⟩ := hs
      exact q.elim
    | cont =>
      obtain ⟨_, _, _, q⟩ := hs
      exact q.elim
/-- a def of the module that may be called there by its name -/
structure CalH (P : Program) (w : World) (K : PySem.W.Frag) (mg : Str → Option Value) (base : Heap) (ct : CT) (k : Nat) (x : Str) (ps : List Str) (G : EId → List Arg → RG) : Prop where
  ex : ∃ (f : Addr) (fd : FuncData), FnH P w K mg base ct k f fd ps (fun x => spG K ps.length (G x)) ∧ mg x = some (.ref f) ∧ PySem.W.keepIn K (.ref f) = true ∧ Binds K fd ps []
theorem calH_of {k : Nat} {x qual : Str} {st : Stmt} {f : Addr} {fd : FuncData} {ps : List Str} {G : EId → List Arg → RG} (Fd : Fun K x qual st f fd) (hm : mg x = some (.ref f)) (h : FnH P w K mg base ct k f fd ps (fun x => spG K ps.length (G x)))
    (hb : ∀ (kV doc pm : Value) (an : Option Addr) (cdv ct : Value) (us : List Value), us.length = ps.length → bindArgs (PySem.W.fnOf x qual (defArgs st) (defBody st) (defScope st) .none kV doc pm an cdv ct) ⟨us, []⟩ = pure (ps.zip us)) : CalH P w K mg base ct k x ps G :=
  ⟨f, fd, h, hm, Fd.kp, Fd.binds hb⟩
end
section
variable {X : Cx} {x0 : EId} {ct : CT} {π : Nat → Addr} {k : Nat} {f : Addr} {fd : FuncData} {ps : List Str} {G : EId → List Arg → RG} {x : Str} {e : Expr} {es : List Expr} {p pos : Pos} {g : BF}
theorem fe_callH {nn : Nat} (Fn : FnH X.prog X.w X.K X.mg X.base ct k f fd ps (fun x => spG X.K ps.length (G x))) (hk : ∃ v, ct.lookup x0.C = some v) (hr : L2H.RoomH k X.A) (hx : HotX X x0) (hg : Gl X x) (hm : X.mg x = some (.ref f)) (hkp : PySem.W.keepIn X.K (.ref f) = true) (hb : Binds X.K fd ps [])
    (ha : PA X (e :: es) (tB X.K π W0 g)) (hdb : (x == ("__debug__" : Str)) = false := by decide) (he : starEach (e :: es) X.env = (false, eval e X.env) :: starEach es X.env := by rfl) (hpl : (backTo pos (starEach es X.env)).any (·.1) = false := by rfl) (hnn : ps.length = nn := by rfl) :
    PE X (.Call (.Name x p) (e :: es) [] pos) (tE X.K π W0 (callE nn (G x0) g)) := by
  subst hnn
  refine ⟨fun pins s σ H Q I h => ?_⟩
  refine wpAny_Call_Name_kw (ld_glob I hg hm ?_ hdb)
  refine PySem.W.callWith_K (h₀ := X.base) I.ok.mod.kin hkp (thn (ha.run pos pins s σ H _ I (rd_bind1 (fun rv S _ nw P => k_asE rv S nw P) h)) fun us s1 ⟨vs, H1, I1, r, q⟩ => ⟨I1.kIn, ?_⟩) he hpl
  have b := hb s1 us I1.kIn (by rw [List.append_nil, ← r.length]; exact Fn.len _ _ _ _ _ q)
  rw [List.append_nil] at b
  obtain ⟨oe, hh, hp, hz, hf⟩ := hx.ex
  have P1 := I1.pin (x0.a, oe) (List.mem_append_left _ hp)
  have hpin : L2H.PinOk X.stack H1 s1 (x0.a, oe) := ⟨P1.1, P1.2.1, fun hm => (List.mem_cons.mp (I1.stkSub x0.a hm)).elim P1.2.2.1 P1.2.2.2.1, P1.2.2.2.2⟩
  refine wpAny_call (codeAny_mono (Fn.run x0 X.A X.stack s1 H1 ⟨us, []⟩ us vs Q _ oe hk hr hh hpin hz hf I1.env0 b r q) fun r s' hq => ?_)
  cases r with
  | error e =>
    obtain ⟨_, _, _, _, _, _, _, _, _, _, _, _, z⟩ := hq
    exact z.elim
  | ok fl =>
    cases fl with
    | ret u => exact I1.after hq
    | next => exact False.elim hq
    | brk => exact False.elim hq
    | cont => exact False.elim hq
end
end
end FL
/-! FL23: a lambda without parameters, made; its call in the def that got it. -/
namespace FL
open PySem PySem.Spec PyProof.Rows L2

section
variable {X : Cx} {pins : List (Addr × Obj)} {σ : L2.St} {H : Hp} {s : Shared}
abbrev lamQ (X : Cx) : Str := X.env.qual ++ "<lambda>"
/-- the lambda's object -/
abbrev lamO (X : Cx) (ar : Arguments) (body : Expr) (sc : Scope) (pm : Value) (co : Addr) (ctv : Value) : Obj := PySem.W.kla_obj "<lambda>" (lamQ X) ar body sc (cloFrom X.env.cells sc.names []) pm co ctv
/-- a lambda is made: all but the maker's table stays -/
theorem lam_mk {T : List (Addr × Str)} {cd Pt : Addr} {ar : Arguments} {body : Expr} {sc : Scope} {pos : Pos} {E : Value → Shared → Prop} {Q : Value → Shared → Prop} (I : Inv X pins σ H s) (TB : LamX.TabB X.base X.mg cd Pt) (hcd : X.env.code = .ref cd)
    (hm : (Pt, lamQ X) ∈ T) (hu : ∀ p ∈ T, p.1 = Pt → p.2 = lamQ X) (hT : LamX.Tabs T H) (hdf : defaultsOf ar X.env = ([], [])) (hfr : ∀ y ∈ sc.names, y.2 = .free → ∃ a, X.env.cells.lookup y.1 = some a)
    (h : ∀ (f co : Addr) (pm ctv : Value) (H1 : Hp) (s1 : Shared), Inv X pins σ H1 s1 → (∀ b o, b ≠ Pt → H b = some o → H1 b = some o) → (∃ us, H1 Pt = some (.tbl us)) → LamX.Tabs T H1 → s1.heap.get? f = some (lamO X ar body sc pm co ctv) → H1 f = none → f ∉ frs X.stack → H1 co = some (LamX.CodeO co (lamQ X)) → Q (.ref f) s1) :
    wpAny (model X.prog X.w) X.A (eval (.Lambda ar body sc pos) X.env) Q E s := by
  obtain ⟨us, hP, tri, all⟩ := hT _ hm
  refine PySem.W.kla_eval hdf ?_
  have kb : s.heap.BuiltinsAt X.mg Pt := TB.bm.keeps I.bk
  have oP : s.heap.get? Pt = some { cls := .none, data := .fields us } := I.hok Pt _ hP
  have out : ∀ a, s.heap.objs.size ≤ a → a ∉ frs X.stack := fun a ha z => by
    rcases List.mem_cons.mp (I.stkSub _ z) with q | q
    · have lt := I.lt
      rw [← q] at lt
      exact absurd (Nat.lt_of_lt_of_le lt ha) (Nat.lt_irrefl _)
    · exact I.nofs ha q
  cases hit : codeAmong pos us.toList with
  | some cv =>
    obtain ⟨co, rfl, hco⟩ := all pos cv hit
    refine PySem.W.kla_makeFunctionHit (mg := X.mg) (c := cd) (P := Pt) (ps := us) (closure_ok hfr) I.ok.glob (I.mod.glob.keeps I.bk) hcd (TB.code.keeps I.bk) oP tri hit kb fun ctv h1 tk up le => ?_
    exact h h1.objs.size co ((X.mg "__name__").getD .none) ctv H _ (I.kept (t' := tk) fun b o e => Heap.get?_push_of_some _ (up b o e)) (fun b o _ e => e) ⟨us, hP⟩ hT (Heap.get?_push_size _ rfl) (I.hok.fresh le) (out _ le) hco
  | none =>
    refine PySem.W.kla_makeFunction (mg := X.mg) (c := cd) (P := Pt) (ps := us) (closure_ok hfr) I.ok.glob (I.mod.glob.keeps I.bk) hcd (TB.code.keeps I.bk) oP tri hit TB.gP kb fun co ctv h1 tk up ge lt rc tb => ?_
    obtain ⟨co', ob, ws, t, e2, hob, hdt, hws⟩ := rc
    cases e2
    have le : s.heap.objs.size ≤ h1.objs.size := Nat.le_trans ge (Nat.le_of_lt lt)
    have nC : H co = none := I.hok.fresh ge
    have J := LamX.inv_table (t' := tk) (q := lamQ X) (more := #[rawInt pos.line, rawInt pos.col, .ref co]) (h' := h1.push (lamO X ar body sc ((X.mg "__name__").getD .none) co ctv)) I hP
      (fun b o nb e => Heap.get?_push_of_some _ (up b o nb e)) (Heap.get?_push_of_some _ tb) ge ⟨ob, ws, t, Heap.get?_push_of_some _ hob, hdt, hws⟩
    have same : ∀ b o, b ≠ Pt → H b = some o → upd (upd H Pt (.tbl (us ++ #[rawInt pos.line, rawInt pos.col, .ref co]))) co (LamX.CodeO co (lamQ X)) b = some o := fun b o nb e => by
      rw [upd_ne (ne_of_none e nC), upd_ne nb]
      exact e
    have atP : upd (upd H Pt (.tbl (us ++ #[rawInt pos.line, rawInt pos.col, .ref co]))) co (LamX.CodeO co (lamQ X)) Pt = some (.tbl (us ++ #[rawInt pos.line, rawInt pos.col, .ref co])) := by
      rw [upd_ne (ne_of_none hP nC), upd_same]
    have el : (us ++ #[rawInt pos.line, rawInt pos.col, .ref co]).toList = us.toList ++ [rawInt pos.line, rawInt pos.col, .ref co] := by simp
    have code : ∀ {b : Addr} {q : Str}, H b = some (LamX.CodeO b q) → b ≠ Pt := fun {b q} e z => by
      rw [z, hP] at e
      exact LamX.codeO_ne us (Option.some.inj e).symm
    refine h h1.objs.size co ((X.mg "__name__").getD .none) ctv _ _ J same ⟨_, atP⟩ (fun p hp => ?_) (Heap.get?_push_size _ rfl) ?_ (out _ le) upd_same
    · by_cases hb : p.1 = Pt
      · rw [hu p hp hb, hb]
        refine ⟨_, atP, by rw [el]; exact PySem.TriplesOk_snoc _ _ _ _ tri, fun pos' cv hcv => ?_⟩
        rw [el] at hcv
        rcases LamX.among_app _ tri hcv with z | z
        · obtain ⟨c0, e1, e2⟩ := all pos' cv z
          exact ⟨c0, e1, same _ _ (code e2) e2⟩
        · exact ⟨co, z, upd_same⟩
      · obtain ⟨us', a1, a2, a3⟩ := hT p hp
        refine ⟨us', same _ _ hb a1, a2, fun pos' cv hcv => ?_⟩
        obtain ⟨c0, e1, e2⟩ := a3 pos' cv hcv
        exact ⟨c0, e1, same _ _ (code e2) e2⟩
    · rw [upd_ne (Nat.ne_of_gt lt), upd_ne (Nat.ne_of_gt (Nat.lt_of_lt_of_le (Heap.lt_size oP) le))]
      exact I.hok.fresh le
end
/-! ### the lambda's body -/
/-- where it runs: entered at s from the frames outer -/
abbrev lamX (X : Cx) (A : Around) (outer : List Env) (s : Shared) (H : Hp) (E : XK) (sc : Scope) (f co : Addr) : Cx :=
  (LamX.lamCx X A outer s H E sc f co).wish fun e s' => wpAny (model X.prog X.w) (A.deeper (LamX.lamEnv X sc s.heap.objs.size f co)) (leaving (LamX.lamEnv X sc s.heap.objs.size f co) e) (fun _ s'' => L2N.CX X.prog X.w outer H s E e s'') (fun e' s'' => L2N.CX X.prog X.w outer H s E e' s'') s'
theorem lamX_takes {X : Cx} {A : Around} {outer : List Env} {s : Shared} {H : Hp} {E : XK} {sc : Scope} {f co : Addr} : L2N.Takes (lamX X A outer s H E sc f co) (fun cls d _ H => E cls d H) := L2N.takes_of rfl rfl rfl rfl
theorem lamX_passes {X : Cx} {A : Around} {outer : List Env} {s : Shared} {H : Hp} {E : XK} {sc : Scope} {f co : Addr} : PassesOwn (model X.prog X.w) (lamX X A outer s H E sc f co).A (lamX X A outer s H E sc f co).env (lamX X A outer s H E sc f co).xe := passes_of rfl
/-- where the def that got the lambda runs: nothing leaves it -/
abbrev gotX (X : Cx) (Ng : List Str) (qg : Str) (sg : Scope) (g : Addr) (cdg : Value) (s : Shared) (H : Hp) : Cx := cxOf (L2N.CX X.prog X.w) X.prog X.w X.K X.mg X.base Ng qg sg g cdg X.A X.stack s H (fun _ _ _ => False)
section
variable {X : Cx} {pins : List (Addr × Obj)} {σ : L2.St} {H : Hp} {s : Shared}
theorem pe_act {Ng : List Str} {qg : Str} {sg : Scope} {g f co : Addr} {cdg pm ctv : Value} {ar : Arguments} {body : Expr} {sc : Scope} {k : Nat} {a : Str} {pn : List (Addr × Obj)} {xe : Value → Shared → Prop} {W : WX} {E : XK} {tb : TE} {p1 p2 : Pos}
    (I : Inv X pins σ H s) (L : LamX.LamS X.env.scope sc) (hf : s.heap.get? f = some (lamO X ar body sc pm co ctv)) (hfn : H f = none) (hfr : f ∉ frs X.stack)
    (hbind : bindArgs (PySem.W.kla_fn "<lambda>" (lamQ X) ar body sc (cloFrom X.env.cells sc.names []) pm (.ref co) ctv) ⟨[], []⟩ = pure [])
    (tk : L2N.Takes ((gotX X Ng qg sg g cdg s H).tr pn xe) W) (hW : ∀ cls d σ' H', σ'.length = Ng.length → E cls d H' → W cls d σ' H') (hr : RoomG (k + 1) (X.A.deeper (envOfC qg sg s.heap.objs.size g cdg)))
    (hbody : ∀ (A : Around) (outer : List Env) (s : Shared) (H : Hp), RoomG k (A.deeper (LamX.lamEnv X sc s.heap.objs.size f co)) → PE (lamX X A outer s H E sc f co) body tb)
    (hN : Ng[0]? = some a) (hv : Vis sg a) (hd : (a == ("__debug__" : Str)) = false := by decide) (hcd : (a == ("__classdict__" : Str)) = false := by decide) :
    PE ((gotX X Ng qg sg g cdg s H).tr pn xe) (.Call (.Name a p1) [] [] p2) (fun σZ HZ Q => σZ[0]? = some (some (.ref f)) ∧ HZ co = some (LamX.CodeO co (lamQ X)) ∧ tb σ HZ Q) := by
  refine ⟨fun pinsZ sZ σZ HZ Q IZ ⟨z1, z2, z3⟩ => ?_⟩
  refine wpAny_Call_Name_kw (thn ((pe_var (pos := p1) (i := 0) hN hv hd hcd).run pinsZ sZ σZ HZ (fun v H1 => v = .ref f ∧ H1 = HZ) IZ ⟨.ref f, z1, rfl, rfl⟩) fun u s1 ⟨v, H1, I1, r1, q1⟩ => ?_)
  obtain ⟨ev, eH⟩ := q1
  subst ev
  rw [eH] at I1
  obtain rfl : u = Value.ref f := r1
  have hf1 : s1.heap.get? f = some (lamO X ar body sc pm co ctv) := I1.base.keep f _ hf hfn hfr (fun z => nomatch (show f ∈ ([] : List Addr) from z))
  refine PySem.W.callWith_F0 ⟨_, _, _, _, hf1⟩ ?_
  have un : Un (frs X.stack) [] H HZ s.heap s1.heap := I1.base
  obtain ⟨⟨ob, ws, t, hob, hdt, hws⟩, _, _⟩ := I1.hok co _ z2
  have run : codeAny (model X.prog X.w) (X.A.deeper (envOfC qg sg s.heap.objs.size g cdg)) (.call (.ref f) ⟨[], []⟩) (CR (L2N.CX X.prog X.w) (envOfC qg sg s.heap.objs.size g cdg :: X.stack) X.prog X.w HZ s1 Q E) s1 := by
    refine PySem.W.kla_callFunE hr.r.depth hf1 rfl L.co L.gen rfl ⟨co, ob, ws, t, rfl, hob, hdt, hws⟩ ?_
    rw [hbind]
    refine wpAny_pure (wpAny_newFunctionEnv (fun y hy => (L.own y hy).2) (fun y hy => absurd hy (by simp)) (fun h1 hns hsb => ⟨I1.nolimit.fresh _ hsb, ?_⟩) L.kind)
    show codeAny _ _ (.expr body (LamX.lamEnv X sc s1.heap.objs.size f co)) _ _
    have kp : ∀ b o, s1.heap.get? b = some o → h1.get? b = some o := fun b o e => hsb.extBut b o (Nat.ne_of_lt (Heap.lt_size e)) (Heap.get?_push_of_some _ e)
    have J0 := LamX.lam_start2 (A := X.A.deeper (envOfC qg sg s.heap.objs.size g cdg)) (outer := envOfC qg sg s.heap.objs.size g cdg :: X.stack) (E := E) (f := f) (c' := co) (tk := s1.toks + ([] : List (Str × Value)).length) I L I1.env0 hr.r.hd un hns kp
    have J : Inv (lamX X (X.A.deeper (envOfC qg sg s.heap.objs.size g cdg)) (envOfC qg sg s.heap.objs.size g cdg :: X.stack) s1 HZ E sc f co) [] σ HZ { s1 with heap := h1, toks := s1.toks + ([] : List (Str × Value)).length } := J0.wish _
    refine PySem.W.kla_codeExpr (wpAny_mono ((hbody _ _ s1 HZ (hr.deeper _)).run [] _ _ HZ Q J z3) (fun v s' hq => ?_) fun e s' hq => hq)
    obtain ⟨w', H', J', rv, q⟩ := hq
    exact ⟨w', H', J'.os, J'.bare, J'.base, J'.hok, rv, q⟩
  refine wpAny_call (codeAny_mono run fun r s' hq => ?_)
  cases r with
  | error e => exact tk e s' (L2N.XE.of_call I1 (fun cls d H' h => hW cls d σZ H' I1.len h) hq)
  | ok fl =>
    cases fl with
    | ret u => exact I1.after hq
    | next => exact False.elim hq
    | brk => exact False.elim hq
    | cont => exact False.elim hq
end
end FL
/-! FL24: try: back = act() / except (A, B, C) as e: suite / rest; a lambda handed to such a def. -/
namespace FL
open PySem PySem.Spec PyProof.Rows L2

section
variable {K : PySem.W.Frag}
theorem flying_push {base h : Heap} {l : List Env} {e : Addr} {Z : Obj → Prop} {o : Obj} (x : HandSPX.FlyingZ base l e Z h) : HandSPX.FlyingZ base l e Z (h.push o) := by
  obtain ⟨k1, k2, k3, oe, vs, T, oT, ts, he, hz, hd, h1, hn, hne, hT, hdT, h3⟩ := x
  have k : ∀ b u, h.get? b = some u → (h.push o).get? b = some u := fun b u q => Heap.get?_push_of_some _ q
  exact ⟨fun b u q => k b u (k1 b u q), k2, k3.of_keeps fun b u q _ => ⟨u, k b u q, rfl⟩, oe, vs, T, oT, ts, k _ _ he, hz, hd, h1, hn, hne, k _ _ hT, hdT, h3⟩
end
/-- what the clause 'except (..) as n' wishes of an exception of the body: slot i is n's -/
def wAsL (K : PySem.W.Frag) (cs : List Value) (i : Nat) (ts : Addr → Value → Option Addr → TS) (Wout : WX) (D : Ends) : WX := fun cls d σ H =>
  ∃ b, PySem.W.exmAny K cls cs = some b ∧ (b = true → ∀ a, H a = none → ts a cls d { nx := fun σ' H' => D.nx (σ'.set i none) H', rt := D.rt, bk := fun σ' H' => D.bk (σ'.set i none) H', ct := fun σ' H' => D.ct (σ'.set i none) H' } (σ.set i (some (.ref a))) H) ∧
    (b = false → Wout cls d σ H)
section
variable {X : Cx} {x1 x2 x3 n : Str} {C1 C2 C3 : Addr} {i : Nat} {body suite : List Stmt} {b₀ : Stmt} {q1 q2 q3 tp pos pos' : Pos} {kk : Nat} {tb : WX → TS} {ts : Addr → Value → Option Addr → TS} {Wout : WX}
theorem ps_try3 (hs : X.stack = X.env :: X.outer) (hf : X.env.frame = some X.env.locals) (hN : X.N.Nodup) (hi : X.N[i]? = some n) (hln : X.env.kindOf n = some .local)
    (g1 : Gl X x1) (g2 : Gl X x2) (g3 : Gl X x3) (m1 : X.mg x1 = some (.ref C1)) (m2 : X.mg x2 = some (.ref C2)) (m3 : X.mg x3 = some (.ref C3)) (d1 : (x1 == ("__debug__" : Str)) = false) (d2 : (x2 == ("__debug__" : Str)) = false) (d3 : (x3 == ("__debug__" : Str)) = false) (tk : L2N.Takes X Wout)
    (hb : ∀ (W : WX) (pn : List (Addr × Obj)) (xe : Value → Shared → Prop), L2N.Takes (X.tr pn xe) W → PassesOwn (model X.prog X.w) X.A X.env xe → PSs (X.tr pn xe) body (tb W))
    (hsu : ∀ (a : Addr) (oe : Obj) (cls : Value) (d : Option Addr) (pn : List (Addr × Obj)), L2N.Zn cls d oe → (∃ vs, oe.data = .fields vs) → PSs (X.suite a ((a, oe) :: pn)) (b₀ :: suite) (ts a cls d))
    (he1 : starEach [.Name x1 q1, .Name x2 q2, .Name x3 q3] X.env = (false, eval (.Name x1 q1) X.env) :: starEach [.Name x2 q2, .Name x3 q3] X.env := by rfl) (he2 : starEach [.Name x2 q2, .Name x3 q3] X.env = (false, eval (.Name x2 q2) X.env) :: starEach [.Name x3 q3] X.env := by rfl) (he3 : starEach [.Name x3 q3] X.env = (false, eval (.Name x3 q3) X.env) :: starEach [] X.env := by rfl) :
    PS X (.Try body [.ExceptHandler (some (.Tuple [.Name x1 q1, .Name x2 q2, .Name x3 q3] kk tp)) (some n) (b₀ :: suite) pos'] [] [] pos) (fun D σ H => tb (wAsL X.K [.ref C1, .ref C2, .ref C3] i ts Wout D) D σ H) := by
  refine ⟨fun pins s σ H D I h => ?_⟩
  have ok := I.ok
  have hfr : X.A.frames = some (X.env :: X.outer) := by rw [ok.frames, hs]
  have hloc : Loc X.env.scope n := .inl hln
  refine wpAny_Try_except ?_
  refine wpAny_mono ((hb (wAsL X.K [.ref C1, .ref C2, .ref C3] i ts Wout D) (X.pn ++ pins) (fun e s1 => wpAny (model X.prog X.w) X.A (noteFrame e X.env) (fun _ s2 => wpAny (model X.prog X.w) X.A (setFlight e none) (fun _ s3 =>
    wpAny (model X.prog X.w) X.A (handleBy e X.env [.ExceptHandler (some (.Tuple [.Name x1 q1, .Name x2 q2, .Name x3 q3] kk tp)) (some n) (b₀ :: suite) pos']) (SP X pins D) X.xe s3) X.xe s2) X.xe s1) (fun u s' xx => ?_) PassesOwn.looking).run [] s σ H D (I.toTry _) h) (fun f s1 hsp => ?_) (fun e s1 he => he)
  · -- an exception
    obtain ⟨a, B, sI, pins', σ', H', cls, d, rfl, J', nb, up, sky, na, os, ag, b, hbb, yes, no⟩ := xx
    have J : Inv X pins σ' H' sI := J'.ofTry ok
    have sky1 : Sky B (X.env :: X.outer) a (L2N.Zn cls d) X.env.locals s'.heap := by rw [← hs]; exact sky
    show wpAny (model X.prog X.w) X.A (noteFrame (.ref a) X.env) _ _ _
    refine L2N.Sky.land L2N.Zn.steady hfr hf sky1 fun g3h fl3 up3 => ?_
    have J3 : Inv X pins σ' H' { s' with heap := g3h } := J.landed nb fl3.1 (up.trans up3) os ag
    obtain ⟨o3, v3, ho3, hz3, hv3⟩ := fl3.there
    have far : a ∉ frs (X.env :: X.outer) := fun hm => by
      obtain ⟨_, o', e', hnf⟩ := fl3.2.2.1.mem hm
      rw [ho3] at e'
      cases e'
      exact hnf _ hv3
    have nL : a ≠ X.env.locals := fun z => far (List.mem_filterMap.mpr ⟨X.env, List.mem_cons_self, by rw [hf, z]⟩)
    have nF : a ∉ X.fs := fun hm => by
      obtain ⟨e, he, q⟩ := List.mem_filterMap.mp hm
      exact far (List.mem_filterMap.mpr ⟨e, List.mem_cons_of_mem _ he, q⟩)
    have S3 := J3.suite ho3 hv3 na nL nF
    refine wpAny_handleBy_cons (codeAny_handlers_test ?_) (by intro q; cases q)
    refine Tuple_ (spliced_more (ld_glob (X := X.suite a ((a, o3) :: (X.pn ++ pins))) S3 g1 m1 (spliced_more (ld_glob (X := X.suite a ((a, o3) :: (X.pn ++ pins))) S3 g2 m2 (spliced_more (ld_glob (X := X.suite a ((a, o3) :: (X.pn ++ pins))) S3 g3 m3 (spliced_none ?_) d3) he3) d2) he2) d1) he1)
    refine wpAny_newObj_type ?_
    have kp : ∀ b u, g3h.get? b = some u → (g3h.push { cls := .type "tuple", dict := none, data := .seq [Value.ref C1, .ref C2, .ref C3].toArray }).get? b = some u := fun b u q => Heap.get?_push_of_some _ q
    have fl4 := flying_push (o := { cls := .type "tuple", dict := none, data := .seq [Value.ref C1, .ref C2, .ref C3].toArray }) fl3
    have up4 := up3.trans (Heap.UpToSlots.of_keeps kp)
    have KI := J3.kIn.keeps kp
    have LT : PySem.W.Looks (model X.prog X.w) (g3h.push { cls := .type "tuple", dict := none, data := .seq [Value.ref C1, .ref C2, .ref C3].toArray }) (typeOf (.ref a)) cls := fun A Q E s k q => wpAny_typeOf_ref (k _ _ (kp _ _ ho3)) (by rw [hz3.1]; exact q)
    refine (PySem.W.exm_tup3 (M := model X.prog X.w) KI LT (Heap.get?_push_size _ rfl) hbb).here ?_
    cases b with
    | true =>
      refine codeAny_handlers_suite_as ?_
      refine HandSPX.lands_againZ fl4 fun h5 fl5 up5 => ?_
      have J5 : Inv X pins σ' H' { s' with heap := h5 } := J.landed nb fl5.1 ((up.trans up4).trans up5) os ag
      obtain ⟨o5, v5, ho5, hz5, hv5⟩ := fl5.there
      have S5 := J5.suite ho5 hv5 na nL nF
      refine store_ok (X := X.suite a ((a, o5) :: (X.pn ++ pins))) (v := .ref a) S5 hN hi hloc rfl (fun s6 S6 => ?_) (.inr hln)
      refine wpAny_mono ((hsu a o5 cls d (X.pn ++ pins) hz5 ⟨_, hv5⟩).run [] s6 _ H' _ S6 (yes rfl a na)) (fun f s7 hsp => ?_) (fun _ _ z => False.elim z)
      have fin : ∀ {σ7 : L2.St} {H7 : Hp} {Q : Shared → Prop}, Inv (X.suite a ((a, o5) :: (X.pn ++ pins))) [] σ7 H7 s7 → (∀ s8, Inv X pins (σ7.set i none) H7 s8 → Q s8) →
          wpAny (model X.prog X.w) X.A (do bindName X.env n .none; unbindBehindTheSuite X.env n pos') (fun _ s8 => Q s8) X.xe s7 := fun {σ7 H7 Q} S7 hq => gone_ok (S7.unsuite ok) hN hi hln hq
      cases f with
      | next =>
        obtain ⟨σ7, H7, S7, w7⟩ := hsp
        exact fin S7 fun s8 J8 => ⟨_, _, J8, w7⟩
      | brk =>
        obtain ⟨σ7, H7, S7, w7⟩ := hsp
        exact fin S7 fun s8 J8 => ⟨_, _, J8, w7⟩
      | cont =>
        obtain ⟨σ7, H7, S7, w7⟩ := hsp
        exact fin S7 fun s8 J8 => ⟨_, _, J8, w7⟩
      | ret u =>
        obtain ⟨v7, σ7, H7, S7, r7, w7⟩ := hsp
        exact fin S7 fun s8 J8 => ⟨_, _, _, J8, r7, w7⟩
    | false =>
      show wpAny _ X.A (handleBy (.ref a) X.env []) _ _ _
      refine wpAny_handleBy_nil ?_
      obtain ⟨_, _, _, o6, v6, T, oT, ts6, ho6, hz6, hv6, hv1, _⟩ := id fl4
      unfold PySem.passOn
      refine wpAny_bind (wpAny_field ho6 hv6 hv1 ?_)
      rw [if_neg (show ¬ ((Value.ref T == Value.none) = true) from by simp)]
      have go : wpAny (model X.prog X.w) X.A (setFlight (.ref a) X.env.frame) (fun _ s4 => wpAny (model X.prog X.w) X.A (throw (.ref a) : Sem Flow) (SP X pins D) X.xe s4) X.xe { s' with heap := g3h.push { cls := .type "tuple", dict := none, data := .seq [Value.ref C1, .ref C2, .ref C3].toArray } } := by
        rw [hf]
        refine HandSPX.setFlight_upZ fl4 fun h4 hh4 up5 => wpAny_throw (tk _ _ ?_)
        exact ⟨a, B, sI, pins, σ', H', cls, d, rfl, J, nb, (up.trans up4).trans up5, .inr (.inr (by rw [hs]; exact hh4)), na, os, ag, no rfl⟩
      first
        | exact wpAny_bind (wpAny_pure (wpAny_bind go))
        | exact wpAny_bind go
  · cases f with
    | next =>
      obtain ⟨σ1, H1, J1, w1⟩ := hsp
      exact wpAny_execs_nil ⟨σ1, H1, J1.ofTry ok, w1⟩
    | brk =>
      obtain ⟨σ1, H1, J1, w1⟩ := hsp
      exact ⟨σ1, H1, J1.ofTry ok, w1⟩
    | cont =>
      obtain ⟨σ1, H1, J1, w1⟩ := hsp
      exact ⟨σ1, H1, J1.ofTry ok, w1⟩
    | ret u =>
      obtain ⟨v1, σ1, H1, J1, r1, w1⟩ := hsp
      exact ⟨v1, σ1, H1, J1.ofTry ok, r1, w1⟩
end
end FL
/-! FL25: caught(lambda: e). -/
namespace FL
open PySem PySem.Spec PyProof.Rows L2

/-! ### the reading -/
open Classical in
/-- what the suite gives, whatever the object -/
noncomputable def sutR (l ie : Nat) (gs : EId → SF) (C : Str) (fs : List (Str × D)) : Option Res :=
  if h : ∃ r : Res, ∀ x : EId, x.C = C → ∃ ρ : Rho, gs x ((List.replicate l Slot.no).set ie (.val (.exc x fs))) = .ok (.rt r) ρ then some h.choose else none
theorem sutR_ok {l ie : Nat} {gs : EId → SF} {C : Str} {fs : List (Str × D)} {r : Res} (h : sutR l ie gs C fs = some r) : ∀ x : EId, x.C = C → ∃ ρ : Rho, gs x ((List.replicate l Slot.no).set ie (.val (.exc x fs))) = .ok (.rt r) ρ := by
  unfold sutR at h
  split at h
  · rename_i w
    cases h
    exact w.choose_spec
  · cases h
theorem sutR_eq {l ie : Nat} {gs : EId → SF} {C : Str} {fs : List (Str × D)} {r : Res} (h : ∀ x : EId, x.C = C → ∃ ρ : Rho, gs x ((List.replicate l Slot.no).set ie (.val (.exc x fs))) = .ok (.rt r) ρ) : sutR l ie gs C fs = some r := by
  have w : ∃ r : Res, ∀ x : EId, x.C = C → ∃ ρ : Rho, gs x ((List.replicate l Slot.no).set ie (.val (.exc x fs))) = .ok (.rt r) ρ := ⟨r, h⟩
  unfold sutR
  rw [dif_pos w]
  obtain ⟨ρ1, e1⟩ := h ⟨0, none, C⟩ rfl
  obtain ⟨ρ2, e2⟩ := w.choose_spec ⟨0, none, C⟩ rfl
  rw [e1] at e2
  cases e2
  rfl
def caught (ct : CT) (cs : List Str) (C : Str) : Bool := match ct.lookup C with
  | some v => cs.any fun m => v.1.contains m
  | none => false
/-- how a def that catches is made: its slots, that of what came back and of the exception; the classes; the suite; the rest -/
structure CG where
  l : Nat
  ib : Nat
  ie : Nat
  ct : CT
  cs : List Str
  gs : EId → SF
  ge : SF
noncomputable def CG.cau (c : CG) : R D → R D
  | .ok d ρ => match c.ge ((List.replicate c.l Slot.no).set c.ib (.val d)) with
    | .ok (.rt r) _ => asE r ρ
    | _ => .stuck
  | .exc C fs ρ => if caught c.ct c.cs C = true then match sutR c.l c.ie c.gs C fs with
      | some r => asE r ρ
      | none => .stuck
    else .stuck
  | .stuck => .stuck
noncomputable def cauE (c : CG) (f : EF) : EF := fun ρ => c.cau (f ρ)
/-! ### a def's slots, all unknown -/
section
variable [FE]
variable {K : PySem.W.Frag} {π : Nat → Addr} {F H : Hp}
theorem Sta.blank (s : Same F H) (t : LamX.Tabs FE.tabs H) (n : NoT F) {σ : L2.St} {l : Nat} (hl : σ.length = l) : Sta K π ⟨H, F, [], []⟩ F H σ (List.replicate l .no) := by
  refine ⟨fun q o e _ _ _ => e, fun q hq => ?_, Same.refl _, s, fun q o _ e => e, by rw [List.length_replicate]; exact hl, fun i sl hs => ?_, fun i j p h1 h2 => ?_, ⟨t, fun q ps e => ⟨ps, e⟩, n⟩⟩
  · rcases hq with z | z <;> cases z
  · rw [List.getElem?_replicate] at hs
    split at hs
    · cases hs
      trivial
    · cases hs
  · obtain ⟨_, m, h | h⟩ := h1
    · rw [List.getElem?_replicate] at h
      split at h <;> cases h
    · rw [List.getElem?_replicate] at h
      split at h <;> cases h
/-- behind it the caller's state -/
theorem Sta.behind {c : Cfg} {σ σ' : L2.St} {ρ ρ' : Rho} {F' H' : Hp} (S : Sta K π c F H σ ρ) {π' : Nat → Addr} (T : Sta K π' ⟨H, F, [], []⟩ F' H' σ' ρ') : Sta K π c F' H' σ ρ :=
  S.grow ⟨T.f0, fun b o e n => T.h0 b o e (fun z => by cases z) (fun z => by cases z) n, T.f, fun q o e n => T.nf q o e n, ⟨fun _ => T.t.tb, T.t.tk, fun _ => T.t.nt⟩⟩
end
section
variable [FE]
structure CauT (K : PySem.W.Frag) (ct : CT) (cs : List Str) : Prop where
  e : ∀ n v, ct.lookup n = some v → ∀ m ∈ cs, PySem.W.exmOne K (.ref (FE.cl n)) (.ref (FE.cl m)) = some (v.1.contains m)
theorem CauT.any {K : PySem.W.Frag} {ct : CT} {cs : List Str} (T : CauT K ct cs) {C : Str} {v : List Str × List Str} (h : ct.lookup C = some v) : ∀ {ms : List Str}, (∀ m ∈ ms, m ∈ cs) → PySem.W.exmAny K (.ref (FE.cl C)) (ms.map fun m => .ref (FE.cl m)) = some (ms.any fun m => v.1.contains m)
  | [], _ => rfl
  | m :: ms, hm => by
    have ih := CauT.any T h (ms := ms) fun m' h' => hm m' (List.mem_cons_of_mem _ h')
    have e := T.e C v h m (hm m List.mem_cons_self)
    rw [List.map_cons, List.any_cons]
    unfold PySem.W.exmAny
    rw [e, ih]
/-- the def x catches: c tells how -/
structure Got (P : Program) (w : World) (K : PySem.W.Frag) (mg : Str → Option Value) (base : Heap) (k : Nat) (x : Str) (c : CG) : Prop where
  ex : ∃ (g : Addr) (fd : FuncData) (a : Str) (Ng : List Str) (sg : Scope) (cdg : Value), mg x = some (.ref g) ∧ PySem.W.keepIn K (.ref g) = true ∧ Binds K fd [a] [] ∧ Vis sg a ∧ Ng[0]? = some a ∧ (a == ("__debug__" : Str)) = false ∧ (a == ("__classdict__" : Str)) = false ∧
    ∀ (A : Around) (outer : List Env) (s : Shared) (H : Hp) (args : Args) (f co : Addr) (q : Str) (Q : VK) (π : Nat → Addr) (W : WX) (cf : Cfg) (F : Hp) (ρ : Rho) (σ : L2.St) (ef : EF),
      RoomG (k + 1) A → Env0 P w K mg base A outer s H → BindsTo s fd args ([a].zip [.ref f]) → H co = some (LamX.CodeO co q) → Sta K π cf F H σ ρ → Po K π W (relE K) cf F σ Q (c.cau (ef ρ)) →
      (∀ (W' : WX) (pn : List (Addr × Obj)) (xe : Value → Shared → Prop) (E : XK) (p1 p2 : Pos), L2N.Takes ((cxOf (L2N.CX P w) P w K mg base Ng x sg g cdg A outer s H (fun _ _ _ => False)).tr pn xe) W' → (∀ cls d σ' H', σ'.length = Ng.length → E cls d H' → W' cls d σ' H') →
        RoomG k (A.deeper (envOfC x sg s.heap.objs.size g cdg)) →
        PE ((cxOf (L2N.CX P w) P w K mg base Ng x sg g cdg A outer s H (fun _ _ _ => False)).tr pn xe) (.Call (.Name a p1) [] [] p2) (fun σZ HZ Q => σZ[0]? = some (some (.ref f)) ∧ HZ co = some (LamX.CodeO co q) ∧ tE K π (fun cls d _ H => E cls d H) ef σ HZ Q)) →
      codeAny (model P w) A (.call (.ref g) args) (CR (L2N.CX P w) outer P w H s Q (fun _ _ _ => False)) s
section
variable {P : Program} {w : World} {K : PySem.W.Frag} {mg : Str → Option Value} {base : Heap}
theorem got_of {x : Str} {st : Stmt} {g : Addr} {fd : FuncData} {Ng : List Str} {a back e n1 n2 n3 : Str} {k : Nat} {c : CG} {b₀ : Stmt} {suite rest : List Stmt} {pb p1 p2 p3 p4 p5 q1 q2 q3 tp : Pos} {kk : Nat} (Fd : Fun K x x st g fd) (Sc : FnScope Ng [a] (defScope st)) (hm : mg x = some (.ref g))
    (hbd : defBody st = .Try [.Assign [.Name back pb] (.Call (.Name a p1) [] [] p2) p3] [.ExceptHandler (some (.Tuple [.Name n1 q1, .Name n2 q2, .Name n3 q3] kk tp)) (some e) (b₀ :: suite) p4] [] [] p5 :: rest)
    (hl : Ng.length = c.l) (h0 : Ng[0]? = some a) (hib : Ng[c.ib]? = some back) (hie : Ng[c.ie]? = some e) (va : Vis (defScope st) a) (lb : (defScope st).names.lookup back = some .local) (le : (defScope st).names.lookup e = some .local)
    (hcs : c.cs = [n1, n2, n3]) (l1 : (defScope st).names.lookup n1 = some .globalImplicit) (l2 : (defScope st).names.lookup n2 = some .globalImplicit) (l3 : (defScope st).names.lookup n3 = some .globalImplicit)
    (m1 : mg n1 = some (.ref (FE.cl n1))) (m2 : mg n2 = some (.ref (FE.cl n2))) (m3 : mg n3 = some (.ref (FE.cl n3))) (d1 : (n1 == ("__debug__" : Str)) = false) (d2 : (n2 == ("__debug__" : Str)) = false) (d3 : (n3 == ("__debug__" : Str)) = false)
    (da : (a == ("__debug__" : Str)) = false) (da2 : (a == ("__classdict__" : Str)) = false) (T : CauT K c.ct c.cs)
    (hbn : ∀ (kV doc pm : Value) (an : Option Addr) (cdv ct : Value) (us : List Value), us.length = [a].length → bindArgs (PySem.W.fnOf x x (defArgs st) (defBody st) (defScope st) .none kV doc pm an cdv ct) ⟨us, []⟩ = pure ([a].zip us))
    (hsw : ∀ (L : Addr) (cdv : Value), swapsWith (.Call (.Name a p1) [] [] p2) (some (.Name back pb)) p3.line (envOfC x (defScope st) L g cdv) = pure false)
    (hsu : ∀ (z : EId) (cdv : Value) (A : Around) (outer : List Env) (s : Shared) (H : Hp) (π : Nat → Addr) (oe : Obj) (pn : List (Addr × Obj)), L2H.RoomH k ((cxOf (L2N.CX P w) P w K mg base Ng x (defScope st) g cdv A outer s H (fun _ _ _ => False)).nox.suite z.a ((z.a, oe) :: pn)).A →
      HotX ((cxOf (L2N.CX P w) P w K mg base Ng x (defScope st) g cdv A outer s H (fun _ _ _ => False)).nox.suite z.a ((z.a, oe) :: pn)) z → (∃ v, c.ct.lookup z.C = some v) →
      PSs ((cxOf (L2N.CX P w) P w K mg base Ng x (defScope st) g cdv A outer s H (fun _ _ _ => False)).nox.suite z.a ((z.a, oe) :: pn)) (b₀ :: suite) (tS K π W0 (c.gs z)))
    (hre : ∀ (cdv : Value) (A : Around) (outer : List Env) (s : Shared) (H : Hp) (π : Nat → Addr), RoomG k (cxOf (L2N.CX P w) P w K mg base Ng x (defScope st) g cdv A outer s H (fun _ _ _ => False)).nox.A →
      PSs (cxOf (L2N.CX P w) P w K mg base Ng x (defScope st) g cdv A outer s H (fun _ _ _ => False)).nox rest (tS K π W0 c.ge)) :
    Got P w K mg base k x c := by
  have hFd := Fd
  obtain ⟨oc, od, kV, doc, pm, an, cdv, ct, osl, rfl, lk, hcd⟩ := Fd.ex
  refine ⟨g, _, a, Ng, defScope st, cdv, hm, hFd.kp, hFd.binds hbn, va, h0, da, da2, fun A outer s H args f co q Q π W cf F ρ σ ef hr e0 hb hco S PP act => ?_⟩
  refine LamX.run_ofS (N := Ng) (ps := [a]) (us := [.ref f]) (vs := [.ref f]) (k := k) lk hcd Sc hr.r e0 hb (.cons rfl .nil) rfl fun hr' => ?_
  have hrG : RoomG k (A.deeper (envOfC x (defScope st) s.heap.objs.size g cdv)) := ⟨hr', hr.g⟩
  have nd : Ng.Nodup := Sc.nd
  have ll : ∀ {i : Nat} {y : Str}, Ng[i]? = some y → i < c.l := fun {i y} e => by
    have := (List.getElem?_eq_some_iff.mp e).1
    omega
  have il : c.ib < (List.replicate c.l Slot.no).length := by rw [List.length_replicate]; exact ll hib
  have jl : c.ie < (List.replicate c.l Slot.no).length := by rw [List.length_replicate]; exact ll hie
  have sl : (L2.start Ng [V.ref f]).length = c.l := by
    unfold L2.start
    have := ll h0
    simp
    omega
  -- what follows a value of the suite, or of the rest
  have done : ∀ {F1 H1 : Hp} {ρ1 : Rho} {r : Res} {F2 H2 : Hp} {σ2 : L2.St} {ρ2 : Rho} {π2 : Nat → Addr} {v : V}, Sta K π cf F1 H1 σ ρ1 → Po K π W (relE K) cf F1 σ Q (asE r ρ1) → Same F1 F2 → Sta K π2 ⟨H1, F1, [], []⟩ F2 H2 σ2 ρ2 → relR K ⟨H1, F1, [], []⟩ F2 H2 σ2 ρ2 v r → Q v H2 := fun {F1 H1 ρ1 r F2 H2 σ2 ρ2 π2 v} S1 P1 s2 T2 rv => by
    have S2 := S1.behind T2
    refine k_asE (X := cxOf (L2N.CX P w) P w K mg base Ng x (defScope st) g cdv A outer s H (fun _ _ _ => False)) (H := H1) (r := r) ?_ S2 (fun q hq => ?_) (P1.mono s2)
    · cases r with
      | v d => exact rv
      | m m =>
        obtain ⟨p, e, n, n0, _, hm⟩ := rv
        exact ⟨p, e, n0, n, hm⟩
    · have z := S1.fresh hq
      exact ⟨z.2.1, z.2.2⟩
  have hb1 : ∀ (W' : WX) (pn : List (Addr × Obj)) (xe : Value → Shared → Prop), L2N.Takes ((cxOf (L2N.CX P w) P w K mg base Ng x (defScope st) g cdv A outer s H (fun _ _ _ => False)).nox.tr pn xe) W' → PassesOwn (model P w) (cxOf (L2N.CX P w) P w K mg base Ng x (defScope st) g cdv A outer s H (fun _ _ _ => False)).nox.A (cxOf (L2N.CX P w) P w K mg base Ng x (defScope st) g cdv A outer s H (fun _ _ _ => False)).nox.env xe → PSs ((cxOf (L2N.CX P w) P w K mg base Ng x (defScope st) g cdv A outer s H (fun _ _ _ => False)).nox.tr pn xe) [.Assign [.Name back pb] (.Call (.Name a p1) [] [] p2) p3] ((fun (W' : WX) (D : Ends) (σZ : L2.St) (HZ : Hp) => ∃ Ec : XK, (∀ (cls : Value) (d : Option Addr) (σ' : L2.St) (H' : Hp), List.length σ' = Ng.length → Ec cls d H' → W' cls d σ' H') ∧ σZ[0]? = some (some (V.ref f)) ∧ HZ co = some (LamX.CodeO co q) ∧ tE K π (fun cls d _ H => Ec cls d H) ef σ HZ (fun v H1 => D.nx (σZ.set c.ib (some v)) H1)) W') := fun W' pn xe tk' _ => ⟨fun pins s' σZ HZ D I ⟨Ec, hW, z1, z2, z3⟩ => by
    have hp := act W' pn xe Ec p1 p2 tk' hW hrG
    exact (pss_one (ps_set (i := c.ib) (pos' := pb) (pos := p3) nd hib (.inl lb) hp (hsw _ _))).run pins s' σZ HZ D I ⟨z1, z2, z3⟩⟩
  have hs1 : ∀ (ax : Addr) (oe : Obj) (cls : Value) (d : Option Addr) (pn : List (Addr × Obj)), L2N.Zn cls d oe → (∃ vs, oe.data = .fields vs) → PSs ((cxOf (L2N.CX P w) P w K mg base Ng x (defScope st) g cdv A outer s H (fun _ _ _ => False)).nox.suite ax ((ax, oe) :: pn)) (b₀ :: suite) ((fun (ax : Addr) (cls : Value) (d : Option Addr) (D : Ends) (σZ : L2.St) (HZ : Hp) => ∃ C : Str, cls = .ref (FE.cl C) ∧ (∃ v, c.ct.lookup C = some v) ∧ ∃ π2, tS K π2 W0 (c.gs ⟨ax, d, C⟩) D σZ HZ) ax cls d) := fun ax oe cls d pn hz hf => ⟨fun pins s' σZ HZ D I ⟨C, ec, hk, π2, h⟩ => by
    subst ec
    exact (hsu ⟨ax, d, C⟩ cdv A outer s H π2 oe pn ⟨hr'.dp, hr'.un⟩ ⟨oe, rfl, List.mem_cons_self, hz, hf⟩ hk).run pins s' σZ HZ D I h⟩
  have ht := pss_cons (ps_try3 (X := (cxOf (L2N.CX P w) P w K mg base Ng x (defScope st) g cdv A outer s H (fun _ _ _ => False)).nox) (i := c.ie) (q1 := q1) (q2 := q2) (q3 := q3) (tp := tp) (kk := kk) (pos' := p4) (pos := p5) (Wout := W0) (tb := (fun (W' : WX) (D : Ends) (σZ : L2.St) (HZ : Hp) => ∃ Ec : XK, (∀ (cls : Value) (d : Option Addr) (σ' : L2.St) (H' : Hp), List.length σ' = Ng.length → Ec cls d H' → W' cls d σ' H') ∧ σZ[0]? = some (some (V.ref f)) ∧ HZ co = some (LamX.CodeO co q) ∧ tE K π (fun cls d _ H => Ec cls d H) ef σ HZ (fun v H1 => D.nx (σZ.set c.ib (some v)) H1))) (ts := (fun (ax : Addr) (cls : Value) (d : Option Addr) (D : Ends) (σZ : L2.St) (HZ : Hp) => ∃ C : Str, cls = .ref (FE.cl C) ∧ (∃ v, c.ct.lookup C = some v) ∧ ∃ π2, tS K π2 W0 (c.gs ⟨ax, d, C⟩) D σZ HZ)) rfl rfl nd hie le l1 l2 l3 m1 m2 m3 d1 d2 d3 takes_0 hb1 hs1) (hre cdv A outer s H (fun _ => 0) hrG)
  rw [← hbd] at ht
  refine ⟨_, ht.nox, ?_⟩
  refine ⟨fun cls d H' => ∀ σ', σ'.length = Ng.length → wAsL K [.ref (FE.cl n1), .ref (FE.cl n2), .ref (FE.cl n3)] c.ie _ W0 _ cls d σ' H', fun cls d σ' H' hl h => h σ' hl, start_get (i := 0) rfl, hco, cf, F, ρ, S, ?_⟩
  cases er : ef ρ with
  | stuck =>
    rw [er] at PP
    exact PP
  | ok d ρ1 =>
    rw [er] at PP
    intro v F1 H1 s1 S1 rv
    have PP : Po K π W (relE K) cf F σ Q (match c.ge ((List.replicate c.l Slot.no).set c.ib (.val d)) with
      | .ok (.rt r) _ => asE r ρ1
      | _ => .stuck) := PP
    refine ⟨⟨H1, F1, [], []⟩, F1, (List.replicate c.l Slot.no).set c.ib (.val d), rfl, (Sta.blank S1.f S1.t.tb S1.t.nt sl).set il rv, ?_⟩
    cases eg : c.ge ((List.replicate c.l Slot.no).set c.ib (.val d)) with
    | stuck => rw [eg] at PP; exact PP.elim
    | exc C fs ρ2 => rw [eg] at PP; exact PP.elim
    | ok fl ρ2 =>
      rw [eg] at PP
      cases fl with
      | rt r => exact fun v2 σ2 F2 H2 s2 T2 r2 => done S1 (PP.mono s1) s2 T2 r2
      | nx => exact PP.elim
      | bk => exact PP.elim
      | ct => exact PP.elim
  | exc C fs ρ1 =>
    rw [er] at PP
    intro dd fsV F1 H1 s1 S1 xd hk rs σ' hl'
    have PP : Po K π W (relE K) cf F σ Q (if caught c.ct c.cs C = true then match sutR c.l c.ie c.gs C fs with
        | some r => asE r ρ1
        | none => .stuck
      else .stuck) := PP
    split at PP
    · rename_i hc
      cases el : c.ct.lookup C with
      | none =>
        unfold caught at hc
        rw [el] at hc
        cases hc
      | some v =>
        have hany : (c.cs.any fun m => v.1.contains m) = true := by
          unfold caught at hc
          rw [el] at hc
          exact hc
        have ea := T.any el (ms := c.cs) fun m h => h
        rw [hany, hcs] at ea
        cases es : sutR c.l c.ie c.gs C fs with
        | none => rw [es] at PP; exact PP.elim
        | some r =>
          rw [es] at PP
          refine ⟨true, ea, fun _ ax hax => ⟨C, rfl, ⟨v, el⟩, fun _ => 0, ⟨H1, F1, [], []⟩, F1, (List.replicate c.l Slot.no).set c.ie (.val (.exc ⟨ax, dd, C⟩ fs)), rfl, (Sta.blank S1.f S1.t.tb S1.t.nt (hl'.trans hl)).set jl (.exc (x := ⟨ax, dd, C⟩) xd hk rs), ?_⟩, fun z => nomatch z⟩
          obtain ⟨ρ2, e2⟩ := sutR_ok es ⟨ax, dd, C⟩ rfl
          rw [e2]
          exact fun v2 σ2 F2 H2 s2 T2 r2 => done S1 (PP.mono s1) s2 T2 r2
    · exact PP.elim
end
end
end FL
/-! FL26: caught(lambda: e), the rule. -/
namespace FL
open PySem PySem.Spec PyProof.Rows L2
section
variable [FE]
variable {X : Cx} {π : Nat → Addr} {W : WX}
/-- the maker's code object and its table -/
structure TabK (X : Cx) (cd Pt : Addr) : Prop where
  tb : LamX.TabB X.base X.mg cd Pt
  code : X.env.code = .ref cd
  m : (Pt, lamQ X) ∈ FE.tabs
  u : ∀ p ∈ FE.tabs, p.1 = Pt → p.2 = lamQ X
theorem Sta.lam {c : Cfg} {F H H1 : Hp} {σ : L2.St} {ρ : Rho} {K : PySem.W.Frag} {Pt : Addr} (S : Sta K π c F H σ ρ) (k : ∀ b o, b ≠ Pt → H b = some o → H1 b = some o) (e0 : ∃ ps, H Pt = some (.tbl ps)) (e : ∃ ps, H1 Pt = some (.tbl ps)) (t : LamX.Tabs FE.tabs H1) : Sta K π c F H1 σ ρ := by
  obtain ⟨ps0, e0⟩ := e0
  have nt : ∀ b o, H b = some o → NT o → b ≠ Pt := fun b o h n z => by
    subst z
    rw [e0] at h
    cases h
    exact n _ rfl
  refine S.grow ⟨Same.refl _, fun b o h n => k b o (nt b o h n) h, fun b o h => k b o (nt b o (S.f _ _ h) (S.t.nt _ _ h)) (S.f _ _ h), fun q o _ h => h, ⟨fun _ => t, fun q ps h => ?_, fun h => h⟩⟩
  by_cases z : q = Pt
  · subst z
    exact e
  · exact ⟨ps, k q _ z h⟩
theorem fe_caught {x : Str} {c : CG} {j : Nat} {cd Pt : Addr} {ar : Arguments} {body : Expr} {sc : Scope} {ef : EF} {p lp pos : Pos} (Gt : Got X.prog X.w X.K X.mg X.base (j + 1) x c) (hr : RoomG (j + 2) X.A) (hg : Gl X x) (TK : TabK X cd Pt) (L : LamX.LamS X.env.scope sc) (hdf : defaultsOf ar X.env = ([], []))
    (hbind : ∀ (q : Str) (cl : List (Str × Addr)) (pm cv ctv : Value), bindArgs (PySem.W.kla_fn "<lambda>" q ar body sc cl pm cv ctv) ⟨[], []⟩ = pure [])
    (hbody : ∀ (A : Around) (outer : List Env) (s : Shared) (H : Hp) (E : XK) (f co : Addr), RoomG j (A.deeper (LamX.lamEnv X sc s.heap.objs.size f co)) → PE (lamX X A outer s H E sc f co) body (tE X.K π (fun cls d _ H => E cls d H) ef))
    (hdb : (x == ("__debug__" : Str)) = false := by decide) : PE X (.Call (.Name x p) [.Lambda ar body sc lp] [] pos) (tE X.K π W (cauE c ef)) := by
  obtain ⟨g, fd, a, Ng, sg, cdg, hm, hkp, hb, va, h0, da, da2, run⟩ := Gt.ex
  refine ⟨fun pins s σ H Q I ⟨cf, F, ρ, S, P⟩ => ?_⟩
  refine wpAny_Call_Name_kw (ld_glob I hg hm ?_ hdb)
  refine PySem.W.callWith_K (h₀ := X.base) I.ok.mod.kin hkp ?_ (by rfl) (by rfl)
  show wpAny _ _ (spliced ((false, eval (.Lambda ar body sc lp) X.env) :: backTo pos (starEach [] X.env))) _ _ s
  refine Calls.spliced_cons (lam_mk I TK.tb TK.code TK.m TK.u S.t.tb hdf (L.has I.ok) fun f co pm ctv H1 s1 I1 k1 e1 T1 hf hfn hfr hco => ?_)
  refine Calls.spliced_nil ⟨I1.kIn, ?_⟩
  obtain ⟨ps0, hP, _⟩ := S.t.tb _ TK.m
  have S1 : Sta X.K π cf F H1 σ ρ := S.lam k1 ⟨ps0, hP⟩ e1 T1
  have b := hb s1 [.ref f] I1.kIn rfl
  have rc := run X.A X.stack s1 H1 ⟨[.ref f], []⟩ f co (lamQ X) Q π W cf F ρ σ ef hr I1.env0 b hco S1 P fun W' pn xe E p1 p2 tk hW hr' => pe_act I1 L hf hfn hfr (hbind _ _ _ _ _) tk hW hr' (fun A outer s H hr2 => hbody A outer s H E f co hr2) h0 va da da2
  refine wpAny_call (codeAny_mono rc fun r s2 hq => ?_)
  cases r with
  | error e =>
    obtain ⟨_, _, _, _, _, _, _, _, _, _, _, _, z⟩ := hq
    exact z.elim
  | ok fl =>
    cases fl with
    | ret u => exact I1.after hq
    | next => exact False.elim hq
    | brk => exact False.elim hq
    | cont => exact False.elim hq
end
end FL
/-! FL27: from what the head finds: classes, tables. -/
namespace FL
open PySem PySem.Spec PyProof.Rows L2

theorem _root_.L2H.RoomH.u64 {k : Nat} {A : Around} (r : L2H.RoomH k A) : A.units + 64 < cLine := by have := r.un; omega
theorem _root_.L2H.RoomH.u65 {k : Nat} {A : Around} (r : L2H.RoomH k A) : A.units + 65 < cLine := by have := r.un; omega
theorem rh_mono {j k : Nat} {A : Around} (r : L2H.RoomH k A) (h : Nat.ble j k = true) : L2H.RoomH j A := r.mono (Nat.le_of_ble_eq_true h)
def feOf (tabs : List (Addr × Str)) (cl : List (Str × Addr)) : FE := ⟨tabs, fun n => (cl.lookup n).getD 0⟩
/-! ### tables -/
/-- the table of the code object at c -/
def tabOf (K : PySem.W.Frag) (c : Addr) : Addr := match K.lookup c with
  | some ⟨_, _, .fields vs, _⟩ => match (vs[11]? : Option Value) with
    | some (.ref P) => P
    | _ => 0
  | _ => 0
/-- no table stands in two names -/
def uniqT : List (Addr × Str) → Bool
  | [] => true
  | p :: l => (l.all fun q => !(p.1 == q.1) || p.2 == q.2) && uniqT l
theorem uniqT_ok : ∀ {l : List (Addr × Str)}, uniqT l = true → ∀ p ∈ l, ∀ q ∈ l, p.1 = q.1 → p.2 = q.2
  | [], _ => fun p hp => by cases hp
  | a :: l, h => fun p hp q hq e => by
    unfold uniqT at h
    rw [Bool.and_eq_true] at h
    have key : ∀ q ∈ l, a.1 = q.1 → a.2 = q.2 := fun q hq e => by
      have z := List.all_eq_true.mp h.1 q hq
      rw [e] at z
      simpa using z
    rcases List.mem_cons.mp hp with e1 | hp'
    · rcases List.mem_cons.mp hq with e2 | hq'
      · rw [e1, e2]
      · rw [e1]
        exact key q hq' (e1 ▸ e)
    · rcases List.mem_cons.mp hq with e2 | hq'
      · rw [e2]
        exact (key p hp' (e2 ▸ e.symm)).symm
      · exact uniqT_ok h.2 p hp' q hq' e
/-- all of a maker's code object, to be computed -/
def codB (K : PySem.W.Frag) (ts : List Addr) (c : Addr) : Bool := PySem.W.codeHdIn K c (tabOf K c) && ts.contains (tabOf K c) && (K.lookup (tabOf K c)).isNone
theorem codes0 {K : PySem.W.Frag} {h : Heap} : Codes K h [] := ⟨fun p hp => (by cases hp), fun p hp => (by cases hp), fun p hp => (by cases hp)⟩
theorem codesT {K : PySem.W.Frag} {h : Heap} {ts cs : List Addr} (X : K.In h) (ht : ∀ P ∈ ts, h.get? P = some (PySem.W.tabObj #[])) (hb : (cs.all fun c => codB K ts c) = true) : Codes K h (cs.map fun c => (c, tabOf K c)) := by
  have key : ∀ p ∈ cs.map (fun c => (c, tabOf K c)), ∃ c ∈ cs, p = (c, tabOf K c) ∧ codB K ts c = true := fun p hp => by
    obtain ⟨c, hc, rfl⟩ := List.mem_map.mp hp
    exact ⟨c, hc, rfl, List.all_eq_true.mp hb c hc⟩
  have open_ : ∀ {c}, codB K ts c = true → PySem.W.codeHdIn K c (tabOf K c) = true ∧ tabOf K c ∈ ts ∧ K.lookup (tabOf K c) = none := fun {c} h => by
    unfold codB at h
    rw [Bool.and_eq_true, Bool.and_eq_true] at h
    exact ⟨h.1.1, by simpa using h.1.2, by simpa using h.2⟩
  refine ⟨fun p hp => ?_, fun p hp => ?_, fun p hp => ?_⟩
  · obtain ⟨c, _, rfl, h⟩ := key p hp
    exact ht _ (open_ h).2.1
  · obtain ⟨c, _, rfl, h⟩ := key p hp
    exact (open_ h).2.2
  · obtain ⟨c, _, rfl, h⟩ := key p hp
    exact PySem.W.codeHd_of_K X (open_ h).1
/-! ### classes -/
theorem lookup_mem {α : Type} {n : Str} {v : α} : ∀ {l : List (Str × α)}, l.lookup n = some v → (n, v) ∈ l
  | [], h => by cases h
  | (m, u) :: l, h => by
    by_cases e : (n == m) = true
    · rw [List.lookup_cons, e] at h
      cases h
      rw [beq_iff_eq.mp e]
      exact List.mem_cons_self
    · have e : (n == m) = false := by simpa using e
      rw [List.lookup_cons, e] at h
      exact List.mem_cons_of_mem _ (lookup_mem h)
theorem clsT_of [FE] {K : PySem.W.Frag} {ct : CT} {tests : List Str} {b : List (Str × String)} (h : (ct.all fun p => clsB K (FE.cl p.1) p.2.2 (tests.map fun m => (cval b m, p.2.1.contains m))) = true) : ClsT K ct tests b := by
  have key : ∀ n v, ct.lookup n = some v → clsB K (FE.cl n) v.2 (tests.map fun m => (cval b m, v.1.contains m)) = true := fun n v e => List.all_eq_true.mp h (n, v) (lookup_mem e)
  exact ⟨fun n v e => (clsB_ok (key n v e)).1, fun n v e m hm => (clsB_ok (key n v e)).2.2 (cval b m, v.1.contains m) (List.mem_map.mpr ⟨m, hm, rfl⟩), fun n v e => (clsB_ok (key n v e)).2.1⟩
theorem cauT_of [FE] {K : PySem.W.Frag} {ct : CT} {cs : List Str} (h : (ct.all fun p => cs.all fun m => PySem.W.exmOne K (.ref (FE.cl p.1)) (.ref (FE.cl m)) == some (p.2.1.contains m)) = true) : CauT K ct cs :=
  ⟨fun n v e m hm => beq_iff_eq.mp (List.all_eq_true.mp (List.all_eq_true.mp h (n, v) (lookup_mem e)) m hm)⟩
/-- a class that is raised, to be computed -/
def excB (K : PySem.W.Frag) (C fI : Addr) (nw : String) (tl : List Value) (fs : List Str) : Bool :=
  PySem.W.excInitIn K C tl nw && PySem.W.excOver K C tl && PySem.W.hasDictIn K C && (PySem.W.findIn K (.ref C) "__setattr__" == some (some (.builtin "object.__setattr__"))) && (PySem.W.subIn K (.ref C) (.type "BaseException") == some true) && (PySem.W.typeIn K (.ref C) == some (.type "type")) &&
  PySem.W.keepIn K (.ref C) && (PySem.W.findIn K (.ref C) "__init__" == some (some (.ref fI))) && (PySem.W.typeIn K (.ref fI) == some (.type "function")) && fs.all fun f => PySem.W.takerIn K C f == some none
theorem excB_ok {K : PySem.W.Frag} {C fI : Addr} {nw : String} {tl : List Value} {fs : List Str} (h : excB K C fI nw tl fs = true) : ExcK K C fI nw tl fs := by
  unfold excB at h
  simp only [Bool.and_eq_true, beq_iff_eq, List.all_eq_true] at h
  obtain ⟨⟨⟨⟨⟨⟨⟨⟨⟨h1, h2⟩, h3⟩, h4⟩, h5⟩, h6⟩, h7⟩, h8⟩, h9⟩, h10⟩ := h
  exact ⟨h1, h2, h3, h4, h5, h6, h7, h8, h9, h10⟩
/-- one without fields -/
structure Exc0 (K : PySem.W.Frag) (C : Addr) (nw : String) (tl : List Value) : Prop where
  q : PySem.W.excIn K C tl nw = true
  kp : PySem.W.keepIn K (.ref C) = true
  sb : PySem.W.subIn K (.ref C) (.type "BaseException") = some true
  ty : PySem.W.typeIn K (.ref C) = some (.type "type")
def exc0B (K : PySem.W.Frag) (C : Addr) (nw : String) (tl : List Value) : Bool := PySem.W.excIn K C tl nw && PySem.W.keepIn K (.ref C) && (PySem.W.subIn K (.ref C) (.type "BaseException") == some true) && (PySem.W.typeIn K (.ref C) == some (.type "type"))
theorem exc0B_ok {K : PySem.W.Frag} {C : Addr} {nw : String} {tl : List Value} (h : exc0B K C nw tl = true) : Exc0 K C nw tl := by
  unfold exc0B at h
  simp only [Bool.and_eq_true, beq_iff_eq] at h
  exact ⟨h.1.1.1, h.1.1.2, h.1.2, h.2⟩
/-! ### a def whose code object is known -/
section
variable [FE]
variable {P : Program} {w : World} {K : PySem.W.Frag} {mg : Str → Option Value} {base : Heap}
theorem fnGc {x qual : Str} {st : Stmt} {f : Addr} {N ps : List Str} {k : Nat} {g : SF} {oc : Value} {od : Option Addr} {kV doc pm : Value} {an : Option Addr} {cdv ct : Value} {osl : Array (Option Value)}
    (lk : K.lookup f = some ⟨oc, od, .func (PySem.W.fnOf x qual (defArgs st) (defBody st) (defScope st) .none kV doc pm an cdv ct), osl⟩) (hcd : PySem.W.codeIn K cdv qual = true) (Sc : FnScope N ps (defScope st))
    (hbody : ∀ (A : Around) (outer : List Env) (s : Shared) (H : Hp) (E : XK) (π : Nat → Addr) (W : WX), RoomG k (cxF P w K mg base N qual (defScope st) f cdv A outer s H E).A → L2N.Takes (cxF P w K mg base N qual (defScope st) f cdv A outer s H E) W →
      PassesOwn (model P w) (cxF P w K mg base N qual (defScope st) f cdv A outer s H E).A (cxF P w K mg base N qual (defScope st) f cdv A outer s H E).env (cxF P w K mg base N qual (defScope st) f cdv A outer s H E).xe →
      PSs (cxF P w K mg base N qual (defScope st) f cdv A outer s H E) (defBody st) (tS K π W g)) : FnG P w K mg base (k + 1) f (PySem.W.fnOf x qual (defArgs st) (defBody st) (defScope st) .none kV doc pm an cdv ct) ps (spG K ps.length (bodyG N.length g)) := by
  refine ⟨fun vs H Q E ⟨_, _, _, _, h, _⟩ => h, fun A outer s H args us vs Q E hr e0 hb r hsp => ?_⟩
  obtain ⟨F, as, sm, ra, hl, nd, hP⟩ := hsp
  have KX : K.In s.heap := e0.mod.kin.keeps fun b o e => (e0.bs b o e).1
  have lim : s.heap.NoLimit := e0.mod.nolimit.keeps fun b o e => (e0.bs b o e).1
  have hps : ps.length ≤ N.length := by
    have := congrArg List.length Sc.pre
    rw [List.length_take] at this
    omega
  refine codeAny_call_function hr.r.depth (KX _ _ lk) rfl Sc.co Sc.gen rfl (PySem.W.codeRec_of KX hcd) (hb _ _ _ _ ?_)
  refine wpAny_newFunctionEnv_cells Sc.kind (fun ⟨n, v⟩ hy => ?_) fun env he s1 x => ?_
  · rcases Sc.par n (List.of_mem_zip hy).1 with q | q
    · exact .inl q
    · exact .inr ⟨q, PySem.W.cellsFrom_some _ _ _ (.inl q)⟩
  · subst he
    refine ⟨lim.keeps x.toInCall.keep, codeAny_func ?_⟩
    have hx := hbody A outer s H E (fun i => adrV vs[i]?) (fun cls d _ H => E cls d H) (hr.deeper _) (L2N.takes_of rfl rfl rfl rfl) (passes_of rfl)
    have I : Inv (cxOf (L2N.CX P w) P w K mg base N qual (defScope st) f cdv A outer s H E) [] (L2.start N vs) H s1 := inv_start Sc hr.r.hd e0 hl r x
    have run := hx.run [] s1 (L2.start N vs) H { nx := fun _ H' => Q .non H', rt := Q } I (body_end sm ra nd (by omega) hP)
    refine wpAny_mono run (fun fl s' hs => ?_) fun e s' hs => hs
    cases fl with
    | ret u =>
      obtain ⟨v, σ', H', J, rv, q⟩ := hs
      exact ⟨v, H', J.os, J.bare, J.base, J.hok, rv, q⟩
    | next =>
      obtain ⟨σ', H', J, q⟩ := hs
      exact ⟨V.non, H', J.os, J.bare, J.base, J.hok, rfl, q⟩
    | brk =>
      obtain ⟨_, _, _, q⟩ := hs
      exact q.elim
    | cont =>
      obtain ⟨_, _, _, q⟩ := hs
      exact q.elim
end
end FL
/-! FL28: dict comprehensions; sorted(d) of a dict with keys that are ints. -/
namespace FL
open PySem PySem.Spec PyProof.Rows L2

/-- as a key -/
def keyD : D → Option Key
  | .int i => some (.inl i)
  | .str x => some (.inr x)
  | _ => none
def putD (kvs : List (Key × D)) (k : Key) (v : D) : List (Key × D) :=
  if (kvs.any fun kv => decide (kv.1 = k)) = true then kvs.map (fun kv => if kv.1 = k then (kv.1, v) else kv) else kvs ++ [(k, v)]
def getD' (kvs : List (Key × D)) (k : Key) : Option D := (kvs.find? fun kv => decide (kv.1 = k)).map (·.2)
theorem keyD_rep {K : PySem.W.Frag} {F : Hp} {v : V} {d : D} {k : Key} (r : Rep K F v d) (h : keyD d = some k) : v = kV k := by
  cases r <;> first | (cases h; done) | (cases h; rfl)
/-- a dict's entries as data -/
def KvR (K : PySem.W.Frag) (F : Hp) (vs : List (Key × V)) (ds : List (Key × D)) : Prop := vs.map (·.1) = ds.map (·.1) ∧ Reps K F (vs.map (·.2)) (ds.map (·.2))
section
variable {K : PySem.W.Frag} {F F' : Hp}
theorem KvR.nil : KvR K F [] [] := ⟨rfl, .nil⟩
theorem KvR.mono {vs : List (Key × V)} {ds : List (Key × D)} (h : KvR K F vs ds) (s : Same F F') : KvR K F' vs ds := ⟨h.1, h.2.mono s⟩
theorem KvR.ind {vs : List (Key × V)} {ds : List (Key × D)} (h : KvR K F vs ds) : Paired (fun a b => a.1 = b.1 ∧ Rep K F a.2 b.2) vs ds := by
  induction vs generalizing ds with
  | nil =>
    cases ds with
    | nil => exact .nil
    | cons d ds => obtain ⟨h1, _⟩ := h; simp at h1
  | cons v vs ih =>
    cases ds with
    | nil => obtain ⟨h1, _⟩ := h; simp at h1
    | cons d ds =>
      obtain ⟨h1, h2⟩ := h
      rw [List.map_cons, List.map_cons] at h1
      injection h1 with h1 h3
      cases h2 with
      | cons r rs => exact .cons ⟨h1, r⟩ (ih ⟨h3, rs⟩)
theorem KvR.of {vs : List (Key × V)} {ds : List (Key × D)} (h : Paired (fun a b => a.1 = b.1 ∧ Rep K F a.2 b.2) vs ds) : KvR K F vs ds := by
  induction h with
  | nil => exact ⟨rfl, .nil⟩
  | cons h _ ih => exact ⟨by rw [List.map_cons, List.map_cons, h.1, ih.1], .cons h.2 ih.2⟩
theorem KvR.any {vs : List (Key × V)} {ds : List (Key × D)} (h : KvR K F vs ds) (k : Key) : (vs.any fun kv => decide (kv.1 = k)) = ds.any fun kv => decide (kv.1 = k) := by
  have p := h.ind
  clear h
  induction p with
  | nil => rfl
  | cons h _ ih => rw [List.any_cons, List.any_cons, ih, h.1]
theorem paired_upd {vs : List (Key × V)} {ds : List (Key × D)} (p : Paired (fun a b => a.1 = b.1 ∧ Rep K F a.2 b.2) vs ds) (k : Key) {v : V} {d : D} (r : Rep K F v d) :
    Paired (fun a b => a.1 = b.1 ∧ Rep K F a.2 b.2) (vs.map fun kv => if kv.1 = k then (kv.1, v) else kv) (ds.map fun kv => if kv.1 = k then (kv.1, d) else kv) := by
  induction p with
  | nil => exact .nil
  | @cons a b as bs h _ ih =>
    rw [List.map_cons, List.map_cons]
    refine .cons ?_ ih
    by_cases c : a.1 = k
    · rw [if_pos c, if_pos (h.1.symm.trans c)]
      exact ⟨h.1, r⟩
    · rw [if_neg c, if_neg (fun z => c (h.1.trans z))]
      exact h
theorem KvR.put {vs : List (Key × V)} {ds : List (Key × D)} (h : KvR K F vs ds) (k : Key) {v : V} {d : D} (r : Rep K F v d) : KvR K F (putK vs k v) (putD ds k d) := by
  unfold putK putD
  rw [h.any k]
  split
  · exact .of (paired_upd h.ind k r)
  · refine ⟨?_, ?_⟩
    · rw [List.map_append, List.map_append, h.1]
      rfl
    · rw [List.map_append, List.map_append]
      exact h.2.append (.cons r .nil)
end
variable [FE] in
/-- our own new thing is frozen -/
theorem Sta.frzAny {K : PySem.W.Frag} {π : Nat → Addr} {c : Cfg} {F H : Hp} {σ : L2.St} {ρ : Rho} (S : Sta K π c F H σ ρ) {p : Addr} {o : HO} (ho : H p = some o) (f1 : F p = none) (f2 : c.H0 p = none) (f3 : ∀ j, ¬ OwnAt σ ρ j p) (n : NT o) : Same F (upd F p o) ∧ Sta K π c (upd F p o) H σ ρ := by
  have sm : Same F (upd F p o) := sm_new f1
  refine ⟨sm, S.h0, S.hio, S.f0.trans sm, fun a u q => ?_, fun q u e m => ?_, S.len, fun i s hs => ?_, S.dis, ⟨S.t.tb, S.t.tk, S.t.nt.upd n⟩⟩
  · by_cases z : a = p
    · subst z
      rw [upd_same] at q
      cases q
      exact ho
    · rw [upd_ne z] at q
      exact S.f _ _ q
  · rw [upd_ne (fun z => by subst z; rw [f2] at e; cases e)]
    exact S.nf q u e m
  · have z := S.rep i s hs
    cases s with
    | no => trivial
    | val d => obtain ⟨w, e1, q⟩ := z; exact ⟨w, e1, q.mono sm⟩
    | own m' =>
      obtain ⟨q, e1, e2, e3, q1⟩ := z
      have nq : q ≠ p := fun w => by subst w; exact f3 i ⟨e1, m', .inl hs⟩
      exact ⟨q, e1, by rw [upd_ne nq]; exact e2, e3, q1.mono sm fun _ hu => hu⟩
    | io m' =>
      obtain ⟨e1, e2, e3, q1⟩ := z
      have nq : π i ≠ p := fun w => by rw [w] at e1; exact f3 i ⟨e1, m', .inr hs⟩
      exact ⟨e1, by rw [upd_ne nq]; exact e2, e3, q1.mono sm fun _ hu => hu⟩
/-- the turns of a dict comprehension -/
def dcmL (ks : List Nat) (g : GF) (t : TF) (f fv : EF) : List (Key × D) → List D → Rho → R (List (Key × D))
  | acc, [], ρ => .ok acc ρ
  | acc, d :: ds, ρ => bindO (g d ρ) fun ρ => (noX (t ρ)).bind fun b ρ => if b = true then (noX (f ρ)).bind fun y ρ => (noX (fv ρ)).bind fun z ρ => (match keyD y with
      | some k => if small (acc.length + 1) = true then dcmL ks g t f fv (putD acc k z) ds (wipeR ks ρ) else .stuck
      | none => .stuck)
    else dcmL ks g t f fv acc ds (wipeR ks ρ)
def dcmE (ks : List Nat) (it : IF) (g : GF) (t : TF) (f fv : EF) : EF := fun ρ => (it ρ).bind fun ds ρ0 => (dcmL ks g t f fv [] ds (wipeR ks ρ0)).bind fun m ρ => bindO (resR ks ρ0 ρ) fun ρ => .ok (.dct m) ρ
section
variable [FE]
variable {X : Cx} {π : Nat → Addr} {W : WX}
theorem rd_dc {it : IF} {g : GF} {t : TF} {f fv : EF} {ns vs : List Nat} {σ : L2.St} {H : Hp} {Q : VK} (hns : ∀ j ∈ ns, j ∈ vs) (h : tE X.K π W (dcmE vs it g t f fv) σ H Q) : tDc (tI X.K π W it) (tGt X.K π ns g) (tT X.K π W0 t) (tE X.K π W0 f) (tE X.K π W0 fv) vs σ H Q := by
  obtain ⟨c, F, ρ, S, P⟩ := h
  refine po_bind S P fun J F1 H1 ρ1 ds s1 S1 wk P1 => ?_
  intro Dd hD
  obtain ⟨fD, hD0, nD⟩ := S1.fresh hD
  have hDio : Dd ∉ c.io ∧ Dd ∉ c.ow := by
    refine ⟨fun z => ?_, fun z => ?_⟩
    · obtain ⟨o, e⟩ := S1.hio Dd (.inl z)
      rw [hD] at e
      cases e
    · obtain ⟨o, e⟩ := S1.hio Dd (.inr z)
      rw [hD] at e
      cases e
  refine ⟨fun i m H' => i + m = ds.length ∧ ∃ F2 ρ2 accV accD, Same F1 F2 ∧ Sta X.K π c F2 H' (wipe σ vs) ρ2 ∧ H' Dd = some (.dK accV) ∧ KvR X.K F2 accV accD ∧ F2 Dd = none ∧ (∀ j, ¬ OwnAt (wipe σ vs) ρ2 j Dd) ∧
      Po X.K π W (relE X.K) c F2 σ Q ((dcmL vs g t f fv accD (ds.drop i) ρ2).bind fun m ρ => bindO (resR vs ρ1 ρ) fun ρ => .ok (.dct m) ρ), ⟨ds.length, by omega, F1, wipeR vs ρ1, [], [], Same.refl _, ?_, upd_same, KvR.nil, fD, ?_, P1⟩, ?_⟩
  · exact (S1.into vs).grow (Grw.newO S1.f hD)
  · intro j hj
    obtain ⟨_, _, o, e⟩ := (S1.into vs).ownAt hj
    rw [hD] at e
    cases e
  · rintro i m H2 ⟨him, F2, ρ2, accV, accD, s2, S2, hacc, racc, f2D, nw2, P2⟩
    cases m with
    | zero =>
      have hi : i = ds.length := by omega
      subst hi
      rw [List.drop_length] at P2
      refine .inl ⟨wk.stop H2 (s2.trans S2.f), ?_⟩
      have P2 : Po X.K π W (relE X.K) c F2 σ Q (bindO (resR vs ρ1 ρ2) fun ρ => .ok (.dct accD) ρ) := P2
      cases er : resR vs ρ1 ρ2 with
      | none => rw [er] at P2; exact P2.elim
      | some ρ3 =>
        rw [er] at P2
        have l12 : ρ2.length = ρ1.length := by
          have h1 := S2.len
          have h2 := S1.len
          rw [wipe_length] at h1
          omega
        have q1 : ∀ j s, ρ2[j]? = some s → SlotOk X.K π c F2 H2 σ j s := fun j s hj => by
          have z := S2.rep j s hj
          cases s with
          | no => trivial
          | val d => obtain ⟨v, e, r⟩ := z; exact ⟨v, (wipe_some e).1, r⟩
          | own m => obtain ⟨p, e, r⟩ := z; exact ⟨p, (wipe_some e).1, r⟩
          | io m => obtain ⟨e, r⟩ := z; exact ⟨(wipe_some e).1, r⟩
        have key : ∀ j p, OwnAt σ ρ2 j p → OwnAt (wipe σ vs) ρ2 j p := fun j p ⟨e, m, h⟩ => by
          refine ⟨?_, m, h⟩
          rcases h with h | h
          · obtain ⟨q, e1, _⟩ := S2.rep j _ h
            have := (wipe_some e1).1
            rw [e] at this
            cases this
            exact e1
          · obtain ⟨e1, _⟩ := S2.rep j _ h
            have := (wipe_some e1).1
            rw [e] at this
            cases this
            exact e1
        obtain ⟨a1, a2, a3, a4⟩ := S1.outof (ks := vs) (F' := F2) (H' := H2) s2 (ls := vs) (ρ1 := ρ2) (ρ2 := ρ3) (fun l hl => hl) q1 (fun i j p h1 h2 => S2.dis i j p (key i p h1) (key j p h2)) l12 er
        have S3 : Sta X.K π c F2 H2 σ ρ3 := ⟨S2.h0, S2.hio, S2.f0, S2.f, S2.nf, by rw [a3]; exact S1.len, a1, a2, S2.t⟩
        obtain ⟨sm, S4⟩ := S3.frzAny hacc f2D hD0 (fun j hj => nw2 j (key j Dd (a4 j Dd hj))) (fun ps z => by cases z)
        exact P2 (.ref Dd) _ H2 sm S4 (.dct upd_same racc.1 (racc.2.mono sm))
    | succ m =>
      have hlt : i < ds.length := by omega
      obtain ⟨hgo, hy⟩ := wk.go F2 H2 s2 S2.f i ds[i] (by simp [hlt])
      rw [List.drop_eq_getElem_cons hlt] at P2
      refine .inr ⟨hgo, fun H' => ∃ F2 ρ2 accV accD, Same F1 F2 ∧ Sta X.K π c F2 H' (wipe σ vs) ρ2 ∧ H' Dd = some (.dK accV) ∧ KvR X.K F2 accV accD ∧ F2 Dd = none ∧ (∀ j, ¬ OwnAt (wipe σ vs) ρ2 j Dd) ∧
        Po X.K π W (relE X.K) c F2 σ Q ((dcmL vs g t f fv accD (ds.drop (i + 1)) ρ2).bind fun m ρ => bindO (resR vs ρ1 ρ) fun ρ => .ok (.dct m) ρ), fun H' h => ⟨m, Nat.lt_succ_self m, by omega, h⟩, fun x H3 yl => ?_⟩
      obtain ⟨F3, gr, rx⟩ := hy x H3 yl
      have T2 := S2.self
      have hT : (cfg F2 H2 (wipe σ vs) ρ2).H0 Dd = some (.dK accV) := hacc
      have hTn : Dd ∉ (cfg F2 H2 (wipe σ vs) ρ2).io ∧ Dd ∉ (cfg F2 H2 (wipe σ vs) ρ2).ow := by
        refine ⟨fun z => ?_, fun z => ?_⟩
        · obtain ⟨j, s, e, h, k⟩ := mem_adrs.mp z
          cases s with
          | io m => exact nw2 j ⟨e, m, .inr h⟩
          | no => cases k
          | val _ => cases k
          | own _ => cases k
        · obtain ⟨j, s, e, h, k⟩ := mem_adrs.mp z
          cases s with
          | own m => exact nw2 j ⟨e, m, .inl h⟩
          | no => cases k
          | val _ => cases k
          | io _ => cases k
      refine ⟨cfg F2 H2 (wipe σ vs) ρ2, F3, ρ2, ds[i], T2.grow gr, rx, ?_⟩
      have P2 : Po X.K π W (relE X.K) c F2 σ Q ((bindO (g ds[i] ρ2) fun ρ => (noX (t ρ)).bind fun b ρ => if b = true then (noX (f ρ)).bind fun y ρ => (noX (fv ρ)).bind fun z ρ => (match keyD y with
          | some k => if small (accD.length + 1) = true then dcmL vs g t f fv (putD accD k z) (ds.drop (i + 1)) (wipeR vs ρ) else .stuck
          | none => .stuck)
        else dcmL vs g t f fv accD (ds.drop (i + 1)) (wipeR vs ρ)).bind fun m ρ => bindO (resR vs ρ1 ρ) fun ρ => .ok (.dct m) ρ) := P2
      cases eg : g ds[i] ρ2 with
      | none => rw [eg] at P2; exact P2
      | some ρ3 =>
        rw [eg] at P2
        intro σ4 F4 H4 s4 of4 T4
        have of5 : Off vs (wipe σ vs) σ4 := ⟨of4.1, fun j hj => of4.2 j fun z => hj (hns j z)⟩
        have w4 : wipe σ4 vs = wipe σ vs := (wipe_off of5).trans wipe_wipe
        refine ⟨w4, cfg F2 H2 (wipe σ vs) ρ2, F4, ρ3, T4, ?_⟩
        have s24 : Same F2 F4 := gr.f.trans s4
        have P4 := Po.mono s24 P2
        cases et : t ρ3 with
        | stuck => simp only [bindO, et, noX, R.stuck_bind] at P4; exact P4.elim
        | exc C fs ρ4 => simp only [bindO, et, noX, R.stuck_bind] at P4; exact P4.elim
        | ok b ρ4 =>
          simp only [bindO, et, noX, R.ok_bind] at P4
          intro b' F5 H5 s5 T5 rb
          cases rb
          -- the turn's end
          have fin : ∀ {F6 H6 ρ6} {acV : List (Key × V)}, Same F5 F6 → Sta X.K π (cfg F2 H2 (wipe σ vs) ρ2) F6 H6 σ4 ρ6 → Sta X.K π c F6 (upd H6 Dd (.dK acV)) (wipe σ vs) (wipeR vs ρ6) ∧ F6 Dd = none ∧ (∀ j, ¬ OwnAt (wipe σ vs) (wipeR vs ρ6) j Dd) := fun {F6 H6 ρ6 acV} s6 T6 => by
            have n6 : F6 Dd = none := T6.nf Dd _ hT f2D
            have B6 := (S2.back T6).into vs
            have B6T := T6.into vs
            rw [w4] at B6 B6T
            have nw6 : ∀ j, ¬ OwnAt (wipe σ vs) (wipeR vs ρ6) j Dd := B6T.notOwn hT hTn
            exact ⟨B6.other n6 hD0 hDio nw6 (T6.h0 Dd _ hT hTn.1 hTn.2 (by intro ps z; cases z)) (.inr (.inr ⟨_, rfl⟩)), n6, nw6⟩
          cases b with
          | false =>
            rw [if_neg Bool.false_ne_true] at P4 ⊢
            have hd5 : H5 Dd = some (.dK accV) := T5.h0 Dd _ hT hTn.1 hTn.2 (by intro ps z; cases z)
            obtain ⟨k1, k2, k3⟩ := fin (acV := accV) (Same.refl _) T5
            have ee : upd H5 Dd (.dK accV) = H5 := by
              funext q
              by_cases z : q = Dd
              · subst z
                rw [upd_same, hd5]
              · rw [upd_ne z]
            rw [ee] at k1
            exact ⟨F5, _, accV, accD, s2.trans (s24.trans s5), k1, hd5, racc.mono (s24.trans s5), k2, k3, P4.mono s5⟩
          | true =>
            rw [if_pos rfl] at P4 ⊢
            refine ⟨cfg F2 H2 (wipe σ vs) ρ2, F5, ρ4, T5, ?_⟩
            cases ef : f ρ4 with
            | stuck => simp only [ef, noX, R.stuck_bind] at P4; exact P4.elim
            | exc C fs ρ5 => simp only [ef, noX, R.stuck_bind] at P4; exact P4.elim
            | ok d ρ5 =>
              simp only [ef, noX, R.ok_bind] at P4
              intro y F6 H6 s6 T6 ry
              refine ⟨cfg F2 H2 (wipe σ vs) ρ2, F6, ρ5, T6, ?_⟩
              cases efv : fv ρ5 with
              | stuck => simp only [efv, noX, R.stuck_bind] at P4; exact P4.elim
              | exc C fs ρ6 => simp only [efv, noX, R.stuck_bind] at P4; exact P4.elim
              | ok dz ρ6 =>
                simp only [efv, noX, R.ok_bind] at P4
                intro z F7 H7 s7 T7 rz
                cases ek : keyD d with
                | none => rw [ek] at P4; exact P4.elim
                | some kk =>
                  rw [ek] at P4
                  dsimp only at P4
                  split at P4
                  · rename_i hz
                    have hd7 : H7 Dd = some (.dK accV) := T7.h0 Dd _ hT hTn.1 hTn.2 (by intro ps z; cases z)
                    have s27 : Same F2 F7 := s24.trans ((s5.trans s6).trans s7)
                    obtain ⟨k1, k2, k3⟩ := fin (acV := putK accV kk z) ((s6.trans s7)) T7
                    have hl := small_le hz
                    have hlen : accV.length = accD.length := by have := congrArg List.length racc.1; simpa using this
                    refine ⟨accV, kk, keyD_rep ry ek, hd7, lt_line (by rw [hlen]; omega), F7, _, _, _, s2.trans s27, k1, upd_same, (racc.mono s27).put kk rz, k2, k3, P4.mono ((s5.trans s6).trans s7)⟩
                  · exact P4.elim
theorem fe_dc {kx vx tg iter : Expr} {ifs : List Expr} {scope : Scope} {own : List (Str × Nat)} {pos : Pos} {it : IF} {g : GF} {t : TF} {f fv : EF} {ns : List Nat} (hc : X.calm = true) (hN : X.N.Nodup) (hi : PI X tg iter (tI X.K π W it)) (ok : BlkOk X.N X.env.scope scope own)
    (hg : ∀ (s : Shared) (H : Hp) (C : Addr) (cl : List (Str × Addr)) (fp : List Addr), PG (X.blk s H scope (compEnvC scope cl C X.env) fp) tg (tGt X.K π ns g))
    (ht : ∀ (s : Shared) (H : Hp) (C : Addr) (cl : List (Str × Addr)) (fp : List Addr), PTs (X.blk s H scope (compEnvC scope cl C X.env) fp) ifs (tT X.K π W0 t))
    (hk : ∀ (s : Shared) (H : Hp) (C : Addr) (cl : List (Str × Addr)) (fp : List Addr), PE (X.blk s H scope (compEnvC scope cl C X.env) fp) kx (tE X.K π W0 f))
    (he : ∀ (s : Shared) (H : Hp) (C : Addr) (cl : List (Str × Addr)) (fp : List Addr), PE (X.blk s H scope (compEnvC scope cl C X.env) fp) vx (tE X.K π W0 fv))
    (hns : ∀ j ∈ ns, j ∈ own.map (·.2)) (hs : ∀ x, foldedSetIterable iter X.env x = pure x := by intro _; rfl) : PE X (.DictComp kx vx [⟨tg, iter, ifs, 0⟩] scope pos) (tE X.K π W (dcmE (own.map (·.2)) it g t f fv)) := by
  exact PE.imp (pe_dc hc hN hi ok hg ht hk he (hs := hs)) fun _ _ _ h => rd_dc hns h
end
end FL
/-! FL29: name = {k: v for ..} on one line; sorted(d) of a dict whose keys are whole numbers. -/
namespace L2
open PySem PySem.Spec PyProof.Rows
section
variable {X : Cx}
theorem ps_setDc {i : Nat} {y : Str} {py : Pos} {kx vx tg iter : Expr} {ifs : List Expr} {scope : Scope} {own : List (Str × Nat)} {pos spos : Pos} {wi : TI} {g : TG} {tt : TT} {tk tv : TE} (hc : X.calm = true) (hN : X.N.Nodup) (hy : X.N[i]? = some y) (hyl : X.env.scope.names.lookup y = some .local)
    (hsw : swapsWith (.DictComp kx vx [⟨tg, iter, ifs, 0⟩] scope pos) (some (.Name y py)) spos.line X.env = pure true) (hi : PI X tg iter wi) (ok : BlkOk X.N X.env.scope scope own)
    (hg : ∀ (s : Shared) (H : Hp) (C : Addr) (cl : List (Str × Addr)) (fp : List Addr), PG (X.blk s H scope (compEnvC scope cl C X.env) fp) tg g) (ht : ∀ (s : Shared) (H : Hp) (C : Addr) (cl : List (Str × Addr)) (fp : List Addr), PTs (X.blk s H scope (compEnvC scope cl C X.env) fp) ifs tt)
    (hk : ∀ (s : Shared) (H : Hp) (C : Addr) (cl : List (Str × Addr)) (fp : List Addr), PE (X.blk s H scope (compEnvC scope cl C X.env) fp) kx tk)
    (he : ∀ (s : Shared) (H : Hp) (C : Addr) (cl : List (Str × Addr)) (fp : List Addr), PE (X.blk s H scope (compEnvC scope cl C X.env) fp) vx tv) (hs : ∀ x, foldedSetIterable iter X.env x = pure x := by intro _; rfl) :
    PS X (.Assign [.Name y py] (.DictComp kx vx [⟨tg, iter, ifs, 0⟩] scope pos) spos) (tAsg (tDc wi g tt tk tv (own.map (·.2))) (gName i)) := by
  refine ⟨fun pins s σ H D I h => ?_⟩
  rw [exec_Assign_Name_used _ _ _ _ hsw]
  refine wpAny_bind (wpAny_standAt (wpAny_bind ?_))
  show wpAny _ X.A (do let _ ← comprehension (.DictComp kx vx [⟨tg, iter, ifs, 0⟩] scope pos) scope X.env (firstIterPos [⟨tg, iter, ifs, 0⟩] pos) newDict false (eval iter X.env) (some (assign (.Name y py) X.env))) _ _ s
  have h : tDc wi g tt tk tv (own.map (·.2)) σ H (fun x H1 => gName i x σ H1 D.nx) := h
  refine wpAny_bind (thn (dc_core (Qf := fun _ s' => SP X pins D .next s') hc hN I hi ok hg ht hk he hs h fun L C s' m H' I' q hn f => ?_) fun _ s' hq => wpAny_pure (wpAny_pure hq))
  show wpAny _ _ (assign (.Name y py) X.env (.ref L)) _ _ _
  refine wpAny_assign_Name (store_ok2 (v := V.ref L) I' hN hy (.inl hyl) rfl (fun s2 I2 ⟨a, sb, ha⟩ => ?_) (.inr hyl))
  obtain ⟨f0, f1, f2, f3, f4, f5⟩ := f
  have haC : C ≠ a := by
    rcases ha with z | z
    · rw [z]; exact f1
    · exact fun e => f4 y a z e.symm
  refine ⟨m, hn.sameBut sb haC, fun h3 sb3 => ?_⟩
  exact ⟨_, H', I2.turned (t' := s2.toks) (fun b o hb e => (sb3.2 b hb).trans e) f0 f1 f3 f4 f5, q⟩
end
end L2
namespace FL
open PySem PySem.Spec PyProof.Rows L2
section
variable [FE]
variable {X : Cx} {π : Nat → Addr} {W : WX}
theorem fs_setDc {i : Nat} {y : Str} {py : Pos} {kx vx tg iter : Expr} {ifs : List Expr} {scope : Scope} {own : List (Str × Nat)} {pos spos : Pos} {it : IF} {g : GF} {t : TF} {f fv : EF} {ns : List Nat} (hc : X.calm = true) (hN : X.N.Nodup) (hy : X.N[i]? = some y) (hyl : X.env.scope.names.lookup y = some .local)
    (hsw : swapsWith (.DictComp kx vx [⟨tg, iter, ifs, 0⟩] scope pos) (some (.Name y py)) spos.line X.env = pure true) (hi : PI X tg iter (tI X.K π W it)) (ok : BlkOk X.N X.env.scope scope own)
    (hg : ∀ (s : Shared) (H : Hp) (C : Addr) (cl : List (Str × Addr)) (fp : List Addr), PG (X.blk s H scope (compEnvC scope cl C X.env) fp) tg (tGt X.K π ns g))
    (ht : ∀ (s : Shared) (H : Hp) (C : Addr) (cl : List (Str × Addr)) (fp : List Addr), PTs (X.blk s H scope (compEnvC scope cl C X.env) fp) ifs (tT X.K π W0 t))
    (hk : ∀ (s : Shared) (H : Hp) (C : Addr) (cl : List (Str × Addr)) (fp : List Addr), PE (X.blk s H scope (compEnvC scope cl C X.env) fp) kx (tE X.K π W0 f))
    (he : ∀ (s : Shared) (H : Hp) (C : Addr) (cl : List (Str × Addr)) (fp : List Addr), PE (X.blk s H scope (compEnvC scope cl C X.env) fp) vx (tE X.K π W0 fv))
    (hns : ∀ j ∈ ns, j ∈ own.map (·.2)) (hs : ∀ x, foldedSetIterable iter X.env x = pure x := by intro _; rfl) : PS X (.Assign [.Name y py] (.DictComp kx vx [⟨tg, iter, ifs, 0⟩] scope pos) spos) (tS X.K π W (setS i (dcmE (own.map (·.2)) it g t f fv))) :=
  PS.imp (ps_setDc hc hN hy hyl hsw hi ok hg ht hk he (hs := hs)) fun D σ H ⟨c, F, ρ, h0, S, P⟩ => by
    refine rd_dc hns (pos_bind S P fun v F1 H1 ρ1 d s1 S1 r1 P1 => ?_)
    unfold setR at P1
    split at P1
    · rename_i hl
      exact P1 _ F1 H1 (Same.refl _) (S1.set hl r1)
    · exact P1.elim
/-- the keys that are whole numbers -/
def intKs : List (Key × D) → Option (List Int)
  | [] => some []
  | (.inl i, _) :: kvs => (intKs kvs).map (i :: ·)
  | _ => none
omit [FE] in
theorem intKs_eq : ∀ {kvs : List (Key × D)} {ns : List Int}, intKs kvs = some ns → kvs.map (·.1) = ns.map Sum.inl
  | [], ns, e => by cases e; rfl
  | (.inl i, d) :: kvs, ns, e => by
    unfold intKs at e
    cases h : intKs kvs with
    | none => rw [h] at e; cases e
    | some ms => rw [h] at e; cases e; rw [List.map_cons, intKs_eq h]; rfl
  | (.inr i, d) :: kvs, ns, e => by cases e
/-- sorted(d) of a dict -/
def sortKC : List D → Option D
  | [.dct kvs] => if kvs.length < 64 then (intKs kvs).map fun ns => .lst ((srtI ns).map D.int) else none
  | _ => none
def rSortKI : List V → Hp → VK → Prop := fun xs H Q => ∃ (a : Addr) (kvs : List (Key × V)) (ks : List Int), xs = [.ref a] ∧ Rd H a (.dK kvs) ∧ kvs.map (·.1) = ks.map Sum.inl ∧ ks.length < 64 ∧
    ∀ (ys : List Int) (p : Addr), ys.Perm ks → ys.Pairwise (· ≤ ·) → H p = none → Q (.ref p) (upd H p (.lst (ys.map V.int)))
omit [FE] in
theorem cr_sortedKI (hcalm : X.calm = true) : CallR X (.builtin "sorted") rSortKI := call_sortedDI hcalm
theorem q_sortK {K : PySem.W.Frag} : OpC K sortKC rSortKI := by
  intro F H vs ds d Q s r e k
  unfold sortKC at e
  split at e
  · next xs =>
    split at e
    · rename_i hlt
      cases h : intKs xs with
      | none => rw [h] at e; cases e
      | some ns =>
        rw [h] at e
        cases e
        obtain ⟨v, rfl, h'⟩ := Reps.one r
        cases h' with
        | dct h1 r1 r2 =>
          have ek := intKs_eq h
          have hl : ns.length = xs.length := by have := congrArg List.length ek; simpa using this.symm
          refine ⟨_, _, ns, rfl, .inl (s _ _ h1), r1.trans ek, by omega, fun ns' p pm pw hp => ?_⟩
          cases srtI_of pm pw
          exact k _ _ _ (Grw.newF s hp) (.lst upd_same (Reps.ints _))
    · cases e
  · cases e
end
end FL
/-! FL30: min, max, sum of a list of whole numbers. -/
namespace FL
open PySem PySem.Spec PyProof.Rows L2
def leastI : List Int → Int
  | [] => 0
  | [x] => x
  | x :: y :: xs => let m := leastI (y :: xs); if x < m then x else m
theorem leastI_spec : ∀ {xs : List Int}, xs ≠ [] → leastI xs ∈ xs ∧ ∀ y ∈ xs, leastI xs ≤ y
  | [], h => absurd rfl h
  | [x], _ => ⟨List.mem_singleton.mpr rfl, fun y hy => by rw [List.mem_singleton.mp hy]; exact Int.le_refl _⟩
  | x :: y :: xs, _ => by
    obtain ⟨h1, h2⟩ := leastI_spec (xs := y :: xs) (by simp)
    show (if x < leastI (y :: xs) then x else leastI (y :: xs)) ∈ x :: y :: xs ∧ ∀ z ∈ x :: y :: xs, (if x < leastI (y :: xs) then x else leastI (y :: xs)) ≤ z
    split
    · rename_i c
      refine ⟨List.mem_cons_self, fun z hz => ?_⟩
      rcases List.mem_cons.mp hz with rfl | hz
      · exact Int.le_refl _
      · have := h2 z hz; omega
    · rename_i c
      refine ⟨List.mem_cons_of_mem _ h1, fun z hz => ?_⟩
      rcases List.mem_cons.mp hz with rfl | hz
      · omega
      · exact h2 z hz
theorem leastI_eq {xs : List Int} {m : Int} (h1 : m ∈ xs) (h2 : ∀ y ∈ xs, m ≤ y) : leastI xs = m := by
  have hne : xs ≠ [] := fun z => by rw [z] at h1; cases h1
  obtain ⟨a, b⟩ := leastI_spec hne
  have := b m h1
  have := h2 _ a
  omega
def mostI (xs : List Int) : Int := -leastI (xs.map (- ·))
theorem mostI_spec {xs : List Int} (h : xs ≠ []) : mostI xs ∈ xs ∧ ∀ y ∈ xs, y ≤ mostI xs := by
  obtain ⟨a, b⟩ := leastI_spec (xs := xs.map (- ·)) (by simpa using h)
  obtain ⟨z, hz, e⟩ := List.mem_map.mp a
  have em : mostI xs = z := by unfold mostI; omega
  rw [em]
  refine ⟨hz, fun y hy => ?_⟩
  have := b (-y) (List.mem_map.mpr ⟨y, hy, rfl⟩)
  omega
theorem mostI_eq {xs : List Int} {m : Int} (h1 : m ∈ xs) (h2 : ∀ y ∈ xs, y ≤ m) : mostI xs = m := by
  have hne : xs ≠ [] := fun z => by rw [z] at h1; cases h1
  obtain ⟨a, b⟩ := mostI_spec hne
  have := b m h1
  have := h2 _ a
  omega
def seqIs : D → Option (List Int)
  | .lst xs => asInts xs
  | .scr ns => some ns
  | _ => none
def minLC : List D → Option D
  | [d] => (seqIs d).bind fun ns => if ns.isEmpty = true then none else some (.int (leastI ns))
  | _ => none
def maxLC : List D → Option D
  | [d] => (seqIs d).bind fun ns => if ns.isEmpty = true then none else some (.int (mostI ns))
  | _ => none
def sumLC : List D → Option D
  | [d] => (seqIs d).map fun ns => .int ns.sum
  | _ => none
section
variable [FE]
variable {K : PySem.W.Frag}
theorem seqIs_rep {F H : Hp} {d : D} {ns : List Int} (s : Same F H) (h : seqIs d = some ns) {v : V} (r : Rep K F v d) : ∃ a, v = .ref a ∧ SqL K H a (ns.map V.int) := by
  unfold seqIs at h
  split at h
  · next xs =>
    cases asInts_eq h
    cases r with
    | lst h1 r1 =>
      cases Reps.of_ints r1
      exact ⟨_, rfl, SqL.of (s _ _ h1)⟩
  · cases h
    cases r with
    | scr h1 => exact ⟨_, rfl, Same.seq s h1⟩
  · cases h
theorem q_minL : OpC K minLC (rMin K) := by
  intro F H vs ds d Q s r e k
  unfold minLC at e
  split at e
  · next d0 =>
    cases h : seqIs d0 with
    | none => rw [h] at e; cases e
    | some ns =>
      rw [h, Option.bind_some] at e
      split at e
      · cases e
      · rename_i c
        cases e
        obtain ⟨v, rfl, r1⟩ := Reps.one r
        obtain ⟨a, rfl, hs⟩ := seqIs_rep s h r1
        refine ⟨a, ns, rfl, hs, by cases ns with
          | nil => exact absurd rfl c
          | cons _ _ => simp, fun m h1 h2 => ?_⟩
        cases leastI_eq h1 h2
        exact k _ F H (Grw.refl s) (.int _)
  · cases e
theorem q_maxL : OpC K maxLC (rMax K) := by
  intro F H vs ds d Q s r e k
  unfold maxLC at e
  split at e
  · next d0 =>
    cases h : seqIs d0 with
    | none => rw [h] at e; cases e
    | some ns =>
      rw [h, Option.bind_some] at e
      split at e
      · cases e
      · rename_i c
        cases e
        obtain ⟨v, rfl, r1⟩ := Reps.one r
        obtain ⟨a, rfl, hs⟩ := seqIs_rep s h r1
        refine ⟨a, ns, rfl, hs, by cases ns with
          | nil => exact absurd rfl c
          | cons _ _ => simp, fun m h1 h2 => ?_⟩
        cases mostI_eq h1 h2
        exact k _ F H (Grw.refl s) (.int _)
  · cases e
theorem q_sumL : OpC K sumLC (rSum K) := by
  intro F H vs ds d Q s r e k
  unfold sumLC at e
  split at e
  · next d0 =>
    cases h : seqIs d0 with
    | none => rw [h] at e; cases e
    | some ns =>
      rw [h] at e
      cases e
      obtain ⟨v, rfl, r1⟩ := Reps.one r
      obtain ⟨a, rfl, hs⟩ := seqIs_rep s h r1
      exact ⟨a, ns, rfl, hs, k _ F H (Grw.refl s) (.int _)⟩
  · cases e
end
end FL
/-! FL31: how readings with exceptions are worked out. -/
namespace FL
open PySem PySem.Spec PyProof.Rows L2
theorem R.bd_exc {α β : Type} (k : α → Rho → R β) (h : Hold k) (C : Str) (fs : List (Str × D)) (ρ : Rho) : R.bd k h (.exc C fs ρ) = .exc C fs ρ := rfl
theorem goG_exc {α : Type} (C : Str) (fs : List (Str × D)) (outs : List M) (as : List AA) (k : Res → Rho → R α) (ρ : Rho) : goG (.exc C fs outs) as k ρ = .exc C fs (putA as outs ρ) := rfl
theorem endR_exc (as : List FL.Arg) (C : Str) (fs : List (Str × D)) (ρ : Rho) : endR as (.exc C fs ρ) = endG as (.exc C fs) ρ := rfl
theorem cau_ok {c : CG} {d : D} {ρ ρ' : Rho} {r : Res} (h : c.ge ((List.replicate c.l Slot.no).set c.ib (.val d)) = .ok (.rt r) ρ') : c.cau (.ok d ρ) = asE r ρ := by
  unfold CG.cau
  dsimp only
  rw [h]
theorem cau_exc {c : CG} {C : Str} {fs : List (Str × D)} {ρ : Rho} {r : Res} (h1 : caught c.ct c.cs C = true) (h2 : ∀ (a : Addr) (d : Option Addr), ∃ ρ', c.gs ⟨a, d, C⟩ ((List.replicate c.l Slot.no).set c.ie (.val (.exc ⟨a, d, C⟩ fs))) = .ok (.rt r) ρ') : c.cau (.exc C fs ρ) = asE r ρ := by
  unfold CG.cau
  dsimp only
  rw [if_pos h1, sutR_eq fun x hx => by
    obtain ⟨a, d, C'⟩ := x
    cases hx
    exact h2 a d]
def nxcR (x : R Fl) : R Fl := match x with
  | .exc _ _ _ => .stuck
  | x => x
theorem bodyH_ok {l : Nat} {g : EId → SF} {x : EId} {as : List Arg} {fl : Fl} {ρ : Rho} (h : g x (rho0 l as) = .ok fl ρ) : bodyH l g x as = endR as (.ok fl ρ) := by
  unfold bodyH
  rw [bodyG_eq]
  unfold nxc
  rw [h]
/-- of the kind? -/
def isb (ct : CT) (C m : Str) : Bool := match ct.lookup C with
  | some p => p.1.contains m
  | none => false
def isxK (x0 : EId) (ct : CT) (m : Str) (v : D) (ρ : Rho) : R D := match v with
  | .exc x _ => if x = x0 then R.of ((ct.lookup x.C).map fun p => .bl (p.1.contains m)) ρ else .stuck
  | _ => .stuck
theorem isx_eq (x0 : EId) (ct : CT) (m : Str) (f : EF) (ρ : Rho) : isx x0 ct m f ρ = (f ρ).bind (isxK x0 ct m) := rfl
theorem isxK_own {a : Addr} {d : Option Addr} {C : Str} {ct : CT} {m : Str} {fs : List (Str × D)} {ρ : Rho} (h : (ct.lookup C).isSome = true) : isxK ⟨a, d, C⟩ ct m (.exc ⟨a, d, C⟩ fs) ρ = .ok (.bl (isb ct C m)) ρ := by
  unfold isxK isb
  dsimp only
  rw [if_pos rfl]
  cases e : ct.lookup C with
  | none => rw [e] at h; cases h
  | some p => rfl
def efldK (x0 : EId) (ct : CT) (n : Str) (v : D) (ρ : Rho) : R D := match v with
  | .exc x fs => if x = x0 ∧ (ct.lookup x.C).any (fun p => p.2.contains n) = true then R.of (fs.lookup n) ρ else .stuck
  | _ => .stuck
theorem efld_eq (x0 : EId) (ct : CT) (n : Str) (f : EF) (ρ : Rho) : efld x0 ct n f ρ = (f ρ).bind (efldK x0 ct n) := rfl
theorem efldK_own {a : Addr} {d : Option Addr} {C : Str} {ct : CT} {n : Str} {e : D} {ρ : Rho} (h : (ct.lookup C).any (fun p => p.2.contains n) = true) : efldK ⟨a, d, C⟩ ct n (.exc ⟨a, d, C⟩ [(n, e)]) ρ = .ok e ρ := by
  unfold efldK
  dsimp only
  rw [if_pos ⟨rfl, h⟩]
  show R.of (match n == n with | true => some e | false => List.lookup n []) ρ = _
  rw [show (n == n) = true from by simp]
  rfl
/-- a comprehension whose turns change no more than its own names -/
theorem cmpM_p {ks : List Nat} {it : IF} {g : GF} {t : TF} {f : EF} {ρ : Rho} {ds : List D} (tb : D → Bool) (fx : D → D) (h1 : it ρ = .ok ds ρ) (hw : wipeR ks ρ = ρ) (hr : resR ks ρ ρ = some ρ) (hl : ds.length ≤ 100000)
    (st : ∀ d ∈ ds, ∃ ρ1, g d ρ = some ρ1 ∧ t ρ1 = .ok (tb d) ρ1 ∧ wipeR ks ρ1 = ρ ∧ (tb d = true → f ρ1 = .ok (fx d) ρ1)) : cmpM ks it g t f ρ = .ok (.lst ((ds.filter tb).map fx)) ρ := by
  obtain ⟨ρ', e, rfl⟩ := cmpL_pure (ks := ks) (g := g) (t := t) (f := f) (fun r => r = ρ) tb fx ds [] ρ (by simpa using hl) rfl (by
    rintro d hd ρ0 rfl
    obtain ⟨ρ1, e1, e2, e3, e4⟩ := st d hd
    exact ⟨ρ1, ρ1, e1, e2, fun _ => e3, fun h => ⟨ρ1, e4 h, e3⟩⟩)
  show (it ρ').bind _ = _
  rw [h1]
  show (cmpL ks g t f [] ds (wipeR ks ρ')).bind _ = _
  rw [hw, e]
  show bindO (resR ks ρ' ρ') _ = _
  rw [hr]
  rfl
theorem cmpM_m {ks : List Nat} {it : IF} {g : GF} {f : EF} {ρ : Rho} {ds : List D} (fx : D → D) (h1 : it ρ = .ok ds ρ) (hw : wipeR ks ρ = ρ) (hr : resR ks ρ ρ = some ρ) (hl : ds.length ≤ 100000)
    (st : ∀ d ∈ ds, ∃ ρ1, g d ρ = some ρ1 ∧ wipeR ks ρ1 = ρ ∧ f ρ1 = .ok (fx d) ρ1) : cmpM ks it g yesT f ρ = .ok (.lst (ds.map fx)) ρ := by
  have := cmpM_p (t := yesT) (fun _ => true) fx h1 hw hr hl fun d hd => by
    obtain ⟨ρ1, a, b, c⟩ := st d hd
    exact ⟨ρ1, a, rfl, b, fun _ => c⟩
  rw [List.filter_eq_self.mpr (fun _ _ => rfl)] at this
  exact this
theorem enumL_mem : ∀ {ds : List D} {n : Nat} {d : D}, d ∈ enumL n ds → ∃ (i : Int) (x : D), d = .tup [.int i, x] ∧ x ∈ ds
  | [], _, _, h => by cases h
  | x :: xs, n, d, h => by
    unfold enumL at h
    rcases List.mem_cons.mp h with rfl | h
    · exact ⟨_, _, rfl, List.mem_cons_self⟩
    · obtain ⟨i, y, e, hy⟩ := enumL_mem h
      exact ⟨i, y, e, List.mem_cons_of_mem _ hy⟩
theorem enumL_ln : ∀ (ds : List D) (n : Nat), (enumL n ds).length = ds.length
  | [], _ => rfl
  | _ :: ds, n => by
    show (enumL (n + 1) ds).length + 1 = ds.length + 1
    rw [enumL_ln ds]
theorem ix0_cons (x : D) (xs : List D) : ixD (.lst (x :: xs)) (.int 0) = some x := by
  show atI (x :: xs) 0 = _
  rw [atI_nat (by decide) (show (x :: xs)[(0 : Int).toNat]? = some x from rfl)]
def fstD : D → D
  | .tup (x :: _) => x
  | _ => .non
def sndD : D → D
  | .tup [_, y] => y
  | _ => .non
/-- the first index, at least n, with p -/
def firstI (p : D → Bool) : Nat → List D → Option Nat
  | _, [] => none
  | n, x :: xs => if p x = true then some n else firstI p (n + 1) xs
theorem enum_first (p : D → Bool) : ∀ (ds : List D) (n : Nat), match firstI p n ds with
    | some i => ∃ ys, ((enumL n ds).filter fun d => p (sndD d)).map fstD = .int (i : Int) :: ys
    | none => ((enumL n ds).filter fun d => p (sndD d)).map fstD = []
  | [], n => rfl
  | x :: xs, n => by
    unfold firstI enumL
    by_cases h : p x = true
    · rw [if_pos h]
      refine ⟨((enumL (n + 1) xs).filter fun d => p (sndD d)).map fstD, ?_⟩
      rw [List.filter_cons, if_pos (show p (sndD (.tup [.int (n : Int), x])) = true from h)]
      rfl
    · rw [if_neg h]
      have ih := enum_first p xs (n + 1)
      rw [List.filter_cons, if_neg (show ¬ p (sndD (.tup [.int (n : Int), x])) = true from h)]
      exact ih
end FL
/-! FL32: slices, dict comprehensions worked out. -/
namespace FL
open PySem PySem.Spec PyProof.Rows L2
theorem sIx_none (n d : Nat) : HT.sIx n d none = d := rfl
theorem sIx_some {n d : Nat} {i : Int} (h : 0 ≤ i) : HT.sIx n d (some i) = min i.toNat n := by
  unfold HT.sIx
  simp only
  first
    | omega
    | (split <;> omega)
theorem cut_take {α : Type} (xs : List α) {i : Int} (h : 0 ≤ i) : FL.cut xs none (some i) = xs.take i.toNat := by
  unfold FL.cut
  rw [sIx_none, sIx_some h, List.drop_zero, Nat.sub_zero]
  rcases Nat.le_total i.toNat xs.length with c | c
  · rw [Nat.min_eq_left c]
  · rw [Nat.min_eq_right c, List.take_length, List.take_of_length_le c]
theorem cut_drop {α : Type} (xs : List α) {i : Int} (h : 0 ≤ i) : FL.cut xs (some i) none = xs.drop i.toNat := by
  unfold FL.cut
  rw [sIx_none, sIx_some h]
  rcases Nat.le_total i.toNat xs.length with c | c
  · rw [Nat.min_eq_left c, List.take_of_length_le (by rw [List.length_drop]; omega)]
  · rw [Nat.min_eq_right c, List.drop_length, List.drop_of_length_le c]
    simp
theorem noX_ok {α : Type} (a : α) (ρ : Rho) : noX (.ok a ρ) = .ok a ρ := rfl
theorem dcmL_cons (ks : List Nat) (g : GF) (t : TF) (f fv : EF) (acc : List (Key × D)) (d : D) (ds : List D) (ρ : Rho) : dcmL ks g t f fv acc (d :: ds) ρ = bindO (g d ρ) fun ρ => (noX (t ρ)).bind fun b ρ => if b = true then (noX (f ρ)).bind fun y ρ => (noX (fv ρ)).bind fun z ρ => (match keyD y with
      | some k => if small (acc.length + 1) = true then dcmL ks g t f fv (putD acc k z) ds (wipeR ks ρ) else .stuck
      | none => .stuck)
    else dcmL ks g t f fv acc ds (wipeR ks ρ) := rfl
theorem putD_len (kvs : List (Key × D)) (k : Key) (v : D) : (putD kvs k v).length ≤ kvs.length + 1 := by
  unfold putD
  split
  · rw [List.length_map]
    omega
  · rw [List.length_append]
    exact Nat.le_refl _
theorem dcmL_pure {ks : List Nat} {g : GF} {t : TF} {f fv : EF} (tb : D → Bool) (kx : D → Key) (vx : D → D) {ρ : Rho} : ∀ (ds : List D) (acc : List (Key × D)), acc.length + ds.length ≤ 100000 →
    (∀ d ∈ ds, ∃ ρ1, g d ρ = some ρ1 ∧ t ρ1 = .ok (tb d) ρ1 ∧ wipeR ks ρ1 = ρ ∧ (tb d = true → ∃ y, f ρ1 = .ok y ρ1 ∧ keyD y = some (kx d) ∧ fv ρ1 = .ok (vx d) ρ1)) →
    dcmL ks g t f fv acc ds ρ = .ok ((ds.filter tb).foldl (fun a d => putD a (kx d) (vx d)) acc) ρ
  | [], acc, _, _ => rfl
  | d :: ds, acc, hl, st => by
    rw [List.length_cons] at hl
    obtain ⟨ρ1, e1, e2, e3, e4⟩ := st d List.mem_cons_self
    rw [dcmL_cons, e1]
    show (noX (t ρ1)).bind _ = _
    rw [e2, noX_ok, R.ok_bind, List.filter_cons]
    cases hb : tb d with
    | false =>
      rw [if_neg Bool.false_ne_true, e3, if_neg Bool.false_ne_true]
      exact dcmL_pure tb kx vx ds acc (by omega) fun d' hd => st d' (List.mem_cons_of_mem _ hd)
    | true =>
      obtain ⟨y, f1, f2, f3⟩ := e4 hb
      rw [if_pos rfl, f1, noX_ok, R.ok_bind, f3, noX_ok, R.ok_bind, f2, if_pos rfl, List.foldl_cons, e3]
      dsimp only
      rw [if_pos (show small (acc.length + 1) = true from decide_eq_true (by omega))]
      exact dcmL_pure tb kx vx ds (putD acc (kx d) (vx d)) (by have := putD_len acc (kx d) (vx d); omega) fun d' hd => st d' (List.mem_cons_of_mem _ hd)
theorem dcmE_p {ks : List Nat} {it : IF} {g : GF} {t : TF} {f fv : EF} {ρ : Rho} {ds : List D} (tb : D → Bool) (kx : D → Key) (vx : D → D) (h1 : it ρ = .ok ds ρ) (hw : wipeR ks ρ = ρ) (hr : resR ks ρ ρ = some ρ) (hl : ds.length ≤ 100000)
    (st : ∀ d ∈ ds, ∃ ρ1, g d ρ = some ρ1 ∧ t ρ1 = .ok (tb d) ρ1 ∧ wipeR ks ρ1 = ρ ∧ (tb d = true → ∃ y, f ρ1 = .ok y ρ1 ∧ keyD y = some (kx d) ∧ fv ρ1 = .ok (vx d) ρ1)) :
    dcmE ks it g t f fv ρ = .ok (.dct ((ds.filter tb).foldl (fun a d => putD a (kx d) (vx d)) [])) ρ := by
  show (it ρ).bind _ = _
  rw [h1]
  show (dcmL ks g t f fv [] ds (wipeR ks ρ)).bind _ = _
  rw [hw, dcmL_pure tb kx vx ds [] (by simpa using hl) st]
  show bindO (resR ks ρ ρ) _ = _
  rw [hr]
  rfl
/-- a key put behind those that are there -/
def addI (ns : List Int) (i : Int) : List Int := if i ∈ ns then ns else ns ++ [i]
theorem intKs_any : ∀ {kvs : List (Key × D)} {ns : List Int} (i : Int), intKs kvs = some ns → (kvs.any fun kv => decide (kv.1 = .inl i)) = decide (i ∈ ns)
  | [], ns, i, h => by cases h; rfl
  | (.inr x, d) :: kvs, ns, i, h => by cases h
  | (.inl j, d) :: kvs, ns, i, h => by
    unfold intKs at h
    cases e : intKs kvs with
    | none => rw [e] at h; cases h
    | some ms =>
      rw [e] at h
      cases h
      rw [List.any_cons, intKs_any i e]
      by_cases c : j = i
      · subst c
        simp
      · have c' : ¬ i = j := fun z => c z.symm
        have c2 : ¬ (Sum.inl j : Key) = Sum.inl i := fun z => c (by injection z)
        simp [c', c2]
theorem intKs_map : ∀ {kvs : List (Key × D)} (k : Key) (v : D), intKs (kvs.map fun kv => if kv.1 = k then (kv.1, v) else kv) = intKs kvs
  | [], _, _ => rfl
  | (.inr x, d) :: kvs, k, v => by
    rw [List.map_cons]
    split <;> rfl
  | (.inl j, d) :: kvs, k, v => by
    rw [List.map_cons]
    split
    · show (intKs (kvs.map _)).map (j :: ·) = (intKs kvs).map (j :: ·)
      rw [intKs_map k v]
    · show (intKs (kvs.map _)).map (j :: ·) = (intKs kvs).map (j :: ·)
      rw [intKs_map k v]
theorem intKs_app : ∀ {kvs : List (Key × D)} {ns : List Int} (i : Int) (v : D), intKs kvs = some ns → intKs (kvs ++ [(.inl i, v)]) = some (ns ++ [i])
  | [], ns, i, v, h => by cases h; rfl
  | (.inr x, d) :: kvs, ns, i, v, h => by cases h
  | (.inl j, d) :: kvs, ns, i, v, h => by
    unfold intKs at h
    cases e : intKs kvs with
    | none => rw [e] at h; cases h
    | some ms =>
      rw [e] at h
      cases h
      show (intKs (kvs ++ [(.inl i, v)])).map (j :: ·) = _
      rw [intKs_app i v e]
      rfl
theorem intKs_put {kvs : List (Key × D)} {ns : List Int} (i : Int) (v : D) (h : intKs kvs = some ns) : intKs (putD kvs (.inl i) v) = some (addI ns i) := by
  unfold putD addI
  rw [intKs_any i h]
  by_cases c : i ∈ ns
  · rw [if_pos (decide_eq_true c), if_pos c, intKs_map, h]
  · rw [if_neg (by rw [decide_eq_false c]; exact Bool.false_ne_true), if_neg c, intKs_app i v h]
theorem intKs_fold (kx : D → Int) (vx : D → D) : ∀ (ds : List D) {kvs : List (Key × D)} {ns : List Int}, intKs kvs = some ns → intKs (ds.foldl (fun a d => putD a (.inl (kx d)) (vx d)) kvs) = some ((ds.map kx).foldl addI ns)
  | [], _, _, h => h
  | d :: ds, kvs, ns, h => by
    rw [List.foldl_cons, List.map_cons, List.foldl_cons]
    exact intKs_fold kx vx ds (intKs_put (kx d) (vx d) h)
theorem intKs_len {kvs : List (Key × D)} {ns : List Int} (h : intKs kvs = some ns) : kvs.length = ns.length := by
  have := congrArg List.length (intKs_eq h)
  simpa using this
theorem addI_mem {ns : List Int} {i x : Int} : x ∈ addI ns i ↔ x ∈ ns ∨ x = i := by
  unfold addI
  split
  · rename_i h
    constructor
    · exact .inl
    · rintro (h | rfl)
      · exact h
      · exact h
  · simp
theorem insF_mem : ∀ {is ns : List Int} {x : Int}, x ∈ is.foldl addI ns ↔ x ∈ ns ∨ x ∈ is
  | [], ns, x => by simp
  | i :: is, ns, x => by
    rw [List.foldl_cons, insF_mem, addI_mem, List.mem_cons, or_assoc]
theorem addI_nd {ns : List Int} {i : Int} (h : ns.Nodup) : (addI ns i).Nodup := by
  unfold addI
  split
  · exact h
  · rename_i c
    refine List.nodup_append.mpr ⟨h, by simp, fun a ha b hb => ?_⟩
    rw [List.mem_singleton.mp hb]
    exact fun z => c (z ▸ ha)
theorem insF_nd : ∀ {is ns : List Int}, ns.Nodup → (is.foldl addI ns).Nodup
  | [], ns, h => h
  | i :: is, ns, h => by
    rw [List.foldl_cons]
    exact insF_nd (addI_nd h)
theorem addI_len {ns : List Int} {i : Int} : (addI ns i).length ≤ ns.length + 1 := by
  unfold addI
  split
  · omega
  · rw [List.length_append]
    exact Nat.le_refl _
theorem insF_len : ∀ {is ns : List Int}, (is.foldl addI ns).length ≤ ns.length + is.length
  | [], ns => Nat.le_refl _
  | i :: is, ns => by
    rw [List.foldl_cons]
    have h1 := insF_len (is := is) (ns := addI ns i)
    have h2 := addI_len (ns := ns) (i := i)
    rw [List.length_cons]
    omega
theorem sortKC_of {kvs : List (Key × D)} {ns : List Int} (h : intKs kvs = some ns) (hl : ns.length < 64) : sortKC [.dct kvs] = some (.lst ((srtI ns).map D.int)) := by
  show (if kvs.length < 64 then (intKs kvs).map _ else none) = _
  rw [if_pos (by rw [intKs_len h]; exact hl), h]
  rfl
end FL
/-! FL33: a comprehension without a test, turn by turn. -/
namespace FL
open PySem PySem.Spec PyProof.Rows L2
theorem cmpL_ycons (ks : List Nat) (g : GF) (f : EF) (acc : List D) (d : D) (ds : List D) (ρ : Rho) : cmpL ks g yesT f acc (d :: ds) ρ = bindO (g d ρ) fun ρ => (noX (f ρ)).bind fun x ρ => if small (acc.length + 1) = true then cmpL ks g yesT f (acc ++ [x]) ds (wipeR ks ρ) else .stuck := rfl
theorem cmpL_y {ks : List Nat} {g : GF} {f : EF} (I : Nat → Rho → Prop) (X : D → D → Prop) : ∀ (ds : List D) (n : Nat) (acc : List D) (ρ : Rho), acc.length + ds.length ≤ 100000 → I n ρ →
    (∀ (i : Nat) (d : D) (ρ : Rho), I (n + i) ρ → ds[i]? = some d → ∃ ρ1, g d ρ = some ρ1 ∧ ∃ x ρ3, f ρ1 = .ok x ρ3 ∧ X d x ∧ I (n + i + 1) (wipeR ks ρ3)) →
    ∃ ys ρ', cmpL ks g yesT f acc ds ρ = .ok (.lst (acc ++ ys)) ρ' ∧ Paired X ds ys ∧ I (n + ds.length) ρ'
  | [], n, acc, ρ, hl, h, _ => ⟨[], ρ, by rw [List.append_nil]; rfl, .nil, h⟩
  | d :: ds, n, acc, ρ, hl, h, st => by
    rw [List.length_cons] at hl
    obtain ⟨ρ1, e1, x, ρ3, e2, hx, h3⟩ := st 0 d ρ h rfl
    obtain ⟨ys, ρ', e, hp, h'⟩ := cmpL_y I X ds (n + 1) (acc ++ [x]) (wipeR ks ρ3) (by rw [List.length_append, List.length_singleton]; omega) h3 fun i d' ρ' h3 h4 => by
      have := st (i + 1) d' ρ' (by rw [show n + (i + 1) = n + 1 + i by omega]; exact h3) (by simpa using h4)
      rw [show n + (i + 1) + 1 = n + 1 + i + 1 by omega] at this
      exact this
    refine ⟨x :: ys, ρ', ?_, .cons hx hp, ?_⟩
    · rw [cmpL_ycons, e1]
      show (noX (f ρ1)).bind _ = _
      rw [e2]
      show (if small (acc.length + 1) = true then _ else _) = _
      rw [if_pos (show small (acc.length + 1) = true from decide_eq_true (by omega)), e, List.append_assoc]
      rfl
    · rw [show n + (d :: ds).length = n + 1 + ds.length by rw [List.length_cons]; omega]
      exact h'
theorem paired_len {α β : Type} {X : α → β → Prop} {as : List α} {bs : List β} (h : Paired X as bs) : bs.length = as.length := by
  induction h with
  | nil => rfl
  | cons _ _ ih => rw [List.length_cons, List.length_cons, ih]
theorem paired_back {α β : Type} {X : α → β → Prop} {as : List α} {bs : List β} (h : Paired X as bs) : ∀ b ∈ bs, ∃ a ∈ as, X a b := by
  induction h with
  | nil => intro b hb; cases hb
  | cons hx _ ih =>
    intro b hb
    rcases List.mem_cons.mp hb with rfl | hb
    · exact ⟨_, List.mem_cons_self, hx⟩
    · obtain ⟨a, ha, h⟩ := ih b hb
      exact ⟨a, List.mem_cons_of_mem _ ha, h⟩
/-- whole numbers as data -/
theorem ints_of : ∀ {ys : List D} {P : Int → Prop}, (∀ y ∈ ys, ∃ i, y = .int i ∧ P i) → ∃ bs : List Int, ys = bs.map D.int ∧ ∀ b ∈ bs, P b
  | [], P, _ => ⟨[], rfl, fun b hb => by cases hb⟩
  | y :: ys, P, h => by
    obtain ⟨i, rfl, hi⟩ := h y List.mem_cons_self
    obtain ⟨bs, rfl, hb⟩ := ints_of (ys := ys) (P := P) fun z hz => h z (List.mem_cons_of_mem _ hz)
    exact ⟨i :: bs, rfl, fun b hb' => by
      rcases List.mem_cons.mp hb' with rfl | hb'
      · exact hi
      · exact hb b hb'⟩
theorem cauE_eq (c : CG) (f : EF) (ρ : Rho) : cauE c f ρ = c.cau (f ρ) := rfl
theorem firstI_at (p : D → Bool) {y : D} (hy : p y = true) : ∀ (xs zs : List D) (n : Nat), (∀ x ∈ xs, p x = false) → firstI p n (xs ++ y :: zs) = some (n + xs.length)
  | [], zs, n, _ => by
    show (if p y = true then some n else _) = _
    rw [if_pos hy]
    rfl
  | x :: xs, zs, n, h => by
    show (if p x = true then some n else firstI p (n + 1) (xs ++ y :: zs)) = _
    rw [if_neg (by rw [h x List.mem_cons_self]; exact Bool.false_ne_true), firstI_at p hy xs zs (n + 1) fun z hz => h z (List.mem_cons_of_mem _ hz), List.length_cons]
    congr 1
    omega
theorem firstI_none (p : D → Bool) : ∀ (xs : List D) (n : Nat), (∀ x ∈ xs, p x = false) → firstI p n xs = none
  | [], n, _ => rfl
  | x :: xs, n, h => by
    show (if p x = true then some n else firstI p (n + 1) xs) = _
    rw [if_neg (by rw [h x List.mem_cons_self]; exact Bool.false_ne_true)]
    exact firstI_none p xs (n + 1) fun z hz => h z (List.mem_cons_of_mem _ hz)
/-- what the mathematics is told, which asks nothing of it -/
abbrev fe0 : FE := feOf [] []
end FL
/-! FL34: repr of a list that may hold empty dicts. -/
namespace FL
open PySem PySem.Spec PyProof.Rows L2
mutual
def toQ : D → PyData
  | .non => .none
  | .bl b => .bool b
  | .int i => .int i
  | .str x => .str x
  | .tup xs => .tuple (toQs xs)
  | .lst xs => .list (toQs xs)
  | .scr _ => .none
  | .fn _ => .none
  | .dct _ => .dict []
  | .exc _ _ => .none
def toQs : List D → List PyData
  | [] => []
  | x :: xs => toQ x :: toQs xs
end
/-- plain data, at most n deep, with empty dicts -/
def shq : Nat → D → Bool
  | _, .non => true
  | _, .bl _ => true
  | _, .int _ => true
  | _, .str _ => true
  | n + 1, .tup xs => xs.all (shq n)
  | n + 1, .lst xs => xs.all (shq n)
  | n + 1, .dct [] => true
  | _, _ => false
def RQ (P : Program) (w : World) (h : Heap) (u : Value) (d : PyData) : Prop := ∃ as bs, Reads h u d as ∧ ReadAtMost h d.depth bs ∧ ReprK P w bs h d.depth u d.shown
def RQs (P : Program) (w : World) (h : Heap) (us : List Value) (ds : List PyData) : Prop := ∃ as bs, ReadsAll h us ds as ∧ ReadAtMost h (PyData.depthAll ds) bs ∧ ReprAllK P w bs h (PyData.depthAll ds) us (PyData.shownAll ds)
section
variable {X : Cx} {pins : List (Addr × Obj)} {σ : L2.St} {H F : Hp} {s : Shared}
theorem rqs_of {n : Nat} (ih : ∀ (v : V) (u : Value) (d : D), shq n d = true → Rep X.K F v d → RelV v u → (toQ d).showable = true → (toQ d).shown.length ≤ sizeLine → RQ X.prog X.w s.heap u (toQ d)) :
    ∀ {ds : List D} {vs : List V} {us : List Value}, ds.all (shq n) = true → Reps X.K F vs ds → Vals vs us → PyData.showableAll (toQs ds) = true → (∀ t ∈ PyData.shownAll (toQs ds), t.length ≤ sizeLine) → RQs X.prog X.w s.heap us (toQs ds)
  | [], _, _, _, .nil, .nil, _, _ => ⟨[], [], by rw [toQs]; exact .nil, (fun _ h => nomatch h), by rw [toQs]; simp only [PyData.shownAll]; exact .nil⟩
  | d :: ds, _, _, hs, .cons r rs, .cons v vs, hw, hz => by
    rw [List.all_cons, Bool.and_eq_true] at hs
    rw [toQs] at hw hz ⊢
    have hw' : (toQ d).showable = true ∧ PyData.showableAll (toQs ds) = true := by simpa [PyData.showableAll] using hw
    obtain ⟨a1, b1, r1, m1, k1⟩ := ih _ _ d hs.1 r v hw'.1 (hz _ (by simp only [PyData.shownAll]; exact List.mem_cons_self ..))
    obtain ⟨a2, b2, r2, m2, k2⟩ := rqs_of ih hs.2 rs vs hw'.2 fun t ht => hz t (by simp only [PyData.shownAll]; exact List.mem_cons_of_mem _ ht)
    refine ⟨a1 ++ a2, b1 ++ b2, .cons r1 r2, ?_, ?_⟩
    · simp only [PyData.depthAll]
      exact (m1.mono (Nat.le_max_left _ _)).append (m2.mono (Nat.le_max_right _ _))
    · simp only [PyData.depthAll, PyData.shownAll]
      exact .cons ((k1.more fun b hb => List.mem_append_left _ hb).level_le (Nat.le_max_left _ _)) (k2.more_le (fun b hb => List.mem_append_right _ hb) (Nat.le_max_right _ _))
/-- a list's items -/
theorem items_of (I : Inv X pins σ H s) (sm : Same F H) {a : Addr} {xs : List V} (h : F a = some (.lst xs)) : ∃ o n its, s.heap.get? a = some o ∧ o.cls = .type "list" ∧ o.data = .seq its n ∧ Vals xs its.toList := by
  obtain ⟨its, rv, ⟨o, n, ho, hc, _, hd⟩, _⟩ := I.list (SqL.of (K := X.K) (sm _ _ h))
  exact ⟨o, n, its.toArray, ho, hc, hd, by simpa using rv⟩
theorem rq_of (I : Inv X pins σ H s) (sm : Same F H) : ∀ (n : Nat) (v : V) (u : Value) (d : D), shq n d = true → Rep X.K F v d → RelV v u → (toQ d).showable = true → (toQ d).shown.length ≤ sizeLine → RQ X.prog X.w s.heap u (toQ d)
  | n, _, _, .non, _, .non, r, _, _ => by
    cases r
    rw [toQ]
    exact ⟨_, [], Reads.none, (fun _ h => nomatch h), by simp only [PyData.shown]; exact .of_is ReprIs.none _ _ _⟩
  | n, _, _, .bl b, _, .bl _, r, _, _ => by
    cases r
    rw [toQ]
    exact ⟨_, [], Reads.bool b, (fun _ h => nomatch h), by simp only [PyData.shown]; exact .of_is (ReprIs.bool b) _ _ _⟩
  | n, _, _, .int i, _, .int _, r, hs, _ => by
    obtain ⟨t, rfl⟩ := r
    rw [toQ] at hs ⊢
    exact ⟨_, [], Reads.int i t, (fun _ h => nomatch h), by simp only [PyData.shown]; exact .of_is (ReprIs.int t (by simpa [PyData.showable] using hs)) _ _ _⟩
  | n, _, _, .str x, _, .str _, r, _, hz => by
    obtain ⟨t, rfl⟩ := r
    rw [toQ] at hz ⊢
    exact ⟨_, [], Reads.str x t, (fun _ h => nomatch h), by simp only [PyData.shown]; exact .of_is (ReprIs.str x t (by simpa only [PyData.shown] using hz)) _ _ _⟩
  | n + 1, _, _, .lst xs, hq, .lst ha r, rv, hs, hz => by
    cases rv
    rw [toQ] at hs hz ⊢
    obtain ⟨o, k, its, ho, hc, hd, vs⟩ := items_of I sm ha
    have hz' : (listText (PyData.shownAll (toQs xs))).length ≤ sizeLine := by simpa only [PyData.shown] using hz
    obtain ⟨as, bs, h4, hb, hk⟩ := rqs_of (rq_of I sm n) (by simpa [shq] using hq) r vs (by simpa [PyData.showable] using hs) (fun t ht => Nat.le_trans (listText_mem_le ht) hz')
    have rr : Reads s.heap (.ref _) (.list (toQs xs)) _ := .list ho hc hd h4
    have hna := not_mem_of_deeper rr (by simp only [PyData.depth]; omega) hb
    refine ⟨_, _ :: bs, rr, ReadAtMost.cons rr (by simp only [PyData.depth]; omega) hb, ?_⟩
    simp only [PyData.depth, PyData.shown]
    obtain ⟨l⟩ := its
    cases l with
    | nil =>
      cases vs
      cases r
      simp only [toQs, PyData.shownAll, listText_nil]
      exact ReprK.listEmpty ho hc hd
    | cons x l => exact ReprK.list ho hc hd hna (by simpa using hk.length_eq) (fun i y e => hk.item i y (by simpa using e))
  | n + 1, _, _, .tup xs, hq, .tup ha r, rv, hs, hz => by
    cases rv
    rw [toQ] at hs hz ⊢
    obtain ⟨its, vs, ⟨o, ho, hc, k, hd⟩, _⟩ := I.tuple (sm_tup sm ha)
    have hz' : (tupleText (PyData.shownAll (toQs xs))).length ≤ sizeLine := by simpa only [PyData.shown] using hz
    obtain ⟨as, bs, h4, hb, hk⟩ := rqs_of (rq_of I sm n) (by simpa [shq] using hq) r vs (by simpa [PyData.showable] using hs) (fun t ht => Nat.le_trans (tupleText_mem_le ht) hz')
    have rr : Reads s.heap (.ref _) (.tuple (toQs xs)) _ := .tuple ho hc hd h4
    have hna := not_mem_of_deeper rr (by simp only [PyData.depth]; omega) hb
    refine ⟨_, _ :: bs, rr, ReadAtMost.cons rr (by simp only [PyData.depth]; omega) hb, ?_⟩
    simp only [PyData.depth, PyData.shown]
    exact ReprK.tuple ho hc hd hna hk
  | n + 1, _, _, .dct [], _, .dct (kvs := kvs) ha r1 r2, rv, hs, hz => by
    cases rv
    have ek : kvs = [] := List.map_eq_nil_iff.mp r1
    subst ek
    rw [toQ] at hs hz ⊢
    obtain ⟨_, hsys, vs, rel, o, es, ep, ho, hex, hd, _, hp, _⟩ := dk_rd I.hok (.inl (sm _ _ ha))
    have hvs : vs = [] := by cases rel; rfl
    subst hvs
    have hes : es.toList = [] := by cases hl : es.toList with
      | nil => rfl
      | cons _ _ => rw [hl] at hp; cases hp
    have h4 : ReadsAll s.heap (es.toList.map (·.key)) (([] : List (PyData × PyData)).map (·.1)) [] := by rw [hes]; exact .nil
    have h5 : ReadsAll s.heap (es.toList.map (·.val)) (([] : List (PyData × PyData)).map (·.2)) [] := by rw [hes]; exact .nil
    have rr : Reads s.heap (.ref _) (.dict []) _ := .dict ho hex.1 hd h4 h5
    refine ⟨_, [_], rr, ReadAtMost.cons rr (n := 0) (by simp only [PyData.depth]; omega) (fun _ h => nomatch h), ?_⟩
    simp only [PyData.depth, PyData.shown, PyData.shownKv_eq]
    exact ReprK.dict ho hex.1 hd hsys (fun z => nomatch z) (ReprEntriesK.of_two es.toList _ _ (by rw [hes]; simp only [List.map_nil, PyData.shownAll]; exact .nil) (by rw [hes]; simp only [List.map_nil, PyData.shownAll]; exact .nil))
  | n, _, _, .scr _, h, _, _, _, _ => by cases n <;> simp [shq] at h
  | n, _, _, .fn _, h, _, _, _, _ => by cases n <;> simp [shq] at h
  | n, _, _, .exc _ _, h, _, _, _, _ => by cases n <;> simp [shq] at h
  | n, _, _, .dct (_ :: _), h, _, _, _, _ => by cases n <;> simp [shq] at h
  | 0, _, _, .dct [], h, _, _, _, _ => by simp [shq] at h
  | 0, _, _, .lst _, h, _, _, _, _ => by simp [shq] at h
  | 0, _, _, .tup _, h, _, _, _, _ => by simp [shq] at h
/-- what may be shown -/
def showQ (d : D) : Bool := match d with
  | .lst (_ :: _) => shq 8 d && (toQ d).showable && small (toQ d).shown.length && decide ((toQ d).depth ≤ 8)
  | _ => false
/-- repr of a list that is not empty -/
def reprQC : List D → Option D
  | [d] => if showQ d = true then some (.str (toQ d).shown) else none
  | _ => none
def rReprQ (K : PySem.W.Frag) : List V → Hp → VK → Prop := fun xs H Q => ∃ x d F, xs = [x] ∧ Same F H ∧ Rep K F x d ∧ showQ d = true ∧ Q (.str (toQ d).shown) H
theorem q_reprQ {K : PySem.W.Frag} [FE] : OpC K reprQC (rReprQ K) := by
  intro F H vs ds d Q s r e k
  unfold reprQC at e
  split at e
  · rename_i d0
    split at e
    · rename_i hz
      cases e
      obtain ⟨v, rfl, r1⟩ := Reps.one r
      exact ⟨v, d0, F, rfl, s, r1, hz, k _ F H (Grw.refl s) (.str _)⟩
    · cases e
  · cases e
theorem o_reprQ {X : Cx} [FE] (hg : X.A.guards = some []) (hu : X.A.units + 64 < cLine) : CallR X (.builtin "repr") (rReprQ X.K) := by
  intro pins s σ H xs us Q I r h
  obtain ⟨x, d, F, rfl, sm, rp, hz, q⟩ := h
  cases r with
  | cons r1 rt =>
    cases rt
    cases d with
    | lst xs =>
      cases xs with
      | nil => cases hz
      | cons y ys =>
        have hz : (shq 8 (.lst (y :: ys)) && (toQ (.lst (y :: ys))).showable && small (toQ (.lst (y :: ys))).shown.length && decide ((toQ (.lst (y :: ys))).depth ≤ 8)) = true := hz
        simp only [Bool.and_eq_true, decide_eq_true_eq] at hz
        obtain ⟨⟨⟨z1, z2⟩, z3⟩, z4⟩ := hz
        have z3 : (toQ (.lst (y :: ys))).shown.length ≤ sizeLine := le_line (of_decide_eq_true z3)
        cases rp with
        | lst ha rs =>
          cases r1
          rw [toQ] at z2 z3 z4 q
          obtain ⟨o, k, its, ho, hc, hd, vs⟩ := items_of I sm ha
          have hz' : (listText (PyData.shownAll (toQs (y :: ys)))).length ≤ sizeLine := by simpa only [PyData.shown] using z3
          obtain ⟨as, bs, h4, hb, hk⟩ := rqs_of (rq_of I sm 7) (by simpa [shq] using z1) rs vs (by simpa [PyData.showable] using z2) (fun t ht => Nat.le_trans (listText_mem_le ht) hz')
          have rr : Reads s.heap (.ref _) (.list (toQs (y :: ys))) _ := .list ho hc hd h4
          have hna := not_mem_of_deeper rr (by simp only [PyData.depth]; omega) hb
          simp only [PyData.depth] at z4
          simp only [PyData.shown] at q
          obtain ⟨l⟩ := its
          cases l with
          | nil => cases vs; cases rs
          | cons u us =>
            exact call_repr_slot (by omega) ⟨o, ho, hc⟩ PySem.F.slot_list_repr.toG (call_list_reprK ho hc hd hna (by simpa using hk.length_eq) (fun i y e => hk.item i y (by simpa using e)) hg (fun b _ => Clear.nil b) (by show X.A.units + 1 + _ < cLine; omega) (fun _ _ e => e) (fun h' t tk hk' => ⟨_, _, rfl, ⟨.str _, H, I.kept (t' := tk) hk', ⟨t, rfl⟩, q⟩⟩) hz')
    | _ => cases hz
end
end FL
/-! FL35: what is shown is not too long; equal data. -/
namespace FL
open PySem PySem.Spec PyProof.Rows L2
theorem fdivD_b {a b : Int} (h0 : b ≠ 0) (h : b.natAbs < 2 ^ 200) : fdivD (.int a) (.int b) = some (.int (a.fdiv b)) := by
  have l : b.natAbs.log2 < 200 := by
    by_cases z : b.natAbs = 0
    · rw [z]; decide
    · exact (Nat.log2_lt z).mpr h
  exact if_pos (.inr ⟨h0, by omega⟩)
theorem modD_b {a b : Int} (h0 : b ≠ 0) : modD (.int a) (.int b) = some (.int (a.fmod b)) := if_pos h0
theorem neA_self {d : D} (h : shp 8 d = true) : neA d d = some (.bl false) := by
  unfold neA
  cases e : twoS d d with
  | some b =>
    unfold twoS at e
    split at e
    · cases e
      simp_all
    · cases e
  | none =>
    have hd : difL d d = false := by
      cases d <;> first | rfl | exact bne_self_eq_false _
    dsimp only
    rw [hd, if_neg Bool.false_ne_true]
    unfold neD
    rw [if_pos ⟨h, h⟩]
    unfold eqd
    rw [PySem.SeqAt.eqv_refl _ (shp_ok 8 d h).1]
    rfl
theorem eqA_self {d : D} (h : shp 8 d = true) : eqA d d = some (.bl true) := by
  unfold eqA
  cases e : twoS d d with
  | some b =>
    unfold twoS at e
    split at e
    · cases e
      simp_all
    · cases e
  | none =>
    have hd : difL d d = false := by
      cases d <;> first | rfl | exact bne_self_eq_false _
    dsimp only
    rw [hd, if_neg Bool.false_ne_true]
    unfold eqD
    rw [if_pos ⟨h, h⟩]
    unfold eqd
    rw [PySem.SeqAt.eqv_refl _ (shp_ok 8 d h).1]
theorem shp_ints (n : Nat) : ∀ ns : List Int, (ns.map D.int).all (shp n) = true
  | [] => rfl
  | i :: ns => by
    rw [List.map_cons, List.all_cons, shp_ints n ns]
    cases n <;> rfl
theorem shq_ints (n : Nat) : ∀ ns : List Int, (ns.map D.int).all (shq n) = true
  | [] => rfl
  | i :: ns => by
    rw [List.map_cons, List.all_cons, shq_ints n ns]
    cases n <;> rfl
/-- how long it is at most, whole numbers below 10 ** 60 -/
def costQ : Nat → D → Nat
  | _, .non => 4
  | _, .bl _ => 5
  | _, .int _ => 62
  | _, .str x => (reprText x).length
  | n + 1, .tup xs => 3 + (xs.map fun x => costQ n x + 2).sum
  | n + 1, .lst xs => 3 + (xs.map fun x => costQ n x + 2).sum
  | _, _ => 4
def litQ : Nat → D → Bool
  | _, .int i => decide (i.natAbs < 10 ^ 60)
  | n + 1, .tup xs => xs.all (litQ n)
  | n + 1, .lst xs => xs.all (litQ n)
  | _, _ => true
theorem litQ_ints {n : Nat} {ns : List Int} (h : ∀ i ∈ ns, i.natAbs < 10 ^ 60) : (ns.map D.int).all (litQ n) = true := by
  rw [List.all_eq_true]
  intro x hx
  obtain ⟨i, hi, rfl⟩ := List.mem_map.mp hx
  cases n <;> exact decide_eq_true (h i hi)
theorem cost_ints (n : Nat) : ∀ ns : List Int, ((ns.map D.int).map fun x => costQ n x + 2).sum = 64 * ns.length
  | [] => rfl
  | i :: ns => by
    rw [List.map_cons, List.map_cons, List.sum_cons, cost_ints n ns, List.length_cons]
    have : costQ n (.int i) = 62 := by cases n <;> rfl
    rw [this]
    omega
theorem cost_all {n : Nat} (ih : ∀ d : D, shq n d = true → litQ n d = true → (toQ d).showable = true ∧ (toQ d).shown.length ≤ costQ n d ∧ (toQ d).depth ≤ n) : ∀ xs : List D, xs.all (shq n) = true → xs.all (litQ n) = true →
    PyData.showableAll (toQs xs) = true ∧ ((PyData.shownAll (toQs xs)).map (·.length)).sum + 2 * (PyData.shownAll (toQs xs)).length ≤ (xs.map fun x => costQ n x + 2).sum ∧ PyData.depthAll (toQs xs) ≤ n
  | [], _, _ => ⟨rfl, by rw [toQs]; simp [PyData.shownAll], by rw [toQs]; simp [PyData.depthAll]⟩
  | x :: xs, h1, h2 => by
    rw [List.all_cons, Bool.and_eq_true] at h1 h2
    obtain ⟨a1, a2, a3⟩ := ih x h1.1 h2.1
    obtain ⟨b1, b2, b3⟩ := cost_all ih xs h1.2 h2.2
    rw [toQs]
    refine ⟨by simp only [PyData.showableAll, a1, b1, Bool.and_self], ?_, by simp only [PyData.depthAll]; omega⟩
    simp only [PyData.shownAll, List.map_cons, List.sum_cons, List.length_cons]
    omega
theorem cost_ok : ∀ (n : Nat) (d : D), shq n d = true → litQ n d = true → (toQ d).showable = true ∧ (toQ d).shown.length ≤ costQ n d ∧ (toQ d).depth ≤ n
  | n, .non, _, _ => ⟨by rw [toQ]; rfl, by rw [toQ]; rw [show costQ n .non = 4 by cases n <;> rfl]; exact (by decide +kernel : PyData.none.shown.length ≤ 4), by rw [toQ]; simp [PyData.depth]⟩
  | n, .bl b, _, _ => ⟨by rw [toQ]; rfl, by rw [toQ]; rw [show costQ n (.bl b) = 5 by cases n <;> rfl]; cases b <;> first | exact (by decide +kernel : (PyData.bool false).shown.length ≤ 5) | exact (by decide +kernel : (PyData.bool true).shown.length ≤ 5), by rw [toQ]; simp [PyData.depth]⟩
  | n, .int i, _, h => by
    have hi : i.natAbs < 10 ^ 60 := by cases n <;> exact of_decide_eq_true h
    rw [toQ]
    refine ⟨?_, ?_, by simp [PyData.depth]⟩
    · show decide _ = true
      refine decide_eq_true ?_
      by_cases z : i.natAbs = 0
      · rw [z]; decide
      · exact (Nat.log2_lt z).mpr (Nat.lt_trans hi (by decide +kernel))
    · have e := int_text_length_le10 (k := 60) (by decide) hi
      have : costQ n (.int i) = 62 := by cases n <;> rfl
      rw [this]
      show (Str.ofString (toString i)).length ≤ 62
      rw [PySem.ofString_length]
      omega
  | n, .str x, _, _ => ⟨by rw [toQ]; rfl, by rw [toQ]; cases n <;> exact Nat.le_refl _, by rw [toQ]; simp [PyData.depth]⟩
  | n + 1, .tup xs, h1, h2 => by
    obtain ⟨a1, a2, a3⟩ := cost_all (cost_ok n) xs (by simpa [shq] using h1) (by simpa [litQ] using h2)
    rw [toQ]
    refine ⟨by simpa [PyData.showable] using a1, ?_, by simp only [PyData.depth]; omega⟩
    have z := tupleText_len_le (PyData.shownAll (toQs xs))
    show (tupleText (PyData.shownAll (toQs xs))).length ≤ 3 + _
    omega
  | n + 1, .lst xs, h1, h2 => by
    obtain ⟨a1, a2, a3⟩ := cost_all (cost_ok n) xs (by simpa [shq] using h1) (by simpa [litQ] using h2)
    rw [toQ]
    refine ⟨by simpa [PyData.showable] using a1, ?_, by simp only [PyData.depth]; omega⟩
    have z := listText_len_le (PyData.shownAll (toQs xs))
    show (listText (PyData.shownAll (toQs xs))).length ≤ 3 + _
    omega
  | n + 1, .dct [], _, _ => ⟨by rw [toQ]; rfl, by rw [toQ]; rw [show costQ (n + 1) (.dct []) = 4 from rfl]; exact (by decide +kernel : (PyData.dict []).shown.length ≤ 4), by rw [toQ]; simp [PyData.depth, PyData.depthKv]⟩
  | n, .scr _, h, _ => by cases n <;> simp [shq] at h
  | n, .fn _, h, _ => by cases n <;> simp [shq] at h
  | n, .exc _ _, h, _ => by cases n <;> simp [shq] at h
  | n, .dct (_ :: _), h, _ => by cases n <;> simp [shq] at h
  | 0, .dct [], h, _ => by simp [shq] at h
  | 0, .lst _, h, _ => by simp [shq] at h
  | 0, .tup _, h, _ => by simp [shq] at h
theorem showQ_of {x : D} {xs : List D} (h1 : shq 8 (.lst (x :: xs)) = true) (h2 : litQ 8 (.lst (x :: xs)) = true) (h3 : costQ 8 (.lst (x :: xs)) ≤ 100000) : showQ (.lst (x :: xs)) = true := by
  obtain ⟨a, b, c⟩ := cost_ok 8 _ h1 h2
  show (shq 8 (.lst (x :: xs)) && (toQ (.lst (x :: xs))).showable && small (toQ (.lst (x :: xs))).shown.length && decide ((toQ (.lst (x :: xs))).depth ≤ 8)) = true
  rw [h1, a, decide_eq_true c, show small (toQ (.lst (x :: xs))).shown.length = true from decide_eq_true (by omega)]
  rfl
theorem reprQC_of {x : D} {xs : List D} (h1 : shq 8 (.lst (x :: xs)) = true) (h2 : litQ 8 (.lst (x :: xs)) = true) (h3 : costQ 8 (.lst (x :: xs)) ≤ 100000) : reprQC [.lst (x :: xs)] = some (.str (toQ (.lst (x :: xs))).shown) := if_pos (showQ_of h1 h2 h3)
end FL
/-! FL36: sorted(x) of a tuple of whole numbers, fewer than 64. -/
namespace FL
open PySem PySem.Spec PyProof.Rows L2
def rSortTI (K : PySem.W.Frag) : List V → Hp → VK → Prop := fun xs H Q => ∃ (a : Addr) (ks : List Int), xs = [.ref a] ∧ SqT K H a (ks.map V.int) ∧ ks.length < 64 ∧
    ∀ (ys : List Int) (p : Addr), ys.Perm ks → ys.Pairwise (· ≤ ·) → H p = none → Q (.ref p) (upd H p (.lst (ys.map V.int)))
theorem cr_sortedTI [FE] {X : Cx} : CallR X (.builtin "sorted") (rSortTI X.K) := by
  intro pins s σ H xs us Q I r hq
  obtain ⟨a, ks, rfl, ht, h64, q⟩ := hq
  obtain ⟨its, rv, ⟨o, ho, hc, n, hd⟩, hsz⟩ := I.tuple ht
  cases Vals.ref1 r
  have hi := rv.ints
  have hlen : its.length = ks.length := by have := rv.length; rw [List.length_map] at this; exact this.symm
  refine Calls.call_function_entry kind_sorted plain_sorted entry_sorted (args_sorted1 _) (show wpAny _ _ (Builtin.«sorted» _) _ _ _ from ?_)
  unfold Builtin.«sorted»
  refine wpAny_bind (wpAny_pure (wpAny_bind (wpAny_collect_seq (items := its.toArray) a (.inr rfl) ho hc hd (fun h1 hk => wpAny_bind (wpAny_newList ?_ (by rw [List.toList_toArray, hlen, sizeLine_eq]; omega))) (by rw [List.size_toArray, hlen, sizeLine_eq]; omega))))
  rw [List.toList_toArray]
  have I1 : Inv X pins σ H { s with heap := h1, toks := s.toks } := I.kept hk
  have new : (h1.push (seqObj "list" its.toArray 0)).get? h1.objs.size = some (seqObj "list" its.toArray 0) := Heap.get?_push_size _ rfl
  refine wpAny_bind (wpAny_holding (wpAny_call_entry slot_list_sort ⟨_, new, rfl⟩ entry_list_sort (list_sort_tree (s := { s with heap := h1.push (seqObj "list" its.toArray 0), toks := s.toks }) new hi (by rw [hlen]; exact h64) fun out ys g1 g2 g3 => ⟨_, rfl, ?_⟩) (args_list_sort _)))
  obtain ⟨e2, he2⟩ := sortedHeap_at (vs := its) (out := out) new
  have hl2 : (ys.map V.int).length ≤ sizeLine := by
    have e3 := g2.length_eq
    rw [List.length_map]
    exact Nat.le_trans (show ys.length ≤ 64 by omega) (by rw [sizeLine_eq]; decide)
  refine wpAny_pure ⟨_, rfl, .ref h1.objs.size, upd H h1.objs.size (.lst (ys.map V.int)), I1.laid (t' := s.toks) (fun b u e => ?_) (Nat.le_refl _) (show ObjOk X.prog X.w _ _ _ (.lst (ys.map V.int)) from ⟨hl2, out.toList, e2, vals_of_ints g1, by rw [Array.toArray_toList]; exact he2⟩), rfl, q ys _ g2 g3 (I1.hok.fresh (Nat.le_refl _))⟩
  have hb : b < h1.objs.size := Heap.lt_size e
  rw [sortedHeap_old (Nat.ne_of_lt hb) (by rw [size_push']; exact Nat.lt_succ_of_lt hb)]
  exact Heap.get?_push_of_some _ e
def sortTC : List D → Option D
  | [.tup xs] => (asInts xs).bind fun ns => if ns.length < 64 then some (.lst ((srtI ns).map D.int)) else none
  | _ => none
theorem q_sortT [FE] {K : PySem.W.Frag} : OpC K sortTC (rSortTI K) := by
  intro F H vs ds d Q s r e k
  unfold sortTC at e
  split at e
  · next xs =>
    cases h : asInts xs with
    | none => rw [h] at e; cases e
    | some ns =>
      rw [h, Option.bind_some] at e
      split at e
      · rename_i hlt
        cases e
        cases asInts_eq h
        obtain ⟨v, rfl, h'⟩ := Reps.one r
        cases h' with
        | tup h1 r1 =>
          cases Reps.of_ints r1
          refine ⟨_, ns, rfl, sm_tup s h1, hlt, fun ns' p pm pw hp => ?_⟩
          cases srtI_of pm pw
          exact k _ _ _ (Grw.newF s hp) (.lst upd_same (Reps.ints _))
      · cases e
  · cases e
end FL
/-! FL37: a tuple many times over. -/
namespace FL
open PySem PySem.Spec PyProof.Rows L2
/-- a tuple times a number, as long as it stays within the bounds -/
def rTimes (K : PySem.W.Frag) : R2 := fun x y H Q => ∃ (a : Addr) (m : Nat) (vs : List V), x = .ref a ∧ y = .int m ∧ SqT K H a vs ∧ vs ≠ [] ∧ 2 ≤ m ∧ m ≤ 100000 ∧ vs.length * m ≤ 100000 ∧
    ∀ p, H p = none → Q (.ref p) (upd H p (.tup (List.replicate m vs).flatten))
theorem o_times [FE] {X : Cx} : OpR X (binaryOp .Mult) (rTimes X.K) := by
  rintro pins s σ H x y v u Q I rx ry ⟨a, m, vs, rfl, rfl, ht, h0, h2, h3, h4, q⟩
  cases rx
  obtain ⟨tk, rfl⟩ := ry
  obtain ⟨us, rv, ⟨⟨c, od, dt, slo⟩, hob, hcl, nn, hdt⟩, _⟩ := I.tuple ht
  dsimp only at hcl hdt
  subst hcl
  subst hdt
  have el : us.length = vs.length := rv.length.symm
  have hpos : 0 < us.length := by
    rw [el]
    exact List.length_pos_iff.mpr h0
  have sz : us.toArray.size = vs.length := List.size_toArray.trans el
  have hemp : us.toArray.isEmpty = false := by
    match us, hpos with
    | _ :: _, _ => rfl
  have prod : ((us.toArray.size : Nat) : Int) * (m : Int) ≤ 100000 := by
    rw [sz]
    have : ((vs.length * m : Nat) : Int) ≤ 100000 := by omega
    rwa [Int.natCast_mul] at this
  have flat : (List.replicate m us).flatten.length ≤ 100000 := by
    rw [PyProof.Rows.lm_len_rep_flat, el, Nat.mul_comm]
    exact h4
  have line : 100000 ≤ sizeLine := by decide
  have b0 : (decide ((m : Int) < -(2 ^ 63)) || decide ((m : Int) ≥ 2 ^ 63)) = false :=
    Bool.or_eq_false_iff.mpr ⟨decide_eq_false (by omega), decide_eq_false (by omega)⟩
  have b1 : (us.toArray.isEmpty || (m : Int) == 1) = false :=
    Bool.or_eq_false_iff.mpr ⟨hemp, beq_eq_false_iff_ne.mpr (by omega)⟩
  have b2 : (decide ((m : Int) ≤ 0) || us.toArray.isEmpty) = false :=
    Bool.or_eq_false_iff.mpr ⟨decide_eq_false (by omega), hemp⟩
  have b4 : Builtin.Tuple.tupleTooMany (((us.toArray.size : Nat) : Int) * (m : Int)) = false := by
    unfold Builtin.Tuple.tupleTooMany
    have := line
    exact decide_eq_false (by rw [sizeLine_eq]; omega)
  have fold := size_rep us m
  have hs2 : (List.foldl (fun x1 x2 => x1 ++ x2) #[] (List.replicate (m : Int).toNat us.toArray)).size ≤ sizeLine := by
    rw [Int.toNat_natCast, fold, List.size_toArray]
    exact Nat.le_trans flat line
  have body := tuple_mulW a us.toArray nn od slo (m : Int) tk b0 b1 b2 (by omega) b4 hs2
  have back := int_rmul_tuple (m : Int) tk a us.toArray nn od slo
  have is_t : s.heap.get? a = some { cls := .type "tuple", dict := od, data := .seq us.toArray nn, slots := slo } := hob
  refine wpAny_binaryOp_repeat_ref (U := "int") (T := "tuple") (by decide) ⟨_, is_t, rfl⟩ (fun s' => typeIs_int s' _ tk) noFill_tuple_mul F.fills_int_mul F.slot_int_rmul repeat_tuple F.slot_int_index.lookup ?_
  refine call_meets F.slot_int_rmul (typeIs_int s _ tk) F.entry_int_rmul (F.args_int_rmul_2 _ _) back ⟨is_t, rfl, ⟨_, is_t, rfl⟩, ?_⟩
  refine call_meets F.slot_tuple_mul ⟨_, is_t, rfl⟩ F.entry_tuple_mul (F.args_tuple_mul_2 _ _) body ⟨is_t, ?_⟩
  rw [Int.toNat_natCast, fold]
  have lv : (List.replicate m vs).flatten.length ≤ sizeLine := by
    rw [PyProof.Rows.lm_len_rep_flat, Nat.mul_comm]
    exact Nat.le_trans h4 line
  have grow := I.laid (t' := s.toks) (o := .tup (List.replicate m vs).flatten) (fun b ob e => Heap.get?_push_of_some _ e) (Nat.le_refl _) ⟨lv, _, rv.rep m, IsTup.new _ _⟩
  exact ⟨.ref s.heap.objs.size, _, grow, rfl, q _ (I.hok.fresh (Nat.le_refl _))⟩
def mulTD : D → D → Option D
  | .tup ds, .int k => if 2 ≤ k ∧ k ≤ 100000 ∧ ds.length * k.toNat ≤ 100000 ∧ ds ≠ [] then some (.tup (List.replicate k.toNat ds).flatten) else none
  | _, _ => none
theorem q_times [FE] {K : PySem.W.Frag} : Op2 K mulTD (rTimes K) := by
  intro F H x y dx dy d Q s rx ry e k
  unfold mulTD at e
  split at e
  · rename_i ds j
    split at e
    · rename_i hz
      cases e
      obtain ⟨z1, z2, z3, z4⟩ := hz
      cases ry
      cases rx with
      | @tup _ vs _ ht rs =>
        have hl := Reps.length rs
        refine ⟨_, j.toNat, _, rfl, by rw [show ((j.toNat : Nat) : Int) = j by omega], sm_tup s ht, fun z => ?_, by omega, by omega, by rw [hl]; exact z3, fun p hp => ?_⟩
        · subst z
          cases rs
          exact z4 rfl
        · have g := Grw.newF (o := .tup (List.replicate j.toNat vs).flatten) s hp
          exact k _ _ _ g (.tup (.inl (.inl upd_same)) ((Reps.mono g.f rs).rep _))
    · cases e
  · cases e
end FL
/-! FL38: isinstance(e, (A, B)) of a caught error. -/
namespace FL
open PySem PySem.Spec PyProof.Rows L2
/-- is the error of one of two own classes -/
def isxTC [FE] (x0 : EId) (ct : CT) (m1 m2 : Str) : List D → Option D
  | [.exc x _, .tup [.fn a, .fn b]] => if x = x0 ∧ a = FE.cl m1 ∧ b = FE.cl m2 then (ct.lookup x.C).map fun p => .bl (p.1.contains m1 || p.1.contains m2) else none
  | _ => none
def rIsxT [FE] (K : PySem.W.Frag) (x0 : EId) : List V → Hp → VK → Prop := fun xs H Q => ∃ (tp a b : Addr) (r : Bool), xs = [.ref x0.a, .ref tp] ∧ SqT K H tp [.ref a, .ref b] ∧ PySem.W.kitAny K (.ref (FE.cl x0.C)) [.ref a, .ref b] = some r ∧
  (∃ (F : Hp) (fsV : List (Str × V)), Same F H ∧ XD F x0.d fsV) ∧ Q (.bl r) H
section
variable [FE]
variable {X : Cx} {x0 : EId}
theorem call_isxT (hx : HotX X x0) (hI : ExcI X.K (FE.cl x0.C)) : CallR X (.builtin "isinstance") (rIsxT X.K x0) := by
  rintro pins s σ H xs us Q I r ⟨tp, a, b, res, rfl, ht, e, ⟨F, fsV, sm, xd⟩, q⟩
  obtain ⟨u1, u2, rfl, r1, r2⟩ := vals2 r
  cases (show u2 = Value.ref tp from r2)
  cases (show u1 = Value.ref x0.a from r1)
  obtain ⟨ox, od, J, _⟩ := hx.inst I sm xd
  obtain ⟨its, rv, ⟨⟨oc, dd, dt, sl⟩, ho, hc, n, hd⟩, _⟩ := I.tuple ht
  dsimp only at hc hd
  subst hc
  subst hd
  obtain ⟨w1, w2, rfl, q1, q2⟩ := vals2 rv
  cases (show w1 = Value.ref a from q1)
  cases (show w2 = Value.ref b from q2)
  exact PySem.W.kia_tup (PySem.W.kitx_exc hI.cl hI.ga hI.gg hI.sb hI.ha hI.hn hI.tk hI.hm) I.kIn J ho e (fun z => nomatch z) fun tk => ⟨.bl res, H, I.kept (t' := tk) fun _ _ z => z, rfl, q⟩
theorem q_isxT {ct : CT} {tests : List Str} {bb : List (Str × String)} {m1 m2 : Str} (T : ClsT X.K ct tests bb) (h1 : m1 ∈ tests) (h2 : m2 ∈ tests) (b1 : bb.lookup m1 = none) (b2 : bb.lookup m2 = none) : OpC X.K (isxTC x0 ct m1 m2) (rIsxT X.K x0) := by
  intro F H vs ds d Q s r e k
  unfold isxTC at e
  split at e
  · rename_i x fs a b
    split at e
    · rename_i hc
      obtain ⟨rfl, rfl, rfl⟩ := hc
      obtain ⟨v1, v2, rfl, r1, r2⟩ := Reps.two r
      cases r1 with
      | exc xd hk rs =>
        cases r2 with
        | tup ht r3 =>
          obtain ⟨w1, w2, rfl, q1, q2⟩ := Reps.two r3
          cases q1
          cases q2
          cases el : ct.lookup x.C with
          | none => rw [el] at e; cases e
          | some p =>
            rw [el] at e
            cases e
            have t1 := T.t _ _ el m1 h1
            have t2 := T.t _ _ el m2 h2
            have c1 : cval bb m1 = .ref (FE.cl m1) := by unfold cval; rw [b1]
            have c2 : cval bb m2 = .ref (FE.cl m2) := by unfold cval; rw [b2]
            rw [c1] at t1
            rw [c2] at t2
            refine ⟨_, _, _, p.1.contains m1 || p.1.contains m2, rfl, sm_tup s ht, ?_, ⟨F, _, s, xd⟩, k _ F H (Grw.refl s) (.bl _)⟩
            refine kitAny_cons t1 (fun z => ?_) (fun z => by rw [z]; rfl)
            refine kitAny_cons t2 (fun z' => ?_) (fun z' => by rw [z']; simp)
            rw [z, z']
            exact kitAny_nil
    · cases e
  · cases e
end
end FL
/-! FL39: repr of great numbers, up to 4,300 figures. -/
namespace FL
open PySem PySem.Spec PyProof.Rows L2
/-- no limit of figures was set: to be computed -/
def digB (K : PySem.W.Frag) : Bool := match K.lookup cStatics with
  | some ⟨_, _, .dict es _, _⟩ => (es.toList.all fun e => match e.key with
      | .str _ _ => true
      | _ => false) && (nsFind es "sys.int_max_str_digits").isNone
  | _ => false
theorem digB_ok {K : PySem.W.Frag} {h : Heap} (X : K.In h) (hd : digB K = true) : h.NoDigits := by
  unfold digB at hd
  split at hd
  · rename_i c d es n sl q
    obtain ⟨h1, h2⟩ := Bool.and_eq_true_iff.mp hd
    refine ⟨fun x => nsFind es x, ⟨_, es, n, X _ _ q, rfl, fun e he => ?_, fun _ => rfl⟩, Option.isNone_iff_eq_none.mp h2⟩
    have := List.all_eq_true.mp h1 e (by simpa using he)
    split at this
    · rename_i a b e
      exact ⟨_, _, e⟩
    · cases this
  · cases hd
section
variable {P : Program} {w : World}
/-- a number of up to 4,300 figures -/
theorem int_shown {A : Around} {E : Value → Shared → Prop} {s : Shared} {a : Int} {t : Tok} {Q : Value → Shared → Prop} (nd : s.heap.NoDigits) (ha : a.natAbs < 10 ^ 4300) (q : Q (.str (toString a) s.toks) { s with toks := s.toks + 1 }) : wpAny (model P w) A (pyReprObj (.int a t)) Q E s := by
  have off : [Value.int a t].any Value.onHeap = false := rfl
  unfold pyReprObj
  simp only [cRoomFor, off, Bool.false_eq_true, if_false, pure_bind]
  have ty := typeIs_int s a t
  refine wpAny_bind (wpAny_specialOf (name := Str.ofString "__repr__") ty PySem.F.slot_int_repr.lookup (wpAny_bind (m := callSpecialIfBound? (.int a t) (Str.ofString "__repr__")) (wpAny_callSpecialIfBound?_slot (name := Str.ofString "__repr__") ty PySem.F.slot_int_repr ?_)))
  refine wpAny_call_entry PySem.F.slot_int_repr ty PySem.F.entry_int_repr (show wpAny _ _ (Builtin.«int.__repr__» _) _ _ _ from ?_) (PySem.F.args_int_repr_1 _)
  unfold Builtin.«int.__repr__»
  show wpAny _ _ (Builtin.overDigitLimit? a >>= _) _ _ s
  refine wpAny_bind (overDigitLimit_any nd (fun _ => ?_) fun h => absurd ha (Nat.not_lt.mpr h))
  exact wpAny_bind (wpAny_mkStr (wpAny_pure ⟨_, rfl, wpAny_bind (wpAny_isInstance (T := "str") (b := true) rfl isSubtype_str_str (wpAny_pure q))⟩) (int_text_fits10 ha))
theorem reprK_int {h : Heap} {a : Int} (nd : h.NoDigits) (t : Tok) (ha : a.natAbs < 10 ^ 4300) (bs : List Addr) (d : Nat) : ReprK P w bs h d (.int a t) (toString a) := fun b hb A g E s Q _ _ _ hk q => by
  rw [pyReprUnder_leaf (v := .int a t) (by omega) (fun _ z => nomatch z)]
  unfold pyRepr
  exact wpAny_bind (int_shown (nd.keeps hk) ha (wpAny_pure (q s.heap _ fun _ _ z => z)))
end
/-- numbers of up to 4,300 figures alone -/
def figB : Nat → D → Bool
  | _, .int i => decide (i.natAbs < 10 ^ 4300)
  | n + 1, .tup xs => xs.all (figB n)
  | n + 1, .lst xs => xs.all (figB n)
  | _, _ => true
section
variable {X : Cx} {pins : List (Addr × Obj)} {σ : L2.St} {H F : Hp} {s : Shared}
theorem rbs_of {n : Nat} (ih : ∀ (v : V) (u : Value) (d : D), shq n d = true → Rep X.K F v d → RelV v u → figB n d = true → (toQ d).shown.length ≤ sizeLine → RQ X.prog X.w s.heap u (toQ d)) :
    ∀ {ds : List D} {vs : List V} {us : List Value}, ds.all (shq n) = true → Reps X.K F vs ds → Vals vs us → ds.all (figB n) = true → (∀ t ∈ PyData.shownAll (toQs ds), t.length ≤ sizeLine) → RQs X.prog X.w s.heap us (toQs ds)
  | [], _, _, _, .nil, .nil, _, _ => ⟨[], [], by rw [toQs]; exact .nil, (fun _ h => nomatch h), by rw [toQs]; simp only [PyData.shownAll]; exact .nil⟩
  | d :: ds, _, _, hs, .cons r rs, .cons v vs, hw, hz => by
    rw [List.all_cons, Bool.and_eq_true] at hs
    rw [List.all_cons, Bool.and_eq_true] at hw
    rw [toQs] at hz ⊢
    have hw' := hw
    obtain ⟨a1, b1, r1, m1, k1⟩ := ih _ _ d hs.1 r v hw'.1 (hz _ (by simp only [PyData.shownAll]; exact List.mem_cons_self ..))
    obtain ⟨a2, b2, r2, m2, k2⟩ := rbs_of ih hs.2 rs vs hw'.2 fun t ht => hz t (by simp only [PyData.shownAll]; exact List.mem_cons_of_mem _ ht)
    refine ⟨a1 ++ a2, b1 ++ b2, .cons r1 r2, ?_, ?_⟩
    · simp only [PyData.depthAll]
      exact (m1.mono (Nat.le_max_left _ _)).append (m2.mono (Nat.le_max_right _ _))
    · simp only [PyData.depthAll, PyData.shownAll]
      exact .cons ((k1.more fun b hb => List.mem_append_left _ hb).level_le (Nat.le_max_left _ _)) (k2.more_le (fun b hb => List.mem_append_right _ hb) (Nat.le_max_right _ _))
theorem rb_of (I : Inv X pins σ H s) (nd : s.heap.NoDigits) (sm : Same F H) : ∀ (n : Nat) (v : V) (u : Value) (d : D), shq n d = true → Rep X.K F v d → RelV v u → figB n d = true → (toQ d).shown.length ≤ sizeLine → RQ X.prog X.w s.heap u (toQ d)
  | n, _, _, .non, _, .non, r, _, _ => by
    cases r
    rw [toQ]
    exact ⟨_, [], Reads.none, (fun _ h => nomatch h), by simp only [PyData.shown]; exact .of_is ReprIs.none _ _ _⟩
  | n, _, _, .bl b, _, .bl _, r, _, _ => by
    cases r
    rw [toQ]
    exact ⟨_, [], Reads.bool b, (fun _ h => nomatch h), by simp only [PyData.shown]; exact .of_is (ReprIs.bool b) _ _ _⟩
  | n, _, _, .int i, _, .int _, r, hs, _ => by
    obtain ⟨t, rfl⟩ := r
    have hs : i.natAbs < 10 ^ 4300 := by cases n <;> exact of_decide_eq_true hs
    rw [toQ]
    exact ⟨_, [], Reads.int i t, (fun _ h => nomatch h), by simp only [PyData.shown]; exact reprK_int nd t hs _ _⟩
  | n, _, _, .str x, _, .str _, r, _, hz => by
    obtain ⟨t, rfl⟩ := r
    rw [toQ] at hz ⊢
    exact ⟨_, [], Reads.str x t, (fun _ h => nomatch h), by simp only [PyData.shown]; exact .of_is (ReprIs.str x t (by simpa only [PyData.shown] using hz)) _ _ _⟩
  | n + 1, _, _, .lst xs, hq, .lst ha r, rv, hs, hz => by
    cases rv
    rw [toQ] at hz ⊢
    obtain ⟨o, k, its, ho, hc, hd, vs⟩ := items_of I sm ha
    have hz' : (listText (PyData.shownAll (toQs xs))).length ≤ sizeLine := by simpa only [PyData.shown] using hz
    obtain ⟨as, bs, h4, hb, hk⟩ := rbs_of (rb_of I nd sm n) (by simpa [shq] using hq) r vs (by simpa [figB] using hs) (fun t ht => Nat.le_trans (listText_mem_le ht) hz')
    have rr : Reads s.heap (.ref _) (.list (toQs xs)) _ := .list ho hc hd h4
    have hna := not_mem_of_deeper rr (by simp only [PyData.depth]; omega) hb
    refine ⟨_, _ :: bs, rr, ReadAtMost.cons rr (by simp only [PyData.depth]; omega) hb, ?_⟩
    simp only [PyData.depth, PyData.shown]
    obtain ⟨l⟩ := its
    cases l with
    | nil =>
      cases vs
      cases r
      simp only [toQs, PyData.shownAll, listText_nil]
      exact ReprK.listEmpty ho hc hd
    | cons x l => exact ReprK.list ho hc hd hna (by simpa using hk.length_eq) (fun i y e => hk.item i y (by simpa using e))
  | n + 1, _, _, .tup xs, hq, .tup ha r, rv, hs, hz => by
    cases rv
    rw [toQ] at hz ⊢
    obtain ⟨its, vs, ⟨o, ho, hc, k, hd⟩, _⟩ := I.tuple (sm_tup sm ha)
    have hz' : (tupleText (PyData.shownAll (toQs xs))).length ≤ sizeLine := by simpa only [PyData.shown] using hz
    obtain ⟨as, bs, h4, hb, hk⟩ := rbs_of (rb_of I nd sm n) (by simpa [shq] using hq) r vs (by simpa [figB] using hs) (fun t ht => Nat.le_trans (tupleText_mem_le ht) hz')
    have rr : Reads s.heap (.ref _) (.tuple (toQs xs)) _ := .tuple ho hc hd h4
    have hna := not_mem_of_deeper rr (by simp only [PyData.depth]; omega) hb
    refine ⟨_, _ :: bs, rr, ReadAtMost.cons rr (by simp only [PyData.depth]; omega) hb, ?_⟩
    simp only [PyData.depth, PyData.shown]
    exact ReprK.tuple ho hc hd hna hk
  | n + 1, _, _, .dct [], _, .dct (kvs := kvs) ha r1 r2, rv, hs, hz => by
    cases rv
    have ek : kvs = [] := List.map_eq_nil_iff.mp r1
    subst ek
    rw [toQ] at hz ⊢
    obtain ⟨_, hsys, vs, rel, o, es, ep, ho, hex, hd, _, hp, _⟩ := dk_rd I.hok (.inl (sm _ _ ha))
    have hvs : vs = [] := by cases rel; rfl
    subst hvs
    have hes : es.toList = [] := by cases hl : es.toList with
      | nil => rfl
      | cons _ _ => rw [hl] at hp; cases hp
    have h4 : ReadsAll s.heap (es.toList.map (·.key)) (([] : List (PyData × PyData)).map (·.1)) [] := by rw [hes]; exact .nil
    have h5 : ReadsAll s.heap (es.toList.map (·.val)) (([] : List (PyData × PyData)).map (·.2)) [] := by rw [hes]; exact .nil
    have rr : Reads s.heap (.ref _) (.dict []) _ := .dict ho hex.1 hd h4 h5
    refine ⟨_, [_], rr, ReadAtMost.cons rr (n := 0) (by simp only [PyData.depth]; omega) (fun _ h => nomatch h), ?_⟩
    simp only [PyData.depth, PyData.shown, PyData.shownKv_eq]
    exact ReprK.dict ho hex.1 hd hsys (fun z => nomatch z) (ReprEntriesK.of_two es.toList _ _ (by rw [hes]; simp only [List.map_nil, PyData.shownAll]; exact .nil) (by rw [hes]; simp only [List.map_nil, PyData.shownAll]; exact .nil))
  | n, _, _, .scr _, h, _, _, _, _ => by cases n <;> simp [shq] at h
  | n, _, _, .fn _, h, _, _, _, _ => by cases n <;> simp [shq] at h
  | n, _, _, .exc _ _, h, _, _, _, _ => by cases n <;> simp [shq] at h
  | n, _, _, .dct (_ :: _), h, _, _, _, _ => by cases n <;> simp [shq] at h
  | 0, _, _, .dct [], h, _, _, _, _ => by simp [shq] at h
  | 0, _, _, .lst _, h, _, _, _, _ => by simp [shq] at h
  | 0, _, _, .tup _, h, _, _, _, _ => by simp [shq] at h
end
/-- what may be shown -/
def showB (d : D) : Bool := match d with
  | .lst (_ :: _) => shq 8 d && figB 8 d && small (toQ d).shown.length && decide ((toQ d).depth ≤ 8)
  | _ => false
def reprBC : List D → Option D
  | [d] => if showB d = true then some (.str (toQ d).shown) else none
  | _ => none
def rReprB (K : PySem.W.Frag) : List V → Hp → VK → Prop := fun xs H Q => ∃ x d F, xs = [x] ∧ Same F H ∧ Rep K F x d ∧ showB d = true ∧ Q (.str (toQ d).shown) H
theorem q_reprB {K : PySem.W.Frag} [FE] : OpC K reprBC (rReprB K) := by
  intro F H vs ds d Q s r e k
  unfold reprBC at e
  split at e
  · rename_i d0
    split at e
    · rename_i hz
      cases e
      obtain ⟨v, rfl, r1⟩ := Reps.one r
      exact ⟨v, d0, F, rfl, s, r1, hz, k _ F H (Grw.refl s) (.str _)⟩
    · cases e
  · cases e
theorem o_reprB {X : Cx} [FE] (dg : digB X.K = true) (hg : X.A.guards = some []) (hu : X.A.units + 64 < cLine) : CallR X (.builtin "repr") (rReprB X.K) := by
  intro pins s σ H xs us Q I r h
  obtain ⟨x, d, F, rfl, sm, rp, hz, q⟩ := h
  have nd := digB_ok I.kIn dg
  cases r with
  | cons r1 rt =>
    cases rt
    cases d with
    | lst xs =>
      cases xs with
      | nil => cases hz
      | cons y ys =>
        have hz : (shq 8 (.lst (y :: ys)) && figB 8 (.lst (y :: ys)) && small (toQ (.lst (y :: ys))).shown.length && decide ((toQ (.lst (y :: ys))).depth ≤ 8)) = true := hz
        simp only [Bool.and_eq_true, decide_eq_true_eq] at hz
        obtain ⟨⟨⟨z1, z2⟩, z3⟩, z4⟩ := hz
        have z3 : (toQ (.lst (y :: ys))).shown.length ≤ sizeLine := le_line (of_decide_eq_true z3)
        cases rp with
        | lst ha rs =>
          cases r1
          rw [toQ] at z3 z4 q
          obtain ⟨o, k, its, ho, hc, hd, vs⟩ := items_of I sm ha
          have hz' : (listText (PyData.shownAll (toQs (y :: ys)))).length ≤ sizeLine := by simpa only [PyData.shown] using z3
          obtain ⟨as, bs, h4, hb, hk⟩ := rbs_of (rb_of I nd sm 7) (by simpa [shq] using z1) rs vs (by simpa [figB] using z2) (fun t ht => Nat.le_trans (listText_mem_le ht) hz')
          have rr : Reads s.heap (.ref _) (.list (toQs (y :: ys))) _ := .list ho hc hd h4
          have hna := not_mem_of_deeper rr (by simp only [PyData.depth]; omega) hb
          simp only [PyData.depth] at z4
          simp only [PyData.shown] at q
          obtain ⟨l⟩ := its
          cases l with
          | nil => cases vs; cases rs
          | cons u us =>
            exact call_repr_slot (by omega) ⟨o, ho, hc⟩ PySem.F.slot_list_repr.toG (call_list_reprK ho hc hd hna (by simpa using hk.length_eq) (fun i y e => hk.item i y (by simpa using e)) hg (fun b _ => Clear.nil b) (by show X.A.units + 1 + _ < cLine; omega) (fun _ _ e => e) (fun h' t tk hk' => ⟨_, _, rfl, ⟨.str _, H, I.kept (t' := tk) hk', ⟨t, rfl⟩, q⟩⟩) hz')
    | _ => cases hz
/-- how long it is at most, whole numbers below 10 ** m -/
def costF (m : Nat) : Nat → D → Nat
  | _, .non => 4
  | _, .bl _ => 5
  | _, .int _ => m + 2
  | _, .str x => (reprText x).length
  | n + 1, .tup xs => 3 + (xs.map fun x => costF m n x + 2).sum
  | n + 1, .lst xs => 3 + (xs.map fun x => costF m n x + 2).sum
  | _, _ => 4
def litF (m : Nat) : Nat → D → Bool
  | _, .int i => decide (i.natAbs < 10 ^ m)
  | n + 1, .tup xs => xs.all (litF m n)
  | n + 1, .lst xs => xs.all (litF m n)
  | _, _ => true
theorem costF_all {m n : Nat} (ih : ∀ d : D, shq n d = true → litF m n d = true → figB n d = true ∧ (toQ d).shown.length ≤ costF m n d ∧ (toQ d).depth ≤ n) : ∀ xs : List D, xs.all (shq n) = true → xs.all (litF m n) = true →
    xs.all (figB n) = true ∧ ((PyData.shownAll (toQs xs)).map (·.length)).sum + 2 * (PyData.shownAll (toQs xs)).length ≤ (xs.map fun x => costF m n x + 2).sum ∧ PyData.depthAll (toQs xs) ≤ n
  | [], _, _ => ⟨rfl, by rw [toQs]; simp [PyData.shownAll], by rw [toQs]; simp [PyData.depthAll]⟩
  | x :: xs, h1, h2 => by
    rw [List.all_cons, Bool.and_eq_true] at h1 h2
    obtain ⟨a1, a2, a3⟩ := ih x h1.1 h2.1
    obtain ⟨b1, b2, b3⟩ := costF_all ih xs h1.2 h2.2
    rw [toQs]
    refine ⟨by rw [List.all_cons, a1, b1]; rfl, ?_, by simp only [PyData.depthAll]; omega⟩
    simp only [PyData.shownAll, List.map_cons, List.sum_cons, List.length_cons]
    omega
theorem costF_ok {m : Nat} (m0 : 0 < m) (hm : m ≤ 4300) : ∀ (n : Nat) (d : D), shq n d = true → litF m n d = true → figB n d = true ∧ (toQ d).shown.length ≤ costF m n d ∧ (toQ d).depth ≤ n
  | n, .non, _, _ => ⟨by cases n <;> rfl, by rw [toQ]; rw [show costF m n .non = 4 by cases n <;> rfl]; exact (by decide +kernel : PyData.none.shown.length ≤ 4), by rw [toQ]; simp [PyData.depth]⟩
  | n, .bl b, _, _ => ⟨by cases n <;> rfl, by rw [toQ]; rw [show costF m n (.bl b) = 5 by cases n <;> rfl]; cases b <;> first | exact (by decide +kernel : (PyData.bool false).shown.length ≤ 5) | exact (by decide +kernel : (PyData.bool true).shown.length ≤ 5), by rw [toQ]; simp [PyData.depth]⟩
  | n, .int i, _, h => by
    have hi : i.natAbs < 10 ^ m := by cases n <;> exact of_decide_eq_true h
    have hf : figB n (.int i) = decide (i.natAbs < 10 ^ 4300) := by cases n <;> rfl
    rw [toQ, hf]
    refine ⟨decide_eq_true (Nat.lt_of_lt_of_le hi (Nat.pow_le_pow_right (by decide) hm)), ?_, by simp [PyData.depth]⟩
    have e := int_text_length_le10 (k := m) m0 hi
    have : costF m n (.int i) = m + 2 := by cases n <;> rfl
    rw [this]
    show (Str.ofString (toString i)).length ≤ m + 2
    rw [PySem.ofString_length]
    omega
  | n, .str x, _, _ => ⟨by cases n <;> rfl, by rw [toQ]; cases n <;> exact Nat.le_refl _, by rw [toQ]; simp [PyData.depth]⟩
  | n + 1, .tup xs, h1, h2 => by
    obtain ⟨a1, a2, a3⟩ := costF_all (costF_ok m0 hm n) xs (by simpa [shq] using h1) (by simpa [litF] using h2)
    rw [toQ]
    refine ⟨by simpa [figB] using a1, ?_, by simp only [PyData.depth]; omega⟩
    have z := tupleText_len_le (PyData.shownAll (toQs xs))
    show (tupleText (PyData.shownAll (toQs xs))).length ≤ 3 + _
    omega
  | n + 1, .lst xs, h1, h2 => by
    obtain ⟨a1, a2, a3⟩ := costF_all (costF_ok m0 hm n) xs (by simpa [shq] using h1) (by simpa [litF] using h2)
    rw [toQ]
    refine ⟨by simpa [figB] using a1, ?_, by simp only [PyData.depth]; omega⟩
    have z := listText_len_le (PyData.shownAll (toQs xs))
    show (listText (PyData.shownAll (toQs xs))).length ≤ 3 + _
    omega
  | n + 1, .dct [], _, _ => ⟨rfl, by rw [toQ]; rw [show costF m (n + 1) (.dct []) = 4 from rfl]; exact (by decide +kernel : (PyData.dict []).shown.length ≤ 4), by rw [toQ]; simp [PyData.depth, PyData.depthKv]⟩
  | n, .scr _, h, _ => by cases n <;> simp [shq] at h
  | n, .fn _, h, _ => by cases n <;> simp [shq] at h
  | n, .exc _ _, h, _ => by cases n <;> simp [shq] at h
  | n, .dct (_ :: _), h, _ => by cases n <;> simp [shq] at h
  | 0, .dct [], h, _ => by simp [shq] at h
  | 0, .lst _, h, _ => by simp [shq] at h
  | 0, .tup _, h, _ => by simp [shq] at h
theorem reprBC_of {m : Nat} {x : D} {xs : List D} (m0 : 0 < m) (hm : m ≤ 4300) (h1 : shq 8 (.lst (x :: xs)) = true) (h2 : litF m 8 (.lst (x :: xs)) = true) (h3 : costF m 8 (.lst (x :: xs)) ≤ 100000) : reprBC [.lst (x :: xs)] = some (.str (toQ (.lst (x :: xs))).shown) := by
  obtain ⟨a, b, c⟩ := costF_ok m0 hm 8 _ h1 h2
  refine if_pos ?_
  show (shq 8 (.lst (x :: xs)) && figB 8 (.lst (x :: xs)) && small (toQ (.lst (x :: xs))).shown.length && decide ((toQ (.lst (x :: xs))).depth ≤ 8)) = true
  rw [h1, a, decide_eq_true c, show small (toQ (.lst (x :: xs))).shown.length = true from decide_eq_true (by omega)]
  rfl
end FL
/-! FL40: a tuple or a list taken apart into names. -/
namespace FL
open PySem PySem.Spec PyProof.Rows L2
def tulG (n : Nat) (h : GFs) : GF := fun d ρ => match d with
  | .tup ds => if ds.length = n then h ds ρ else none
  | .lst ds => if ds.length = n then h ds ρ else none
  | _ => none
theorem fg_tul [FE] {X : Cx} {π : Nat → Addr} {es : List Expr} {pos : Pos} {k : Nat} {h : GFs} {n : Nat} (hc : X.calm = true) {ns : List Nat} (hh : PGs X es (tGts X.K π ns h)) (hn : (assignEach es X.env).length = n := by rfl) (hst : (assignEach es X.env).findIdx? (·.1) = none := by rfl) : PG X (.Tuple es k pos) (tGt X.K π ns (tulG n h)) := by
  refine ⟨fun pins s σ H v u Q I r ⟨c, F, ρ, d, S, rd, P⟩ => ?_⟩
  cases rd with
  | @tup a xs ds h1 r1 =>
    have P : PoG X.K π ns c F σ Q (if ds.length = n then h ds ρ else none) := P
    split at P
    · rename_i hl
      exact (pg_tup hc hh hn hst).run pins s σ H _ u Q I r ⟨a, xs, rfl, sm_tup S.f h1, by rw [Reps.length r1]; exact hl, c, F, ρ, ds, S, r1, P⟩
    · exact P.elim
  | @lst a xs ds h1 r1 =>
    have P : PoG X.K π ns c F σ Q (if ds.length = n then h ds ρ else none) := P
    split at P
    · rename_i hl
      exact (pg_unl hc hh hn hst).run pins s σ H _ u Q I r ⟨a, xs, rfl, SqL.of (S.f _ _ h1), by rw [Reps.length r1]; exact hl, c, F, ρ, ds, S, r1, P⟩
    · exact P.elim
  | _ => exact P.elim
end FL
namespace Wk
open PySem PySem.Spec PyProof.Rows L2 FL
def top (i : Nat) : Stmt := PySem.Challenge.pw_lenspairs_k03_whole_pairs_of_strings.main.body.getD i (.Pass ⟨0, 0, 0, 0⟩)
abbrev s_is_integer : Stmt := top 7
abbrev s_is_between : Stmt := top 8
abbrev s_is_bead : Stmt := top 12
abbrev s_string_fault : Stmt := top 13
abbrev s_check_string : Stmt := top 14
abbrev s_turns_of : Stmt := top 17
abbrev s_paired : Stmt := top 18
abbrev s_pair_for : Stmt := top 19
abbrev s_pair_of : Stmt := top 21
abbrev s_signed_turn : Stmt := top 20
abbrev s_common : Stmt := top 9
abbrev s_is_pair : Stmt := top 15
abbrev s_check_pair : Stmt := top 16
abbrev s_inverse : Stmt := top 10
abbrev s_backwards : Stmt := top 22
abbrev s__law_sip : Stmt := top 25
abbrev s__law_pick : Stmt := top 26
abbrev s__law_beads : Stmt := top 27
abbrev s__law_turns : Stmt := top 28
abbrev s__law_pair : Stmt := top 29
abbrev s__law_right : Stmt := top 30
abbrev s__law_bin : Stmt := top 24
abbrev s_law : Stmt := top 31
/-- what the module holds beside its defs -/
structure Txt [FE] (K : PySem.W.Frag) (mg : Str → Option Value) : Prop where
  d_dg : digB K = true
  b_abs : mg "abs" = none
  b_all : mg "all" = none
  b_bool : mg "bool" = none
  b_enumerate : mg "enumerate" = none
  b_int : mg "int" = none
  b_isinstance : mg "isinstance" = none
  b_len : mg "len" = none
  b_max : mg "max" = none
  b_min : mg "min" = none
  b_range : mg "range" = none
  b_repr : mg "repr" = none
  b_tuple : mg "tuple" = none
  c_MOST_BEADS : ∃ t : Tok, mg "MOST_BEADS" = some (.int 200 t)
  c_MOST_NUMBER : ∃ t : Tok, mg "MOST_NUMBER" = some (.int 1000000000 t)
noncomputable section
def g_is_integer : SF := (retS (anE (op1 (isiD .int) (vr 0)) (blE (noT (tst (op1 (isiD .bl) (vr 0)))))))
def G_is_integer : List FL.Arg → RG := bodyG 1 g_is_integer
def g_is_between : SF := (retS (anE (callE 1 G_is_integer (cnsB (vr 0) nilB)) (chn leD leD (vr 1) (vr 0) (vr 2))))
def G_is_between : List FL.Arg → RG := bodyG 3 g_is_between
def g_is_bead : SF := (retS (callE 3 G_is_between (cnsB (vr 0) (cnsB (op1 negD (cst (.int 1000000000))) (cnsB (cst (.int 1000000000)) nilB)))))
def G_is_bead : List FL.Arg → RG := bodyG 1 g_is_bead
def g_string_fault : SF := (seqS (ifS (orT (noT (tst (op1 (isiD .tup) (vr 0)))) (tst (op2 gtD (opC lenC (cnsA (vr 0) nilA)) (cst (.int 200))))) (retS (cst .non)) nxS) (seqS (setS 1 (frz (cmpM [2, 3] (enmI (vr 0)) (tupG 2 (cnsG (nmG 2) (cnsG (nmG 3) nilG))) (noT (tst (callE 1 G_is_bead (cnsB (vr 3) nilB)))) (vr 2)))) (retS (ifE (tst (op2 neA (vr 1) (frz (dLst nilA)))) (op2 ixD (vr 1) (cst (.int 0))) (op1 negD (cst (.int 1)))))))
def G_string_fault : List FL.Arg → RG := bodyG 4 g_string_fault
def g_check_string : SF := (ifS (tst (op2 neA (callE 1 G_string_fault (cnsB (vr 0) nilB)) (op1 negD (cst (.int 1))))) stS nxS)
def G_check_string : List FL.Arg → RG := bodyG 1 g_check_string
def b_turns_of_1 : SF := (parS 1 2 (cnsA (op2 subD (op2 mulD (vr 3) (vr 1)) (vr 2)) (cnsA (vr 1) nilA)))
def g_turns_of : SF := (seqS (asgS (dTup (cnsA (cst (.int 1)) (cnsA (cst (.int 0)) nilA))) (tupG 2 (cnsG (nmG 1) (cnsG (nmG 2) nilG)))) (seqS (forS [] (seqI (op1 revD (vr 0))) (nmG 3) b_turns_of_1) (retS (dTup (cnsA (vr 1) (cnsA (vr 2) nilA))))))
def G_turns_of : List FL.Arg → RG := bodyG 4 g_turns_of
def g_paired : SF := (seqS (ifS (orT (tst (op2 ltD (vr 0) (cst (.int 0)))) (anT (tst (op2 eqA (vr 0) (cst (.int 0)))) (tst (op2 ltD (vr 1) (cst (.int 0)))))) (parS 0 1 (cnsA (op1 negD (vr 0)) (cnsA (op1 negD (vr 1)) nilA))) nxS) (retS (ifE (tst (op2 eqA (vr 0) (cst (.int 0)))) (dTup (cnsA (cst (.int 0)) (cnsA (cst (.int 1)) nilA))) (dTup (cnsA (vr 0) (cnsA (op2 modD (vr 1) (vr 0)) nilA))))))
def G_paired : List FL.Arg → RG := bodyG 2 g_paired
def g_pair_for : SF := (seqS (asgS (callE 1 G_turns_of (cnsB (vr 0) nilB)) (tupG 2 (cnsG (nmG 1) (cnsG (nmG 2) nilG)))) (retS (callE 2 G_paired (cnsB (vr 1) (cnsB (vr 2) nilB)))))
def G_pair_for : List FL.Arg → RG := bodyG 3 g_pair_for
def g_pair_of : SF := (seqS (exS (callE 1 G_check_string (cnsB (vr 0) nilB))) (retS (callE 1 G_pair_for (cnsB (vr 0) nilB))))
def G_pair_of : List FL.Arg → RG := bodyG 1 g_pair_of
def g_signed_turn : SF := (seqS (exS (callE 1 G_check_string (cnsB (vr 0) nilB))) (retS (op2 ixD (callE 1 G_turns_of (cnsB (vr 0) nilB)) (cst (.int 0)))))
def G_signed_turn : List FL.Arg → RG := bodyG 1 g_signed_turn
def b_common_1 : SF := (parS 0 1 (cnsA (vr 1) (cnsA (op2 modD (vr 0) (vr 1)) nilA)))
def g_common : SF := (seqS (whS [] (tst (op2 gtD (vr 1) (cst (.int 0)))) b_common_1) (retS (vr 0)))
def G_common : List FL.Arg → RG := bodyG 2 g_common
def g_is_pair : SF := (seqS (ifS (orT (noT (tst (op1 (isiD .tup) (vr 0)))) (orT (tst (op2 neA (opC lenC (cnsA (vr 0) nilA)) (cst (.int 2)))) (orT (noT (tst (callE 1 G_is_integer (cnsB (op2 ixD (vr 0) (cst (.int 0))) nilB)))) (noT (tst (callE 1 G_is_integer (cnsB (op2 ixD (vr 0) (cst (.int 1))) nilB))))))) (retS (cst (.bl false))) nxS) (seqS (ifS (tst (op2 eqA (op2 ixD (vr 0) (cst (.int 0))) (cst (.int 0)))) (retS (op2 eqA (op2 ixD (vr 0) (cst (.int 1))) (cst (.int 1)))) nxS) (retS (anE (chn leD ltD (cst (.int 0)) (op2 ixD (vr 0) (cst (.int 1))) (op2 ixD (vr 0) (cst (.int 0)))) (op2 eqA (callE 2 G_common (cnsB (op2 ixD (vr 0) (cst (.int 0))) (cnsB (op2 ixD (vr 0) (cst (.int 1))) nilB))) (cst (.int 1)))))))
def G_is_pair : List FL.Arg → RG := bodyG 1 g_is_pair
def g_check_pair : SF := (ifS (noT (tst (callE 1 G_is_pair (cnsB (vr 0) nilB)))) stS nxS)
def G_check_pair : List FL.Arg → RG := bodyG 1 g_check_pair
def b_inverse_1 : SF := (seqS (setS 6 (op2 fdivD (vr 2) (vr 3))) (seqS (parS 2 3 (cnsA (vr 3) (cnsA (op2 subD (vr 2) (op2 mulD (vr 6) (vr 3))) nilA))) (parS 4 5 (cnsA (vr 5) (cnsA (op2 subD (vr 4) (op2 mulD (vr 6) (vr 5))) nilA)))))
def g_inverse : SF := (seqS (asgS (dTup (cnsA (dTup (cnsA (vr 1) (cnsA (op2 modD (vr 0) (vr 1)) nilA))) (cnsA (dTup (cnsA (cst (.int 0)) (cnsA (cst (.int 1)) nilA))) nilA))) (tupG 2 (cnsG (tupG 2 (cnsG (nmG 2) (cnsG (nmG 3) nilG))) (cnsG (tupG 2 (cnsG (nmG 4) (cnsG (nmG 5) nilG))) nilG)))) (seqS (whS [] (tst (op2 gtD (vr 3) (cst (.int 0)))) b_inverse_1) (retS (op2 modD (vr 4) (vr 1)))))
def G_inverse : List FL.Arg → RG := bodyG 7 g_inverse
def g_backwards : SF := (seqS (exS (callE 1 G_check_pair (cnsB (vr 0) nilB))) (retS (ifE (tst (op2 ltD (op2 ixD (vr 0) (cst (.int 0))) (cst (.int 2)))) (vr 0) (dTup (cnsA (op2 ixD (vr 0) (cst (.int 0))) (cnsA (callE 2 G_inverse (cnsB (op2 ixD (vr 0) (cst (.int 1))) (cnsB (op2 ixD (vr 0) (cst (.int 0))) nilB))) nilA))))))
def G_backwards : List FL.Arg → RG := bodyG 1 g_backwards
def g__law_sip_3 : SF := (retS (op2 modD (opC intC (cnsA (op2 fdivD (ixM 0 (cst (.int 1))) (cst (.int 64))) nilA)) (vr 1)))
def g__law_sip_2 : SF := (seqS (subS 0 (op2 modD (opC intC (cnsA (op2 addD (op2 addD (op2 mulD (ixM 0 (cst (.int 1))) (cst (.int 16807))) (op2 mulD (cst (.int 1823)) (ixM 0 (cst (.int 2))))) (cst (.int 59))) nilA)) (cst (.int 2147483647))) (cst (.int 1))) g__law_sip_3)
def g__law_sip_1 : SF := (seqS (ifS (tst (op2 gtD (ixM 0 (cst (.int 0))) (cst (.int 0)))) (seqS (setS 2 (op2 modD (opC intC (cnsA (ixM 0 (cst (.int 0))) nilA)) (vr 1))) (seqS (subS 0 (op2 fdivD (opC intC (cnsA (ixM 0 (cst (.int 0))) nilA)) (vr 1)) (cst (.int 0))) (retS (vr 2)))) nxS) g__law_sip_2)
def g__law_sip : SF := (seqS (subS 0 (op2 addD (ixM 0 (cst (.int 2))) (cst (.int 1))) (cst (.int 2))) g__law_sip_1)
def G__law_sip : List FL.Arg → RG := bodyG 3 g__law_sip
def g__law_pick : SF := (retS (op2 ixD (vr 1) (callE 2 G__law_sip (slB 0 (cnsB (opC lenC (cnsA (vr 1) nilA)) nilB)))))
def G__law_pick : List FL.Arg → RG := bodyG 2 g__law_pick
def b__law_beads_1 : SF := (mutS 3 (callE 2 G__law_pick (slB 0 (cnsB (frz (dLst (cnsA (cst (.int 0)) (cnsA (cst (.int 1)) (cnsA (op1 negD (cst (.int 1))) (cnsA (cst (.int 2)) (cnsA (op2 subD (callE 2 G__law_sip (slB 0 (cnsB (op2 addD (op2 mulD (cst (.int 2)) (vr 2)) (cst (.int 1))) nilB))) (vr 2)) (cnsA (op2 subD (callE 2 G__law_sip (slB 0 (cnsB (op2 addD (op2 mulD (cst (.int 2)) (vr 2)) (cst (.int 1))) nilB))) (vr 2)) nilA)))))))) nilB))) appO)
def g__law_beads : SF := (seqS (setM 3 (dLst nilA)) (seqS (forS [] (rng1 (cnsA (callE 2 G__law_sip (slB 0 (cnsB (op2 addD (vr 1) (cst (.int 1))) nilB))) nilA)) (nmG 4) b__law_beads_1) (frzS 3 (retS (opC tupC (cnsA (vr 3) nilA))))))
def G__law_beads : List FL.Arg → RG := bodyG 5 g__law_beads
def b__law_turns_1 : SF := (asgS (dTup (cnsA (op2 addD (op2 mulD (vr 1) (vr 5)) (vr 2)) (cnsA (op1 negD (vr 1)) (cnsA (op2 addD (op2 mulD (vr 3) (vr 5)) (vr 4)) (cnsA (op1 negD (vr 3)) nilA))))) (tupG 4 (cnsG (nmG 1) (cnsG (nmG 2) (cnsG (nmG 3) (cnsG (nmG 4) nilG))))))
def g__law_turns : SF := (seqS (asgS (dTup (cnsA (cst (.int 1)) (cnsA (cst (.int 0)) (cnsA (cst (.int 0)) (cnsA (cst (.int 1)) nilA))))) (tupG 4 (cnsG (nmG 1) (cnsG (nmG 2) (cnsG (nmG 3) (cnsG (nmG 4) nilG)))))) (seqS (forS [] (seqI (vr 0)) (nmG 5) b__law_turns_1) (retM (dLst (cnsA (vr 1) (cnsA (vr 3) nilA))))))
def G__law_turns : List FL.Arg → RG := bodyG 6 g__law_turns
def g__law_pair : SF := (seqS (asgS (callE 1 G__law_turns (cnsB (vr 0) nilB)) (tulG 2 (cnsG (nmG 1) (cnsG (nmG 2) nilG)))) (seqS (ifS (orT (tst (op2 ltD (vr 1) (cst (.int 0)))) (anT (tst (op2 eqA (vr 1) (cst (.int 0)))) (tst (op2 ltD (vr 2) (cst (.int 0)))))) (parS 1 2 (cnsA (op1 negD (vr 1)) (cnsA (op1 negD (vr 2)) nilA))) nxS) (retS (ifE (tst (op2 eqA (vr 1) (cst (.int 0)))) (dTup (cnsA (cst (.int 0)) (cnsA (cst (.int 1)) nilA))) (dTup (cnsA (vr 1) (cnsA (op2 modD (opC intC (cnsA (vr 2) nilA)) (vr 1)) nilA)))))))
def G__law_pair : List FL.Arg → RG := bodyG 3 g__law_pair
def b__law_right_1_7 : SF := (ifS (anT (tst (op2 gtD (op2 ixD (vr 3) (cst (.int 0))) (cst (.int 1)))) (tst (op2 neA (op2 modD (opC intC (cnsA (op2 mulD (op2 ixD (vr 3) (cst (.int 1))) (op2 ixD (vr 4) (cst (.int 1)))) nilA)) (op2 ixD (vr 3) (cst (.int 0)))) (cst (.int 1))))) (retS (cst (.bl false))) nxS)
def b__law_right_1_6 : SF := (seqS (ifS (orT (tst (op2 neA (vr 4) (callE 1 G__law_pair (cnsB (op1 revD (vr 2)) nilB)))) (tst (op2 neA (callE 1 G_backwards (kwB 0 1 [0] nilB (cnsB (vr 4) nilB))) (vr 3)))) (retS (cst (.bl false))) nxS) b__law_right_1_7)
def b__law_right_1_5 : SF := (seqS (setS 4 (callE 1 G_backwards (cnsB (vr 3) nilB))) b__law_right_1_6)
def b__law_right_1_4 : SF := (seqS (ifS (orT (tst (op2 neA (opC reprBC (cnsA (frz (dLst (cnsA (callE 1 G_pair_of (cnsB (vr 2) nilB)) (cnsA (callE 1 G_pair_of (kwB 0 1 [0] nilB (cnsB (vr 2) nilB))) nilA)))) nilA)) (opC reprBC (cnsA (frz (dLst (cnsA (vr 3) (cnsA (vr 3) nilA)))) nilA)))) (tst (op2 nisD (callE 1 G_is_pair (cnsB (vr 3) nilB)) (cst (.bl true))))) (retS (cst (.bl false))) nxS) b__law_right_1_5)
def b__law_right_1_3 : SF := (seqS (setS 3 (callE 1 G__law_pair (cnsB (vr 2) nilB))) b__law_right_1_4)
def b__law_right_1_2 : SF := (seqS (ifS (tst (op2 neA (opC reprBC (cnsA (frz (dLst (cnsA (callE 1 G_signed_turn (cnsB (vr 2) nilB)) (cnsA (callE 1 G_signed_turn (kwB 0 1 [0] nilB (cnsB (vr 2) nilB))) nilA)))) nilA)) (opC reprBC (cnsA (frz (dLst (cnsA (vr 3) (cnsA (vr 3) nilA)))) nilA)))) (retS (cst (.bl false))) nxS) b__law_right_1_3)
def b__law_right_1_1 : SF := (seqS (setS 3 (op2 ixD (callE 1 G__law_turns (cnsB (vr 2) nilB)) (cst (.int 0)))) b__law_right_1_2)
def b__law_right_1 : SF := (seqS (setS 2 (callE 3 G__law_beads (slB 0 (cnsB (callE 2 G__law_pick (slB 0 (cnsB (frz (dLst (cnsA (cst (.int 2)) (cnsA (cst (.int 5)) (cnsA (cst (.int 30)) (cnsA (cst (.int 200)) nilA)))))) nilB))) (cnsB (callE 2 G__law_pick (slB 0 (cnsB (frz (dLst (cnsA (cst (.int 2)) (cnsA (cst (.int 9)) (cnsA (op2 powD (cst (.int 10)) (cst (.int 9))) nilA))))) nilB))) nilB))))) b__law_right_1_1)
def g__law_right : SF := (seqS (forS [] (rng1 (cnsA (cst (.int 8)) nilA)) (nmG 1) b__law_right_1) (retS (cst (.bl true))))
def G__law_right : List FL.Arg → RG := bodyG 5 g__law_right
def b__law_bin_1 : SF := (setS 3 (op2 modD (opC intC (cnsA (op2 addD (op2 addD (op2 mulD (vr 3) (cst (.int 16807))) (op2 modD (opC intC (cnsA (vr 4) nilA)) (cst (.int 999853)))) (vr 1)) nilA)) (cst (.int 2147483647))))
def g__law_bin_4 : SF := (retM (dLst (cnsA (ifE (tst (op2 geD (opC absC (cnsA (vr 2) nilA)) (op2 powD (cst (.int 10)) (cst (.int 18))))) (opC absC (cnsA (vr 2) nilA)) (cst (.int 0))) (cnsA (vr 3) (cnsA (cst (.int 0)) nilA)))))
def g__law_bin_3 : SF := (seqS (setS 3 (op2 modD (opC intC (cnsA (op2 addD (op2 mulD (vr 3) (cst (.int 16807))) (op2 modD (opC intC (cnsA (vr 2) nilA)) (cst (.int 999853)))) nilA)) (cst (.int 2147483647)))) g__law_bin_4)
def g__law_bin_2 : SF := (seqS (forS [] (seqI (slF (vr 0) noO (smO (cst (.int 8))))) (nmG 4) b__law_bin_1) g__law_bin_3)
def g__law_bin_1 : SF := (seqS (setS 3 (op2 addD (cst (.int 90001)) (op2 mulD (cst (.int 1031)) (vr 1)))) g__law_bin_2)
def g__law_bin : SF := (seqS (setS 2 (ifE (tst (op2 ltD (vr 1) (opC lenC (cnsA (vr 0) nilA)))) (opC intC (cnsA (op2 ixD (vr 0) (vr 1)) nilA)) (op2 addD (op2 mulD (cst (.int 97)) (vr 1)) (cst (.int 43))))) g__law_bin_1)
def G__law_bin : List FL.Arg → RG := bodyG 5 g__law_bin
def g_law_3 : SF := (retS (opC allC (cnsA (frz (cmpM [3] (rng1 (cnsA (opC maxC (cnsA (cst (.int 2)) (cnsA (opC minC (cnsA (opC lenC (cnsA (vr 0) nilA)) (cnsA (cst (.int 6)) nilA))) nilA))) nilA)) (nmG 3) yesT (callFE G__law_right (callM 2 G__law_bin (cnsB (vr 0) (cnsB (vr 3) nilB)))))) nilA)))
def g_law_2 : SF := (seqS (ifS (tst (op2 neA (frz (dLst (cnsA (callE 1 G_signed_turn (cnsB (dTup (cnsA (cst (.int 2)) (cnsA (op1 negD (cst (.int 3))) nilA))) nilB)) (cnsA (callE 1 G_backwards (cnsB (dTup (cnsA (cst (.int 7)) (cnsA (cst (.int 3)) nilA))) nilB)) (cnsA (callE 1 G_backwards (cnsB (dTup (cnsA (cst (.int 1)) (cnsA (cst (.int 0)) nilA))) nilB)) (cnsA (callE 1 G_backwards (cnsB (dTup (cnsA (cst (.int 0)) (cnsA (cst (.int 1)) nilA))) nilB)) nilA)))))) (frz (dLst (cnsA (op1 negD (cst (.int 7))) (cnsA (dTup (cnsA (cst (.int 7)) (cnsA (cst (.int 5)) nilA))) (cnsA (dTup (cnsA (cst (.int 1)) (cnsA (cst (.int 0)) nilA))) (cnsA (dTup (cnsA (cst (.int 0)) (cnsA (cst (.int 1)) nilA))) nilA)))))))) (retS (cst (.bl false))) nxS) g_law_3)
def g_law_1 : SF := (seqS (ifS (tst (op2 neA (frz (cmpM [2] (seqI (vr 1)) (nmG 2) yesT (callE 1 G_pair_of (cnsB (vr 2) nilB)))) (frz (dLst (cnsA (dTup (cnsA (cst (.int 5)) (cnsA (cst (.int 3)) nilA))) (cnsA (dTup (cnsA (cst (.int 1)) (cnsA (cst (.int 0)) nilA))) (cnsA (dTup (cnsA (cst (.int 0)) (cnsA (cst (.int 1)) nilA))) (cnsA (dTup (cnsA (cst (.int 2)) (cnsA (cst (.int 1)) nilA))) (cnsA (dTup (cnsA (cst (.int 0)) (cnsA (cst (.int 1)) nilA))) (cnsA (dTup (cnsA (cst (.int 7)) (cnsA (cst (.int 3)) nilA))) (cnsA (dTup (cnsA (cst (.int 7)) (cnsA (cst (.int 3)) nilA))) (cnsA (dTup (cnsA (cst (.int 1)) (cnsA (cst (.int 0)) nilA))) (cnsA (dTup (cnsA (cst (.int 1)) (cnsA (cst (.int 0)) nilA))) nilA))))))))))))) (retS (cst (.bl false))) nxS) g_law_2)
def g_law : SF := (seqS (setS 1 (frz (dLst (cnsA (dTup (cnsA (cst (.int 2)) (cnsA (cst (.int 3)) nilA))) (cnsA (dTup nilA) (cnsA (dTup (cnsA (cst (.int 0)) nilA)) (cnsA (dTup (cnsA (op1 negD (cst (.int 2))) nilA)) (cnsA (dTup (cnsA (cst (.int 1)) (cnsA (cst (.int 1)) nilA))) (cnsA (dTup (cnsA (cst (.int 2)) (cnsA (op1 negD (cst (.int 3))) nilA))) (cnsA (dTup (cnsA (cst (.int 3)) (cnsA (cst (.int 2)) (cnsA (cst (.int 2)) nilA)))) (cnsA (dTup (cnsA (cst (.int 0)) (cnsA (cst (.int 0)) nilA))) (cnsA (dTup (cnsA (cst (.int 0)) (cnsA (cst (.int 9)) nilA))) nilA)))))))))))) g_law_1)
def G_law : List FL.Arg → RG := bodyG 4 g_law
end
section
variable [FE]
variable {P : Program} {w : World} {K : PySem.W.Frag} {mg : Str → Option Value} {base : Heap}
theorem sc_is_integer : FnScope ["value"] ["value"] (defScope s_is_integer) := ⟨rfl, rfl, rfl, by decide +kernel, rfl, by decide +kernel, by decide +kernel⟩
theorem fn_is_integer {f : Addr} {fd : FuncData} (T : Txt K mg) (Fd : Fun K "is_integer" "is_integer" s_is_integer f fd)  : FnG P w K mg base 1 f fd ["value"] (spG K 1 G_is_integer) := by
  have z := fnG (P := P) (w := w) (mg := mg) (base := base) (k := 0) (N := ["value"]) (ps := ["value"]) (g := g_is_integer) Fd sc_is_integer fun cdv A outer s H E π W hr tk hp => by exact (fss_one (fs_ret (fe_and (fe_isi (T := .int) (by intro z; cases z) rfl T.b_isinstance rfl rfl T.b_int (by decide +kernel) (fe_vr (pv 0))) (pe_one (fe_not (fe_isi (T := .bl) (by intro z; cases z) rfl T.b_isinstance rfl rfl T.b_bool (by decide +kernel) (fe_vr (pv 0))))))))
  exact z
theorem ok_is_integer {f : Addr} {fd : FuncData} (T : Txt K mg) (Fd : Fun K "is_integer" "is_integer" s_is_integer f fd) (hm : mg "is_integer" = some (.ref f))  : Cal P w K mg base 1 "is_integer" ["value"] [] G_is_integer :=
  cal_of Fd hm (fn_is_integer T Fd ) (fun _ _ _ _ _ _ us hl => match us, hl with | [_], _ => rfl) kb_nil
theorem sc_is_between : FnScope ["value", "least", "most"] ["value", "least", "most"] (defScope s_is_between) := ⟨rfl, rfl, rfl, by decide +kernel, rfl, by decide +kernel, by decide +kernel⟩
theorem fn_is_between {f : Addr} {fd : FuncData} (T : Txt K mg) (Fd : Fun K "is_between" "is_between" s_is_between f fd) (C_is_integer : Cal P w K mg base 1 "is_integer" ["value"] [] G_is_integer) : FnG P w K mg base 2 f fd ["value", "least", "most"] (spG K 3 G_is_between) := by
  obtain ⟨f_is_integer, fd_is_integer, F_is_integer, m_is_integer, k_is_integer, b_is_integer, q_is_integer⟩ := C_is_integer.ex
  have z := fnG (P := P) (w := w) (mg := mg) (base := base) (k := 1) (N := ["value", "least", "most"]) (ps := ["value", "least", "most"]) (g := g_is_between) Fd sc_is_between fun cdv A outer s H E π W hr tk hp => by exact (fss_one (fs_ret (fe_and (fe_call F_is_integer (rm_mono hr (by rfl)) tk rfl m_is_integer k_is_integer b_is_integer (fb_cons (fe_vr (pv 0)) fb_nil)) (pe_one (fe_chn op_le op_le q_cmp q_cmp (fe_vr (pv 1)) (fe_vr (pv 0)) (fe_vr (pv 2)) (by rfl))))))
  exact z
theorem ok_is_between {f : Addr} {fd : FuncData} (T : Txt K mg) (Fd : Fun K "is_between" "is_between" s_is_between f fd) (hm : mg "is_between" = some (.ref f)) (C_is_integer : Cal P w K mg base 1 "is_integer" ["value"] [] G_is_integer) : Cal P w K mg base 2 "is_between" ["value", "least", "most"] [] G_is_between :=
  cal_of Fd hm (fn_is_between T Fd C_is_integer) (fun _ _ _ _ _ _ us hl => match us, hl with | [_, _, _], _ => rfl) kb_nil
theorem sc_is_bead : FnScope ["value"] ["value"] (defScope s_is_bead) := ⟨rfl, rfl, rfl, by decide +kernel, rfl, by decide +kernel, by decide +kernel⟩
theorem fn_is_bead {f : Addr} {fd : FuncData} (T : Txt K mg) (Fd : Fun K "is_bead" "is_bead" s_is_bead f fd) (C_is_between : Cal P w K mg base 2 "is_between" ["value", "least", "most"] [] G_is_between) : FnG P w K mg base 3 f fd ["value"] (spG K 1 G_is_bead) := by
  obtain ⟨f_is_between, fd_is_between, F_is_between, m_is_between, k_is_between, b_is_between, q_is_between⟩ := C_is_between.ex
  obtain ⟨t_MOST_NUMBER, m_MOST_NUMBER⟩ := T.c_MOST_NUMBER
  have z := fnG (P := P) (w := w) (mg := mg) (base := base) (k := 2) (N := ["value"]) (ps := ["value"]) (g := g_is_bead) Fd sc_is_bead fun cdv A outer s H E π W hr tk hp => by exact (fss_one (fs_ret (fe_call F_is_between (rm_mono hr (by rfl)) tk rfl m_is_between k_is_between b_is_between (fb_cons (fe_vr (pv 0)) (fb_cons (fe_un un_neg q_neg (fe_gint rfl m_MOST_NUMBER)) (fb_cons (fe_gint rfl m_MOST_NUMBER) fb_nil))))))
  exact z
theorem ok_is_bead {f : Addr} {fd : FuncData} (T : Txt K mg) (Fd : Fun K "is_bead" "is_bead" s_is_bead f fd) (hm : mg "is_bead" = some (.ref f)) (C_is_between : Cal P w K mg base 2 "is_between" ["value", "least", "most"] [] G_is_between) : Cal P w K mg base 3 "is_bead" ["value"] [] G_is_bead :=
  cal_of Fd hm (fn_is_bead T Fd C_is_between) (fun _ _ _ _ _ _ us hl => match us, hl with | [_], _ => rfl) kb_nil
theorem sc_string_fault : FnScope ["value", "wrong", "index", "bead"] ["value"] (defScope s_string_fault) := ⟨rfl, rfl, rfl, by decide +kernel, rfl, by decide +kernel, by decide +kernel⟩
theorem fn_string_fault {f : Addr} {fd : FuncData} (T : Txt K mg) (Fd : Fun K "string_fault" "string_fault" s_string_fault f fd) (C_is_bead : Cal P w K mg base 3 "is_bead" ["value"] [] G_is_bead) : FnG P w K mg base 4 f fd ["value"] (spG K 1 G_string_fault) := by
  obtain ⟨f_is_bead, fd_is_bead, F_is_bead, m_is_bead, k_is_bead, b_is_bead, q_is_bead⟩ := C_is_bead.ex
  obtain ⟨t_MOST_BEADS, m_MOST_BEADS⟩ := T.c_MOST_BEADS
  have z := fnG (P := P) (w := w) (mg := mg) (base := base) (k := 3) (N := ["value", "wrong", "index", "bead"]) (ps := ["value"]) (g := g_string_fault) Fd sc_string_fault fun cdv A outer s H E π W hr tk hp => by exact (fss_cons (fs_if (PW.pt (fw_or (ft_not (ft_val (fe_isi (T := .tup) (by intro z; cases z) rfl T.b_isinstance rfl rfl T.b_tuple (by decide +kernel) (fe_vr (pv 0))))) (pw_or1 (ft_cmp op_gt q_cmp (fe_callB q_len o_len rfl T.b_len (by decide +kernel) (fa_cons (fe_vr (pv 0)) fa_nil)) (fe_gint rfl m_MOST_BEADS) (by rfl))))) (fss_one (fs_ret fe_non)) fss_nil) (fss_cons (fs_setLc (own := [("index", 2), ("bead", 3)]) (i := 1) rfl sc_string_fault.nd rfl rfl (by rfl) (fi_enum rfl T.b_enumerate (fe_vr (pv 0))) (show BlkOk ["value", "wrong", "index", "bead"] (defScope s_string_fault) _ _ from blkOk_by (by decide +kernel)) (fun _ _ _ _ _ => (fg_tup rfl (fgs_cons (fg_name sc_string_fault.nd (i := 2) rfl (Or.inl rfl)) (fgs_cons (fg_name sc_string_fault.nd (i := 3) rfl (Or.inl rfl)) fgs_nil)))) (fun _ _ _ _ _ => (pts_one (ft_not (ft_val (fe_call F_is_bead (rm_mono hr (by rfl)) takes_0 rfl m_is_bead k_is_bead b_is_bead (fb_cons (fe_vr (pv 3)) fb_nil)))))) (fun _ _ _ _ _ => (fe_vr (pv 2))) (by decide)) (fss_one (fs_ret (fe_if (ft_cmp (o_neA hr.u64) q_neA (fe_vr (pv 1)) (fe_frz (fm_lst fa_nil)) (by rfl)) (fe_ix (fe_vr (pv 1)) fe_int (fun _ _ => rfl)) (fe_un un_neg q_neg fe_int))))))
  exact z
theorem ok_string_fault {f : Addr} {fd : FuncData} (T : Txt K mg) (Fd : Fun K "string_fault" "string_fault" s_string_fault f fd) (hm : mg "string_fault" = some (.ref f)) (C_is_bead : Cal P w K mg base 3 "is_bead" ["value"] [] G_is_bead) : Cal P w K mg base 4 "string_fault" ["value"] [] G_string_fault :=
  cal_of Fd hm (fn_string_fault T Fd C_is_bead) (fun _ _ _ _ _ _ us hl => match us, hl with | [_], _ => rfl) kb_nil
theorem sc_check_string : FnScope ["value"] ["value"] (defScope s_check_string) := ⟨rfl, rfl, rfl, by decide +kernel, rfl, by decide +kernel, by decide +kernel⟩
theorem fn_check_string {f : Addr} {fd : FuncData} (T : Txt K mg) (Fd : Fun K "check_string" "check_string" s_check_string f fd) (C_string_fault : Cal P w K mg base 4 "string_fault" ["value"] [] G_string_fault) : FnG P w K mg base 5 f fd ["value"] (spG K 1 G_check_string) := by
  obtain ⟨f_string_fault, fd_string_fault, F_string_fault, m_string_fault, k_string_fault, b_string_fault, q_string_fault⟩ := C_string_fault.ex
  have z := fnG (P := P) (w := w) (mg := mg) (base := base) (k := 4) (N := ["value"]) (ps := ["value"]) (g := g_check_string) Fd sc_check_string fun cdv A outer s H E π W hr tk hp => by exact (fss_one (fs_if (ft_cmp (o_neA hr.u64) q_neA (fe_call F_string_fault (rm_mono hr (by rfl)) tk rfl m_string_fault k_string_fault b_string_fault (fb_cons (fe_vr (pv 0)) fb_nil)) (fe_un un_neg q_neg fe_int) (by rfl)) (fss_one fs_never) fss_nil))
  exact z
theorem ok_check_string {f : Addr} {fd : FuncData} (T : Txt K mg) (Fd : Fun K "check_string" "check_string" s_check_string f fd) (hm : mg "check_string" = some (.ref f)) (C_string_fault : Cal P w K mg base 4 "string_fault" ["value"] [] G_string_fault) : Cal P w K mg base 5 "check_string" ["value"] [] G_check_string :=
  cal_of Fd hm (fn_check_string T Fd C_string_fault) (fun _ _ _ _ _ _ us hl => match us, hl with | [_], _ => rfl) kb_nil
theorem sc_turns_of : FnScope ["beads", "here", "behind", "bead"] ["beads"] (defScope s_turns_of) := ⟨rfl, rfl, rfl, by decide +kernel, rfl, by decide +kernel, by decide +kernel⟩
theorem fn_turns_of {f : Addr} {fd : FuncData} (T : Txt K mg) (Fd : Fun K "turns_of" "turns_of" s_turns_of f fd)  : FnG P w K mg base 1 f fd ["beads"] (spG K 1 G_turns_of) := by
  have z := fnG (P := P) (w := w) (mg := mg) (base := base) (k := 0) (N := ["beads", "here", "behind", "bead"]) (ps := ["beads"]) (g := g_turns_of) Fd sc_turns_of fun cdv A outer s H E π W hr tk hp => by exact (fss_cons (fs_asg (fe_tup (fa_cons fe_int (fa_cons fe_int fa_nil))) (fg_tup rfl (fgs_cons (fg_name sc_turns_of.nd (i := 1) rfl (Or.inl rfl)) (fgs_cons (fg_name sc_turns_of.nd (i := 2) rfl (Or.inl rfl)) fgs_nil)))) (fss_cons (fs_for (ks := []) hp rfl (fi_seq (fe_rev (fe_vr (pv 0)))) (fg_name sc_turns_of.nd (i := 3) rfl (Or.inl rfl)) (fss_one (fs_par rfl sc_turns_of.nd (i := 1) (j := 2) rfl rfl (by decide) rfl rfl (fa_cons (fe_bin op_sub q_sub (fe_bin o_mul q_mul (fe_vr (pv 3)) (fe_vr (pv 1))) (fe_vr (pv 2))) (fa_cons (fe_vr (pv 1)) fa_nil)) (by rfl)))) (fss_one (fs_ret (fe_tup (fa_cons (fe_vr (pv 1)) (fa_cons (fe_vr (pv 2)) fa_nil)))))))
  exact z
theorem ok_turns_of {f : Addr} {fd : FuncData} (T : Txt K mg) (Fd : Fun K "turns_of" "turns_of" s_turns_of f fd) (hm : mg "turns_of" = some (.ref f))  : Cal P w K mg base 1 "turns_of" ["beads"] [] G_turns_of :=
  cal_of Fd hm (fn_turns_of T Fd ) (fun _ _ _ _ _ _ us hl => match us, hl with | [_], _ => rfl) kb_nil
theorem sc_paired : FnScope ["turn", "rest"] ["turn", "rest"] (defScope s_paired) := ⟨rfl, rfl, rfl, by decide +kernel, rfl, by decide +kernel, by decide +kernel⟩
theorem fn_paired {f : Addr} {fd : FuncData} (T : Txt K mg) (Fd : Fun K "paired" "paired" s_paired f fd)  : FnG P w K mg base 1 f fd ["turn", "rest"] (spG K 2 G_paired) := by
  have z := fnG (P := P) (w := w) (mg := mg) (base := base) (k := 0) (N := ["turn", "rest"]) (ps := ["turn", "rest"]) (g := g_paired) Fd sc_paired fun cdv A outer s H E π W hr tk hp => by exact (fss_cons (fs_if (PW.pt (fw_or (ft_cmp op_lt q_cmp (fe_vr (pv 0)) fe_int (by rfl)) (pw_or1 (PW.pt (fw_and (ft_cmp (o_eqA hr.u64) q_eqA (fe_vr (pv 0)) fe_int (by rfl)) (pw_and1 (ft_cmp op_lt q_cmp (fe_vr (pv 1)) fe_int (by rfl)))))))) (fss_one (fs_par rfl sc_paired.nd (i := 0) (j := 1) rfl rfl (by decide) rfl rfl (fa_cons (fe_un un_neg q_neg (fe_vr (pv 0))) (fa_cons (fe_un un_neg q_neg (fe_vr (pv 1))) fa_nil)) (by rfl))) fss_nil) (fss_one (fs_ret (fe_if (ft_cmp (o_eqA hr.u64) q_eqA (fe_vr (pv 0)) fe_int (by rfl)) (fe_tup (fa_cons fe_int (fa_cons fe_int fa_nil))) (fe_tup (fa_cons (fe_vr (pv 0)) (fa_cons (fe_bin op_modN q_mod (fe_vr (pv 1)) (fe_vr (pv 0))) fa_nil)))))))
  exact z
theorem ok_paired {f : Addr} {fd : FuncData} (T : Txt K mg) (Fd : Fun K "paired" "paired" s_paired f fd) (hm : mg "paired" = some (.ref f))  : Cal P w K mg base 1 "paired" ["turn", "rest"] [] G_paired :=
  cal_of Fd hm (fn_paired T Fd ) (fun _ _ _ _ _ _ us hl => match us, hl with | [_, _], _ => rfl) kb_nil
theorem sc_pair_for : FnScope ["beads", "turn", "rest"] ["beads"] (defScope s_pair_for) := ⟨rfl, rfl, rfl, by decide +kernel, rfl, by decide +kernel, by decide +kernel⟩
theorem fn_pair_for {f : Addr} {fd : FuncData} (T : Txt K mg) (Fd : Fun K "pair_for" "pair_for" s_pair_for f fd) (C_turns_of : Cal P w K mg base 1 "turns_of" ["beads"] [] G_turns_of) (C_paired : Cal P w K mg base 1 "paired" ["turn", "rest"] [] G_paired) : FnG P w K mg base 2 f fd ["beads"] (spG K 1 G_pair_for) := by
  obtain ⟨f_turns_of, fd_turns_of, F_turns_of, m_turns_of, k_turns_of, b_turns_of, q_turns_of⟩ := C_turns_of.ex
  obtain ⟨f_paired, fd_paired, F_paired, m_paired, k_paired, b_paired, q_paired⟩ := C_paired.ex
  have z := fnG (P := P) (w := w) (mg := mg) (base := base) (k := 1) (N := ["beads", "turn", "rest"]) (ps := ["beads"]) (g := g_pair_for) Fd sc_pair_for fun cdv A outer s H E π W hr tk hp => by exact (fss_cons (fs_asg (fe_call F_turns_of (rm_mono hr (by rfl)) tk rfl m_turns_of k_turns_of b_turns_of (fb_cons (fe_vr (pv 0)) fb_nil)) (fg_tup rfl (fgs_cons (fg_name sc_pair_for.nd (i := 1) rfl (Or.inl rfl)) (fgs_cons (fg_name sc_pair_for.nd (i := 2) rfl (Or.inl rfl)) fgs_nil)))) (fss_one (fs_ret (fe_call F_paired (rm_mono hr (by rfl)) tk rfl m_paired k_paired b_paired (fb_cons (fe_vr (pv 1)) (fb_cons (fe_vr (pv 2)) fb_nil))))))
  exact z
theorem ok_pair_for {f : Addr} {fd : FuncData} (T : Txt K mg) (Fd : Fun K "pair_for" "pair_for" s_pair_for f fd) (hm : mg "pair_for" = some (.ref f)) (C_turns_of : Cal P w K mg base 1 "turns_of" ["beads"] [] G_turns_of) (C_paired : Cal P w K mg base 1 "paired" ["turn", "rest"] [] G_paired) : Cal P w K mg base 2 "pair_for" ["beads"] [] G_pair_for :=
  cal_of Fd hm (fn_pair_for T Fd C_turns_of C_paired) (fun _ _ _ _ _ _ us hl => match us, hl with | [_], _ => rfl) kb_nil
theorem sc_pair_of : FnScope ["string"] ["string"] (defScope s_pair_of) := ⟨rfl, rfl, rfl, by decide +kernel, rfl, by decide +kernel, by decide +kernel⟩
theorem fn_pair_of {f : Addr} {fd : FuncData} (T : Txt K mg) (Fd : Fun K "pair_of" "pair_of" s_pair_of f fd) (C_check_string : Cal P w K mg base 5 "check_string" ["value"] [] G_check_string) (C_pair_for : Cal P w K mg base 2 "pair_for" ["beads"] [] G_pair_for) : FnG P w K mg base 6 f fd ["string"] (spG K 1 G_pair_of) := by
  obtain ⟨f_check_string, fd_check_string, F_check_string, m_check_string, k_check_string, b_check_string, q_check_string⟩ := C_check_string.ex
  obtain ⟨f_pair_for, fd_pair_for, F_pair_for, m_pair_for, k_pair_for, b_pair_for, q_pair_for⟩ := C_pair_for.ex
  have z := fnG (P := P) (w := w) (mg := mg) (base := base) (k := 5) (N := ["string"]) (ps := ["string"]) (g := g_pair_of) Fd sc_pair_of fun cdv A outer s H E π W hr tk hp => by exact (fss_cons (fs_expr (fe_call F_check_string (rm_mono hr (by rfl)) tk rfl m_check_string k_check_string b_check_string (fb_cons (fe_vr (pv 0)) fb_nil))) (fss_one (fs_ret (fe_call F_pair_for (rm_mono hr (by rfl)) tk rfl m_pair_for k_pair_for b_pair_for (fb_cons (fe_vr (pv 0)) fb_nil)))))
  exact z
theorem ok_pair_of {f : Addr} {fd : FuncData} (T : Txt K mg) (Fd : Fun K "pair_of" "pair_of" s_pair_of f fd) (hm : mg "pair_of" = some (.ref f)) (C_check_string : Cal P w K mg base 5 "check_string" ["value"] [] G_check_string) (C_pair_for : Cal P w K mg base 2 "pair_for" ["beads"] [] G_pair_for) : Cal P w K mg base 6 "pair_of" ["string"] [(["string"], 0, [0])] G_pair_of :=
  cal_of Fd hm (fn_pair_of T Fd C_check_string C_pair_for) (fun _ _ _ _ _ _ us hl => match us, hl with | [_], _ => rfl) (kb_cons (fun _ _ _ _ _ _ us ws h1 h2 => match us, ws, h1, h2 with | [], [_], _, _ => rfl) kb_nil)
theorem sc_signed_turn : FnScope ["string"] ["string"] (defScope s_signed_turn) := ⟨rfl, rfl, rfl, by decide +kernel, rfl, by decide +kernel, by decide +kernel⟩
theorem fn_signed_turn {f : Addr} {fd : FuncData} (T : Txt K mg) (Fd : Fun K "signed_turn" "signed_turn" s_signed_turn f fd) (C_check_string : Cal P w K mg base 5 "check_string" ["value"] [] G_check_string) (C_turns_of : Cal P w K mg base 1 "turns_of" ["beads"] [] G_turns_of) : FnG P w K mg base 6 f fd ["string"] (spG K 1 G_signed_turn) := by
  obtain ⟨f_check_string, fd_check_string, F_check_string, m_check_string, k_check_string, b_check_string, q_check_string⟩ := C_check_string.ex
  obtain ⟨f_turns_of, fd_turns_of, F_turns_of, m_turns_of, k_turns_of, b_turns_of, q_turns_of⟩ := C_turns_of.ex
  have z := fnG (P := P) (w := w) (mg := mg) (base := base) (k := 5) (N := ["string"]) (ps := ["string"]) (g := g_signed_turn) Fd sc_signed_turn fun cdv A outer s H E π W hr tk hp => by exact (fss_cons (fs_expr (fe_call F_check_string (rm_mono hr (by rfl)) tk rfl m_check_string k_check_string b_check_string (fb_cons (fe_vr (pv 0)) fb_nil))) (fss_one (fs_ret (fe_ix (fe_call F_turns_of (rm_mono hr (by rfl)) tk rfl m_turns_of k_turns_of b_turns_of (fb_cons (fe_vr (pv 0)) fb_nil)) fe_int (fun _ _ => rfl)))))
  exact z
theorem ok_signed_turn {f : Addr} {fd : FuncData} (T : Txt K mg) (Fd : Fun K "signed_turn" "signed_turn" s_signed_turn f fd) (hm : mg "signed_turn" = some (.ref f)) (C_check_string : Cal P w K mg base 5 "check_string" ["value"] [] G_check_string) (C_turns_of : Cal P w K mg base 1 "turns_of" ["beads"] [] G_turns_of) : Cal P w K mg base 6 "signed_turn" ["string"] [(["string"], 0, [0])] G_signed_turn :=
  cal_of Fd hm (fn_signed_turn T Fd C_check_string C_turns_of) (fun _ _ _ _ _ _ us hl => match us, hl with | [_], _ => rfl) (kb_cons (fun _ _ _ _ _ _ us ws h1 h2 => match us, ws, h1, h2 with | [], [_], _, _ => rfl) kb_nil)
theorem sc_common : FnScope ["high", "low"] ["high", "low"] (defScope s_common) := ⟨rfl, rfl, rfl, by decide +kernel, rfl, by decide +kernel, by decide +kernel⟩
theorem fn_common {f : Addr} {fd : FuncData} (T : Txt K mg) (Fd : Fun K "common" "common" s_common f fd)  : FnG P w K mg base 1 f fd ["high", "low"] (spG K 2 G_common) := by
  have z := fnG (P := P) (w := w) (mg := mg) (base := base) (k := 0) (N := ["high", "low"]) (ps := ["high", "low"]) (g := g_common) Fd sc_common fun cdv A outer s H E π W hr tk hp => by exact (fss_cons (fs_while (ks := []) hp (ft_cmp op_gt q_cmp (fe_vr (pv 1)) fe_int (by rfl)) (fss_one (fs_par rfl sc_common.nd (i := 0) (j := 1) rfl rfl (by decide) rfl rfl (fa_cons (fe_vr (pv 1)) (fa_cons (fe_bin op_modN q_mod (fe_vr (pv 0)) (fe_vr (pv 1))) fa_nil)) (by rfl)))) (fss_one (fs_ret (fe_vr (pv 0)))))
  exact z
theorem ok_common {f : Addr} {fd : FuncData} (T : Txt K mg) (Fd : Fun K "common" "common" s_common f fd) (hm : mg "common" = some (.ref f))  : Cal P w K mg base 1 "common" ["high", "low"] [] G_common :=
  cal_of Fd hm (fn_common T Fd ) (fun _ _ _ _ _ _ us hl => match us, hl with | [_, _], _ => rfl) kb_nil
theorem sc_is_pair : FnScope ["value"] ["value"] (defScope s_is_pair) := ⟨rfl, rfl, rfl, by decide +kernel, rfl, by decide +kernel, by decide +kernel⟩
theorem fn_is_pair {f : Addr} {fd : FuncData} (T : Txt K mg) (Fd : Fun K "is_pair" "is_pair" s_is_pair f fd) (C_is_integer : Cal P w K mg base 1 "is_integer" ["value"] [] G_is_integer) (C_common : Cal P w K mg base 1 "common" ["high", "low"] [] G_common) : FnG P w K mg base 2 f fd ["value"] (spG K 1 G_is_pair) := by
  obtain ⟨f_is_integer, fd_is_integer, F_is_integer, m_is_integer, k_is_integer, b_is_integer, q_is_integer⟩ := C_is_integer.ex
  obtain ⟨f_common, fd_common, F_common, m_common, k_common, b_common, q_common⟩ := C_common.ex
  have z := fnG (P := P) (w := w) (mg := mg) (base := base) (k := 1) (N := ["value"]) (ps := ["value"]) (g := g_is_pair) Fd sc_is_pair fun cdv A outer s H E π W hr tk hp => by exact (fss_cons (fs_if (PW.pt (fw_or (ft_not (ft_val (fe_isi (T := .tup) (by intro z; cases z) rfl T.b_isinstance rfl rfl T.b_tuple (by decide +kernel) (fe_vr (pv 0))))) (fw_or (ft_cmp (o_neA hr.u64) q_neA (fe_callB q_len o_len rfl T.b_len (by decide +kernel) (fa_cons (fe_vr (pv 0)) fa_nil)) fe_int (by rfl)) (fw_or (ft_not (ft_val (fe_call F_is_integer (rm_mono hr (by rfl)) tk rfl m_is_integer k_is_integer b_is_integer (fb_cons (fe_ix (fe_vr (pv 0)) fe_int (fun _ _ => rfl)) fb_nil)))) (pw_or1 (ft_not (ft_val (fe_call F_is_integer (rm_mono hr (by rfl)) tk rfl m_is_integer k_is_integer b_is_integer (fb_cons (fe_ix (fe_vr (pv 0)) fe_int (fun _ _ => rfl)) fb_nil))))))))) (fss_one (fs_ret fe_bl)) fss_nil) (fss_cons (fs_if (ft_cmp (o_eqA hr.u64) q_eqA (fe_ix (fe_vr (pv 0)) fe_int (fun _ _ => rfl)) fe_int (by rfl)) (fss_one (fs_ret (fe_cmp (o_eqA hr.u64) q_eqA (fe_ix (fe_vr (pv 0)) fe_int (fun _ _ => rfl)) fe_int (by rfl)))) fss_nil) (fss_one (fs_ret (fe_and (fe_chn op_le op_lt q_cmp q_cmp fe_int (fe_ix (fe_vr (pv 0)) fe_int (fun _ _ => rfl)) (fe_ix (fe_vr (pv 0)) fe_int (fun _ _ => rfl)) (by rfl)) (pe_one (fe_cmp (o_eqA hr.u64) q_eqA (fe_call F_common (rm_mono hr (by rfl)) tk rfl m_common k_common b_common (fb_cons (fe_ix (fe_vr (pv 0)) fe_int (fun _ _ => rfl)) (fb_cons (fe_ix (fe_vr (pv 0)) fe_int (fun _ _ => rfl)) fb_nil))) fe_int (by rfl))))))))
  exact z
theorem ok_is_pair {f : Addr} {fd : FuncData} (T : Txt K mg) (Fd : Fun K "is_pair" "is_pair" s_is_pair f fd) (hm : mg "is_pair" = some (.ref f)) (C_is_integer : Cal P w K mg base 1 "is_integer" ["value"] [] G_is_integer) (C_common : Cal P w K mg base 1 "common" ["high", "low"] [] G_common) : Cal P w K mg base 2 "is_pair" ["value"] [] G_is_pair :=
  cal_of Fd hm (fn_is_pair T Fd C_is_integer C_common) (fun _ _ _ _ _ _ us hl => match us, hl with | [_], _ => rfl) kb_nil
theorem sc_check_pair : FnScope ["value"] ["value"] (defScope s_check_pair) := ⟨rfl, rfl, rfl, by decide +kernel, rfl, by decide +kernel, by decide +kernel⟩
theorem fn_check_pair {f : Addr} {fd : FuncData} (T : Txt K mg) (Fd : Fun K "check_pair" "check_pair" s_check_pair f fd) (C_is_pair : Cal P w K mg base 2 "is_pair" ["value"] [] G_is_pair) : FnG P w K mg base 3 f fd ["value"] (spG K 1 G_check_pair) := by
  obtain ⟨f_is_pair, fd_is_pair, F_is_pair, m_is_pair, k_is_pair, b_is_pair, q_is_pair⟩ := C_is_pair.ex
  have z := fnG (P := P) (w := w) (mg := mg) (base := base) (k := 2) (N := ["value"]) (ps := ["value"]) (g := g_check_pair) Fd sc_check_pair fun cdv A outer s H E π W hr tk hp => by exact (fss_one (fs_if (ft_not (ft_val (fe_call F_is_pair (rm_mono hr (by rfl)) tk rfl m_is_pair k_is_pair b_is_pair (fb_cons (fe_vr (pv 0)) fb_nil)))) (fss_one fs_never) fss_nil))
  exact z
theorem ok_check_pair {f : Addr} {fd : FuncData} (T : Txt K mg) (Fd : Fun K "check_pair" "check_pair" s_check_pair f fd) (hm : mg "check_pair" = some (.ref f)) (C_is_pair : Cal P w K mg base 2 "is_pair" ["value"] [] G_is_pair) : Cal P w K mg base 3 "check_pair" ["value"] [] G_check_pair :=
  cal_of Fd hm (fn_check_pair T Fd C_is_pair) (fun _ _ _ _ _ _ us hl => match us, hl with | [_], _ => rfl) kb_nil
theorem sc_inverse : FnScope ["number", "whole", "one", "other", "gone", "part", "times"] ["number", "whole"] (defScope s_inverse) := ⟨rfl, rfl, rfl, by decide +kernel, rfl, by decide +kernel, by decide +kernel⟩
theorem fn_inverse {f : Addr} {fd : FuncData} (T : Txt K mg) (Fd : Fun K "inverse" "inverse" s_inverse f fd)  : FnG P w K mg base 1 f fd ["number", "whole"] (spG K 2 G_inverse) := by
  have z := fnG (P := P) (w := w) (mg := mg) (base := base) (k := 0) (N := ["number", "whole", "one", "other", "gone", "part", "times"]) (ps := ["number", "whole"]) (g := g_inverse) Fd sc_inverse fun cdv A outer s H E π W hr tk hp => by exact (fss_cons (fs_asg (fe_tup (fa_cons (fe_tup (fa_cons (fe_vr (pv 1)) (fa_cons (fe_bin op_modN q_mod (fe_vr (pv 0)) (fe_vr (pv 1))) fa_nil))) (fa_cons (fe_tup (fa_cons fe_int (fa_cons fe_int fa_nil))) fa_nil))) (fg_tup rfl (fgs_cons (fg_tup rfl (fgs_cons (fg_name sc_inverse.nd (i := 2) rfl (Or.inl rfl)) (fgs_cons (fg_name sc_inverse.nd (i := 3) rfl (Or.inl rfl)) fgs_nil))) (fgs_cons (fg_tup rfl (fgs_cons (fg_name sc_inverse.nd (i := 4) rfl (Or.inl rfl)) (fgs_cons (fg_name sc_inverse.nd (i := 5) rfl (Or.inl rfl)) fgs_nil))) fgs_nil)))) (fss_cons (fs_while (ks := []) hp (ft_cmp op_gt q_cmp (fe_vr (pv 3)) fe_int (by rfl)) (fss_cons (fs_set sc_inverse.nd (i := 6) rfl (Or.inl rfl) (fe_bin o_fdiv q_fdiv (fe_vr (pv 2)) (fe_vr (pv 3)))) (fss_cons (fs_par rfl sc_inverse.nd (i := 2) (j := 3) rfl rfl (by decide) rfl rfl (fa_cons (fe_vr (pv 3)) (fa_cons (fe_bin op_sub q_sub (fe_vr (pv 2)) (fe_bin o_mul q_mul (fe_vr (pv 6)) (fe_vr (pv 3)))) fa_nil)) (by rfl)) (fss_one (fs_par rfl sc_inverse.nd (i := 4) (j := 5) rfl rfl (by decide) rfl rfl (fa_cons (fe_vr (pv 5)) (fa_cons (fe_bin op_sub q_sub (fe_vr (pv 4)) (fe_bin o_mul q_mul (fe_vr (pv 6)) (fe_vr (pv 5)))) fa_nil)) (by rfl)))))) (fss_one (fs_ret (fe_bin op_modN q_mod (fe_vr (pv 4)) (fe_vr (pv 1)))))))
  exact z
theorem ok_inverse {f : Addr} {fd : FuncData} (T : Txt K mg) (Fd : Fun K "inverse" "inverse" s_inverse f fd) (hm : mg "inverse" = some (.ref f))  : Cal P w K mg base 1 "inverse" ["number", "whole"] [] G_inverse :=
  cal_of Fd hm (fn_inverse T Fd ) (fun _ _ _ _ _ _ us hl => match us, hl with | [_, _], _ => rfl) kb_nil
theorem sc_backwards : FnScope ["pair"] ["pair"] (defScope s_backwards) := ⟨rfl, rfl, rfl, by decide +kernel, rfl, by decide +kernel, by decide +kernel⟩
theorem fn_backwards {f : Addr} {fd : FuncData} (T : Txt K mg) (Fd : Fun K "backwards" "backwards" s_backwards f fd) (C_check_pair : Cal P w K mg base 3 "check_pair" ["value"] [] G_check_pair) (C_inverse : Cal P w K mg base 1 "inverse" ["number", "whole"] [] G_inverse) : FnG P w K mg base 4 f fd ["pair"] (spG K 1 G_backwards) := by
  obtain ⟨f_check_pair, fd_check_pair, F_check_pair, m_check_pair, k_check_pair, b_check_pair, q_check_pair⟩ := C_check_pair.ex
  obtain ⟨f_inverse, fd_inverse, F_inverse, m_inverse, k_inverse, b_inverse, q_inverse⟩ := C_inverse.ex
  have z := fnG (P := P) (w := w) (mg := mg) (base := base) (k := 3) (N := ["pair"]) (ps := ["pair"]) (g := g_backwards) Fd sc_backwards fun cdv A outer s H E π W hr tk hp => by exact (fss_cons (fs_expr (fe_call F_check_pair (rm_mono hr (by rfl)) tk rfl m_check_pair k_check_pair b_check_pair (fb_cons (fe_vr (pv 0)) fb_nil))) (fss_one (fs_ret (fe_if (ft_cmp op_lt q_cmp (fe_ix (fe_vr (pv 0)) fe_int (fun _ _ => rfl)) fe_int (by rfl)) (fe_vr (pv 0)) (fe_tup (fa_cons (fe_ix (fe_vr (pv 0)) fe_int (fun _ _ => rfl)) (fa_cons (fe_call F_inverse (rm_mono hr (by rfl)) tk rfl m_inverse k_inverse b_inverse (fb_cons (fe_ix (fe_vr (pv 0)) fe_int (fun _ _ => rfl)) (fb_cons (fe_ix (fe_vr (pv 0)) fe_int (fun _ _ => rfl)) fb_nil))) fa_nil)))))))
  exact z
theorem ok_backwards {f : Addr} {fd : FuncData} (T : Txt K mg) (Fd : Fun K "backwards" "backwards" s_backwards f fd) (hm : mg "backwards" = some (.ref f)) (C_check_pair : Cal P w K mg base 3 "check_pair" ["value"] [] G_check_pair) (C_inverse : Cal P w K mg base 1 "inverse" ["number", "whole"] [] G_inverse) : Cal P w K mg base 4 "backwards" ["pair"] [(["pair"], 0, [0])] G_backwards :=
  cal_of Fd hm (fn_backwards T Fd C_check_pair C_inverse) (fun _ _ _ _ _ _ us hl => match us, hl with | [_], _ => rfl) (kb_cons (fun _ _ _ _ _ _ us ws h1 h2 => match us, ws, h1, h2 with | [], [_], _, _ => rfl) kb_nil)
theorem sc__law_sip : FnScope ["_law_tray", "_law_top", "_law_digit"] ["_law_tray", "_law_top"] (defScope s__law_sip) := ⟨rfl, rfl, rfl, by decide +kernel, rfl, by decide +kernel, by decide +kernel⟩
theorem fn__law_sip {f : Addr} {fd : FuncData} (T : Txt K mg) (Fd : Fun K "_law_sip" "_law_sip" s__law_sip f fd)  : FnG P w K mg base 1 f fd ["_law_tray", "_law_top"] (spG K 2 G__law_sip) := by
  have z := fnG (P := P) (w := w) (mg := mg) (base := base) (k := 0) (N := ["_law_tray", "_law_top", "_law_digit"]) (ps := ["_law_tray", "_law_top"]) (g := g__law_sip) Fd sc__law_sip fun cdv A outer s H E π W hr tk hp => by exact (fss_cons (fs_sub (pv 0) (fe_bin o_add q_add (fe_ixM (pv 0) fe_int (fun _ _ => rfl)) fe_int) fe_int) (fss_cons (fs_if (ft_cmp op_gt q_cmp (fe_ixM (pv 0) fe_int (fun _ _ => rfl)) fe_int (by rfl)) (fss_cons (fs_set sc__law_sip.nd (i := 2) rfl (Or.inl rfl) (fe_bin op_modN q_mod (fe_callTy q_int call_int1 rfl T.b_int (by decide +kernel) (fa_cons (fe_ixM (pv 0) fe_int (fun _ _ => rfl)) fa_nil)) (fe_vr (pv 1)))) (fss_cons (fs_sub (pv 0) (fe_bin o_fdiv q_fdiv (fe_callTy q_int call_int1 rfl T.b_int (by decide +kernel) (fa_cons (fe_ixM (pv 0) fe_int (fun _ _ => rfl)) fa_nil)) (fe_vr (pv 1))) fe_int) (fss_one (fs_ret (fe_vr (pv 2)))))) fss_nil) (fss_cons (fs_sub (pv 0) (fe_bin op_modN q_mod (fe_callTy q_int call_int1 rfl T.b_int (by decide +kernel) (fa_cons (fe_bin o_add q_add (fe_bin o_add q_add (fe_bin o_mul q_mul (fe_ixM (pv 0) fe_int (fun _ _ => rfl)) fe_int) (fe_bin o_mul q_mul fe_int (fe_ixM (pv 0) fe_int (fun _ _ => rfl)))) fe_int) fa_nil)) fe_int) fe_int) (fss_one (fs_ret (fe_bin op_modN q_mod (fe_callTy q_int call_int1 rfl T.b_int (by decide +kernel) (fa_cons (fe_bin o_fdiv q_fdiv (fe_ixM (pv 0) fe_int (fun _ _ => rfl)) fe_int) fa_nil)) (fe_vr (pv 1))))))))
  exact z
theorem ok__law_sip {f : Addr} {fd : FuncData} (T : Txt K mg) (Fd : Fun K "_law_sip" "_law_sip" s__law_sip f fd) (hm : mg "_law_sip" = some (.ref f))  : Cal P w K mg base 1 "_law_sip" ["_law_tray", "_law_top"] [] G__law_sip :=
  cal_of Fd hm (fn__law_sip T Fd ) (fun _ _ _ _ _ _ us hl => match us, hl with | [_, _], _ => rfl) kb_nil
theorem sc__law_pick : FnScope ["_law_tray", "_law_menu"] ["_law_tray", "_law_menu"] (defScope s__law_pick) := ⟨rfl, rfl, rfl, by decide +kernel, rfl, by decide +kernel, by decide +kernel⟩
theorem fn__law_pick {f : Addr} {fd : FuncData} (T : Txt K mg) (Fd : Fun K "_law_pick" "_law_pick" s__law_pick f fd) (C__law_sip : Cal P w K mg base 1 "_law_sip" ["_law_tray", "_law_top"] [] G__law_sip) : FnG P w K mg base 2 f fd ["_law_tray", "_law_menu"] (spG K 2 G__law_pick) := by
  obtain ⟨f__law_sip, fd__law_sip, F__law_sip, m__law_sip, k__law_sip, b__law_sip, q__law_sip⟩ := C__law_sip.ex
  have z := fnG (P := P) (w := w) (mg := mg) (base := base) (k := 1) (N := ["_law_tray", "_law_menu"]) (ps := ["_law_tray", "_law_menu"]) (g := g__law_pick) Fd sc__law_pick fun cdv A outer s H E π W hr tk hp => by exact (fss_one (fs_ret (fe_ix (fe_vr (pv 1)) (fe_call F__law_sip (rm_mono hr (by rfl)) tk rfl m__law_sip k__law_sip b__law_sip (fb_sl (pv 0) (fb_cons (fe_callB q_len o_len rfl T.b_len (by decide +kernel) (fa_cons (fe_vr (pv 1)) fa_nil)) fb_nil))) (fun _ _ => rfl))))
  exact z
theorem ok__law_pick {f : Addr} {fd : FuncData} (T : Txt K mg) (Fd : Fun K "_law_pick" "_law_pick" s__law_pick f fd) (hm : mg "_law_pick" = some (.ref f)) (C__law_sip : Cal P w K mg base 1 "_law_sip" ["_law_tray", "_law_top"] [] G__law_sip) : Cal P w K mg base 2 "_law_pick" ["_law_tray", "_law_menu"] [] G__law_pick :=
  cal_of Fd hm (fn__law_pick T Fd C__law_sip) (fun _ _ _ _ _ _ us hl => match us, hl with | [_, _], _ => rfl) kb_nil
theorem sc__law_beads : FnScope ["_law_tray", "_law_most", "_law_wide", "_law_found", "_law_k"] ["_law_tray", "_law_most", "_law_wide"] (defScope s__law_beads) := ⟨rfl, rfl, rfl, by decide +kernel, rfl, by decide +kernel, by decide +kernel⟩
theorem fn__law_beads {f : Addr} {fd : FuncData} (T : Txt K mg) (Fd : Fun K "_law_beads" "_law_beads" s__law_beads f fd) (C__law_sip : Cal P w K mg base 1 "_law_sip" ["_law_tray", "_law_top"] [] G__law_sip) (C__law_pick : Cal P w K mg base 2 "_law_pick" ["_law_tray", "_law_menu"] [] G__law_pick) : FnG P w K mg base 3 f fd ["_law_tray", "_law_most", "_law_wide"] (spG K 3 G__law_beads) := by
  obtain ⟨f__law_sip, fd__law_sip, F__law_sip, m__law_sip, k__law_sip, b__law_sip, q__law_sip⟩ := C__law_sip.ex
  obtain ⟨f__law_pick, fd__law_pick, F__law_pick, m__law_pick, k__law_pick, b__law_pick, q__law_pick⟩ := C__law_pick.ex
  have z := fnG (P := P) (w := w) (mg := mg) (base := base) (k := 2) (N := ["_law_tray", "_law_most", "_law_wide", "_law_found", "_law_k"]) (ps := ["_law_tray", "_law_most", "_law_wide"]) (g := g__law_beads) Fd sc__law_beads fun cdv A outer s H E π W hr tk hp => by exact (fss_cons (fs_setM sc__law_beads.nd (i := 3) rfl (Or.inl rfl) (fm_lst fa_nil)) (fss_cons (fs_for (ks := []) hp rfl (fi_range1 rfl T.b_range (fa_cons (fe_call F__law_sip (rm_mono hr (by rfl)) tk rfl m__law_sip k__law_sip b__law_sip (fb_sl (pv 0) (fb_cons (fe_bin o_add q_add (fe_vr (pv 1)) fe_int) fb_nil))) fa_nil)) (fg_name sc__law_beads.nd (i := 4) rfl (Or.inl rfl)) (fss_one (fs_append (pv 3) (fe_call F__law_pick (rm_mono hr (by rfl)) tk rfl m__law_pick k__law_pick b__law_pick (fb_sl (pv 0) (fb_cons (fe_frz (fm_lst (fa_cons fe_int (fa_cons fe_int (fa_cons (fe_un un_neg q_neg fe_int) (fa_cons fe_int (fa_cons (fe_bin op_sub q_sub (fe_call F__law_sip (rm_mono hr (by rfl)) tk rfl m__law_sip k__law_sip b__law_sip (fb_sl (pv 0) (fb_cons (fe_bin o_add q_add (fe_bin o_mul q_mul fe_int (fe_vr (pv 2))) fe_int) fb_nil))) (fe_vr (pv 2))) (fa_cons (fe_bin op_sub q_sub (fe_call F__law_sip (rm_mono hr (by rfl)) tk rfl m__law_sip k__law_sip b__law_sip (fb_sl (pv 0) (fb_cons (fe_bin o_add q_add (fe_bin o_mul q_mul fe_int (fe_vr (pv 2))) fe_int) fb_nil))) (fe_vr (pv 2))) fa_nil)))))))) fb_nil)))))) (fss_frz (i := 3) (fss_one (fs_ret (fe_callTy q_tup call_tuple_of rfl T.b_tuple (by decide +kernel) (fa_cons (fe_vr (pv 3)) fa_nil)))))))
  exact z
theorem ok__law_beads {f : Addr} {fd : FuncData} (T : Txt K mg) (Fd : Fun K "_law_beads" "_law_beads" s__law_beads f fd) (hm : mg "_law_beads" = some (.ref f)) (C__law_sip : Cal P w K mg base 1 "_law_sip" ["_law_tray", "_law_top"] [] G__law_sip) (C__law_pick : Cal P w K mg base 2 "_law_pick" ["_law_tray", "_law_menu"] [] G__law_pick) : Cal P w K mg base 3 "_law_beads" ["_law_tray", "_law_most", "_law_wide"] [] G__law_beads :=
  cal_of Fd hm (fn__law_beads T Fd C__law_sip C__law_pick) (fun _ _ _ _ _ _ us hl => match us, hl with | [_, _, _], _ => rfl) kb_nil
theorem sc__law_turns : FnScope ["_law_beads_here", "_law_a", "_law_b", "_law_c", "_law_d", "_law_x"] ["_law_beads_here"] (defScope s__law_turns) := ⟨rfl, rfl, rfl, by decide +kernel, rfl, by decide +kernel, by decide +kernel⟩
theorem fn__law_turns {f : Addr} {fd : FuncData} (T : Txt K mg) (Fd : Fun K "_law_turns" "_law_turns" s__law_turns f fd)  : FnG P w K mg base 1 f fd ["_law_beads_here"] (spG K 1 G__law_turns) := by
  have z := fnG (P := P) (w := w) (mg := mg) (base := base) (k := 0) (N := ["_law_beads_here", "_law_a", "_law_b", "_law_c", "_law_d", "_law_x"]) (ps := ["_law_beads_here"]) (g := g__law_turns) Fd sc__law_turns fun cdv A outer s H E π W hr tk hp => by exact (fss_cons (fs_asg (fe_tup (fa_cons fe_int (fa_cons fe_int (fa_cons fe_int (fa_cons fe_int fa_nil))))) (fg_tup rfl (fgs_cons (fg_name sc__law_turns.nd (i := 1) rfl (Or.inl rfl)) (fgs_cons (fg_name sc__law_turns.nd (i := 2) rfl (Or.inl rfl)) (fgs_cons (fg_name sc__law_turns.nd (i := 3) rfl (Or.inl rfl)) (fgs_cons (fg_name sc__law_turns.nd (i := 4) rfl (Or.inl rfl)) fgs_nil)))))) (fss_cons (fs_for (ks := []) hp rfl (fi_seq (fe_vr (pv 0))) (fg_name sc__law_turns.nd (i := 5) rfl (Or.inl rfl)) (fss_one (fs_asg (fe_tup (fa_cons (fe_bin o_add q_add (fe_bin o_mul q_mul (fe_vr (pv 1)) (fe_vr (pv 5))) (fe_vr (pv 2))) (fa_cons (fe_un un_neg q_neg (fe_vr (pv 1))) (fa_cons (fe_bin o_add q_add (fe_bin o_mul q_mul (fe_vr (pv 3)) (fe_vr (pv 5))) (fe_vr (pv 4))) (fa_cons (fe_un un_neg q_neg (fe_vr (pv 3))) fa_nil))))) (fg_tup rfl (fgs_cons (fg_name sc__law_turns.nd (i := 1) rfl (Or.inl rfl)) (fgs_cons (fg_name sc__law_turns.nd (i := 2) rfl (Or.inl rfl)) (fgs_cons (fg_name sc__law_turns.nd (i := 3) rfl (Or.inl rfl)) (fgs_cons (fg_name sc__law_turns.nd (i := 4) rfl (Or.inl rfl)) fgs_nil)))))))) (fss_one (fs_retM (fm_lst (fa_cons (fe_vr (pv 1)) (fa_cons (fe_vr (pv 3)) fa_nil)))))))
  exact z
theorem ok__law_turns {f : Addr} {fd : FuncData} (T : Txt K mg) (Fd : Fun K "_law_turns" "_law_turns" s__law_turns f fd) (hm : mg "_law_turns" = some (.ref f))  : Cal P w K mg base 1 "_law_turns" ["_law_beads_here"] [] G__law_turns :=
  cal_of Fd hm (fn__law_turns T Fd ) (fun _ _ _ _ _ _ us hl => match us, hl with | [_], _ => rfl) kb_nil
theorem sc__law_pair : FnScope ["_law_beads_here", "_law_p", "_law_q"] ["_law_beads_here"] (defScope s__law_pair) := ⟨rfl, rfl, rfl, by decide +kernel, rfl, by decide +kernel, by decide +kernel⟩
theorem fn__law_pair {f : Addr} {fd : FuncData} (T : Txt K mg) (Fd : Fun K "_law_pair" "_law_pair" s__law_pair f fd) (C__law_turns : Cal P w K mg base 1 "_law_turns" ["_law_beads_here"] [] G__law_turns) : FnG P w K mg base 2 f fd ["_law_beads_here"] (spG K 1 G__law_pair) := by
  obtain ⟨f__law_turns, fd__law_turns, F__law_turns, m__law_turns, k__law_turns, b__law_turns, q__law_turns⟩ := C__law_turns.ex
  have z := fnG (P := P) (w := w) (mg := mg) (base := base) (k := 1) (N := ["_law_beads_here", "_law_p", "_law_q"]) (ps := ["_law_beads_here"]) (g := g__law_pair) Fd sc__law_pair fun cdv A outer s H E π W hr tk hp => by exact (fss_cons (fs_asg (fe_call F__law_turns (rm_mono hr (by rfl)) tk rfl m__law_turns k__law_turns b__law_turns (fb_cons (fe_vr (pv 0)) fb_nil)) (fg_tul rfl (fgs_cons (fg_name sc__law_pair.nd (i := 1) rfl (Or.inl rfl)) (fgs_cons (fg_name sc__law_pair.nd (i := 2) rfl (Or.inl rfl)) fgs_nil)))) (fss_cons (fs_if (PW.pt (fw_or (ft_cmp op_lt q_cmp (fe_vr (pv 1)) fe_int (by rfl)) (pw_or1 (PW.pt (fw_and (ft_cmp (o_eqA hr.u64) q_eqA (fe_vr (pv 1)) fe_int (by rfl)) (pw_and1 (ft_cmp op_lt q_cmp (fe_vr (pv 2)) fe_int (by rfl)))))))) (fss_one (fs_par rfl sc__law_pair.nd (i := 1) (j := 2) rfl rfl (by decide) rfl rfl (fa_cons (fe_un un_neg q_neg (fe_vr (pv 1))) (fa_cons (fe_un un_neg q_neg (fe_vr (pv 2))) fa_nil)) (by rfl))) fss_nil) (fss_one (fs_ret (fe_if (ft_cmp (o_eqA hr.u64) q_eqA (fe_vr (pv 1)) fe_int (by rfl)) (fe_tup (fa_cons fe_int (fa_cons fe_int fa_nil))) (fe_tup (fa_cons (fe_vr (pv 1)) (fa_cons (fe_bin op_modN q_mod (fe_callTy q_int call_int1 rfl T.b_int (by decide +kernel) (fa_cons (fe_vr (pv 2)) fa_nil)) (fe_vr (pv 1))) fa_nil))))))))
  exact z
theorem ok__law_pair {f : Addr} {fd : FuncData} (T : Txt K mg) (Fd : Fun K "_law_pair" "_law_pair" s__law_pair f fd) (hm : mg "_law_pair" = some (.ref f)) (C__law_turns : Cal P w K mg base 1 "_law_turns" ["_law_beads_here"] [] G__law_turns) : Cal P w K mg base 2 "_law_pair" ["_law_beads_here"] [] G__law_pair :=
  cal_of Fd hm (fn__law_pair T Fd C__law_turns) (fun _ _ _ _ _ _ us hl => match us, hl with | [_], _ => rfl) kb_nil
theorem sc__law_right : FnScope ["_law_tray", "_law_turn", "_law_mine", "_law_due", "_law_back"] ["_law_tray"] (defScope s__law_right) := ⟨rfl, rfl, rfl, by decide +kernel, rfl, by decide +kernel, by decide +kernel⟩
theorem fn__law_right {f : Addr} {fd : FuncData} (T : Txt K mg) (Fd : Fun K "_law_right" "_law_right" s__law_right f fd) (C__law_beads : Cal P w K mg base 3 "_law_beads" ["_law_tray", "_law_most", "_law_wide"] [] G__law_beads) (C__law_pick : Cal P w K mg base 2 "_law_pick" ["_law_tray", "_law_menu"] [] G__law_pick) (C__law_turns : Cal P w K mg base 1 "_law_turns" ["_law_beads_here"] [] G__law_turns) (C_signed_turn : Cal P w K mg base 6 "signed_turn" ["string"] [(["string"], 0, [0])] G_signed_turn) (C__law_pair : Cal P w K mg base 2 "_law_pair" ["_law_beads_here"] [] G__law_pair) (C_pair_of : Cal P w K mg base 6 "pair_of" ["string"] [(["string"], 0, [0])] G_pair_of) (C_is_pair : Cal P w K mg base 2 "is_pair" ["value"] [] G_is_pair) (C_backwards : Cal P w K mg base 4 "backwards" ["pair"] [(["pair"], 0, [0])] G_backwards) : FnG P w K mg base 7 f fd ["_law_tray"] (spG K 1 G__law_right) := by
  obtain ⟨f__law_beads, fd__law_beads, F__law_beads, m__law_beads, k__law_beads, b__law_beads, q__law_beads⟩ := C__law_beads.ex
  obtain ⟨f__law_pick, fd__law_pick, F__law_pick, m__law_pick, k__law_pick, b__law_pick, q__law_pick⟩ := C__law_pick.ex
  obtain ⟨f__law_turns, fd__law_turns, F__law_turns, m__law_turns, k__law_turns, b__law_turns, q__law_turns⟩ := C__law_turns.ex
  obtain ⟨f_signed_turn, fd_signed_turn, F_signed_turn, m_signed_turn, k_signed_turn, b_signed_turn, q_signed_turn⟩ := C_signed_turn.ex
  obtain ⟨f__law_pair, fd__law_pair, F__law_pair, m__law_pair, k__law_pair, b__law_pair, q__law_pair⟩ := C__law_pair.ex
  obtain ⟨f_pair_of, fd_pair_of, F_pair_of, m_pair_of, k_pair_of, b_pair_of, q_pair_of⟩ := C_pair_of.ex
  obtain ⟨f_is_pair, fd_is_pair, F_is_pair, m_is_pair, k_is_pair, b_is_pair, q_is_pair⟩ := C_is_pair.ex
  obtain ⟨f_backwards, fd_backwards, F_backwards, m_backwards, k_backwards, b_backwards, q_backwards⟩ := C_backwards.ex
  have z := fnG (P := P) (w := w) (mg := mg) (base := base) (k := 6) (N := ["_law_tray", "_law_turn", "_law_mine", "_law_due", "_law_back"]) (ps := ["_law_tray"]) (g := g__law_right) Fd sc__law_right fun cdv A outer s H E π W hr tk hp => by exact (fss_cons (fs_for (ks := []) hp rfl (fi_range1 rfl T.b_range (fa_cons fe_int fa_nil)) (fg_name sc__law_right.nd (i := 1) rfl (Or.inl rfl)) (fss_cons (fs_set sc__law_right.nd (i := 2) rfl (Or.inl rfl) (fe_call F__law_beads (rm_mono hr (by rfl)) tk rfl m__law_beads k__law_beads b__law_beads (fb_sl (pv 0) (fb_cons (fe_call F__law_pick (rm_mono hr (by rfl)) tk rfl m__law_pick k__law_pick b__law_pick (fb_sl (pv 0) (fb_cons (fe_frz (fm_lst (fa_cons fe_int (fa_cons fe_int (fa_cons fe_int (fa_cons fe_int fa_nil)))))) fb_nil))) (fb_cons (fe_call F__law_pick (rm_mono hr (by rfl)) tk rfl m__law_pick k__law_pick b__law_pick (fb_sl (pv 0) (fb_cons (fe_frz (fm_lst (fa_cons fe_int (fa_cons fe_int (fa_cons (fe_bin op_pow q_pow fe_int fe_int) fa_nil))))) fb_nil))) fb_nil))))) (fss_cons (fs_set sc__law_right.nd (i := 3) rfl (Or.inl rfl) (fe_ix (fe_call F__law_turns (rm_mono hr (by rfl)) tk rfl m__law_turns k__law_turns b__law_turns (fb_cons (fe_vr (pv 2)) fb_nil)) fe_int (fun _ _ => rfl))) (fss_cons (fs_if (ft_cmp (o_neA hr.u64) q_neA (fe_callB q_reprB (o_reprB T.d_dg hr.g hr.u64) rfl T.b_repr (by decide +kernel) (fa_cons (fe_frz (fm_lst (fa_cons (fe_call F_signed_turn (rm_mono hr (by rfl)) tk rfl m_signed_turn k_signed_turn b_signed_turn (fb_cons (fe_vr (pv 2)) fb_nil)) (fa_cons (fe_callK0 F_signed_turn (rm_mono hr (by rfl)) tk rfl m_signed_turn k_signed_turn (q_signed_turn _ List.mem_cons_self) (fk_cons (fe_vr (pv 2)) fk_nil)) fa_nil)))) fa_nil)) (fe_callB q_reprB (o_reprB T.d_dg hr.g hr.u64) rfl T.b_repr (by decide +kernel) (fa_cons (fe_frz (fm_lst (fa_cons (fe_vr (pv 3)) (fa_cons (fe_vr (pv 3)) fa_nil)))) fa_nil)) (by rfl)) (fss_one (fs_ret fe_bl)) fss_nil) (fss_cons (fs_set sc__law_right.nd (i := 3) rfl (Or.inl rfl) (fe_call F__law_pair (rm_mono hr (by rfl)) tk rfl m__law_pair k__law_pair b__law_pair (fb_cons (fe_vr (pv 2)) fb_nil))) (fss_cons (fs_if (PW.pt (fw_or (ft_cmp (o_neA hr.u64) q_neA (fe_callB q_reprB (o_reprB T.d_dg hr.g hr.u64) rfl T.b_repr (by decide +kernel) (fa_cons (fe_frz (fm_lst (fa_cons (fe_call F_pair_of (rm_mono hr (by rfl)) tk rfl m_pair_of k_pair_of b_pair_of (fb_cons (fe_vr (pv 2)) fb_nil)) (fa_cons (fe_callK0 F_pair_of (rm_mono hr (by rfl)) tk rfl m_pair_of k_pair_of (q_pair_of _ List.mem_cons_self) (fk_cons (fe_vr (pv 2)) fk_nil)) fa_nil)))) fa_nil)) (fe_callB q_reprB (o_reprB T.d_dg hr.g hr.u64) rfl T.b_repr (by decide +kernel) (fa_cons (fe_frz (fm_lst (fa_cons (fe_vr (pv 3)) (fa_cons (fe_vr (pv 3)) fa_nil)))) fa_nil)) (by rfl)) (pw_or1 (ft_cmp o_nis q_nis (fe_call F_is_pair (rm_mono hr (by rfl)) tk rfl m_is_pair k_is_pair b_is_pair (fb_cons (fe_vr (pv 3)) fb_nil)) fe_bl (by rfl))))) (fss_one (fs_ret fe_bl)) fss_nil) (fss_cons (fs_set sc__law_right.nd (i := 4) rfl (Or.inl rfl) (fe_call F_backwards (rm_mono hr (by rfl)) tk rfl m_backwards k_backwards b_backwards (fb_cons (fe_vr (pv 3)) fb_nil))) (fss_cons (fs_if (PW.pt (fw_or (ft_cmp (o_neA hr.u64) q_neA (fe_vr (pv 4)) (fe_call F__law_pair (rm_mono hr (by rfl)) tk rfl m__law_pair k__law_pair b__law_pair (fb_cons (fe_rev (fe_vr (pv 2))) fb_nil)) (by rfl)) (pw_or1 (ft_cmp (o_neA hr.u64) q_neA (fe_callK0 F_backwards (rm_mono hr (by rfl)) tk rfl m_backwards k_backwards (q_backwards _ List.mem_cons_self) (fk_cons (fe_vr (pv 4)) fk_nil)) (fe_vr (pv 3)) (by rfl))))) (fss_one (fs_ret fe_bl)) fss_nil) (fss_one (fs_if (PW.pt (fw_and (ft_cmp op_gt q_cmp (fe_ix (fe_vr (pv 3)) fe_int (fun _ _ => rfl)) fe_int (by rfl)) (pw_and1 (ft_cmp (o_neA hr.u64) q_neA (fe_bin op_modN q_mod (fe_callTy q_int call_int1 rfl T.b_int (by decide +kernel) (fa_cons (fe_bin o_mul q_mul (fe_ix (fe_vr (pv 3)) fe_int (fun _ _ => rfl)) (fe_ix (fe_vr (pv 4)) fe_int (fun _ _ => rfl))) fa_nil)) (fe_ix (fe_vr (pv 3)) fe_int (fun _ _ => rfl))) fe_int (by rfl))))) (fss_one (fs_ret fe_bl)) fss_nil)))))))))) (fss_one (fs_ret fe_bl)))
  exact z
theorem ok__law_right {f : Addr} {fd : FuncData} (T : Txt K mg) (Fd : Fun K "_law_right" "_law_right" s__law_right f fd) (hm : mg "_law_right" = some (.ref f)) (C__law_beads : Cal P w K mg base 3 "_law_beads" ["_law_tray", "_law_most", "_law_wide"] [] G__law_beads) (C__law_pick : Cal P w K mg base 2 "_law_pick" ["_law_tray", "_law_menu"] [] G__law_pick) (C__law_turns : Cal P w K mg base 1 "_law_turns" ["_law_beads_here"] [] G__law_turns) (C_signed_turn : Cal P w K mg base 6 "signed_turn" ["string"] [(["string"], 0, [0])] G_signed_turn) (C__law_pair : Cal P w K mg base 2 "_law_pair" ["_law_beads_here"] [] G__law_pair) (C_pair_of : Cal P w K mg base 6 "pair_of" ["string"] [(["string"], 0, [0])] G_pair_of) (C_is_pair : Cal P w K mg base 2 "is_pair" ["value"] [] G_is_pair) (C_backwards : Cal P w K mg base 4 "backwards" ["pair"] [(["pair"], 0, [0])] G_backwards) : Cal P w K mg base 7 "_law_right" ["_law_tray"] [] G__law_right :=
  cal_of Fd hm (fn__law_right T Fd C__law_beads C__law_pick C__law_turns C_signed_turn C__law_pair C_pair_of C_is_pair C_backwards) (fun _ _ _ _ _ _ us hl => match us, hl with | [_], _ => rfl) kb_nil
theorem sc__law_bin : FnScope ["_law_script", "_law_turn", "_law_entry", "_law_stirred", "_law_each"] ["_law_script", "_law_turn"] (defScope s__law_bin) := ⟨rfl, rfl, rfl, by decide +kernel, rfl, by decide +kernel, by decide +kernel⟩
theorem fn__law_bin {f : Addr} {fd : FuncData} (T : Txt K mg) (Fd : Fun K "_law_bin" "_law_bin" s__law_bin f fd)  : FnG P w K mg base 1 f fd ["_law_script", "_law_turn"] (spG K 2 G__law_bin) := by
  have z := fnG (P := P) (w := w) (mg := mg) (base := base) (k := 0) (N := ["_law_script", "_law_turn", "_law_entry", "_law_stirred", "_law_each"]) (ps := ["_law_script", "_law_turn"]) (g := g__law_bin) Fd sc__law_bin fun cdv A outer s H E π W hr tk hp => by exact (fss_cons (fs_set sc__law_bin.nd (i := 2) rfl (Or.inl rfl) (fe_if (ft_cmp op_lt q_cmp (fe_vr (pv 1)) (fe_callB q_len o_len rfl T.b_len (by decide +kernel) (fa_cons (fe_vr (pv 0)) fa_nil)) (by rfl)) (fe_callTy q_int call_int1 rfl T.b_int (by decide +kernel) (fa_cons (fe_ix (fe_vr (pv 0)) (fe_vr (pv 1)) (fun _ _ => rfl)) fa_nil)) (fe_bin o_add q_add (fe_bin o_mul q_mul fe_int (fe_vr (pv 1))) fe_int))) (fss_cons (fs_set sc__law_bin.nd (i := 3) rfl (Or.inl rfl) (fe_bin o_add q_add fe_int (fe_bin o_mul q_mul fe_int (fe_vr (pv 1))))) (fss_cons (fs_for (ks := []) hp rfl (fi_seq (fe_sl (fe_vr (pv 0)) fo_none (fo_some fe_int))) (fg_name sc__law_bin.nd (i := 4) rfl (Or.inl rfl)) (fss_one (fs_set sc__law_bin.nd (i := 3) rfl (Or.inl rfl) (fe_bin op_modN q_mod (fe_callTy q_int call_int1 rfl T.b_int (by decide +kernel) (fa_cons (fe_bin o_add q_add (fe_bin o_add q_add (fe_bin o_mul q_mul (fe_vr (pv 3)) fe_int) (fe_bin op_modN q_mod (fe_callTy q_int call_int1 rfl T.b_int (by decide +kernel) (fa_cons (fe_vr (pv 4)) fa_nil)) fe_int)) (fe_vr (pv 1))) fa_nil)) fe_int)))) (fss_cons (fs_set sc__law_bin.nd (i := 3) rfl (Or.inl rfl) (fe_bin op_modN q_mod (fe_callTy q_int call_int1 rfl T.b_int (by decide +kernel) (fa_cons (fe_bin o_add q_add (fe_bin o_mul q_mul (fe_vr (pv 3)) fe_int) (fe_bin op_modN q_mod (fe_callTy q_int call_int1 rfl T.b_int (by decide +kernel) (fa_cons (fe_vr (pv 2)) fa_nil)) fe_int)) fa_nil)) fe_int)) (fss_one (fs_retM (fm_lst (fa_cons (fe_if (ft_cmp op_ge q_cmp (fe_callB q_abs call_abs rfl T.b_abs (by decide +kernel) (fa_cons (fe_vr (pv 2)) fa_nil)) (fe_bin op_pow q_pow fe_int fe_int) (by rfl)) (fe_callB q_abs call_abs rfl T.b_abs (by decide +kernel) (fa_cons (fe_vr (pv 2)) fa_nil)) fe_int) (fa_cons (fe_vr (pv 3)) (fa_cons fe_int fa_nil))))))))))
  exact z
theorem ok__law_bin {f : Addr} {fd : FuncData} (T : Txt K mg) (Fd : Fun K "_law_bin" "_law_bin" s__law_bin f fd) (hm : mg "_law_bin" = some (.ref f))  : Cal P w K mg base 1 "_law_bin" ["_law_script", "_law_turn"] [] G__law_bin :=
  cal_of Fd hm (fn__law_bin T Fd ) (fun _ _ _ _ _ _ us hl => match us, hl with | [_, _], _ => rfl) kb_nil
theorem sc_law : FnScope ["_law_script", "_law_some", "_law_each", "_law_turn"] ["_law_script"] (defScope s_law) := ⟨rfl, rfl, rfl, by decide +kernel, rfl, by decide +kernel, by decide +kernel⟩
theorem fn_law {f : Addr} {fd : FuncData} (T : Txt K mg) (Fd : Fun K "law" "law" s_law f fd) (C_pair_of : Cal P w K mg base 6 "pair_of" ["string"] [(["string"], 0, [0])] G_pair_of) (C_backwards : Cal P w K mg base 4 "backwards" ["pair"] [(["pair"], 0, [0])] G_backwards) (C_signed_turn : Cal P w K mg base 6 "signed_turn" ["string"] [(["string"], 0, [0])] G_signed_turn) (C__law_right : Cal P w K mg base 7 "_law_right" ["_law_tray"] [] G__law_right) (C__law_bin : Cal P w K mg base 1 "_law_bin" ["_law_script", "_law_turn"] [] G__law_bin) : FnG P w K mg base 8 f fd ["_law_script"] (spG K 1 G_law) := by
  obtain ⟨f_pair_of, fd_pair_of, F_pair_of, m_pair_of, k_pair_of, b_pair_of, q_pair_of⟩ := C_pair_of.ex
  obtain ⟨f_backwards, fd_backwards, F_backwards, m_backwards, k_backwards, b_backwards, q_backwards⟩ := C_backwards.ex
  obtain ⟨f_signed_turn, fd_signed_turn, F_signed_turn, m_signed_turn, k_signed_turn, b_signed_turn, q_signed_turn⟩ := C_signed_turn.ex
  obtain ⟨f__law_right, fd__law_right, F__law_right, m__law_right, k__law_right, b__law_right, q__law_right⟩ := C__law_right.ex
  obtain ⟨f__law_bin, fd__law_bin, F__law_bin, m__law_bin, k__law_bin, b__law_bin, q__law_bin⟩ := C__law_bin.ex
  have z := fnG (P := P) (w := w) (mg := mg) (base := base) (k := 7) (N := ["_law_script", "_law_some", "_law_each", "_law_turn"]) (ps := ["_law_script"]) (g := g_law) Fd sc_law fun cdv A outer s H E π W hr tk hp => by exact (fss_cons (fs_set sc_law.nd (i := 1) rfl (Or.inl rfl) (fe_frz (fm_lst (fa_cons (fe_tup (fa_cons fe_int (fa_cons fe_int fa_nil))) (fa_cons (fe_tup fa_nil) (fa_cons (fe_tup (fa_cons fe_int fa_nil)) (fa_cons (fe_tup (fa_cons (fe_un un_neg q_neg fe_int) fa_nil)) (fa_cons (fe_tup (fa_cons fe_int (fa_cons fe_int fa_nil))) (fa_cons (fe_tup (fa_cons fe_int (fa_cons (fe_un un_neg q_neg fe_int) fa_nil))) (fa_cons (fe_tup (fa_cons fe_int (fa_cons fe_int (fa_cons fe_int fa_nil)))) (fa_cons (fe_tup (fa_cons fe_int (fa_cons fe_int fa_nil))) (fa_cons (fe_tup (fa_cons fe_int (fa_cons fe_int fa_nil))) fa_nil)))))))))))) (fss_cons (fs_if (ft_cmp (o_neA hr.u64) q_neA (fe_frz (fm_lc (own := [("_law_each", 2)]) rfl sc_law.nd (fi_seq (fe_vr (pv 1))) (show BlkOk ["_law_script", "_law_some", "_law_each", "_law_turn"] (defScope s_law) _ _ from blkOk_by (by decide +kernel)) (fun _ _ _ _ _ => (fg_name sc_law.nd (i := 2) rfl (Or.inl rfl))) (fun _ _ _ _ _ => pts_non) (fun _ _ _ _ _ => (fe_call F_pair_of (rm_mono hr (by rfl)) takes_0 rfl m_pair_of k_pair_of b_pair_of (fb_cons (fe_vr (pv 2)) fb_nil))) (by decide))) (fe_frz (fm_lst (fa_cons (fe_tup (fa_cons fe_int (fa_cons fe_int fa_nil))) (fa_cons (fe_tup (fa_cons fe_int (fa_cons fe_int fa_nil))) (fa_cons (fe_tup (fa_cons fe_int (fa_cons fe_int fa_nil))) (fa_cons (fe_tup (fa_cons fe_int (fa_cons fe_int fa_nil))) (fa_cons (fe_tup (fa_cons fe_int (fa_cons fe_int fa_nil))) (fa_cons (fe_tup (fa_cons fe_int (fa_cons fe_int fa_nil))) (fa_cons (fe_tup (fa_cons fe_int (fa_cons fe_int fa_nil))) (fa_cons (fe_tup (fa_cons fe_int (fa_cons fe_int fa_nil))) (fa_cons (fe_tup (fa_cons fe_int (fa_cons fe_int fa_nil))) fa_nil))))))))))) (by rfl)) (fss_one (fs_ret fe_bl)) fss_nil) (fss_cons (fs_if (ft_cmp (o_neA hr.u64) q_neA (fe_frz (fm_lst (fa_cons (fe_call F_signed_turn (rm_mono hr (by rfl)) tk rfl m_signed_turn k_signed_turn b_signed_turn (fb_cons (fe_tup (fa_cons fe_int (fa_cons (fe_un un_neg q_neg fe_int) fa_nil))) fb_nil)) (fa_cons (fe_call F_backwards (rm_mono hr (by rfl)) tk rfl m_backwards k_backwards b_backwards (fb_cons (fe_tup (fa_cons fe_int (fa_cons fe_int fa_nil))) fb_nil)) (fa_cons (fe_call F_backwards (rm_mono hr (by rfl)) tk rfl m_backwards k_backwards b_backwards (fb_cons (fe_tup (fa_cons fe_int (fa_cons fe_int fa_nil))) fb_nil)) (fa_cons (fe_call F_backwards (rm_mono hr (by rfl)) tk rfl m_backwards k_backwards b_backwards (fb_cons (fe_tup (fa_cons fe_int (fa_cons fe_int fa_nil))) fb_nil)) fa_nil)))))) (fe_frz (fm_lst (fa_cons (fe_un un_neg q_neg fe_int) (fa_cons (fe_tup (fa_cons fe_int (fa_cons fe_int fa_nil))) (fa_cons (fe_tup (fa_cons fe_int (fa_cons fe_int fa_nil))) (fa_cons (fe_tup (fa_cons fe_int (fa_cons fe_int fa_nil))) fa_nil)))))) (by rfl)) (fss_one (fs_ret fe_bl)) fss_nil) (fss_one (fs_ret (fe_callB q_all (cr_all rfl) rfl T.b_all (by decide +kernel) (fa_cons (fe_frz (fm_lc (own := [("_law_turn", 3)]) rfl sc_law.nd (fi_range1 rfl T.b_range (fa_cons (fe_callB q_max (call_max2 rfl) rfl T.b_max (by decide +kernel) (fa_cons fe_int (fa_cons (fe_callB q_min (call_min2 rfl) rfl T.b_min (by decide +kernel) (fa_cons (fe_callB q_len o_len rfl T.b_len (by decide +kernel) (fa_cons (fe_vr (pv 0)) fa_nil)) (fa_cons fe_int fa_nil))) fa_nil))) fa_nil)) (show BlkOk ["_law_script", "_law_some", "_law_each", "_law_turn"] (defScope s_law) _ _ from blkOk_by (by decide +kernel)) (fun _ _ _ _ _ => (fg_name sc_law.nd (i := 3) rfl (Or.inl rfl))) (fun _ _ _ _ _ => pts_non) (fun _ _ _ _ _ => (fe_callF F__law_right rfl (rm_mono hr (by rfl)) takes_0 rfl m__law_right k__law_right b__law_right (fm_call F__law_bin (rm_mono hr (by rfl)) takes_0 rfl m__law_bin k__law_bin b__law_bin (fb_cons (fe_vr (pv 0)) (fb_cons (fe_vr (pv 3)) fb_nil))))) (by decide))) fa_nil)))))))
  exact z
end
theorem all_mk {l : PySem.W.OpenLaw} {w : World} {K : PySem.W.Frag} {h : Heap} {mg : Str → Option Value} {fa : Addr} [fe : FE] (hq : ∀ ns : List Int, ns.length ≤ 63 → G_law [.val (.scr ns)] = .ok (.v (.bl true)) []) (X : K.In h) (G : h.Ns mainGlobals mg) (hfa : mg "law" = some (.ref fa))
    {f1 f2 f3 f4 f5 f6 f7 f8 f9 f10 f11 f12 f13 f14 f15 f16 f17 f18 f19 f20 f21 f22 f23 : Addr} {od1 an1 od2 an2 od3 an3 od4 an4 od5 an5 od6 an6 od7 an7 od8 an8 od9 an9 od10 an10 od11 an11 od12 an12 od13 an13 od14 an14 od15 an15 od16 an16 od17 an17 od18 an18 od19 an19 od20 an20 od21 an21 od22 an22 od23 an23 : Option Addr} {sl1 sl2 sl3 sl4 sl5 sl6 sl7 sl8 sl9 sl10 sl11 sl12 sl13 sl14 sl15 sl16 sl17 sl18 sl19 sl20 sl21 sl22 sl23 : Array (Option Value)} {oc1 kV1 dc1 pm1 ct1 cd1 oc2 kV2 dc2 pm2 ct2 cd2 oc3 kV3 dc3 pm3 ct3 cd3 oc4 kV4 dc4 pm4 ct4 cd4 oc5 kV5 dc5 pm5 ct5 cd5 oc6 kV6 dc6 pm6 ct6 cd6 oc7 kV7 dc7 pm7 ct7 cd7 oc8 kV8 dc8 pm8 ct8 cd8 oc9 kV9 dc9 pm9 ct9 cd9 oc10 kV10 dc10 pm10 ct10 cd10 oc11 kV11 dc11 pm11 ct11 cd11 oc12 kV12 dc12 pm12 ct12 cd12 oc13 kV13 dc13 pm13 ct13 cd13 oc14 kV14 dc14 pm14 ct14 cd14 oc15 kV15 dc15 pm15 ct15 cd15 oc16 kV16 dc16 pm16 ct16 cd16 oc17 kV17 dc17 pm17 ct17 cd17 oc18 kV18 dc18 pm18 ct18 cd18 oc19 kV19 dc19 pm19 ct19 cd19 oc20 kV20 dc20 pm20 ct20 cd20 oc21 kV21 dc21 pm21 ct21 cd21 oc22 kV22 dc22 pm22 ct22 cd22 oc23 kV23 dc23 pm23 ct23 cd23 : Value}
    (a1 : PySem.W.nsIn K mainGlobals "is_integer" = some (some (.ref f1))) (l1 : K.lookup f1 = some ⟨oc1, od1, .func (PySem.W.fnOf "is_integer" "is_integer" (defArgs s_is_integer) (defBody s_is_integer) (defScope s_is_integer) .none kV1 dc1 pm1 an1 cd1 ct1), sl1⟩) (c1 : PySem.W.codeIn K cd1 "is_integer" = true) (k1 : PySem.W.keepIn K (.ref f1) = true)
    (a2 : PySem.W.nsIn K mainGlobals "is_between" = some (some (.ref f2))) (l2 : K.lookup f2 = some ⟨oc2, od2, .func (PySem.W.fnOf "is_between" "is_between" (defArgs s_is_between) (defBody s_is_between) (defScope s_is_between) .none kV2 dc2 pm2 an2 cd2 ct2), sl2⟩) (c2 : PySem.W.codeIn K cd2 "is_between" = true) (k2 : PySem.W.keepIn K (.ref f2) = true)
    (a3 : PySem.W.nsIn K mainGlobals "is_bead" = some (some (.ref f3))) (l3 : K.lookup f3 = some ⟨oc3, od3, .func (PySem.W.fnOf "is_bead" "is_bead" (defArgs s_is_bead) (defBody s_is_bead) (defScope s_is_bead) .none kV3 dc3 pm3 an3 cd3 ct3), sl3⟩) (c3 : PySem.W.codeIn K cd3 "is_bead" = true) (k3 : PySem.W.keepIn K (.ref f3) = true)
    (a4 : PySem.W.nsIn K mainGlobals "string_fault" = some (some (.ref f4))) (l4 : K.lookup f4 = some ⟨oc4, od4, .func (PySem.W.fnOf "string_fault" "string_fault" (defArgs s_string_fault) (defBody s_string_fault) (defScope s_string_fault) .none kV4 dc4 pm4 an4 cd4 ct4), sl4⟩) (c4 : PySem.W.codeIn K cd4 "string_fault" = true) (k4 : PySem.W.keepIn K (.ref f4) = true)
    (a5 : PySem.W.nsIn K mainGlobals "check_string" = some (some (.ref f5))) (l5 : K.lookup f5 = some ⟨oc5, od5, .func (PySem.W.fnOf "check_string" "check_string" (defArgs s_check_string) (defBody s_check_string) (defScope s_check_string) .none kV5 dc5 pm5 an5 cd5 ct5), sl5⟩) (c5 : PySem.W.codeIn K cd5 "check_string" = true) (k5 : PySem.W.keepIn K (.ref f5) = true)
    (a6 : PySem.W.nsIn K mainGlobals "turns_of" = some (some (.ref f6))) (l6 : K.lookup f6 = some ⟨oc6, od6, .func (PySem.W.fnOf "turns_of" "turns_of" (defArgs s_turns_of) (defBody s_turns_of) (defScope s_turns_of) .none kV6 dc6 pm6 an6 cd6 ct6), sl6⟩) (c6 : PySem.W.codeIn K cd6 "turns_of" = true) (k6 : PySem.W.keepIn K (.ref f6) = true)
    (a7 : PySem.W.nsIn K mainGlobals "paired" = some (some (.ref f7))) (l7 : K.lookup f7 = some ⟨oc7, od7, .func (PySem.W.fnOf "paired" "paired" (defArgs s_paired) (defBody s_paired) (defScope s_paired) .none kV7 dc7 pm7 an7 cd7 ct7), sl7⟩) (c7 : PySem.W.codeIn K cd7 "paired" = true) (k7 : PySem.W.keepIn K (.ref f7) = true)
    (a8 : PySem.W.nsIn K mainGlobals "pair_for" = some (some (.ref f8))) (l8 : K.lookup f8 = some ⟨oc8, od8, .func (PySem.W.fnOf "pair_for" "pair_for" (defArgs s_pair_for) (defBody s_pair_for) (defScope s_pair_for) .none kV8 dc8 pm8 an8 cd8 ct8), sl8⟩) (c8 : PySem.W.codeIn K cd8 "pair_for" = true) (k8 : PySem.W.keepIn K (.ref f8) = true)
    (a9 : PySem.W.nsIn K mainGlobals "pair_of" = some (some (.ref f9))) (l9 : K.lookup f9 = some ⟨oc9, od9, .func (PySem.W.fnOf "pair_of" "pair_of" (defArgs s_pair_of) (defBody s_pair_of) (defScope s_pair_of) .none kV9 dc9 pm9 an9 cd9 ct9), sl9⟩) (c9 : PySem.W.codeIn K cd9 "pair_of" = true) (k9 : PySem.W.keepIn K (.ref f9) = true)
    (a10 : PySem.W.nsIn K mainGlobals "signed_turn" = some (some (.ref f10))) (l10 : K.lookup f10 = some ⟨oc10, od10, .func (PySem.W.fnOf "signed_turn" "signed_turn" (defArgs s_signed_turn) (defBody s_signed_turn) (defScope s_signed_turn) .none kV10 dc10 pm10 an10 cd10 ct10), sl10⟩) (c10 : PySem.W.codeIn K cd10 "signed_turn" = true) (k10 : PySem.W.keepIn K (.ref f10) = true)
    (a11 : PySem.W.nsIn K mainGlobals "common" = some (some (.ref f11))) (l11 : K.lookup f11 = some ⟨oc11, od11, .func (PySem.W.fnOf "common" "common" (defArgs s_common) (defBody s_common) (defScope s_common) .none kV11 dc11 pm11 an11 cd11 ct11), sl11⟩) (c11 : PySem.W.codeIn K cd11 "common" = true) (k11 : PySem.W.keepIn K (.ref f11) = true)
    (a12 : PySem.W.nsIn K mainGlobals "is_pair" = some (some (.ref f12))) (l12 : K.lookup f12 = some ⟨oc12, od12, .func (PySem.W.fnOf "is_pair" "is_pair" (defArgs s_is_pair) (defBody s_is_pair) (defScope s_is_pair) .none kV12 dc12 pm12 an12 cd12 ct12), sl12⟩) (c12 : PySem.W.codeIn K cd12 "is_pair" = true) (k12 : PySem.W.keepIn K (.ref f12) = true)
    (a13 : PySem.W.nsIn K mainGlobals "check_pair" = some (some (.ref f13))) (l13 : K.lookup f13 = some ⟨oc13, od13, .func (PySem.W.fnOf "check_pair" "check_pair" (defArgs s_check_pair) (defBody s_check_pair) (defScope s_check_pair) .none kV13 dc13 pm13 an13 cd13 ct13), sl13⟩) (c13 : PySem.W.codeIn K cd13 "check_pair" = true) (k13 : PySem.W.keepIn K (.ref f13) = true)
    (a14 : PySem.W.nsIn K mainGlobals "inverse" = some (some (.ref f14))) (l14 : K.lookup f14 = some ⟨oc14, od14, .func (PySem.W.fnOf "inverse" "inverse" (defArgs s_inverse) (defBody s_inverse) (defScope s_inverse) .none kV14 dc14 pm14 an14 cd14 ct14), sl14⟩) (c14 : PySem.W.codeIn K cd14 "inverse" = true) (k14 : PySem.W.keepIn K (.ref f14) = true)
    (a15 : PySem.W.nsIn K mainGlobals "backwards" = some (some (.ref f15))) (l15 : K.lookup f15 = some ⟨oc15, od15, .func (PySem.W.fnOf "backwards" "backwards" (defArgs s_backwards) (defBody s_backwards) (defScope s_backwards) .none kV15 dc15 pm15 an15 cd15 ct15), sl15⟩) (c15 : PySem.W.codeIn K cd15 "backwards" = true) (k15 : PySem.W.keepIn K (.ref f15) = true)
    (a16 : PySem.W.nsIn K mainGlobals "_law_sip" = some (some (.ref f16))) (l16 : K.lookup f16 = some ⟨oc16, od16, .func (PySem.W.fnOf "_law_sip" "_law_sip" (defArgs s__law_sip) (defBody s__law_sip) (defScope s__law_sip) .none kV16 dc16 pm16 an16 cd16 ct16), sl16⟩) (c16 : PySem.W.codeIn K cd16 "_law_sip" = true) (k16 : PySem.W.keepIn K (.ref f16) = true)
    (a17 : PySem.W.nsIn K mainGlobals "_law_pick" = some (some (.ref f17))) (l17 : K.lookup f17 = some ⟨oc17, od17, .func (PySem.W.fnOf "_law_pick" "_law_pick" (defArgs s__law_pick) (defBody s__law_pick) (defScope s__law_pick) .none kV17 dc17 pm17 an17 cd17 ct17), sl17⟩) (c17 : PySem.W.codeIn K cd17 "_law_pick" = true) (k17 : PySem.W.keepIn K (.ref f17) = true)
    (a18 : PySem.W.nsIn K mainGlobals "_law_beads" = some (some (.ref f18))) (l18 : K.lookup f18 = some ⟨oc18, od18, .func (PySem.W.fnOf "_law_beads" "_law_beads" (defArgs s__law_beads) (defBody s__law_beads) (defScope s__law_beads) .none kV18 dc18 pm18 an18 cd18 ct18), sl18⟩) (c18 : PySem.W.codeIn K cd18 "_law_beads" = true) (k18 : PySem.W.keepIn K (.ref f18) = true)
    (a19 : PySem.W.nsIn K mainGlobals "_law_turns" = some (some (.ref f19))) (l19 : K.lookup f19 = some ⟨oc19, od19, .func (PySem.W.fnOf "_law_turns" "_law_turns" (defArgs s__law_turns) (defBody s__law_turns) (defScope s__law_turns) .none kV19 dc19 pm19 an19 cd19 ct19), sl19⟩) (c19 : PySem.W.codeIn K cd19 "_law_turns" = true) (k19 : PySem.W.keepIn K (.ref f19) = true)
    (a20 : PySem.W.nsIn K mainGlobals "_law_pair" = some (some (.ref f20))) (l20 : K.lookup f20 = some ⟨oc20, od20, .func (PySem.W.fnOf "_law_pair" "_law_pair" (defArgs s__law_pair) (defBody s__law_pair) (defScope s__law_pair) .none kV20 dc20 pm20 an20 cd20 ct20), sl20⟩) (c20 : PySem.W.codeIn K cd20 "_law_pair" = true) (k20 : PySem.W.keepIn K (.ref f20) = true)
    (a21 : PySem.W.nsIn K mainGlobals "_law_right" = some (some (.ref f21))) (l21 : K.lookup f21 = some ⟨oc21, od21, .func (PySem.W.fnOf "_law_right" "_law_right" (defArgs s__law_right) (defBody s__law_right) (defScope s__law_right) .none kV21 dc21 pm21 an21 cd21 ct21), sl21⟩) (c21 : PySem.W.codeIn K cd21 "_law_right" = true) (k21 : PySem.W.keepIn K (.ref f21) = true)
    (a22 : PySem.W.nsIn K mainGlobals "_law_bin" = some (some (.ref f22))) (l22 : K.lookup f22 = some ⟨oc22, od22, .func (PySem.W.fnOf "_law_bin" "_law_bin" (defArgs s__law_bin) (defBody s__law_bin) (defScope s__law_bin) .none kV22 dc22 pm22 an22 cd22 ct22), sl22⟩) (c22 : PySem.W.codeIn K cd22 "_law_bin" = true) (k22 : PySem.W.keepIn K (.ref f22) = true)
    (a23 : PySem.W.nsIn K mainGlobals "law" = some (some (.ref f23))) (l23 : K.lookup f23 = some ⟨oc23, od23, .func (PySem.W.fnOf "law" "law" (defArgs s_law) (defBody s_law) (defScope s_law) .none kV23 dc23 pm23 an23 cd23 ct23), sl23⟩) (c23 : PySem.W.codeIn K cd23 "law" = true) (k23 : PySem.W.keepIn K (.ref f23) = true)
    (z_abs : PySem.W.nsIn K mainGlobals "abs" = some none)
    (z_all : PySem.W.nsIn K mainGlobals "all" = some none)
    (z_bool : PySem.W.nsIn K mainGlobals "bool" = some none)
    (z_enumerate : PySem.W.nsIn K mainGlobals "enumerate" = some none)
    (z_int : PySem.W.nsIn K mainGlobals "int" = some none)
    (z_isinstance : PySem.W.nsIn K mainGlobals "isinstance" = some none)
    (z_len : PySem.W.nsIn K mainGlobals "len" = some none)
    (z_max : PySem.W.nsIn K mainGlobals "max" = some none)
    (z_min : PySem.W.nsIn K mainGlobals "min" = some none)
    (z_range : PySem.W.nsIn K mainGlobals "range" = some none)
    (z_repr : PySem.W.nsIn K mainGlobals "repr" = some none)
    (z_tuple : PySem.W.nsIn K mainGlobals "tuple" = some none)
    (y_MOST_BEADS : ∃ t : Tok, mg "MOST_BEADS" = some (.int 200 t))
    (y_MOST_NUMBER : ∃ t : Tok, mg "MOST_NUMBER" = some (.int 1000000000 t))
    (hfe : fe = feOf [] [])
    (hdg : digB K = true)
    : LawG l w K 8 63 "_law_script" mg fa h G_law := by
  have e := hfa.symm.trans (PySem.W.mg_of X G a23)
  cases e
  have T : Txt K mg := ⟨hdg, PySem.W.mg_none_of X G z_abs, PySem.W.mg_none_of X G z_all, PySem.W.mg_none_of X G z_bool, PySem.W.mg_none_of X G z_enumerate, PySem.W.mg_none_of X G z_int, PySem.W.mg_none_of X G z_isinstance, PySem.W.mg_none_of X G z_len, PySem.W.mg_none_of X G z_max, PySem.W.mg_none_of X G z_min, PySem.W.mg_none_of X G z_range, PySem.W.mg_none_of X G z_repr, PySem.W.mg_none_of X G z_tuple, y_MOST_BEADS, y_MOST_NUMBER⟩
  have F1 := fun_mk (st := s_is_integer) l1 c1 k1
  have F2 := fun_mk (st := s_is_between) l2 c2 k2
  have F3 := fun_mk (st := s_is_bead) l3 c3 k3
  have F4 := fun_mk (st := s_string_fault) l4 c4 k4
  have F5 := fun_mk (st := s_check_string) l5 c5 k5
  have F6 := fun_mk (st := s_turns_of) l6 c6 k6
  have F7 := fun_mk (st := s_paired) l7 c7 k7
  have F8 := fun_mk (st := s_pair_for) l8 c8 k8
  have F9 := fun_mk (st := s_pair_of) l9 c9 k9
  have F10 := fun_mk (st := s_signed_turn) l10 c10 k10
  have F11 := fun_mk (st := s_common) l11 c11 k11
  have F12 := fun_mk (st := s_is_pair) l12 c12 k12
  have F13 := fun_mk (st := s_check_pair) l13 c13 k13
  have F14 := fun_mk (st := s_inverse) l14 c14 k14
  have F15 := fun_mk (st := s_backwards) l15 c15 k15
  have F16 := fun_mk (st := s__law_sip) l16 c16 k16
  have F17 := fun_mk (st := s__law_pick) l17 c17 k17
  have F18 := fun_mk (st := s__law_beads) l18 c18 k18
  have F19 := fun_mk (st := s__law_turns) l19 c19 k19
  have F20 := fun_mk (st := s__law_pair) l20 c20 k20
  have F21 := fun_mk (st := s__law_right) l21 c21 k21
  have F22 := fun_mk (st := s__law_bin) l22 c22 k22
  have F23 := fun_mk (st := s_law) l23 c23 k23
  refine ⟨fe, PySem.W.fnOf "law" "law" (defArgs s_law) (defBody s_law) (defScope s_law) .none kV23 dc23 pm23 an23 cd23 ct23, [], codes0, ?_, ?_, ?_, fun ns hl _ => hq ns hl⟩
  · intro p hp
    rw [hfe] at hp
    exact absurd (show p ∈ ([] : List (Addr × Str)) from hp) List.not_mem_nil
  · exact fun s v => .of_eq rfl
  · intro base _ _ hTB
    have D1 := ok_is_integer (P := l.prog) (w := w) (base := base) T F1 (PySem.W.mg_of X G a1) 
    have D2 := ok_is_between (P := l.prog) (w := w) (base := base) T F2 (PySem.W.mg_of X G a2) D1
    have D3 := ok_is_bead (P := l.prog) (w := w) (base := base) T F3 (PySem.W.mg_of X G a3) D2
    have D4 := ok_string_fault (P := l.prog) (w := w) (base := base) T F4 (PySem.W.mg_of X G a4) D3
    have D5 := ok_check_string (P := l.prog) (w := w) (base := base) T F5 (PySem.W.mg_of X G a5) D4
    have D6 := ok_turns_of (P := l.prog) (w := w) (base := base) T F6 (PySem.W.mg_of X G a6) 
    have D7 := ok_paired (P := l.prog) (w := w) (base := base) T F7 (PySem.W.mg_of X G a7) 
    have D8 := ok_pair_for (P := l.prog) (w := w) (base := base) T F8 (PySem.W.mg_of X G a8) D6 D7
    have D9 := ok_pair_of (P := l.prog) (w := w) (base := base) T F9 (PySem.W.mg_of X G a9) D5 D8
    have D10 := ok_signed_turn (P := l.prog) (w := w) (base := base) T F10 (PySem.W.mg_of X G a10) D5 D6
    have D11 := ok_common (P := l.prog) (w := w) (base := base) T F11 (PySem.W.mg_of X G a11) 
    have D12 := ok_is_pair (P := l.prog) (w := w) (base := base) T F12 (PySem.W.mg_of X G a12) D1 D11
    have D13 := ok_check_pair (P := l.prog) (w := w) (base := base) T F13 (PySem.W.mg_of X G a13) D12
    have D14 := ok_inverse (P := l.prog) (w := w) (base := base) T F14 (PySem.W.mg_of X G a14) 
    have D15 := ok_backwards (P := l.prog) (w := w) (base := base) T F15 (PySem.W.mg_of X G a15) D13 D14
    have D16 := ok__law_sip (P := l.prog) (w := w) (base := base) T F16 (PySem.W.mg_of X G a16) 
    have D17 := ok__law_pick (P := l.prog) (w := w) (base := base) T F17 (PySem.W.mg_of X G a17) D16
    have D18 := ok__law_beads (P := l.prog) (w := w) (base := base) T F18 (PySem.W.mg_of X G a18) D16 D17
    have D19 := ok__law_turns (P := l.prog) (w := w) (base := base) T F19 (PySem.W.mg_of X G a19) 
    have D20 := ok__law_pair (P := l.prog) (w := w) (base := base) T F20 (PySem.W.mg_of X G a20) D19
    have D21 := ok__law_right (P := l.prog) (w := w) (base := base) T F21 (PySem.W.mg_of X G a21) D18 D17 D19 D10 D20 D9 D12 D15
    have D22 := ok__law_bin (P := l.prog) (w := w) (base := base) T F22 (PySem.W.mg_of X G a22) 
    exact fn_law T F23 D9 D15 D10 D21 D22
end Wk
namespace Wk
section
open PySem PySem.Spec PyProof.Rows L2 FL
local instance : FE := FL.fe0
theorem cmpM_of {ks : List Nat} {it : IF} {g : GF} {t : TF} {f : EF} {ρ ρ0 ρ1 ρ2 : Rho} {ds ys : List D} (h1 : it ρ = .ok ds ρ0) (h2 : cmpL ks g t f [] ds (wipeR ks ρ0) = .ok (.lst ys) ρ1) (h3 : resR ks ρ0 ρ1 = some ρ2) : cmpM ks it g t f ρ = .ok (.lst ys) ρ2 := by
  show (it ρ).bind _ = _
  rw [h1]
  show (cmpL ks g t f [] ds (wipeR ks ρ0)).bind _ = _
  rw [h2]
  show bindO (resR ks ρ0 ρ1) _ = _
  rw [h3]
  rfl
theorem frz_of {f : Rho → R M} {ρ ρ1 : Rho} {ys : List D} (h : f ρ = .ok (.lst ys) ρ1) : frz f ρ = .ok (.lst ys) ρ1 := by
  show (f ρ).bind _ = _
  rw [h]
  rfl
theorem op2_of {o : D → D → Option D} {f g : EF} {ρ ρ1 ρ2 : Rho} {x y z : D} (h1 : f ρ = .ok x ρ1) (h2 : g ρ1 = .ok y ρ2) (h3 : o x y = some z) : op2 o f g ρ = .ok z ρ2 := by
  show (f ρ).bind _ = _
  rw [h1]
  show (g ρ1).bind _ = _
  rw [h2]
  show R.of (o x y) ρ2 = _
  rw [h3]
  rfl
theorem tst_of {f : EF} {ρ ρ1 : Rho} {b : Bool} (h : f ρ = .ok (.bl b) ρ1) : tst f ρ = .ok b ρ1 := by
  show (f ρ).bind _ = _
  rw [h]
  rfl
theorem rng1_ok {g : Rho → R (List D)} {ρ ρ' : Rho} {n : Int} (h : g ρ = .ok [.int n] ρ') (hr : rgOk n = true) : rng1 g ρ = .ok (rangeL 0 n.toNat) ρ' := by
  unfold rng1
  rw [h, R.ok_bind]
  show R.of (if rgOk n = true then some (rangeL 0 n.toNat) else none) ρ' = _
  rw [if_pos hr]
  rfl
theorem rng2_ok {g : Rho → R (List D)} {ρ ρ' : Rho} {m n : Int} (h : g ρ = .ok [.int m, .int n] ρ') (hm : rgOk m = true) (hn : rgOk n = true) : rng2 g ρ = .ok (rangeL m (n - m).toNat) ρ' := by
  unfold rng2
  rw [h, R.ok_bind]
  show R.of (if rgOk m = true ∧ rgOk n = true then some (rangeL m (n - m).toNat) else none) ρ' = _
  rw [if_pos ⟨hm, hn⟩]
  rfl

def isInt : D → Bool
  | .int _ => true
  | _ => false
theorem isInt_of {d : D} (h : isInt d = true) : ∃ i, d = .int i := by
  cases d <;> first | exact ⟨_, rfl⟩ | cases h
theorem is_integer_ok {d : D} (h : (typD d).isSome = true) : G_is_integer [.val d] = .ok (.v (.bl (isInt d))) [] := by
  cases d <;> first | (cases h; done) | (simp only [G_is_integer, g_is_integer, seqS_eq, nxS, bkS, ctS, nxt_nx, nxt_rt, nxt_bk, nxt_ct, ifS_eq, ifE_eq, brR_t, brR_f, brR_dec, anT_eq, orT_eq, anE_eq, orE_eq, tst_eq, isB_bl, ↓R.bind_bd, R.bd_ok, R.of_some, noT, blE, vr, cst, op1, op2, setS, setR, nxO, asgS, tupG, cnsG, nilG, nmG, subGO, subG, subS, getM, ixM, putO, cnsA, nilA, dTup, dLst, frz, retS, retM, setM, exS, mutS, appO, opC, callE, callM, callG_eq, cnsB, nilB, slB, kwB, ioM, toArgs, okA, slsA, nodN, argG_some, goG_ok, asE, asM, putA, newM, putM, parS, par3S, frzS, frzAt, bindO, endR_rt, endR_nx, endG, FL.collect, bodyG_eq, rho0, toS, wipeR, FL.pick, tru, truD, chn, lenM, slM, slF, noO, smO, catO, catM, litM, isiD, typD, isTy, R.bd_exc, cauE_eq, goG_exc, endR_exc,   List.getElem?_cons_zero, List.getElem?_cons_succ, List.getElem?_nil, List.set_cons_zero, List.set_cons_succ, List.set_nil, List.length_cons, List.length_nil, List.mapIdx_cons, List.mapIdx_nil, List.map_cons, List.map_nil, List.replicate_succ, List.replicate_zero, List.cons_append, List.nil_append, List.append_nil, List.foldl_cons, List.foldl_nil, List.filterMap_cons, List.filterMap_nil, Option.map_some, Option.map_none, Option.bind_some, Option.bind_none, Bool.not_true, Bool.not_false, Bool.and_true, Bool.true_and, Bool.or_true, Bool.and_self, if_true, if_false,   eqA_int, neA_int, eqA_str, neA_str, ltD_int, leD_int, gtD_int, geD_int, addD_int, subD_int, negD_int, absC_int, intC_int, maxC_int, minC_int, lenC_lst, lenC_tup, lenC_scr, Int.cast_ofNat_Int, Int.natCast_zero, Int.natCast_one,   ↓reduceIte, Nat.reduceAdd, Nat.reduceSub, Nat.reduceMul, Nat.reduceLT, Nat.reduceLeDiff, Nat.reduceBEq, Nat.reduceBneDiff, Nat.reduceEqDiff, Nat.reducePow, Int.reduceLT, Int.reduceLE, Int.reduceEq, Int.reduceNe, Int.reduceAdd, Int.reduceSub, Int.reduceMul, Int.reduceNeg, Int.reducePow, Int.reduceToNat, decide_true, decide_false, decide_eq_true_eq, Bool.false_eq_true, List.contains_nil, List.contains_cons, Bool.or_false, Bool.or_self, eq_self, and_self, and_true, true_and, isInt])
theorem is_integer_int (i : Int) : G_is_integer [.val (.int i)] = .ok (.v (.bl true)) [] := is_integer_ok rfl

theorem is_between_int (i l m : Int) : G_is_between [.val (.int i), .val (.int l), .val (.int m)] = .ok (.v (.bl (decide (l ≤ i) && decide (i ≤ m)))) [] := by
  by_cases h : l ≤ i
  · simp only [G_is_between, g_is_between, seqS_eq, nxS, bkS, ctS, nxt_nx, nxt_rt, nxt_bk, nxt_ct, ifS_eq, ifE_eq, brR_t, brR_f, brR_dec, anT_eq, orT_eq, anE_eq, orE_eq, tst_eq, isB_bl, ↓R.bind_bd, R.bd_ok, R.of_some, noT, blE, vr, cst, op1, op2, setS, setR, nxO, asgS, tupG, cnsG, nilG, nmG, subGO, subG, subS, getM, ixM, putO, cnsA, nilA, dTup, dLst, frz, retS, retM, setM, exS, mutS, appO, opC, callE, callM, callG_eq, cnsB, nilB, slB, kwB, ioM, toArgs, okA, slsA, nodN, argG_some, goG_ok, asE, asM, putA, newM, putM, parS, par3S, frzS, frzAt, bindO, endR_rt, endR_nx, endG, FL.collect, bodyG_eq, rho0, toS, wipeR, FL.pick, tru, truD, chn, lenM, slM, slF, noO, smO, catO, catM, litM, isiD, typD, isTy, R.bd_exc, cauE_eq, goG_exc, endR_exc,   List.getElem?_cons_zero, List.getElem?_cons_succ, List.getElem?_nil, List.set_cons_zero, List.set_cons_succ, List.set_nil, List.length_cons, List.length_nil, List.mapIdx_cons, List.mapIdx_nil, List.map_cons, List.map_nil, List.replicate_succ, List.replicate_zero, List.cons_append, List.nil_append, List.append_nil, List.foldl_cons, List.foldl_nil, List.filterMap_cons, List.filterMap_nil, Option.map_some, Option.map_none, Option.bind_some, Option.bind_none, Bool.not_true, Bool.not_false, Bool.and_true, Bool.true_and, Bool.or_true, Bool.and_self, if_true, if_false,   eqA_int, neA_int, eqA_str, neA_str, ltD_int, leD_int, gtD_int, geD_int, addD_int, subD_int, negD_int, absC_int, intC_int, maxC_int, minC_int, lenC_lst, lenC_tup, lenC_scr, Int.cast_ofNat_Int, Int.natCast_zero, Int.natCast_one,   ↓reduceIte, Nat.reduceAdd, Nat.reduceSub, Nat.reduceMul, Nat.reduceLT, Nat.reduceLeDiff, Nat.reduceBEq, Nat.reduceBneDiff, Nat.reduceEqDiff, Nat.reducePow, Int.reduceLT, Int.reduceLE, Int.reduceEq, Int.reduceNe, Int.reduceAdd, Int.reduceSub, Int.reduceMul, Int.reduceNeg, Int.reducePow, Int.reduceToNat, decide_true, decide_false, decide_eq_true_eq, Bool.false_eq_true, List.contains_nil, List.contains_cons, Bool.or_false, Bool.or_self, eq_self, and_self, and_true, true_and, is_integer_int, h]
  · simp only [G_is_between, g_is_between, seqS_eq, nxS, bkS, ctS, nxt_nx, nxt_rt, nxt_bk, nxt_ct, ifS_eq, ifE_eq, brR_t, brR_f, brR_dec, anT_eq, orT_eq, anE_eq, orE_eq, tst_eq, isB_bl, ↓R.bind_bd, R.bd_ok, R.of_some, noT, blE, vr, cst, op1, op2, setS, setR, nxO, asgS, tupG, cnsG, nilG, nmG, subGO, subG, subS, getM, ixM, putO, cnsA, nilA, dTup, dLst, frz, retS, retM, setM, exS, mutS, appO, opC, callE, callM, callG_eq, cnsB, nilB, slB, kwB, ioM, toArgs, okA, slsA, nodN, argG_some, goG_ok, asE, asM, putA, newM, putM, parS, par3S, frzS, frzAt, bindO, endR_rt, endR_nx, endG, FL.collect, bodyG_eq, rho0, toS, wipeR, FL.pick, tru, truD, chn, lenM, slM, slF, noO, smO, catO, catM, litM, isiD, typD, isTy, R.bd_exc, cauE_eq, goG_exc, endR_exc,   List.getElem?_cons_zero, List.getElem?_cons_succ, List.getElem?_nil, List.set_cons_zero, List.set_cons_succ, List.set_nil, List.length_cons, List.length_nil, List.mapIdx_cons, List.mapIdx_nil, List.map_cons, List.map_nil, List.replicate_succ, List.replicate_zero, List.cons_append, List.nil_append, List.append_nil, List.foldl_cons, List.foldl_nil, List.filterMap_cons, List.filterMap_nil, Option.map_some, Option.map_none, Option.bind_some, Option.bind_none, Bool.not_true, Bool.not_false, Bool.and_true, Bool.true_and, Bool.or_true, Bool.and_self, if_true, if_false,   eqA_int, neA_int, eqA_str, neA_str, ltD_int, leD_int, gtD_int, geD_int, addD_int, subD_int, negD_int, absC_int, intC_int, maxC_int, minC_int, lenC_lst, lenC_tup, lenC_scr, Int.cast_ofNat_Int, Int.natCast_zero, Int.natCast_one,   ↓reduceIte, Nat.reduceAdd, Nat.reduceSub, Nat.reduceMul, Nat.reduceLT, Nat.reduceLeDiff, Nat.reduceBEq, Nat.reduceBneDiff, Nat.reduceEqDiff, Nat.reducePow, Int.reduceLT, Int.reduceLE, Int.reduceEq, Int.reduceNe, Int.reduceAdd, Int.reduceSub, Int.reduceMul, Int.reduceNeg, Int.reducePow, Int.reduceToNat, decide_true, decide_false, decide_eq_true_eq, Bool.false_eq_true, List.contains_nil, List.contains_cons, Bool.or_false, Bool.or_self, eq_self, and_self, and_true, true_and, is_integer_int, h, Bool.false_and]
theorem is_between_no {d : D} {l m : D} (h : (typD d).isSome = true) (hi : isInt d = false) : G_is_between [.val d, .val l, .val m] = .ok (.v (.bl false)) [] := by
  simp only [G_is_between, g_is_between, seqS_eq, nxS, bkS, ctS, nxt_nx, nxt_rt, nxt_bk, nxt_ct, ifS_eq, ifE_eq, brR_t, brR_f, brR_dec, anT_eq, orT_eq, anE_eq, orE_eq, tst_eq, isB_bl, ↓R.bind_bd, R.bd_ok, R.of_some, noT, blE, vr, cst, op1, op2, setS, setR, nxO, asgS, tupG, cnsG, nilG, nmG, subGO, subG, subS, getM, ixM, putO, cnsA, nilA, dTup, dLst, frz, retS, retM, setM, exS, mutS, appO, opC, callE, callM, callG_eq, cnsB, nilB, slB, kwB, ioM, toArgs, okA, slsA, nodN, argG_some, goG_ok, asE, asM, putA, newM, putM, parS, par3S, frzS, frzAt, bindO, endR_rt, endR_nx, endG, FL.collect, bodyG_eq, rho0, toS, wipeR, FL.pick, tru, truD, chn, lenM, slM, slF, noO, smO, catO, catM, litM, isiD, typD, isTy, R.bd_exc, cauE_eq, goG_exc, endR_exc,   List.getElem?_cons_zero, List.getElem?_cons_succ, List.getElem?_nil, List.set_cons_zero, List.set_cons_succ, List.set_nil, List.length_cons, List.length_nil, List.mapIdx_cons, List.mapIdx_nil, List.map_cons, List.map_nil, List.replicate_succ, List.replicate_zero, List.cons_append, List.nil_append, List.append_nil, List.foldl_cons, List.foldl_nil, List.filterMap_cons, List.filterMap_nil, Option.map_some, Option.map_none, Option.bind_some, Option.bind_none, Bool.not_true, Bool.not_false, Bool.and_true, Bool.true_and, Bool.or_true, Bool.and_self, if_true, if_false,   eqA_int, neA_int, eqA_str, neA_str, ltD_int, leD_int, gtD_int, geD_int, addD_int, subD_int, negD_int, absC_int, intC_int, maxC_int, minC_int, lenC_lst, lenC_tup, lenC_scr, Int.cast_ofNat_Int, Int.natCast_zero, Int.natCast_one,   ↓reduceIte, Nat.reduceAdd, Nat.reduceSub, Nat.reduceMul, Nat.reduceLT, Nat.reduceLeDiff, Nat.reduceBEq, Nat.reduceBneDiff, Nat.reduceEqDiff, Nat.reducePow, Int.reduceLT, Int.reduceLE, Int.reduceEq, Int.reduceNe, Int.reduceAdd, Int.reduceSub, Int.reduceMul, Int.reduceNeg, Int.reducePow, Int.reduceToNat, decide_true, decide_false, decide_eq_true_eq, Bool.false_eq_true, List.contains_nil, List.contains_cons, Bool.or_false, Bool.or_self, eq_self, and_self, and_true, true_and, is_integer_ok h, hi]

/-- a whole number from l to m -/
def betw (d : D) (l m : Int) : Bool := match d with
  | .int i => decide (l ≤ i) && decide (i ≤ m)
  | _ => false
theorem is_between_ok {d : D} (l m : Int) (h : (typD d).isSome = true) : G_is_between [.val d, .val (.int l), .val (.int m)] = .ok (.v (.bl (betw d l m))) [] := by
  cases hi : isInt d with
  | true =>
    obtain ⟨i, rfl⟩ := isInt_of hi
    exact is_between_int i l m
  | false =>
    rw [is_between_no h hi]
    cases d <;> first | rfl | cases hi
def beadB (d : D) : Bool := betw d (-1000000000) 1000000000
theorem is_bead_ok {d : D} (h : (typD d).isSome = true) : G_is_bead [.val d] = .ok (.v (.bl (beadB d))) [] := by
  have := is_between_ok (-1000000000) 1000000000 h
  simp only [G_is_bead, g_is_bead, seqS_eq, nxS, bkS, ctS, nxt_nx, nxt_rt, nxt_bk, nxt_ct, ifS_eq, ifE_eq, brR_t, brR_f, brR_dec, anT_eq, orT_eq, anE_eq, orE_eq, tst_eq, isB_bl, ↓R.bind_bd, R.bd_ok, R.of_some, noT, blE, vr, cst, op1, op2, setS, setR, nxO, asgS, tupG, cnsG, nilG, nmG, subGO, subG, subS, getM, ixM, putO, cnsA, nilA, dTup, dLst, frz, retS, retM, setM, exS, mutS, appO, opC, callE, callM, callG_eq, cnsB, nilB, slB, kwB, ioM, toArgs, okA, slsA, nodN, argG_some, goG_ok, asE, asM, putA, newM, putM, parS, par3S, frzS, frzAt, bindO, endR_rt, endR_nx, endG, FL.collect, bodyG_eq, rho0, toS, wipeR, FL.pick, tru, truD, chn, lenM, slM, slF, noO, smO, catO, catM, litM, isiD, typD, isTy, R.bd_exc, cauE_eq, goG_exc, endR_exc,   List.getElem?_cons_zero, List.getElem?_cons_succ, List.getElem?_nil, List.set_cons_zero, List.set_cons_succ, List.set_nil, List.length_cons, List.length_nil, List.mapIdx_cons, List.mapIdx_nil, List.map_cons, List.map_nil, List.replicate_succ, List.replicate_zero, List.cons_append, List.nil_append, List.append_nil, List.foldl_cons, List.foldl_nil, List.filterMap_cons, List.filterMap_nil, Option.map_some, Option.map_none, Option.bind_some, Option.bind_none, Bool.not_true, Bool.not_false, Bool.and_true, Bool.true_and, Bool.or_true, Bool.and_self, if_true, if_false,   eqA_int, neA_int, eqA_str, neA_str, ltD_int, leD_int, gtD_int, geD_int, addD_int, subD_int, negD_int, absC_int, intC_int, maxC_int, minC_int, lenC_lst, lenC_tup, lenC_scr, Int.cast_ofNat_Int, Int.natCast_zero, Int.natCast_one,   ↓reduceIte, Nat.reduceAdd, Nat.reduceSub, Nat.reduceMul, Nat.reduceLT, Nat.reduceLeDiff, Nat.reduceBEq, Nat.reduceBneDiff, Nat.reduceEqDiff, Nat.reducePow, Int.reduceLT, Int.reduceLE, Int.reduceEq, Int.reduceNe, Int.reduceAdd, Int.reduceSub, Int.reduceMul, Int.reduceNeg, Int.reducePow, Int.reduceToNat, decide_true, decide_false, decide_eq_true_eq, Bool.false_eq_true, List.contains_nil, List.contains_cons, Bool.or_false, Bool.or_self, eq_self, and_self, and_true, true_and, this, beadB]
def isTup : D → Bool
  | .tup _ => true
  | _ => false
/-- what is wrong with a string -/
def faultD : D → D
  | .tup xs => if 200 < xs.length then .non else match firstI (fun d => !beadB d) 0 xs with
    | some i => .int (i : Int)
    | none => .int (-1)
  | _ => .non
/-- what may be handed over as a string -/
def strB : D → Bool
  | .tup xs => small xs.length && xs.all fun x => (typD x).isSome
  | d => (typD d).isSome
theorem string_fault_ok {d : D} (h : strB d = true) : G_string_fault [.val d] = .ok (.v (faultD d)) [] := by
  cases d with
  | tup xs =>
    obtain ⟨h1, h2⟩ := Bool.and_eq_true_iff.mp h
    have hl : xs.length ≤ 100000 := of_decide_eq_true h1
    by_cases c : 200 < xs.length
    · have c' : (200 : Int) < xs.length := by omega
      simp only [G_string_fault, g_string_fault, seqS_eq, nxS, bkS, ctS, nxt_nx, nxt_rt, nxt_bk, nxt_ct, ifS_eq, ifE_eq, brR_t, brR_f, brR_dec, anT_eq, orT_eq, anE_eq, orE_eq, tst_eq, isB_bl, ↓R.bind_bd, R.bd_ok, R.of_some, noT, blE, vr, cst, op1, op2, setS, setR, nxO, asgS, tupG, cnsG, nilG, nmG, subGO, subG, subS, getM, ixM, putO, cnsA, nilA, dTup, dLst, frz, retS, retM, setM, exS, mutS, appO, opC, callE, callM, callG_eq, cnsB, nilB, slB, kwB, ioM, toArgs, okA, slsA, nodN, argG_some, goG_ok, asE, asM, putA, newM, putM, parS, par3S, frzS, frzAt, bindO, endR_rt, endR_nx, endG, FL.collect, bodyG_eq, rho0, toS, wipeR, FL.pick, tru, truD, chn, lenM, slM, slF, noO, smO, catO, catM, litM, isiD, typD, isTy, R.bd_exc, cauE_eq, goG_exc, endR_exc,   List.getElem?_cons_zero, List.getElem?_cons_succ, List.getElem?_nil, List.set_cons_zero, List.set_cons_succ, List.set_nil, List.length_cons, List.length_nil, List.mapIdx_cons, List.mapIdx_nil, List.map_cons, List.map_nil, List.replicate_succ, List.replicate_zero, List.cons_append, List.nil_append, List.append_nil, List.foldl_cons, List.foldl_nil, List.filterMap_cons, List.filterMap_nil, Option.map_some, Option.map_none, Option.bind_some, Option.bind_none, Bool.not_true, Bool.not_false, Bool.and_true, Bool.true_and, Bool.or_true, Bool.and_self, if_true, if_false,   eqA_int, neA_int, eqA_str, neA_str, ltD_int, leD_int, gtD_int, geD_int, addD_int, subD_int, negD_int, absC_int, intC_int, maxC_int, minC_int, lenC_lst, lenC_tup, lenC_scr, Int.cast_ofNat_Int, Int.natCast_zero, Int.natCast_one,   ↓reduceIte, Nat.reduceAdd, Nat.reduceSub, Nat.reduceMul, Nat.reduceLT, Nat.reduceLeDiff, Nat.reduceBEq, Nat.reduceBneDiff, Nat.reduceEqDiff, Nat.reducePow, Int.reduceLT, Int.reduceLE, Int.reduceEq, Int.reduceNe, Int.reduceAdd, Int.reduceSub, Int.reduceMul, Int.reduceNeg, Int.reducePow, Int.reduceToNat, decide_true, decide_false, decide_eq_true_eq, Bool.false_eq_true, List.contains_nil, List.contains_cons, Bool.or_false, Bool.or_self, eq_self, and_self, and_true, true_and, faultD, c, c']
    · have c' : ¬ (200 : Int) < xs.length := by omega
      have hc : cmpM [2, 3] (enmI (vr 0)) (tupG 2 (cnsG (nmG 2) (cnsG (nmG 3) nilG))) (noT (tst (callE 1 G_is_bead (cnsB (vr 3) nilB)))) (vr 2) [.val (.tup xs), .no, .no, .no] = .ok (.lst (((enumL 0 xs).filter fun d => !beadB (sndD d)).map fstD)) [.val (.tup xs), .no, .no, .no] :=
        cmpM_p (fun d => !beadB (sndD d)) fstD rfl rfl rfl (by rw [enumL_ln]; exact hl) fun d hd => by
          obtain ⟨i, x, rfl, hx⟩ := enumL_mem hd
          have e := is_bead_ok (d := x) (List.all_eq_true.mp h2 x hx)
          exact ⟨[.val (.tup xs), .no, .val (.int i), .val x], rfl, by simp only [seqS_eq, nxS, bkS, ctS, nxt_nx, nxt_rt, nxt_bk, nxt_ct, ifS_eq, ifE_eq, brR_t, brR_f, brR_dec, anT_eq, orT_eq, anE_eq, orE_eq, tst_eq, isB_bl, ↓R.bind_bd, R.bd_ok, R.of_some, noT, blE, vr, cst, op1, op2, setS, setR, nxO, asgS, tupG, cnsG, nilG, nmG, subGO, subG, subS, getM, ixM, putO, cnsA, nilA, dTup, dLst, frz, retS, retM, setM, exS, mutS, appO, opC, callE, callM, callG_eq, cnsB, nilB, slB, kwB, ioM, toArgs, okA, slsA, nodN, argG_some, goG_ok, asE, asM, putA, newM, putM, parS, par3S, frzS, frzAt, bindO, endR_rt, endR_nx, endG, FL.collect, bodyG_eq, rho0, toS, wipeR, FL.pick, tru, truD, chn, lenM, slM, slF, noO, smO, catO, catM, litM, isiD, typD, isTy, R.bd_exc, cauE_eq, goG_exc, endR_exc,   List.getElem?_cons_zero, List.getElem?_cons_succ, List.getElem?_nil, List.set_cons_zero, List.set_cons_succ, List.set_nil, List.length_cons, List.length_nil, List.mapIdx_cons, List.mapIdx_nil, List.map_cons, List.map_nil, List.replicate_succ, List.replicate_zero, List.cons_append, List.nil_append, List.append_nil, List.foldl_cons, List.foldl_nil, List.filterMap_cons, List.filterMap_nil, Option.map_some, Option.map_none, Option.bind_some, Option.bind_none, Bool.not_true, Bool.not_false, Bool.and_true, Bool.true_and, Bool.or_true, Bool.and_self, if_true, if_false,   eqA_int, neA_int, eqA_str, neA_str, ltD_int, leD_int, gtD_int, geD_int, addD_int, subD_int, negD_int, absC_int, intC_int, maxC_int, minC_int, lenC_lst, lenC_tup, lenC_scr, Int.cast_ofNat_Int, Int.natCast_zero, Int.natCast_one,   ↓reduceIte, Nat.reduceAdd, Nat.reduceSub, Nat.reduceMul, Nat.reduceLT, Nat.reduceLeDiff, Nat.reduceBEq, Nat.reduceBneDiff, Nat.reduceEqDiff, Nat.reducePow, Int.reduceLT, Int.reduceLE, Int.reduceEq, Int.reduceNe, Int.reduceAdd, Int.reduceSub, Int.reduceMul, Int.reduceNeg, Int.reducePow, Int.reduceToNat, decide_true, decide_false, decide_eq_true_eq, Bool.false_eq_true, List.contains_nil, List.contains_cons, Bool.or_false, Bool.or_self, eq_self, and_self, and_true, true_and, e, sndD], rfl, fun _ => rfl⟩
      have k := enum_first (fun d => !beadB d) xs 0
      cases e : firstI (fun d => !beadB d) 0 xs with
      | none =>
        rw [e] at k
        have k : ((enumL 0 xs).filter fun d => !beadB (sndD d)).map fstD = [] := k
        rw [k] at hc
        have n1 : neA (.lst []) (.lst []) = some (.bl false) := rfl
        simp only [G_string_fault, g_string_fault, seqS_eq, nxS, bkS, ctS, nxt_nx, nxt_rt, nxt_bk, nxt_ct, ifS_eq, ifE_eq, brR_t, brR_f, brR_dec, anT_eq, orT_eq, anE_eq, orE_eq, tst_eq, isB_bl, ↓R.bind_bd, R.bd_ok, R.of_some, noT, blE, vr, cst, op1, op2, setS, setR, nxO, asgS, tupG, cnsG, nilG, nmG, subGO, subG, subS, getM, ixM, putO, cnsA, nilA, dTup, dLst, frz, retS, retM, setM, exS, mutS, appO, opC, callE, callM, callG_eq, cnsB, nilB, slB, kwB, ioM, toArgs, okA, slsA, nodN, argG_some, goG_ok, asE, asM, putA, newM, putM, parS, par3S, frzS, frzAt, bindO, endR_rt, endR_nx, endG, FL.collect, bodyG_eq, rho0, toS, wipeR, FL.pick, tru, truD, chn, lenM, slM, slF, noO, smO, catO, catM, litM, isiD, typD, isTy, R.bd_exc, cauE_eq, goG_exc, endR_exc,   List.getElem?_cons_zero, List.getElem?_cons_succ, List.getElem?_nil, List.set_cons_zero, List.set_cons_succ, List.set_nil, List.length_cons, List.length_nil, List.mapIdx_cons, List.mapIdx_nil, List.map_cons, List.map_nil, List.replicate_succ, List.replicate_zero, List.cons_append, List.nil_append, List.append_nil, List.foldl_cons, List.foldl_nil, List.filterMap_cons, List.filterMap_nil, Option.map_some, Option.map_none, Option.bind_some, Option.bind_none, Bool.not_true, Bool.not_false, Bool.and_true, Bool.true_and, Bool.or_true, Bool.and_self, if_true, if_false,   eqA_int, neA_int, eqA_str, neA_str, ltD_int, leD_int, gtD_int, geD_int, addD_int, subD_int, negD_int, absC_int, intC_int, maxC_int, minC_int, lenC_lst, lenC_tup, lenC_scr, Int.cast_ofNat_Int, Int.natCast_zero, Int.natCast_one,   ↓reduceIte, Nat.reduceAdd, Nat.reduceSub, Nat.reduceMul, Nat.reduceLT, Nat.reduceLeDiff, Nat.reduceBEq, Nat.reduceBneDiff, Nat.reduceEqDiff, Nat.reducePow, Int.reduceLT, Int.reduceLE, Int.reduceEq, Int.reduceNe, Int.reduceAdd, Int.reduceSub, Int.reduceMul, Int.reduceNeg, Int.reducePow, Int.reduceToNat, decide_true, decide_false, decide_eq_true_eq, Bool.false_eq_true, List.contains_nil, List.contains_cons, Bool.or_false, Bool.or_self, eq_self, and_self, and_true, true_and, faultD, c, c', hc, n1, e, small]
      | some i =>
        rw [e] at k
        obtain ⟨ys, k⟩ := k
        rw [k] at hc
        have n1 : ∀ z, neA (.lst (z :: ys)) (.lst []) = some (.bl true) := fun _ => rfl
        have n2 : ∀ z, ixD (.lst (z :: ys)) (.int 0) = some z := fun z => ix0_cons z ys
        simp only [G_string_fault, g_string_fault, seqS_eq, nxS, bkS, ctS, nxt_nx, nxt_rt, nxt_bk, nxt_ct, ifS_eq, ifE_eq, brR_t, brR_f, brR_dec, anT_eq, orT_eq, anE_eq, orE_eq, tst_eq, isB_bl, ↓R.bind_bd, R.bd_ok, R.of_some, noT, blE, vr, cst, op1, op2, setS, setR, nxO, asgS, tupG, cnsG, nilG, nmG, subGO, subG, subS, getM, ixM, putO, cnsA, nilA, dTup, dLst, frz, retS, retM, setM, exS, mutS, appO, opC, callE, callM, callG_eq, cnsB, nilB, slB, kwB, ioM, toArgs, okA, slsA, nodN, argG_some, goG_ok, asE, asM, putA, newM, putM, parS, par3S, frzS, frzAt, bindO, endR_rt, endR_nx, endG, FL.collect, bodyG_eq, rho0, toS, wipeR, FL.pick, tru, truD, chn, lenM, slM, slF, noO, smO, catO, catM, litM, isiD, typD, isTy, R.bd_exc, cauE_eq, goG_exc, endR_exc,   List.getElem?_cons_zero, List.getElem?_cons_succ, List.getElem?_nil, List.set_cons_zero, List.set_cons_succ, List.set_nil, List.length_cons, List.length_nil, List.mapIdx_cons, List.mapIdx_nil, List.map_cons, List.map_nil, List.replicate_succ, List.replicate_zero, List.cons_append, List.nil_append, List.append_nil, List.foldl_cons, List.foldl_nil, List.filterMap_cons, List.filterMap_nil, Option.map_some, Option.map_none, Option.bind_some, Option.bind_none, Bool.not_true, Bool.not_false, Bool.and_true, Bool.true_and, Bool.or_true, Bool.and_self, if_true, if_false,   eqA_int, neA_int, eqA_str, neA_str, ltD_int, leD_int, gtD_int, geD_int, addD_int, subD_int, negD_int, absC_int, intC_int, maxC_int, minC_int, lenC_lst, lenC_tup, lenC_scr, Int.cast_ofNat_Int, Int.natCast_zero, Int.natCast_one,   ↓reduceIte, Nat.reduceAdd, Nat.reduceSub, Nat.reduceMul, Nat.reduceLT, Nat.reduceLeDiff, Nat.reduceBEq, Nat.reduceBneDiff, Nat.reduceEqDiff, Nat.reducePow, Int.reduceLT, Int.reduceLE, Int.reduceEq, Int.reduceNe, Int.reduceAdd, Int.reduceSub, Int.reduceMul, Int.reduceNeg, Int.reducePow, Int.reduceToNat, decide_true, decide_false, decide_eq_true_eq, Bool.false_eq_true, List.contains_nil, List.contains_cons, Bool.or_false, Bool.or_self, eq_self, and_self, and_true, true_and, faultD, c, c', hc, n1, n2, e, small]
  | fn a => cases h
  | exc x fs => cases h
  | _ => simp only [G_string_fault, g_string_fault, seqS_eq, nxS, bkS, ctS, nxt_nx, nxt_rt, nxt_bk, nxt_ct, ifS_eq, ifE_eq, brR_t, brR_f, brR_dec, anT_eq, orT_eq, anE_eq, orE_eq, tst_eq, isB_bl, ↓R.bind_bd, R.bd_ok, R.of_some, noT, blE, vr, cst, op1, op2, setS, setR, nxO, asgS, tupG, cnsG, nilG, nmG, subGO, subG, subS, getM, ixM, putO, cnsA, nilA, dTup, dLst, frz, retS, retM, setM, exS, mutS, appO, opC, callE, callM, callG_eq, cnsB, nilB, slB, kwB, ioM, toArgs, okA, slsA, nodN, argG_some, goG_ok, asE, asM, putA, newM, putM, parS, par3S, frzS, frzAt, bindO, endR_rt, endR_nx, endG, FL.collect, bodyG_eq, rho0, toS, wipeR, FL.pick, tru, truD, chn, lenM, slM, slF, noO, smO, catO, catM, litM, isiD, typD, isTy, R.bd_exc, cauE_eq, goG_exc, endR_exc,   List.getElem?_cons_zero, List.getElem?_cons_succ, List.getElem?_nil, List.set_cons_zero, List.set_cons_succ, List.set_nil, List.length_cons, List.length_nil, List.mapIdx_cons, List.mapIdx_nil, List.map_cons, List.map_nil, List.replicate_succ, List.replicate_zero, List.cons_append, List.nil_append, List.append_nil, List.foldl_cons, List.foldl_nil, List.filterMap_cons, List.filterMap_nil, Option.map_some, Option.map_none, Option.bind_some, Option.bind_none, Bool.not_true, Bool.not_false, Bool.and_true, Bool.true_and, Bool.or_true, Bool.and_self, if_true, if_false,   eqA_int, neA_int, eqA_str, neA_str, ltD_int, leD_int, gtD_int, geD_int, addD_int, subD_int, negD_int, absC_int, intC_int, maxC_int, minC_int, lenC_lst, lenC_tup, lenC_scr, Int.cast_ofNat_Int, Int.natCast_zero, Int.natCast_one,   ↓reduceIte, Nat.reduceAdd, Nat.reduceSub, Nat.reduceMul, Nat.reduceLT, Nat.reduceLeDiff, Nat.reduceBEq, Nat.reduceBneDiff, Nat.reduceEqDiff, Nat.reducePow, Int.reduceLT, Int.reduceLE, Int.reduceEq, Int.reduceNe, Int.reduceAdd, Int.reduceSub, Int.reduceMul, Int.reduceNeg, Int.reducePow, Int.reduceToNat, decide_true, decide_false, decide_eq_true_eq, Bool.false_eq_true, List.contains_nil, List.contains_cons, Bool.or_false, Bool.or_self, eq_self, and_self, and_true, true_and, faultD]
/-- a string -/
def rightB (d : D) : Bool := match faultD d with
  | .int i => decide (i = -1)
  | _ => false
theorem neA_fault {d : D} : neA (faultD d) (.int (-1)) = some (.bl (!rightB d)) := by
  have : (∃ i : Int, faultD d = .int i) ∨ faultD d = .non := by
    unfold faultD
    split
    · split
      · exact .inr rfl
      · split
        · exact .inl ⟨_, rfl⟩
        · exact .inl ⟨_, rfl⟩
    · exact .inr rfl
  rcases this with ⟨i, e⟩ | e
  · simp only [rightB, e, neA_int]
  · simp only [rightB, e]
    rfl

theorem check_string_ok {d : D} (h : strB d = true) (hf : rightB d = true) : G_check_string [.val d] = .ok (.v .non) [] := by
  have e := string_fault_ok h
  have n := neA_fault (d := d)
  simp only [G_check_string, g_check_string, seqS_eq, nxS, bkS, ctS, nxt_nx, nxt_rt, nxt_bk, nxt_ct, ifS_eq, ifE_eq, brR_t, brR_f, brR_dec, anT_eq, orT_eq, anE_eq, orE_eq, tst_eq, isB_bl, ↓R.bind_bd, R.bd_ok, R.of_some, noT, blE, vr, cst, op1, op2, setS, setR, nxO, asgS, tupG, cnsG, nilG, nmG, subGO, subG, subS, getM, ixM, putO, cnsA, nilA, dTup, dLst, frz, retS, retM, setM, exS, mutS, appO, opC, callE, callM, callG_eq, cnsB, nilB, slB, kwB, ioM, toArgs, okA, slsA, nodN, argG_some, goG_ok, asE, asM, putA, newM, putM, parS, par3S, frzS, frzAt, bindO, endR_rt, endR_nx, endG, FL.collect, bodyG_eq, rho0, toS, wipeR, FL.pick, tru, truD, chn, lenM, slM, slF, noO, smO, catO, catM, litM, isiD, typD, isTy, R.bd_exc, cauE_eq, goG_exc, endR_exc,   List.getElem?_cons_zero, List.getElem?_cons_succ, List.getElem?_nil, List.set_cons_zero, List.set_cons_succ, List.set_nil, List.length_cons, List.length_nil, List.mapIdx_cons, List.mapIdx_nil, List.map_cons, List.map_nil, List.replicate_succ, List.replicate_zero, List.cons_append, List.nil_append, List.append_nil, List.foldl_cons, List.foldl_nil, List.filterMap_cons, List.filterMap_nil, Option.map_some, Option.map_none, Option.bind_some, Option.bind_none, Bool.not_true, Bool.not_false, Bool.and_true, Bool.true_and, Bool.or_true, Bool.and_self, if_true, if_false,   eqA_int, neA_int, eqA_str, neA_str, ltD_int, leD_int, gtD_int, geD_int, addD_int, subD_int, negD_int, absC_int, intC_int, maxC_int, minC_int, lenC_lst, lenC_tup, lenC_scr, Int.cast_ofNat_Int, Int.natCast_zero, Int.natCast_one,   ↓reduceIte, Nat.reduceAdd, Nat.reduceSub, Nat.reduceMul, Nat.reduceLT, Nat.reduceLeDiff, Nat.reduceBEq, Nat.reduceBneDiff, Nat.reduceEqDiff, Nat.reducePow, Int.reduceLT, Int.reduceLE, Int.reduceEq, Int.reduceNe, Int.reduceAdd, Int.reduceSub, Int.reduceMul, Int.reduceNeg, Int.reducePow, Int.reduceToNat, decide_true, decide_false, decide_eq_true_eq, Bool.false_eq_true, List.contains_nil, List.contains_cons, Bool.or_false, Bool.or_self, eq_self, and_self, and_true, true_and, e, n, hf]

def stepT (b : Int) (p : Int × Int) : Int × Int := (b * p.1 - p.2, p.1)
/-- T of a string, and T of it without its first bead -/
def turnsI (bs : List Int) : Int × Int := bs.foldr stepT (1, 0)
theorem turns_loop : ∀ (bs : List Int) (h k : Int) (e : Slot) (t : D), (∀ b ∈ bs, b.natAbs < 18446744073709551616) → ∃ e', forL [] (nmG 3) b_turns_of_1 (bs.map D.int) [.val t, .val (.int h), .val (.int k), e] = .ok .nx [.val t, .val (.int (bs.foldl (fun p b => stepT b p) (h, k)).1), .val (.int (bs.foldl (fun p b => stepT b p) (h, k)).2), e']
  | [], h, k, e, t, _ => ⟨e, rfl⟩
  | b :: bs, h, k, e, t, hb => by
    obtain ⟨e', ih⟩ := turns_loop bs (b * h - k) h (.val (.int b)) t fun x hx => hb x (List.mem_cons_of_mem _ hx)
    have m : mulD (.int b) (.int h) = some (.int (b * h)) := mulD_l (hb b List.mem_cons_self)
    have eb : b_turns_of_1 [.val t, .val (.int h), .val (.int k), .val (.int b)] = .ok .nx [.val t, .val (.int (b * h - k)), .val (.int h), .val (.int b)] := by
      simp only [b_turns_of_1, seqS_eq, nxS, bkS, ctS, nxt_nx, nxt_rt, nxt_bk, nxt_ct, ifS_eq, ifE_eq, brR_t, brR_f, brR_dec, anT_eq, orT_eq, anE_eq, orE_eq, tst_eq, isB_bl, ↓R.bind_bd, R.bd_ok, R.of_some, noT, blE, vr, cst, op1, op2, setS, setR, nxO, asgS, tupG, cnsG, nilG, nmG, subGO, subG, subS, getM, ixM, putO, cnsA, nilA, dTup, dLst, frz, retS, retM, setM, exS, mutS, appO, opC, callE, callM, callG_eq, cnsB, nilB, slB, kwB, ioM, toArgs, okA, slsA, nodN, argG_some, goG_ok, asE, asM, putA, newM, putM, parS, par3S, frzS, frzAt, bindO, endR_rt, endR_nx, endG, FL.collect, bodyG_eq, rho0, toS, wipeR, FL.pick, tru, truD, chn, lenM, slM, slF, noO, smO, catO, catM, litM, isiD, typD, isTy, R.bd_exc, cauE_eq, goG_exc, endR_exc,   List.getElem?_cons_zero, List.getElem?_cons_succ, List.getElem?_nil, List.set_cons_zero, List.set_cons_succ, List.set_nil, List.length_cons, List.length_nil, List.mapIdx_cons, List.mapIdx_nil, List.map_cons, List.map_nil, List.replicate_succ, List.replicate_zero, List.cons_append, List.nil_append, List.append_nil, List.foldl_cons, List.foldl_nil, List.filterMap_cons, List.filterMap_nil, Option.map_some, Option.map_none, Option.bind_some, Option.bind_none, Bool.not_true, Bool.not_false, Bool.and_true, Bool.true_and, Bool.or_true, Bool.and_self, if_true, if_false,   eqA_int, neA_int, eqA_str, neA_str, ltD_int, leD_int, gtD_int, geD_int, addD_int, subD_int, negD_int, absC_int, intC_int, maxC_int, minC_int, lenC_lst, lenC_tup, lenC_scr, Int.cast_ofNat_Int, Int.natCast_zero, Int.natCast_one,   ↓reduceIte, Nat.reduceAdd, Nat.reduceSub, Nat.reduceMul, Nat.reduceLT, Nat.reduceLeDiff, Nat.reduceBEq, Nat.reduceBneDiff, Nat.reduceEqDiff, Nat.reducePow, Int.reduceLT, Int.reduceLE, Int.reduceEq, Int.reduceNe, Int.reduceAdd, Int.reduceSub, Int.reduceMul, Int.reduceNeg, Int.reducePow, Int.reduceToNat, decide_true, decide_false, decide_eq_true_eq, Bool.false_eq_true, List.contains_nil, List.contains_cons, Bool.or_false, Bool.or_self, eq_self, and_self, and_true, true_and, m]
    refine ⟨e', ?_⟩
    rw [List.map_cons, List.foldl_cons]
    simp only [forL_cons, seqS_eq, nxS, bkS, ctS, nxt_nx, nxt_rt, nxt_bk, nxt_ct, ifS_eq, ifE_eq, brR_t, brR_f, brR_dec, anT_eq, orT_eq, anE_eq, orE_eq, tst_eq, isB_bl, ↓R.bind_bd, R.bd_ok, R.of_some, noT, blE, vr, cst, op1, op2, setS, setR, nxO, asgS, tupG, cnsG, nilG, nmG, subGO, subG, subS, getM, ixM, putO, cnsA, nilA, dTup, dLst, frz, retS, retM, setM, exS, mutS, appO, opC, callE, callM, callG_eq, cnsB, nilB, slB, kwB, ioM, toArgs, okA, slsA, nodN, argG_some, goG_ok, asE, asM, putA, newM, putM, parS, par3S, frzS, frzAt, bindO, endR_rt, endR_nx, endG, FL.collect, bodyG_eq, rho0, toS, wipeR, FL.pick, tru, truD, chn, lenM, slM, slF, noO, smO, catO, catM, litM, isiD, typD, isTy, R.bd_exc, cauE_eq, goG_exc, endR_exc,   List.getElem?_cons_zero, List.getElem?_cons_succ, List.getElem?_nil, List.set_cons_zero, List.set_cons_succ, List.set_nil, List.length_cons, List.length_nil, List.mapIdx_cons, List.mapIdx_nil, List.map_cons, List.map_nil, List.replicate_succ, List.replicate_zero, List.cons_append, List.nil_append, List.append_nil, List.foldl_cons, List.foldl_nil, List.filterMap_cons, List.filterMap_nil, Option.map_some, Option.map_none, Option.bind_some, Option.bind_none, Bool.not_true, Bool.not_false, Bool.and_true, Bool.true_and, Bool.or_true, Bool.and_self, if_true, if_false,   eqA_int, neA_int, eqA_str, neA_str, ltD_int, leD_int, gtD_int, geD_int, addD_int, subD_int, negD_int, absC_int, intC_int, maxC_int, minC_int, lenC_lst, lenC_tup, lenC_scr, Int.cast_ofNat_Int, Int.natCast_zero, Int.natCast_one,   ↓reduceIte, Nat.reduceAdd, Nat.reduceSub, Nat.reduceMul, Nat.reduceLT, Nat.reduceLeDiff, Nat.reduceBEq, Nat.reduceBneDiff, Nat.reduceEqDiff, Nat.reducePow, Int.reduceLT, Int.reduceLE, Int.reduceEq, Int.reduceNe, Int.reduceAdd, Int.reduceSub, Int.reduceMul, Int.reduceNeg, Int.reducePow, Int.reduceToNat, decide_true, decide_false, decide_eq_true_eq, Bool.false_eq_true, List.contains_nil, List.contains_cons, Bool.or_false, Bool.or_self, eq_self, and_self, and_true, true_and, eb, aftF, ih, stepT]
theorem turns_of_ok {bs : List Int} (hb : ∀ b ∈ bs, b.natAbs < 18446744073709551616) : G_turns_of [.val (.tup (bs.map D.int))] = .ok (.v (.tup [.int (turnsI bs).1, .int (turnsI bs).2])) [] := by
  have hit : seqI (op1 revD (vr 0)) [.val (.tup (bs.map D.int)), .val (.int 1), .val (.int 0), .no] = .ok (bs.reverse.map D.int) [.val (.tup (bs.map D.int)), .val (.int 1), .val (.int 0), .no] := by
    rw [List.map_reverse]
    rfl
  obtain ⟨e', el⟩ := turns_loop bs.reverse 1 0 .no (.tup (bs.map D.int)) fun b h => hb b (List.mem_reverse.mp h)
  rw [List.foldl_reverse] at el
  have el : forL [] (nmG 3) b_turns_of_1 (bs.reverse.map D.int) [.val (.tup (bs.map D.int)), .val (.int 1), .val (.int 0), .no] = .ok .nx [.val (.tup (bs.map D.int)), .val (.int (turnsI bs).1), .val (.int (turnsI bs).2), e'] := el
  have s2 : small 2 = true := rfl
  simp only [G_turns_of, g_turns_of, seqS_eq, nxS, bkS, ctS, nxt_nx, nxt_rt, nxt_bk, nxt_ct, ifS_eq, ifE_eq, brR_t, brR_f, brR_dec, anT_eq, orT_eq, anE_eq, orE_eq, tst_eq, isB_bl, ↓R.bind_bd, R.bd_ok, R.of_some, noT, blE, vr, cst, op1, op2, setS, setR, nxO, asgS, tupG, cnsG, nilG, nmG, subGO, subG, subS, getM, ixM, putO, cnsA, nilA, dTup, dLst, frz, retS, retM, setM, exS, mutS, appO, opC, callE, callM, callG_eq, cnsB, nilB, slB, kwB, ioM, toArgs, okA, slsA, nodN, argG_some, goG_ok, asE, asM, putA, newM, putM, parS, par3S, frzS, frzAt, bindO, endR_rt, endR_nx, endG, FL.collect, bodyG_eq, rho0, toS, wipeR, FL.pick, tru, truD, chn, lenM, slM, slF, noO, smO, catO, catM, litM, isiD, typD, isTy, R.bd_exc, cauE_eq, goG_exc, endR_exc,   List.getElem?_cons_zero, List.getElem?_cons_succ, List.getElem?_nil, List.set_cons_zero, List.set_cons_succ, List.set_nil, List.length_cons, List.length_nil, List.mapIdx_cons, List.mapIdx_nil, List.map_cons, List.map_nil, List.replicate_succ, List.replicate_zero, List.cons_append, List.nil_append, List.append_nil, List.foldl_cons, List.foldl_nil, List.filterMap_cons, List.filterMap_nil, Option.map_some, Option.map_none, Option.bind_some, Option.bind_none, Bool.not_true, Bool.not_false, Bool.and_true, Bool.true_and, Bool.or_true, Bool.and_self, if_true, if_false,   eqA_int, neA_int, eqA_str, neA_str, ltD_int, leD_int, gtD_int, geD_int, addD_int, subD_int, negD_int, absC_int, intC_int, maxC_int, minC_int, lenC_lst, lenC_tup, lenC_scr, Int.cast_ofNat_Int, Int.natCast_zero, Int.natCast_one,   ↓reduceIte, Nat.reduceAdd, Nat.reduceSub, Nat.reduceMul, Nat.reduceLT, Nat.reduceLeDiff, Nat.reduceBEq, Nat.reduceBneDiff, Nat.reduceEqDiff, Nat.reducePow, Int.reduceLT, Int.reduceLE, Int.reduceEq, Int.reduceNe, Int.reduceAdd, Int.reduceSub, Int.reduceMul, Int.reduceNeg, Int.reducePow, Int.reduceToNat, decide_true, decide_false, decide_eq_true_eq, Bool.false_eq_true, List.contains_nil, List.contains_cons, Bool.or_false, Bool.or_self, eq_self, and_self, and_true, true_and, forS_eq, hit, el, s2]
theorem turnsI_bound {m : Nat} : ∀ {bs : List Int}, (∀ b ∈ bs, b.natAbs ≤ m) → (turnsI bs).1.natAbs ≤ (m + 1) ^ bs.length ∧ (turnsI bs).2.natAbs ≤ (m + 1) ^ bs.length
  | [], _ => ⟨by simp [turnsI], by simp [turnsI]⟩
  | b :: bs, h => by
    obtain ⟨h1, h2⟩ := turnsI_bound (bs := bs) fun x hx => h x (List.mem_cons_of_mem _ hx)
    have hb := h b List.mem_cons_self
    show (b * (turnsI bs).1 - (turnsI bs).2).natAbs ≤ (m + 1) ^ (bs.length + 1) ∧ (turnsI bs).1.natAbs ≤ (m + 1) ^ (bs.length + 1)
    rw [Nat.pow_succ]
    generalize (m + 1) ^ bs.length = M at h1 h2
    have e1 : (b * (turnsI bs).1).natAbs ≤ m * M := by
      rw [Int.natAbs_mul]
      exact Nat.mul_le_mul hb h1
    have e2 : M * (m + 1) = m * M + M := by rw [Nat.mul_succ, Nat.mul_comm]
    rw [e2]
    constructor
    · omega
    · have : 0 ≤ m * M := Nat.zero_le _
      omega

theorem small_beads {bs : List Int} (hb : ∀ b ∈ bs, b.natAbs ≤ 1000000000) : ∀ x ∈ bs.map D.int, (fun d => !beadB d) x = false := by
  intro x hx
  obtain ⟨b, h, rfl⟩ := List.mem_map.mp hx
  have := hb b h
  show (!(decide (-1000000000 ≤ b) && decide (b ≤ 1000000000))) = false
  rw [decide_eq_true (by omega), decide_eq_true (by omega)]
  rfl
theorem fault_right {bs : List Int} (hl : bs.length ≤ 200) (hb : ∀ b ∈ bs, b.natAbs ≤ 1000000000) : faultD (.tup (bs.map D.int)) = .int (-1) := by
  unfold faultD
  dsimp only
  rw [if_neg (by rw [List.length_map]; omega), firstI_none _ _ _ (small_beads hb)]
theorem right_string {bs : List Int} (hl : bs.length ≤ 200) (hb : ∀ b ∈ bs, b.natAbs ≤ 1000000000) : rightB (.tup (bs.map D.int)) = true := by
  unfold rightB
  rw [fault_right hl hb]
  rfl
theorem strB_ints {bs : List Int} (hl : bs.length ≤ 100000) : strB (.tup (bs.map D.int)) = true := by
  refine Bool.and_eq_true_iff.mpr ⟨decide_eq_true (by rw [List.length_map]; omega), List.all_eq_true.mpr fun x hx => ?_⟩
  obtain ⟨b, _, rfl⟩ := List.mem_map.mp hx
  rfl

def restI (t r : Int) : Int := if t = 0 then 1 else (if t < 0 then -r else r) % (t.natAbs : Int)
theorem paired_ok (t r : Int) : G_paired [.val (.int t), .val (.int r)] = .ok (.v (.tup [.int (t.natAbs : Int), .int (restI t r)])) [] := by
  have s2 : small 2 = true := rfl
  unfold restI
  by_cases h0 : t = 0
  · subst h0
    by_cases h1 : r < 0
    · simp only [G_paired, g_paired, seqS_eq, nxS, bkS, ctS, nxt_nx, nxt_rt, nxt_bk, nxt_ct, ifS_eq, ifE_eq, brR_t, brR_f, brR_dec, anT_eq, orT_eq, anE_eq, orE_eq, tst_eq, isB_bl, ↓R.bind_bd, R.bd_ok, R.of_some, noT, blE, vr, cst, op1, op2, setS, setR, nxO, asgS, tupG, cnsG, nilG, nmG, subGO, subG, subS, getM, ixM, putO, cnsA, nilA, dTup, dLst, frz, retS, retM, setM, exS, mutS, appO, opC, callE, callM, callG_eq, cnsB, nilB, slB, kwB, ioM, toArgs, okA, slsA, nodN, argG_some, goG_ok, asE, asM, putA, newM, putM, parS, par3S, frzS, frzAt, bindO, endR_rt, endR_nx, endG, FL.collect, bodyG_eq, rho0, toS, wipeR, FL.pick, tru, truD, chn, lenM, slM, slF, noO, smO, catO, catM, litM, isiD, typD, isTy, R.bd_exc, cauE_eq, goG_exc, endR_exc,   List.getElem?_cons_zero, List.getElem?_cons_succ, List.getElem?_nil, List.set_cons_zero, List.set_cons_succ, List.set_nil, List.length_cons, List.length_nil, List.mapIdx_cons, List.mapIdx_nil, List.map_cons, List.map_nil, List.replicate_succ, List.replicate_zero, List.cons_append, List.nil_append, List.append_nil, List.foldl_cons, List.foldl_nil, List.filterMap_cons, List.filterMap_nil, Option.map_some, Option.map_none, Option.bind_some, Option.bind_none, Bool.not_true, Bool.not_false, Bool.and_true, Bool.true_and, Bool.or_true, Bool.and_self, if_true, if_false,   eqA_int, neA_int, eqA_str, neA_str, ltD_int, leD_int, gtD_int, geD_int, addD_int, subD_int, negD_int, absC_int, intC_int, maxC_int, minC_int, lenC_lst, lenC_tup, lenC_scr, Int.cast_ofNat_Int, Int.natCast_zero, Int.natCast_one,   ↓reduceIte, Nat.reduceAdd, Nat.reduceSub, Nat.reduceMul, Nat.reduceLT, Nat.reduceLeDiff, Nat.reduceBEq, Nat.reduceBneDiff, Nat.reduceEqDiff, Nat.reducePow, Int.reduceLT, Int.reduceLE, Int.reduceEq, Int.reduceNe, Int.reduceAdd, Int.reduceSub, Int.reduceMul, Int.reduceNeg, Int.reducePow, Int.reduceToNat, decide_true, decide_false, decide_eq_true_eq, Bool.false_eq_true, List.contains_nil, List.contains_cons, Bool.or_false, Bool.or_self, eq_self, and_self, and_true, true_and, h1, s2, Int.neg_zero, Int.natAbs_zero]
    · simp only [G_paired, g_paired, seqS_eq, nxS, bkS, ctS, nxt_nx, nxt_rt, nxt_bk, nxt_ct, ifS_eq, ifE_eq, brR_t, brR_f, brR_dec, anT_eq, orT_eq, anE_eq, orE_eq, tst_eq, isB_bl, ↓R.bind_bd, R.bd_ok, R.of_some, noT, blE, vr, cst, op1, op2, setS, setR, nxO, asgS, tupG, cnsG, nilG, nmG, subGO, subG, subS, getM, ixM, putO, cnsA, nilA, dTup, dLst, frz, retS, retM, setM, exS, mutS, appO, opC, callE, callM, callG_eq, cnsB, nilB, slB, kwB, ioM, toArgs, okA, slsA, nodN, argG_some, goG_ok, asE, asM, putA, newM, putM, parS, par3S, frzS, frzAt, bindO, endR_rt, endR_nx, endG, FL.collect, bodyG_eq, rho0, toS, wipeR, FL.pick, tru, truD, chn, lenM, slM, slF, noO, smO, catO, catM, litM, isiD, typD, isTy, R.bd_exc, cauE_eq, goG_exc, endR_exc,   List.getElem?_cons_zero, List.getElem?_cons_succ, List.getElem?_nil, List.set_cons_zero, List.set_cons_succ, List.set_nil, List.length_cons, List.length_nil, List.mapIdx_cons, List.mapIdx_nil, List.map_cons, List.map_nil, List.replicate_succ, List.replicate_zero, List.cons_append, List.nil_append, List.append_nil, List.foldl_cons, List.foldl_nil, List.filterMap_cons, List.filterMap_nil, Option.map_some, Option.map_none, Option.bind_some, Option.bind_none, Bool.not_true, Bool.not_false, Bool.and_true, Bool.true_and, Bool.or_true, Bool.and_self, if_true, if_false,   eqA_int, neA_int, eqA_str, neA_str, ltD_int, leD_int, gtD_int, geD_int, addD_int, subD_int, negD_int, absC_int, intC_int, maxC_int, minC_int, lenC_lst, lenC_tup, lenC_scr, Int.cast_ofNat_Int, Int.natCast_zero, Int.natCast_one,   ↓reduceIte, Nat.reduceAdd, Nat.reduceSub, Nat.reduceMul, Nat.reduceLT, Nat.reduceLeDiff, Nat.reduceBEq, Nat.reduceBneDiff, Nat.reduceEqDiff, Nat.reducePow, Int.reduceLT, Int.reduceLE, Int.reduceEq, Int.reduceNe, Int.reduceAdd, Int.reduceSub, Int.reduceMul, Int.reduceNeg, Int.reducePow, Int.reduceToNat, decide_true, decide_false, decide_eq_true_eq, Bool.false_eq_true, List.contains_nil, List.contains_cons, Bool.or_false, Bool.or_self, eq_self, and_self, and_true, true_and, h1, s2, Int.natAbs_zero]
  · by_cases h1 : t < 0
    · have n0 : ¬ -t = 0 := by omega
      have m : modD (.int (-r)) (.int (-t)) = some (.int (-r % -t)) := modD_pos (by omega)
      have e : (t.natAbs : Int) = -t := by omega
      simp only [G_paired, g_paired, seqS_eq, nxS, bkS, ctS, nxt_nx, nxt_rt, nxt_bk, nxt_ct, ifS_eq, ifE_eq, brR_t, brR_f, brR_dec, anT_eq, orT_eq, anE_eq, orE_eq, tst_eq, isB_bl, ↓R.bind_bd, R.bd_ok, R.of_some, noT, blE, vr, cst, op1, op2, setS, setR, nxO, asgS, tupG, cnsG, nilG, nmG, subGO, subG, subS, getM, ixM, putO, cnsA, nilA, dTup, dLst, frz, retS, retM, setM, exS, mutS, appO, opC, callE, callM, callG_eq, cnsB, nilB, slB, kwB, ioM, toArgs, okA, slsA, nodN, argG_some, goG_ok, asE, asM, putA, newM, putM, parS, par3S, frzS, frzAt, bindO, endR_rt, endR_nx, endG, FL.collect, bodyG_eq, rho0, toS, wipeR, FL.pick, tru, truD, chn, lenM, slM, slF, noO, smO, catO, catM, litM, isiD, typD, isTy, R.bd_exc, cauE_eq, goG_exc, endR_exc,   List.getElem?_cons_zero, List.getElem?_cons_succ, List.getElem?_nil, List.set_cons_zero, List.set_cons_succ, List.set_nil, List.length_cons, List.length_nil, List.mapIdx_cons, List.mapIdx_nil, List.map_cons, List.map_nil, List.replicate_succ, List.replicate_zero, List.cons_append, List.nil_append, List.append_nil, List.foldl_cons, List.foldl_nil, List.filterMap_cons, List.filterMap_nil, Option.map_some, Option.map_none, Option.bind_some, Option.bind_none, Bool.not_true, Bool.not_false, Bool.and_true, Bool.true_and, Bool.or_true, Bool.and_self, if_true, if_false,   eqA_int, neA_int, eqA_str, neA_str, ltD_int, leD_int, gtD_int, geD_int, addD_int, subD_int, negD_int, absC_int, intC_int, maxC_int, minC_int, lenC_lst, lenC_tup, lenC_scr, Int.cast_ofNat_Int, Int.natCast_zero, Int.natCast_one,   ↓reduceIte, Nat.reduceAdd, Nat.reduceSub, Nat.reduceMul, Nat.reduceLT, Nat.reduceLeDiff, Nat.reduceBEq, Nat.reduceBneDiff, Nat.reduceEqDiff, Nat.reducePow, Int.reduceLT, Int.reduceLE, Int.reduceEq, Int.reduceNe, Int.reduceAdd, Int.reduceSub, Int.reduceMul, Int.reduceNeg, Int.reducePow, Int.reduceToNat, decide_true, decide_false, decide_eq_true_eq, Bool.false_eq_true, List.contains_nil, List.contains_cons, Bool.or_false, Bool.or_self, eq_self, and_self, and_true, true_and, h0, h1, n0, m, s2, e]
    · have m : modD (.int r) (.int t) = some (.int (r % t)) := modD_pos (by omega)
      have e : (t.natAbs : Int) = t := by omega
      simp only [G_paired, g_paired, seqS_eq, nxS, bkS, ctS, nxt_nx, nxt_rt, nxt_bk, nxt_ct, ifS_eq, ifE_eq, brR_t, brR_f, brR_dec, anT_eq, orT_eq, anE_eq, orE_eq, tst_eq, isB_bl, ↓R.bind_bd, R.bd_ok, R.of_some, noT, blE, vr, cst, op1, op2, setS, setR, nxO, asgS, tupG, cnsG, nilG, nmG, subGO, subG, subS, getM, ixM, putO, cnsA, nilA, dTup, dLst, frz, retS, retM, setM, exS, mutS, appO, opC, callE, callM, callG_eq, cnsB, nilB, slB, kwB, ioM, toArgs, okA, slsA, nodN, argG_some, goG_ok, asE, asM, putA, newM, putM, parS, par3S, frzS, frzAt, bindO, endR_rt, endR_nx, endG, FL.collect, bodyG_eq, rho0, toS, wipeR, FL.pick, tru, truD, chn, lenM, slM, slF, noO, smO, catO, catM, litM, isiD, typD, isTy, R.bd_exc, cauE_eq, goG_exc, endR_exc,   List.getElem?_cons_zero, List.getElem?_cons_succ, List.getElem?_nil, List.set_cons_zero, List.set_cons_succ, List.set_nil, List.length_cons, List.length_nil, List.mapIdx_cons, List.mapIdx_nil, List.map_cons, List.map_nil, List.replicate_succ, List.replicate_zero, List.cons_append, List.nil_append, List.append_nil, List.foldl_cons, List.foldl_nil, List.filterMap_cons, List.filterMap_nil, Option.map_some, Option.map_none, Option.bind_some, Option.bind_none, Bool.not_true, Bool.not_false, Bool.and_true, Bool.true_and, Bool.or_true, Bool.and_self, if_true, if_false,   eqA_int, neA_int, eqA_str, neA_str, ltD_int, leD_int, gtD_int, geD_int, addD_int, subD_int, negD_int, absC_int, intC_int, maxC_int, minC_int, lenC_lst, lenC_tup, lenC_scr, Int.cast_ofNat_Int, Int.natCast_zero, Int.natCast_one,   ↓reduceIte, Nat.reduceAdd, Nat.reduceSub, Nat.reduceMul, Nat.reduceLT, Nat.reduceLeDiff, Nat.reduceBEq, Nat.reduceBneDiff, Nat.reduceEqDiff, Nat.reducePow, Int.reduceLT, Int.reduceLE, Int.reduceEq, Int.reduceNe, Int.reduceAdd, Int.reduceSub, Int.reduceMul, Int.reduceNeg, Int.reducePow, Int.reduceToNat, decide_true, decide_false, decide_eq_true_eq, Bool.false_eq_true, List.contains_nil, List.contains_cons, Bool.or_false, Bool.or_self, eq_self, and_self, and_true, true_and, h0, h1, m, s2, e]
/-- the pair of a string -/
def pairI (bs : List Int) : D := .tup [.int ((turnsI bs).1.natAbs : Int), .int (restI (turnsI bs).1 (turnsI bs).2)]
theorem pair_for_ok {bs : List Int} (hb : ∀ b ∈ bs, b.natAbs < 18446744073709551616) : G_pair_for [.val (.tup (bs.map D.int))] = .ok (.v (pairI bs)) [] := by
  have t := turns_of_ok hb
  have p := paired_ok (turnsI bs).1 (turnsI bs).2
  simp only [G_pair_for, g_pair_for, seqS_eq, nxS, bkS, ctS, nxt_nx, nxt_rt, nxt_bk, nxt_ct, ifS_eq, ifE_eq, brR_t, brR_f, brR_dec, anT_eq, orT_eq, anE_eq, orE_eq, tst_eq, isB_bl, ↓R.bind_bd, R.bd_ok, R.of_some, noT, blE, vr, cst, op1, op2, setS, setR, nxO, asgS, tupG, cnsG, nilG, nmG, subGO, subG, subS, getM, ixM, putO, cnsA, nilA, dTup, dLst, frz, retS, retM, setM, exS, mutS, appO, opC, callE, callM, callG_eq, cnsB, nilB, slB, kwB, ioM, toArgs, okA, slsA, nodN, argG_some, goG_ok, asE, asM, putA, newM, putM, parS, par3S, frzS, frzAt, bindO, endR_rt, endR_nx, endG, FL.collect, bodyG_eq, rho0, toS, wipeR, FL.pick, tru, truD, chn, lenM, slM, slF, noO, smO, catO, catM, litM, isiD, typD, isTy, R.bd_exc, cauE_eq, goG_exc, endR_exc,   List.getElem?_cons_zero, List.getElem?_cons_succ, List.getElem?_nil, List.set_cons_zero, List.set_cons_succ, List.set_nil, List.length_cons, List.length_nil, List.mapIdx_cons, List.mapIdx_nil, List.map_cons, List.map_nil, List.replicate_succ, List.replicate_zero, List.cons_append, List.nil_append, List.append_nil, List.foldl_cons, List.foldl_nil, List.filterMap_cons, List.filterMap_nil, Option.map_some, Option.map_none, Option.bind_some, Option.bind_none, Bool.not_true, Bool.not_false, Bool.and_true, Bool.true_and, Bool.or_true, Bool.and_self, if_true, if_false,   eqA_int, neA_int, eqA_str, neA_str, ltD_int, leD_int, gtD_int, geD_int, addD_int, subD_int, negD_int, absC_int, intC_int, maxC_int, minC_int, lenC_lst, lenC_tup, lenC_scr, Int.cast_ofNat_Int, Int.natCast_zero, Int.natCast_one,   ↓reduceIte, Nat.reduceAdd, Nat.reduceSub, Nat.reduceMul, Nat.reduceLT, Nat.reduceLeDiff, Nat.reduceBEq, Nat.reduceBneDiff, Nat.reduceEqDiff, Nat.reducePow, Int.reduceLT, Int.reduceLE, Int.reduceEq, Int.reduceNe, Int.reduceAdd, Int.reduceSub, Int.reduceMul, Int.reduceNeg, Int.reducePow, Int.reduceToNat, decide_true, decide_false, decide_eq_true_eq, Bool.false_eq_true, List.contains_nil, List.contains_cons, Bool.or_false, Bool.or_self, eq_self, and_self, and_true, true_and, t, p, pairI]
theorem pair_of_ok {bs : List Int} (hl : bs.length ≤ 200) (hb : ∀ b ∈ bs, b.natAbs ≤ 1000000000) : G_pair_of [.val (.tup (bs.map D.int))] = .ok (.v (pairI bs)) [] := by
  have c := check_string_ok (strB_ints (bs := bs) (by omega)) (right_string hl hb)
  have p := pair_for_ok (bs := bs) fun b h => by have := hb b h; omega
  simp only [G_pair_of, g_pair_of, seqS_eq, nxS, bkS, ctS, nxt_nx, nxt_rt, nxt_bk, nxt_ct, ifS_eq, ifE_eq, brR_t, brR_f, brR_dec, anT_eq, orT_eq, anE_eq, orE_eq, tst_eq, isB_bl, ↓R.bind_bd, R.bd_ok, R.of_some, noT, blE, vr, cst, op1, op2, setS, setR, nxO, asgS, tupG, cnsG, nilG, nmG, subGO, subG, subS, getM, ixM, putO, cnsA, nilA, dTup, dLst, frz, retS, retM, setM, exS, mutS, appO, opC, callE, callM, callG_eq, cnsB, nilB, slB, kwB, ioM, toArgs, okA, slsA, nodN, argG_some, goG_ok, asE, asM, putA, newM, putM, parS, par3S, frzS, frzAt, bindO, endR_rt, endR_nx, endG, FL.collect, bodyG_eq, rho0, toS, wipeR, FL.pick, tru, truD, chn, lenM, slM, slF, noO, smO, catO, catM, litM, isiD, typD, isTy, R.bd_exc, cauE_eq, goG_exc, endR_exc,   List.getElem?_cons_zero, List.getElem?_cons_succ, List.getElem?_nil, List.set_cons_zero, List.set_cons_succ, List.set_nil, List.length_cons, List.length_nil, List.mapIdx_cons, List.mapIdx_nil, List.map_cons, List.map_nil, List.replicate_succ, List.replicate_zero, List.cons_append, List.nil_append, List.append_nil, List.foldl_cons, List.foldl_nil, List.filterMap_cons, List.filterMap_nil, Option.map_some, Option.map_none, Option.bind_some, Option.bind_none, Bool.not_true, Bool.not_false, Bool.and_true, Bool.true_and, Bool.or_true, Bool.and_self, if_true, if_false,   eqA_int, neA_int, eqA_str, neA_str, ltD_int, leD_int, gtD_int, geD_int, addD_int, subD_int, negD_int, absC_int, intC_int, maxC_int, minC_int, lenC_lst, lenC_tup, lenC_scr, Int.cast_ofNat_Int, Int.natCast_zero, Int.natCast_one,   ↓reduceIte, Nat.reduceAdd, Nat.reduceSub, Nat.reduceMul, Nat.reduceLT, Nat.reduceLeDiff, Nat.reduceBEq, Nat.reduceBneDiff, Nat.reduceEqDiff, Nat.reducePow, Int.reduceLT, Int.reduceLE, Int.reduceEq, Int.reduceNe, Int.reduceAdd, Int.reduceSub, Int.reduceMul, Int.reduceNeg, Int.reducePow, Int.reduceToNat, decide_true, decide_false, decide_eq_true_eq, Bool.false_eq_true, List.contains_nil, List.contains_cons, Bool.or_false, Bool.or_self, eq_self, and_self, and_true, true_and, c, p]

theorem common_wh : ∀ (n : Nat) (a b : Int), 0 ≤ a → 0 ≤ b → b < n → ∃ m, whN [] (tst (op2 gtD (vr 1) (cst (.int 0)))) b_common_1 m [.val (.int a), .val (.int b)] = .ok .nx [.val (.int (Int.gcd a b)), .val (.int 0)]
  | 0, a, b, h0, h1, h => by omega
  | n + 1, a, b, h0, h1, h => by
    by_cases hb : 0 < b
    · obtain ⟨m, e⟩ := common_wh n b (a % b) h1 (Int.emod_nonneg _ (by omega)) (by have := Int.emod_lt_of_pos a hb; omega)
      have g : Int.gcd b (a % b) = Int.gcd a b := by rw [Int.emod_def, Int.gcd_sub_mul_left_right, Int.gcd_comm]
      rw [g] at e
      have eb : b_common_1 [.val (.int a), .val (.int b)] = .ok .nx [.val (.int b), .val (.int (a % b))] := by simp only [b_common_1, seqS_eq, nxS, bkS, ctS, nxt_nx, nxt_rt, nxt_bk, nxt_ct, ifS_eq, ifE_eq, brR_t, brR_f, brR_dec, anT_eq, orT_eq, anE_eq, orE_eq, tst_eq, isB_bl, ↓R.bind_bd, R.bd_ok, R.of_some, noT, blE, vr, cst, op1, op2, setS, setR, nxO, asgS, tupG, cnsG, nilG, nmG, subGO, subG, subS, getM, ixM, putO, cnsA, nilA, dTup, dLst, frz, retS, retM, setM, exS, mutS, appO, opC, callE, callM, callG_eq, cnsB, nilB, slB, kwB, ioM, toArgs, okA, slsA, nodN, argG_some, goG_ok, asE, asM, putA, newM, putM, parS, par3S, frzS, frzAt, bindO, endR_rt, endR_nx, endG, FL.collect, bodyG_eq, rho0, toS, wipeR, FL.pick, tru, truD, chn, lenM, slM, slF, noO, smO, catO, catM, litM, isiD, typD, isTy, R.bd_exc, cauE_eq, goG_exc, endR_exc,   List.getElem?_cons_zero, List.getElem?_cons_succ, List.getElem?_nil, List.set_cons_zero, List.set_cons_succ, List.set_nil, List.length_cons, List.length_nil, List.mapIdx_cons, List.mapIdx_nil, List.map_cons, List.map_nil, List.replicate_succ, List.replicate_zero, List.cons_append, List.nil_append, List.append_nil, List.foldl_cons, List.foldl_nil, List.filterMap_cons, List.filterMap_nil, Option.map_some, Option.map_none, Option.bind_some, Option.bind_none, Bool.not_true, Bool.not_false, Bool.and_true, Bool.true_and, Bool.or_true, Bool.and_self, if_true, if_false,   eqA_int, neA_int, eqA_str, neA_str, ltD_int, leD_int, gtD_int, geD_int, addD_int, subD_int, negD_int, absC_int, intC_int, maxC_int, minC_int, lenC_lst, lenC_tup, lenC_scr, Int.cast_ofNat_Int, Int.natCast_zero, Int.natCast_one,   ↓reduceIte, Nat.reduceAdd, Nat.reduceSub, Nat.reduceMul, Nat.reduceLT, Nat.reduceLeDiff, Nat.reduceBEq, Nat.reduceBneDiff, Nat.reduceEqDiff, Nat.reducePow, Int.reduceLT, Int.reduceLE, Int.reduceEq, Int.reduceNe, Int.reduceAdd, Int.reduceSub, Int.reduceMul, Int.reduceNeg, Int.reducePow, Int.reduceToNat, decide_true, decide_false, decide_eq_true_eq, Bool.false_eq_true, List.contains_nil, List.contains_cons, Bool.or_false, Bool.or_self, eq_self, and_self, and_true, true_and, modD_pos hb]
      exact ⟨m + 1, by simp only [whN, seqS_eq, nxS, bkS, ctS, nxt_nx, nxt_rt, nxt_bk, nxt_ct, ifS_eq, ifE_eq, brR_t, brR_f, brR_dec, anT_eq, orT_eq, anE_eq, orE_eq, tst_eq, isB_bl, ↓R.bind_bd, R.bd_ok, R.of_some, noT, blE, vr, cst, op1, op2, setS, setR, nxO, asgS, tupG, cnsG, nilG, nmG, subGO, subG, subS, getM, ixM, putO, cnsA, nilA, dTup, dLst, frz, retS, retM, setM, exS, mutS, appO, opC, callE, callM, callG_eq, cnsB, nilB, slB, kwB, ioM, toArgs, okA, slsA, nodN, argG_some, goG_ok, asE, asM, putA, newM, putM, parS, par3S, frzS, frzAt, bindO, endR_rt, endR_nx, endG, FL.collect, bodyG_eq, rho0, toS, wipeR, FL.pick, tru, truD, chn, lenM, slM, slF, noO, smO, catO, catM, litM, isiD, typD, isTy, R.bd_exc, cauE_eq, goG_exc, endR_exc,   List.getElem?_cons_zero, List.getElem?_cons_succ, List.getElem?_nil, List.set_cons_zero, List.set_cons_succ, List.set_nil, List.length_cons, List.length_nil, List.mapIdx_cons, List.mapIdx_nil, List.map_cons, List.map_nil, List.replicate_succ, List.replicate_zero, List.cons_append, List.nil_append, List.append_nil, List.foldl_cons, List.foldl_nil, List.filterMap_cons, List.filterMap_nil, Option.map_some, Option.map_none, Option.bind_some, Option.bind_none, Bool.not_true, Bool.not_false, Bool.and_true, Bool.true_and, Bool.or_true, Bool.and_self, if_true, if_false,   eqA_int, neA_int, eqA_str, neA_str, ltD_int, leD_int, gtD_int, geD_int, addD_int, subD_int, negD_int, absC_int, intC_int, maxC_int, minC_int, lenC_lst, lenC_tup, lenC_scr, Int.cast_ofNat_Int, Int.natCast_zero, Int.natCast_one,   ↓reduceIte, Nat.reduceAdd, Nat.reduceSub, Nat.reduceMul, Nat.reduceLT, Nat.reduceLeDiff, Nat.reduceBEq, Nat.reduceBneDiff, Nat.reduceEqDiff, Nat.reducePow, Int.reduceLT, Int.reduceLE, Int.reduceEq, Int.reduceNe, Int.reduceAdd, Int.reduceSub, Int.reduceMul, Int.reduceNeg, Int.reducePow, Int.reduceToNat, decide_true, decide_false, decide_eq_true_eq, Bool.false_eq_true, List.contains_nil, List.contains_cons, Bool.or_false, Bool.or_self, eq_self, and_self, and_true, true_and, hb, eb, e]⟩
    · have : b = 0 := by omega
      subst this
      refine ⟨1, ?_⟩
      have g : ((Int.gcd a 0 : Nat) : Int) = a := by rw [Int.gcd_zero_right]; omega
      rw [g]
      simp only [whN, seqS_eq, nxS, bkS, ctS, nxt_nx, nxt_rt, nxt_bk, nxt_ct, ifS_eq, ifE_eq, brR_t, brR_f, brR_dec, anT_eq, orT_eq, anE_eq, orE_eq, tst_eq, isB_bl, ↓R.bind_bd, R.bd_ok, R.of_some, noT, blE, vr, cst, op1, op2, setS, setR, nxO, asgS, tupG, cnsG, nilG, nmG, subGO, subG, subS, getM, ixM, putO, cnsA, nilA, dTup, dLst, frz, retS, retM, setM, exS, mutS, appO, opC, callE, callM, callG_eq, cnsB, nilB, slB, kwB, ioM, toArgs, okA, slsA, nodN, argG_some, goG_ok, asE, asM, putA, newM, putM, parS, par3S, frzS, frzAt, bindO, endR_rt, endR_nx, endG, FL.collect, bodyG_eq, rho0, toS, wipeR, FL.pick, tru, truD, chn, lenM, slM, slF, noO, smO, catO, catM, litM, isiD, typD, isTy, R.bd_exc, cauE_eq, goG_exc, endR_exc,   List.getElem?_cons_zero, List.getElem?_cons_succ, List.getElem?_nil, List.set_cons_zero, List.set_cons_succ, List.set_nil, List.length_cons, List.length_nil, List.mapIdx_cons, List.mapIdx_nil, List.map_cons, List.map_nil, List.replicate_succ, List.replicate_zero, List.cons_append, List.nil_append, List.append_nil, List.foldl_cons, List.foldl_nil, List.filterMap_cons, List.filterMap_nil, Option.map_some, Option.map_none, Option.bind_some, Option.bind_none, Bool.not_true, Bool.not_false, Bool.and_true, Bool.true_and, Bool.or_true, Bool.and_self, if_true, if_false,   eqA_int, neA_int, eqA_str, neA_str, ltD_int, leD_int, gtD_int, geD_int, addD_int, subD_int, negD_int, absC_int, intC_int, maxC_int, minC_int, lenC_lst, lenC_tup, lenC_scr, Int.cast_ofNat_Int, Int.natCast_zero, Int.natCast_one,   ↓reduceIte, Nat.reduceAdd, Nat.reduceSub, Nat.reduceMul, Nat.reduceLT, Nat.reduceLeDiff, Nat.reduceBEq, Nat.reduceBneDiff, Nat.reduceEqDiff, Nat.reducePow, Int.reduceLT, Int.reduceLE, Int.reduceEq, Int.reduceNe, Int.reduceAdd, Int.reduceSub, Int.reduceMul, Int.reduceNeg, Int.reducePow, Int.reduceToNat, decide_true, decide_false, decide_eq_true_eq, Bool.false_eq_true, List.contains_nil, List.contains_cons, Bool.or_false, Bool.or_self, eq_self, and_self, and_true, true_and]
theorem common_ok {a b : Int} (h0 : 0 ≤ a) (h1 : 0 ≤ b) : G_common [.val (.int a), .val (.int b)] = .ok (.v (.int (Int.gcd a b))) [] := by
  obtain ⟨m, e⟩ := common_wh (b.toNat + 1) a b h0 h1 (by omega)
  have w := whS_eq (ks := []) (t := (tst (op2 gtD (vr 1) (cst (.int 0))))) (b := b_common_1) (n := m) (ρ := [.val (.int a), .val (.int b)]) (by rw [e]; rfl)
  rw [e] at w
  simp only [G_common, g_common, seqS_eq, nxS, bkS, ctS, nxt_nx, nxt_rt, nxt_bk, nxt_ct, ifS_eq, ifE_eq, brR_t, brR_f, brR_dec, anT_eq, orT_eq, anE_eq, orE_eq, tst_eq, isB_bl, ↓R.bind_bd, R.bd_ok, R.of_some, noT, blE, vr, cst, op1, op2, setS, setR, nxO, asgS, tupG, cnsG, nilG, nmG, subGO, subG, subS, getM, ixM, putO, cnsA, nilA, dTup, dLst, frz, retS, retM, setM, exS, mutS, appO, opC, callE, callM, callG_eq, cnsB, nilB, slB, kwB, ioM, toArgs, okA, slsA, nodN, argG_some, goG_ok, asE, asM, putA, newM, putM, parS, par3S, frzS, frzAt, bindO, endR_rt, endR_nx, endG, FL.collect, bodyG_eq, rho0, toS, wipeR, FL.pick, tru, truD, chn, lenM, slM, slF, noO, smO, catO, catM, litM, isiD, typD, isTy, R.bd_exc, cauE_eq, goG_exc, endR_exc,   List.getElem?_cons_zero, List.getElem?_cons_succ, List.getElem?_nil, List.set_cons_zero, List.set_cons_succ, List.set_nil, List.length_cons, List.length_nil, List.mapIdx_cons, List.mapIdx_nil, List.map_cons, List.map_nil, List.replicate_succ, List.replicate_zero, List.cons_append, List.nil_append, List.append_nil, List.foldl_cons, List.foldl_nil, List.filterMap_cons, List.filterMap_nil, Option.map_some, Option.map_none, Option.bind_some, Option.bind_none, Bool.not_true, Bool.not_false, Bool.and_true, Bool.true_and, Bool.or_true, Bool.and_self, if_true, if_false,   eqA_int, neA_int, eqA_str, neA_str, ltD_int, leD_int, gtD_int, geD_int, addD_int, subD_int, negD_int, absC_int, intC_int, maxC_int, minC_int, lenC_lst, lenC_tup, lenC_scr, Int.cast_ofNat_Int, Int.natCast_zero, Int.natCast_one,   ↓reduceIte, Nat.reduceAdd, Nat.reduceSub, Nat.reduceMul, Nat.reduceLT, Nat.reduceLeDiff, Nat.reduceBEq, Nat.reduceBneDiff, Nat.reduceEqDiff, Nat.reducePow, Int.reduceLT, Int.reduceLE, Int.reduceEq, Int.reduceNe, Int.reduceAdd, Int.reduceSub, Int.reduceMul, Int.reduceNeg, Int.reducePow, Int.reduceToNat, decide_true, decide_false, decide_eq_true_eq, Bool.false_eq_true, List.contains_nil, List.contains_cons, Bool.or_false, Bool.or_self, eq_self, and_self, and_true, true_and, w]

/-- a pair of numbers -/
abbrev D2 (p q : Int) : D := .tup [.int p, .int q]
def pairB (p q : Int) : Bool := if p = 0 then decide (q = 1) else decide (0 ≤ q) && decide (q < p) && decide (Int.gcd p q = 1)
theorem is_pair_ok (p q : Int) : G_is_pair [.val (D2 p q)] = .ok (.v (.bl (pairB p q))) [] := by
  have a0 : ixD (D2 p q) (.int 0) = some (.int p) := rfl
  have a1 : ixD (D2 p q) (.int 1) = some (.int q) := rfl
  unfold pairB
  by_cases hp : p = 0
  · subst hp
    simp only [G_is_pair, g_is_pair, seqS_eq, nxS, bkS, ctS, nxt_nx, nxt_rt, nxt_bk, nxt_ct, ifS_eq, ifE_eq, brR_t, brR_f, brR_dec, anT_eq, orT_eq, anE_eq, orE_eq, tst_eq, isB_bl, ↓R.bind_bd, R.bd_ok, R.of_some, noT, blE, vr, cst, op1, op2, setS, setR, nxO, asgS, tupG, cnsG, nilG, nmG, subGO, subG, subS, getM, ixM, putO, cnsA, nilA, dTup, dLst, frz, retS, retM, setM, exS, mutS, appO, opC, callE, callM, callG_eq, cnsB, nilB, slB, kwB, ioM, toArgs, okA, slsA, nodN, argG_some, goG_ok, asE, asM, putA, newM, putM, parS, par3S, frzS, frzAt, bindO, endR_rt, endR_nx, endG, FL.collect, bodyG_eq, rho0, toS, wipeR, FL.pick, tru, truD, chn, lenM, slM, slF, noO, smO, catO, catM, litM, isiD, typD, isTy, R.bd_exc, cauE_eq, goG_exc, endR_exc,   List.getElem?_cons_zero, List.getElem?_cons_succ, List.getElem?_nil, List.set_cons_zero, List.set_cons_succ, List.set_nil, List.length_cons, List.length_nil, List.mapIdx_cons, List.mapIdx_nil, List.map_cons, List.map_nil, List.replicate_succ, List.replicate_zero, List.cons_append, List.nil_append, List.append_nil, List.foldl_cons, List.foldl_nil, List.filterMap_cons, List.filterMap_nil, Option.map_some, Option.map_none, Option.bind_some, Option.bind_none, Bool.not_true, Bool.not_false, Bool.and_true, Bool.true_and, Bool.or_true, Bool.and_self, if_true, if_false,   eqA_int, neA_int, eqA_str, neA_str, ltD_int, leD_int, gtD_int, geD_int, addD_int, subD_int, negD_int, absC_int, intC_int, maxC_int, minC_int, lenC_lst, lenC_tup, lenC_scr, Int.cast_ofNat_Int, Int.natCast_zero, Int.natCast_one,   ↓reduceIte, Nat.reduceAdd, Nat.reduceSub, Nat.reduceMul, Nat.reduceLT, Nat.reduceLeDiff, Nat.reduceBEq, Nat.reduceBneDiff, Nat.reduceEqDiff, Nat.reducePow, Int.reduceLT, Int.reduceLE, Int.reduceEq, Int.reduceNe, Int.reduceAdd, Int.reduceSub, Int.reduceMul, Int.reduceNeg, Int.reducePow, Int.reduceToNat, decide_true, decide_false, decide_eq_true_eq, Bool.false_eq_true, List.contains_nil, List.contains_cons, Bool.or_false, Bool.or_self, eq_self, and_self, and_true, true_and, a0, a1, is_integer_int]
  · by_cases h0 : 0 ≤ q
    · by_cases h1 : q < p
      · have c := common_ok (a := p) (b := q) (by omega) h0
        have e : ((Int.gcd p q : Nat) : Int) = 1 ↔ Int.gcd p q = 1 := by omega
        simp only [G_is_pair, g_is_pair, seqS_eq, nxS, bkS, ctS, nxt_nx, nxt_rt, nxt_bk, nxt_ct, ifS_eq, ifE_eq, brR_t, brR_f, brR_dec, anT_eq, orT_eq, anE_eq, orE_eq, tst_eq, isB_bl, ↓R.bind_bd, R.bd_ok, R.of_some, noT, blE, vr, cst, op1, op2, setS, setR, nxO, asgS, tupG, cnsG, nilG, nmG, subGO, subG, subS, getM, ixM, putO, cnsA, nilA, dTup, dLst, frz, retS, retM, setM, exS, mutS, appO, opC, callE, callM, callG_eq, cnsB, nilB, slB, kwB, ioM, toArgs, okA, slsA, nodN, argG_some, goG_ok, asE, asM, putA, newM, putM, parS, par3S, frzS, frzAt, bindO, endR_rt, endR_nx, endG, FL.collect, bodyG_eq, rho0, toS, wipeR, FL.pick, tru, truD, chn, lenM, slM, slF, noO, smO, catO, catM, litM, isiD, typD, isTy, R.bd_exc, cauE_eq, goG_exc, endR_exc,   List.getElem?_cons_zero, List.getElem?_cons_succ, List.getElem?_nil, List.set_cons_zero, List.set_cons_succ, List.set_nil, List.length_cons, List.length_nil, List.mapIdx_cons, List.mapIdx_nil, List.map_cons, List.map_nil, List.replicate_succ, List.replicate_zero, List.cons_append, List.nil_append, List.append_nil, List.foldl_cons, List.foldl_nil, List.filterMap_cons, List.filterMap_nil, Option.map_some, Option.map_none, Option.bind_some, Option.bind_none, Bool.not_true, Bool.not_false, Bool.and_true, Bool.true_and, Bool.or_true, Bool.and_self, if_true, if_false,   eqA_int, neA_int, eqA_str, neA_str, ltD_int, leD_int, gtD_int, geD_int, addD_int, subD_int, negD_int, absC_int, intC_int, maxC_int, minC_int, lenC_lst, lenC_tup, lenC_scr, Int.cast_ofNat_Int, Int.natCast_zero, Int.natCast_one,   ↓reduceIte, Nat.reduceAdd, Nat.reduceSub, Nat.reduceMul, Nat.reduceLT, Nat.reduceLeDiff, Nat.reduceBEq, Nat.reduceBneDiff, Nat.reduceEqDiff, Nat.reducePow, Int.reduceLT, Int.reduceLE, Int.reduceEq, Int.reduceNe, Int.reduceAdd, Int.reduceSub, Int.reduceMul, Int.reduceNeg, Int.reducePow, Int.reduceToNat, decide_true, decide_false, decide_eq_true_eq, Bool.false_eq_true, List.contains_nil, List.contains_cons, Bool.or_false, Bool.or_self, eq_self, and_self, and_true, true_and, a0, a1, is_integer_int, hp, h0, h1, c, e]
      · simp only [G_is_pair, g_is_pair, seqS_eq, nxS, bkS, ctS, nxt_nx, nxt_rt, nxt_bk, nxt_ct, ifS_eq, ifE_eq, brR_t, brR_f, brR_dec, anT_eq, orT_eq, anE_eq, orE_eq, tst_eq, isB_bl, ↓R.bind_bd, R.bd_ok, R.of_some, noT, blE, vr, cst, op1, op2, setS, setR, nxO, asgS, tupG, cnsG, nilG, nmG, subGO, subG, subS, getM, ixM, putO, cnsA, nilA, dTup, dLst, frz, retS, retM, setM, exS, mutS, appO, opC, callE, callM, callG_eq, cnsB, nilB, slB, kwB, ioM, toArgs, okA, slsA, nodN, argG_some, goG_ok, asE, asM, putA, newM, putM, parS, par3S, frzS, frzAt, bindO, endR_rt, endR_nx, endG, FL.collect, bodyG_eq, rho0, toS, wipeR, FL.pick, tru, truD, chn, lenM, slM, slF, noO, smO, catO, catM, litM, isiD, typD, isTy, R.bd_exc, cauE_eq, goG_exc, endR_exc,   List.getElem?_cons_zero, List.getElem?_cons_succ, List.getElem?_nil, List.set_cons_zero, List.set_cons_succ, List.set_nil, List.length_cons, List.length_nil, List.mapIdx_cons, List.mapIdx_nil, List.map_cons, List.map_nil, List.replicate_succ, List.replicate_zero, List.cons_append, List.nil_append, List.append_nil, List.foldl_cons, List.foldl_nil, List.filterMap_cons, List.filterMap_nil, Option.map_some, Option.map_none, Option.bind_some, Option.bind_none, Bool.not_true, Bool.not_false, Bool.and_true, Bool.true_and, Bool.or_true, Bool.and_self, if_true, if_false,   eqA_int, neA_int, eqA_str, neA_str, ltD_int, leD_int, gtD_int, geD_int, addD_int, subD_int, negD_int, absC_int, intC_int, maxC_int, minC_int, lenC_lst, lenC_tup, lenC_scr, Int.cast_ofNat_Int, Int.natCast_zero, Int.natCast_one,   ↓reduceIte, Nat.reduceAdd, Nat.reduceSub, Nat.reduceMul, Nat.reduceLT, Nat.reduceLeDiff, Nat.reduceBEq, Nat.reduceBneDiff, Nat.reduceEqDiff, Nat.reducePow, Int.reduceLT, Int.reduceLE, Int.reduceEq, Int.reduceNe, Int.reduceAdd, Int.reduceSub, Int.reduceMul, Int.reduceNeg, Int.reducePow, Int.reduceToNat, decide_true, decide_false, decide_eq_true_eq, Bool.false_eq_true, List.contains_nil, List.contains_cons, Bool.or_false, Bool.or_self, eq_self, and_self, and_true, true_and, a0, a1, is_integer_int, hp, h0, h1, Bool.and_false, Bool.false_and]
    · simp only [G_is_pair, g_is_pair, seqS_eq, nxS, bkS, ctS, nxt_nx, nxt_rt, nxt_bk, nxt_ct, ifS_eq, ifE_eq, brR_t, brR_f, brR_dec, anT_eq, orT_eq, anE_eq, orE_eq, tst_eq, isB_bl, ↓R.bind_bd, R.bd_ok, R.of_some, noT, blE, vr, cst, op1, op2, setS, setR, nxO, asgS, tupG, cnsG, nilG, nmG, subGO, subG, subS, getM, ixM, putO, cnsA, nilA, dTup, dLst, frz, retS, retM, setM, exS, mutS, appO, opC, callE, callM, callG_eq, cnsB, nilB, slB, kwB, ioM, toArgs, okA, slsA, nodN, argG_some, goG_ok, asE, asM, putA, newM, putM, parS, par3S, frzS, frzAt, bindO, endR_rt, endR_nx, endG, FL.collect, bodyG_eq, rho0, toS, wipeR, FL.pick, tru, truD, chn, lenM, slM, slF, noO, smO, catO, catM, litM, isiD, typD, isTy, R.bd_exc, cauE_eq, goG_exc, endR_exc,   List.getElem?_cons_zero, List.getElem?_cons_succ, List.getElem?_nil, List.set_cons_zero, List.set_cons_succ, List.set_nil, List.length_cons, List.length_nil, List.mapIdx_cons, List.mapIdx_nil, List.map_cons, List.map_nil, List.replicate_succ, List.replicate_zero, List.cons_append, List.nil_append, List.append_nil, List.foldl_cons, List.foldl_nil, List.filterMap_cons, List.filterMap_nil, Option.map_some, Option.map_none, Option.bind_some, Option.bind_none, Bool.not_true, Bool.not_false, Bool.and_true, Bool.true_and, Bool.or_true, Bool.and_self, if_true, if_false,   eqA_int, neA_int, eqA_str, neA_str, ltD_int, leD_int, gtD_int, geD_int, addD_int, subD_int, negD_int, absC_int, intC_int, maxC_int, minC_int, lenC_lst, lenC_tup, lenC_scr, Int.cast_ofNat_Int, Int.natCast_zero, Int.natCast_one,   ↓reduceIte, Nat.reduceAdd, Nat.reduceSub, Nat.reduceMul, Nat.reduceLT, Nat.reduceLeDiff, Nat.reduceBEq, Nat.reduceBneDiff, Nat.reduceEqDiff, Nat.reducePow, Int.reduceLT, Int.reduceLE, Int.reduceEq, Int.reduceNe, Int.reduceAdd, Int.reduceSub, Int.reduceMul, Int.reduceNeg, Int.reducePow, Int.reduceToNat, decide_true, decide_false, decide_eq_true_eq, Bool.false_eq_true, List.contains_nil, List.contains_cons, Bool.or_false, Bool.or_self, eq_self, and_self, and_true, true_and, a0, a1, is_integer_int, hp, h0, Bool.false_and]
theorem eqA_D2 (p q p' q' : Int) : eqA (D2 p q) (D2 p' q') = some (.bl (decide (p = p') && decide (q = q'))) := by
  have e : ∀ x y : Int, (x == y) = decide (x = y) := fun x y => by
    rw [Bool.eq_iff_iff, beq_iff_eq, decide_eq_true_eq]
  show some (D.bl ((p == p') && ((q == q') && true))) = _
  rw [e, e, Bool.and_true]

/-! T of a string and of its parts -/
theorem turnsI_cons (x : Int) (xs : List Int) : turnsI (x :: xs) = (x * (turnsI xs).1 - (turnsI xs).2, (turnsI xs).1) := rfl
/-- the second column: T of it without its last bead, and without both, with the other sign -/
def turns2 (bs : List Int) : Int × Int := bs.foldr stepT (0, 1)
theorem turns2_cons (x : Int) (xs : List Int) : turns2 (x :: xs) = (x * (turns2 xs).1 - (turns2 xs).2, (turns2 xs).1) := rfl
theorem turns_det : ∀ xs : List Int, (turnsI xs).1 * (turns2 xs).2 - (turnsI xs).2 * (turns2 xs).1 = 1
  | [] => rfl
  | x :: xs => by
    have h := turns_det xs
    rw [turnsI_cons, turns2_cons]
    generalize (turnsI xs).1 = a at *
    generalize (turnsI xs).2 = b at *
    generalize (turns2 xs).1 = c at *
    generalize (turns2 xs).2 = d at *
    show (x * a - b) * c - a * (x * c - d) = 1
    grind
theorem fold_lin : ∀ (xs : List Int) (h b : Int), xs.foldr stepT (h, b) = (h * (turnsI xs).1 + b * (turns2 xs).1, h * (turnsI xs).2 + b * (turns2 xs).2)
  | [], h, b => by
    show (h, b) = (h * 1 + b * 0, h * 0 + b * 1)
    simp
  | x :: xs, h, b => by
    rw [List.foldr_cons, fold_lin xs h b, turnsI_cons, turns2_cons]
    show (x * _ - _, _) = (_, _)
    refine Prod.ext ?_ rfl
    show x * (h * (turnsI xs).1 + b * (turns2 xs).1) - (h * (turnsI xs).2 + b * (turns2 xs).2) = h * (x * (turnsI xs).1 - (turnsI xs).2) + b * (x * (turns2 xs).1 - (turns2 xs).2)
    generalize (turnsI xs).1 = p
    generalize (turnsI xs).2 = q
    generalize (turns2 xs).1 = r
    generalize (turns2 xs).2 = s
    grind
theorem turns_snoc (xs : List Int) (x : Int) : turnsI (xs ++ [x]) = (x * (turnsI xs).1 + (turns2 xs).1, x * (turnsI xs).2 + (turns2 xs).2) := by
  unfold turnsI
  rw [List.foldr_append]
  show xs.foldr stepT (x * 1 - 0, 1) = _
  rw [fold_lin]
  refine Prod.ext ?_ ?_
  · show (x * 1 - 0) * (turnsI xs).1 + 1 * (turns2 xs).1 = x * (turnsI xs).1 + (turns2 xs).1
    rw [Int.mul_one, Int.sub_zero, Int.one_mul]
  · show (x * 1 - 0) * (turnsI xs).2 + 1 * (turns2 xs).2 = x * (turnsI xs).2 + (turns2 xs).2
    rw [Int.mul_one, Int.sub_zero, Int.one_mul]
theorem turns2_snoc (xs : List Int) (x : Int) : turns2 (xs ++ [x]) = (-(turnsI xs).1, -(turnsI xs).2) := by
  unfold turns2
  rw [List.foldr_append]
  show xs.foldr stepT (x * 0 - 1, 0) = _
  rw [fold_lin]
  refine Prod.ext ?_ ?_
  · show (x * 0 - 1) * (turnsI xs).1 + 0 * (turns2 xs).1 = -(turnsI xs).1
    rw [Int.mul_zero, Int.zero_mul]
    omega
  · show (x * 0 - 1) * (turnsI xs).2 + 0 * (turns2 xs).2 = -(turnsI xs).2
    rw [Int.mul_zero, Int.zero_mul]
    omega
theorem turns_rev : ∀ xs : List Int, (turnsI xs.reverse).1 = (turnsI xs).1 ∧ (turnsI xs.reverse).2 = -(turns2 xs).1 ∧ (turns2 xs.reverse).1 = -(turnsI xs).2 ∧ (turns2 xs.reverse).2 = (turns2 xs).2
  | [] => ⟨rfl, rfl, rfl, rfl⟩
  | x :: xs => by
    obtain ⟨h1, h2, h3, h4⟩ := turns_rev xs
    rw [List.reverse_cons, turns_snoc, turns2_snoc, turnsI_cons, turns2_cons, h1, h2, h3, h4]
    refine ⟨?_, ?_, rfl, ?_⟩
    · show x * (turnsI xs).1 + -(turnsI xs).2 = x * (turnsI xs).1 - (turnsI xs).2
      omega
    · show x * -(turns2 xs).1 + (turns2 xs).2 = -(x * (turns2 xs).1 - (turns2 xs).2)
      rw [Int.mul_neg]
      omega
    · show - -(turns2 xs).1 = (turns2 xs).1
      omega
/-- what the two rests of a string and of it turned about are to one another -/
theorem rests_inv {bs : List Int} (h : 2 ≤ (turnsI bs).1.natAbs) : restI (turnsI bs).1 (turnsI bs).2 * restI (turnsI bs.reverse).1 (turnsI bs.reverse).2 % ((turnsI bs).1.natAbs : Int) = 1 := by
  obtain ⟨h1, h2, _, _⟩ := turns_rev bs
  have d := turns_det bs
  rw [h1, h2]
  generalize (turnsI bs).1 = t at *
  generalize (turnsI bs).2 = r at *
  generalize (turns2 bs).1 = l at *
  generalize (turns2 bs).2 = m at *
  have ht : t ≠ 0 := by omega
  unfold restI
  rw [if_neg ht, if_neg ht, ← Int.mul_emod]
  have key : ∃ k, (if t < 0 then -r else r) * (if t < 0 then - -l else -l) = 1 + (t.natAbs : Int) * k := by
    by_cases hn : t < 0
    · rw [if_pos hn, if_pos hn, show (t.natAbs : Int) = -t by omega]
      exact ⟨m, by grind⟩
    · rw [if_neg hn, if_neg hn, show (t.natAbs : Int) = t by omega]
      exact ⟨-m, by grind⟩
  obtain ⟨k, e⟩ := key
  rw [e, Int.add_mul_emod_self_left]
  exact Int.emod_eq_of_lt (by decide) (by omega)
theorem inv_gcd {p q r : Int} (h : q * r % p = 1) : Int.gcd p q = 1 := by
  have d : ((Int.gcd p q : Nat) : Int) ∣ 1 := by
    have h1 : ((Int.gcd p q : Nat) : Int) ∣ p := Int.gcd_dvd_left ..
    have h2 : ((Int.gcd p q : Nat) : Int) ∣ q := Int.gcd_dvd_right ..
    have e := Int.emod_add_mul_ediv (q * r) p
    rw [h] at e
    have h3 : ((Int.gcd p q : Nat) : Int) ∣ q * r := Int.dvd_trans h2 (Int.dvd_mul_right q r)
    have h4 : ((Int.gcd p q : Nat) : Int) ∣ p * (q * r / p) := Int.dvd_trans h1 (Int.dvd_mul_right p _)
    have : (1 : Int) = q * r - p * (q * r / p) := by omega
    rw [this]
    exact Int.dvd_sub h3 h4
  have := Int.natAbs_dvd_natAbs.mpr d
  simpa using this
theorem inv_uniq {p q x y : Int} (hx : q * x % p = 1) (hy : q * y % p = 1) (x0 : 0 ≤ x) (x1 : x < p) (y0 : 0 ≤ y) (y1 : y < p) : x = y := by
  have ex := Int.emod_add_mul_ediv (q * x) p
  have ey := Int.emod_add_mul_ediv (q * y) p
  rw [hx] at ex
  rw [hy] at ey
  generalize q * x / p = a at ex
  generalize q * y / p = b at ey
  -- x = x * (q y - p b), y = y * (q x - p a)
  have e1 : x - y = p * (x * -b + y * a) := by
    have h1 : x * (q * y) = x * (1 + p * b) := by rw [ey]
    have h2 : y * (q * x) = y * (1 + p * a) := by rw [ex]
    have h3 : x * (q * y) = y * (q * x) := by grind
    have h4 : x * (1 + p * b) = y * (1 + p * a) := by rw [← h1, ← h2, h3]
    grind
  have hx' : x % p = x := Int.emod_eq_of_lt x0 x1
  have hy' : y % p = y := Int.emod_eq_of_lt y0 y1
  have e2 : x = y + p * (x * -b + y * a) := by omega
  have e3 : x % p = y % p := by
    generalize x * -b + y * a = k at e2
    rw [e2, Int.add_mul_emod_self_left]
  omega
theorem restI_bounds (t r : Int) (h : t ≠ 0) : 0 ≤ restI t r ∧ restI t r < (t.natAbs : Int) := by
  unfold restI
  rw [if_neg h]
  exact ⟨Int.emod_nonneg _ (by omega), Int.emod_lt_of_pos _ (by omega)⟩

theorem mulD_g {a b : Int} (h : a.natAbs.log2 + b.natAbs.log2 < 1000000) : mulD (.int a) (.int b) = some (.int (a * b)) := by
  refine if_pos ?_
  unfold mulOk
  rw [decide_eq_true h, Bool.or_true]
theorem log2_le_of {n k : Nat} (h : n < 2 ^ (k + 1)) : n.log2 ≤ k := by
  by_cases z : n = 0
  · rw [z]
    exact Nat.zero_le _
  · have := (Nat.log2_lt z).mpr h
    omega
theorem fdivD_g {a b : Int} (h0 : 0 < b) (h : b.natAbs.log2 < 9000) : fdivD (.int a) (.int b) = some (.int (a / b)) := by
  have e : a.fdiv b = a / b := Int.fdiv_eq_ediv_of_nonneg a (Int.le_of_lt h0)
  rw [← e]
  exact if_pos (.inr ⟨by omega, h⟩)
theorem inverse_wh (n w : Int) (hw : w.natAbs < 2 ^ 8000) : ∀ (m : Nat) (one other a b s : Int) (c6 : Slot), 0 < one → 0 ≤ other → other < m → one ≤ w → other ≤ w → 0 ≤ a → 0 ≤ b → (s = 1 ∨ s = -1) → one * b + other * a = w → (∃ k, -s * a * n = one + w * k) → (∃ k, s * b * n = other + w * k) →
    ∃ (fuel : Nat) (g pt : Int) (c6' : Slot), whN [] (tst (op2 gtD (vr 3) (cst (.int 0)))) b_inverse_1 fuel [.val (.int n), .val (.int w), .val (.int one), .val (.int other), .val (.int (-s * a)), .val (.int (s * b)), c6] = .ok .nx [.val (.int n), .val (.int w), .val (.int (Int.gcd one other)), .val (.int 0), .val (.int g), .val (.int pt), c6'] ∧ ∃ k, g * n = (Int.gcd one other : Int) + w * k
  | 0, one, other, a, b, s, c6, _, h1, h2, _, _, _, _, _, _, _, _ => by omega
  | m + 1, one, other, a, b, s, c6, h0, h1, h2, h3, h3', ha, hb, hs, hd, hk1, hk2 => by
    by_cases ho : 0 < other
    · have lw : ∀ x : Int, x.natAbs ≤ w.natAbs → x.natAbs.log2 ≤ 7999 := fun x x1 => log2_le_of (Nat.lt_of_le_of_lt x1 hw)
      have bw : b ≤ w := by
        have h5 : 1 * b ≤ one * b := Int.mul_le_mul_of_nonneg_right (by omega) hb
        have h6 : 0 ≤ other * a := Int.mul_nonneg h1 ha
        omega
      have t0 : 0 ≤ one / other := Int.ediv_nonneg (by omega) (by omega)
      have t1 : one / other ≤ one := Int.ediv_le_self _ (by omega)
      have em : one - one / other * other = one % other := by rw [Int.emod_def, Int.mul_comm]
      have r0 := Int.emod_nonneg one (show other ≠ 0 by omega)
      have r1 := Int.emod_lt_of_pos one ho
      have f1 : fdivD (.int one) (.int other) = some (.int (one / other)) := fdivD_g ho (by have := lw other (by omega); omega)
      have sb : (s * b).natAbs ≤ w.natAbs := by rcases hs with rfl | rfl <;> omega
      have m1 : mulD (.int (one / other)) (.int other) = some (.int (one / other * other)) := mulD_g (by have := lw other (by omega); have := lw (one / other) (by omega); omega)
      have m2 : mulD (.int (one / other)) (.int (s * b)) = some (.int (one / other * (s * b))) := mulD_g (by have := lw (s * b) sb; have := lw (one / other) (by omega); omega)
      have e5 : -s * a - one / other * (s * b) = -s * (a + one / other * b) := by
        generalize one / other = t
        grind
      obtain ⟨k1, hk1⟩ := hk1
      obtain ⟨k2, hk2⟩ := hk2
      obtain ⟨fuel, g, pt, c6', e, hg⟩ := inverse_wh n w hw m other (one % other) b (a + one / other * b) (-s) (.val (.int (one / other))) ho r0 (by omega) h3' (by omega) hb (by have := Int.mul_nonneg t0 hb; omega) (by rcases hs with rfl | rfl <;> simp) (by
          rw [← em, ← hd]
          generalize one / other = t
          grind) ⟨k2, by rw [Int.neg_neg]; exact hk2⟩ ⟨k1 - one / other * k2, by
          rw [← em]
          generalize one / other = t
          have e1 : -s * (a + t * b) * n = -s * a * n - t * (s * b * n) := by grind
          rw [e1, hk1, hk2]
          grind⟩
      have gg : Int.gcd other (one % other) = Int.gcd one other := by rw [Int.emod_def, Int.gcd_sub_mul_left_right, Int.gcd_comm]
      rw [gg, Int.neg_neg] at e
      rw [gg] at hg
      refine ⟨fuel + 1, g, pt, c6', ?_, hg⟩
      have eb : b_inverse_1 [.val (.int n), .val (.int w), .val (.int one), .val (.int other), .val (.int (-s * a)), .val (.int (s * b)), c6] = .ok .nx [.val (.int n), .val (.int w), .val (.int other), .val (.int (one % other)), .val (.int (s * b)), .val (.int (-s * (a + one / other * b))), .val (.int (one / other))] := by
        simp only [b_inverse_1, seqS_eq, nxS, bkS, ctS, nxt_nx, nxt_rt, nxt_bk, nxt_ct, ifS_eq, ifE_eq, brR_t, brR_f, brR_dec, anT_eq, orT_eq, anE_eq, orE_eq, tst_eq, isB_bl, ↓R.bind_bd, R.bd_ok, R.of_some, noT, blE, vr, cst, op1, op2, setS, setR, nxO, asgS, tupG, cnsG, nilG, nmG, subGO, subG, subS, getM, ixM, putO, cnsA, nilA, dTup, dLst, frz, retS, retM, setM, exS, mutS, appO, opC, callE, callM, callG_eq, cnsB, nilB, slB, kwB, ioM, toArgs, okA, slsA, nodN, argG_some, goG_ok, asE, asM, putA, newM, putM, parS, par3S, frzS, frzAt, bindO, endR_rt, endR_nx, endG, FL.collect, bodyG_eq, rho0, toS, wipeR, FL.pick, tru, truD, chn, lenM, slM, slF, noO, smO, catO, catM, litM, isiD, typD, isTy, R.bd_exc, cauE_eq, goG_exc, endR_exc,   List.getElem?_cons_zero, List.getElem?_cons_succ, List.getElem?_nil, List.set_cons_zero, List.set_cons_succ, List.set_nil, List.length_cons, List.length_nil, List.mapIdx_cons, List.mapIdx_nil, List.map_cons, List.map_nil, List.replicate_succ, List.replicate_zero, List.cons_append, List.nil_append, List.append_nil, List.foldl_cons, List.foldl_nil, List.filterMap_cons, List.filterMap_nil, Option.map_some, Option.map_none, Option.bind_some, Option.bind_none, Bool.not_true, Bool.not_false, Bool.and_true, Bool.true_and, Bool.or_true, Bool.and_self, if_true, if_false,   eqA_int, neA_int, eqA_str, neA_str, ltD_int, leD_int, gtD_int, geD_int, addD_int, subD_int, negD_int, absC_int, intC_int, maxC_int, minC_int, lenC_lst, lenC_tup, lenC_scr, Int.cast_ofNat_Int, Int.natCast_zero, Int.natCast_one,   ↓reduceIte, Nat.reduceAdd, Nat.reduceSub, Nat.reduceMul, Nat.reduceLT, Nat.reduceLeDiff, Nat.reduceBEq, Nat.reduceBneDiff, Nat.reduceEqDiff, Nat.reducePow, Int.reduceLT, Int.reduceLE, Int.reduceEq, Int.reduceNe, Int.reduceAdd, Int.reduceSub, Int.reduceMul, Int.reduceNeg, Int.reducePow, Int.reduceToNat, decide_true, decide_false, decide_eq_true_eq, Bool.false_eq_true, List.contains_nil, List.contains_cons, Bool.or_false, Bool.or_self, eq_self, and_self, and_true, true_and, f1, m1, m2, em, e5]
      simp only [whN, seqS_eq, nxS, bkS, ctS, nxt_nx, nxt_rt, nxt_bk, nxt_ct, ifS_eq, ifE_eq, brR_t, brR_f, brR_dec, anT_eq, orT_eq, anE_eq, orE_eq, tst_eq, isB_bl, ↓R.bind_bd, R.bd_ok, R.of_some, noT, blE, vr, cst, op1, op2, setS, setR, nxO, asgS, tupG, cnsG, nilG, nmG, subGO, subG, subS, getM, ixM, putO, cnsA, nilA, dTup, dLst, frz, retS, retM, setM, exS, mutS, appO, opC, callE, callM, callG_eq, cnsB, nilB, slB, kwB, ioM, toArgs, okA, slsA, nodN, argG_some, goG_ok, asE, asM, putA, newM, putM, parS, par3S, frzS, frzAt, bindO, endR_rt, endR_nx, endG, FL.collect, bodyG_eq, rho0, toS, wipeR, FL.pick, tru, truD, chn, lenM, slM, slF, noO, smO, catO, catM, litM, isiD, typD, isTy, R.bd_exc, cauE_eq, goG_exc, endR_exc,   List.getElem?_cons_zero, List.getElem?_cons_succ, List.getElem?_nil, List.set_cons_zero, List.set_cons_succ, List.set_nil, List.length_cons, List.length_nil, List.mapIdx_cons, List.mapIdx_nil, List.map_cons, List.map_nil, List.replicate_succ, List.replicate_zero, List.cons_append, List.nil_append, List.append_nil, List.foldl_cons, List.foldl_nil, List.filterMap_cons, List.filterMap_nil, Option.map_some, Option.map_none, Option.bind_some, Option.bind_none, Bool.not_true, Bool.not_false, Bool.and_true, Bool.true_and, Bool.or_true, Bool.and_self, if_true, if_false,   eqA_int, neA_int, eqA_str, neA_str, ltD_int, leD_int, gtD_int, geD_int, addD_int, subD_int, negD_int, absC_int, intC_int, maxC_int, minC_int, lenC_lst, lenC_tup, lenC_scr, Int.cast_ofNat_Int, Int.natCast_zero, Int.natCast_one,   ↓reduceIte, Nat.reduceAdd, Nat.reduceSub, Nat.reduceMul, Nat.reduceLT, Nat.reduceLeDiff, Nat.reduceBEq, Nat.reduceBneDiff, Nat.reduceEqDiff, Nat.reducePow, Int.reduceLT, Int.reduceLE, Int.reduceEq, Int.reduceNe, Int.reduceAdd, Int.reduceSub, Int.reduceMul, Int.reduceNeg, Int.reducePow, Int.reduceToNat, decide_true, decide_false, decide_eq_true_eq, Bool.false_eq_true, List.contains_nil, List.contains_cons, Bool.or_false, Bool.or_self, eq_self, and_self, and_true, true_and, ho, eb, e]
    · have : other = 0 := by omega
      subst this
      have gz : ((Int.gcd one 0 : Nat) : Int) = one := by rw [Int.gcd_zero_right]; omega
      refine ⟨1, -s * a, s * b, c6, ?_, ?_⟩
      · rw [gz]
        simp only [whN, seqS_eq, nxS, bkS, ctS, nxt_nx, nxt_rt, nxt_bk, nxt_ct, ifS_eq, ifE_eq, brR_t, brR_f, brR_dec, anT_eq, orT_eq, anE_eq, orE_eq, tst_eq, isB_bl, ↓R.bind_bd, R.bd_ok, R.of_some, noT, blE, vr, cst, op1, op2, setS, setR, nxO, asgS, tupG, cnsG, nilG, nmG, subGO, subG, subS, getM, ixM, putO, cnsA, nilA, dTup, dLst, frz, retS, retM, setM, exS, mutS, appO, opC, callE, callM, callG_eq, cnsB, nilB, slB, kwB, ioM, toArgs, okA, slsA, nodN, argG_some, goG_ok, asE, asM, putA, newM, putM, parS, par3S, frzS, frzAt, bindO, endR_rt, endR_nx, endG, FL.collect, bodyG_eq, rho0, toS, wipeR, FL.pick, tru, truD, chn, lenM, slM, slF, noO, smO, catO, catM, litM, isiD, typD, isTy, R.bd_exc, cauE_eq, goG_exc, endR_exc,   List.getElem?_cons_zero, List.getElem?_cons_succ, List.getElem?_nil, List.set_cons_zero, List.set_cons_succ, List.set_nil, List.length_cons, List.length_nil, List.mapIdx_cons, List.mapIdx_nil, List.map_cons, List.map_nil, List.replicate_succ, List.replicate_zero, List.cons_append, List.nil_append, List.append_nil, List.foldl_cons, List.foldl_nil, List.filterMap_cons, List.filterMap_nil, Option.map_some, Option.map_none, Option.bind_some, Option.bind_none, Bool.not_true, Bool.not_false, Bool.and_true, Bool.true_and, Bool.or_true, Bool.and_self, if_true, if_false,   eqA_int, neA_int, eqA_str, neA_str, ltD_int, leD_int, gtD_int, geD_int, addD_int, subD_int, negD_int, absC_int, intC_int, maxC_int, minC_int, lenC_lst, lenC_tup, lenC_scr, Int.cast_ofNat_Int, Int.natCast_zero, Int.natCast_one,   ↓reduceIte, Nat.reduceAdd, Nat.reduceSub, Nat.reduceMul, Nat.reduceLT, Nat.reduceLeDiff, Nat.reduceBEq, Nat.reduceBneDiff, Nat.reduceEqDiff, Nat.reducePow, Int.reduceLT, Int.reduceLE, Int.reduceEq, Int.reduceNe, Int.reduceAdd, Int.reduceSub, Int.reduceMul, Int.reduceNeg, Int.reducePow, Int.reduceToNat, decide_true, decide_false, decide_eq_true_eq, Bool.false_eq_true, List.contains_nil, List.contains_cons, Bool.or_false, Bool.or_self, eq_self, and_self, and_true, true_and]
      · rw [gz]
        exact hk1
/-- the inverse of a number -/
theorem inverse_ok {n w : Int} (hw : 2 ≤ w) (hw2 : w.natAbs < 2 ^ 8000) (hg : Int.gcd w n = 1) : ∃ x, G_inverse [.val (.int n), .val (.int w)] = .ok (.v (.int x)) [] ∧ 0 ≤ x ∧ x < w ∧ n * x % w = 1 := by
  have s2 : small 2 = true := rfl
  have fm : ∀ x : Int, modD (.int x) (.int w) = some (.int (x % w)) := fun x => modD_pos (by omega)
  have r0 := Int.emod_nonneg n (show w ≠ 0 by omega)
  have r1 := Int.emod_lt_of_pos n (show 0 < w by omega)
  obtain ⟨fuel, g, pt, c6', e, k, hk⟩ := inverse_wh n w hw2 ((n % w).toNat + 1) w (n % w) 0 1 1 .no (by omega) r0 (by omega) (Int.le_refl _) (by omega) (by decide) (by decide) (.inl rfl) (by rw [Int.mul_one, Int.mul_zero, Int.add_zero]) ⟨-1, by rw [Int.mul_zero, Int.zero_mul]; omega⟩ ⟨n / w, by rw [Int.one_mul, Int.one_mul]; exact (Int.emod_add_mul_ediv n w).symm⟩
  have gg : Int.gcd w (n % w) = 1 := by
    rw [Int.emod_def, Int.gcd_sub_mul_left_right]
    exact hg
  rw [gg] at e hk
  have e : whN [] (tst (op2 gtD (vr 3) (cst (.int 0)))) b_inverse_1 fuel [.val (.int n), .val (.int w), .val (.int w), .val (.int (n % w)), .val (.int 0), .val (.int 1), .no] = .ok .nx [.val (.int n), .val (.int w), .val (.int 1), .val (.int 0), .val (.int g), .val (.int pt), c6'] := e
  have wl := whS_eq (ks := []) (t := (tst (op2 gtD (vr 3) (cst (.int 0))))) (b := b_inverse_1) (n := fuel) (ρ := [.val (.int n), .val (.int w), .val (.int w), .val (.int (n % w)), .val (.int 0), .val (.int 1), .no]) (by rw [e]; rfl)
  rw [e] at wl
  refine ⟨g % w, ?_, Int.emod_nonneg _ (by omega), Int.emod_lt_of_pos _ (by omega), ?_⟩
  · simp only [G_inverse, g_inverse, seqS_eq, nxS, bkS, ctS, nxt_nx, nxt_rt, nxt_bk, nxt_ct, ifS_eq, ifE_eq, brR_t, brR_f, brR_dec, anT_eq, orT_eq, anE_eq, orE_eq, tst_eq, isB_bl, ↓R.bind_bd, R.bd_ok, R.of_some, noT, blE, vr, cst, op1, op2, setS, setR, nxO, asgS, tupG, cnsG, nilG, nmG, subGO, subG, subS, getM, ixM, putO, cnsA, nilA, dTup, dLst, frz, retS, retM, setM, exS, mutS, appO, opC, callE, callM, callG_eq, cnsB, nilB, slB, kwB, ioM, toArgs, okA, slsA, nodN, argG_some, goG_ok, asE, asM, putA, newM, putM, parS, par3S, frzS, frzAt, bindO, endR_rt, endR_nx, endG, FL.collect, bodyG_eq, rho0, toS, wipeR, FL.pick, tru, truD, chn, lenM, slM, slF, noO, smO, catO, catM, litM, isiD, typD, isTy, R.bd_exc, cauE_eq, goG_exc, endR_exc,   List.getElem?_cons_zero, List.getElem?_cons_succ, List.getElem?_nil, List.set_cons_zero, List.set_cons_succ, List.set_nil, List.length_cons, List.length_nil, List.mapIdx_cons, List.mapIdx_nil, List.map_cons, List.map_nil, List.replicate_succ, List.replicate_zero, List.cons_append, List.nil_append, List.append_nil, List.foldl_cons, List.foldl_nil, List.filterMap_cons, List.filterMap_nil, Option.map_some, Option.map_none, Option.bind_some, Option.bind_none, Bool.not_true, Bool.not_false, Bool.and_true, Bool.true_and, Bool.or_true, Bool.and_self, if_true, if_false,   eqA_int, neA_int, eqA_str, neA_str, ltD_int, leD_int, gtD_int, geD_int, addD_int, subD_int, negD_int, absC_int, intC_int, maxC_int, minC_int, lenC_lst, lenC_tup, lenC_scr, Int.cast_ofNat_Int, Int.natCast_zero, Int.natCast_one,   ↓reduceIte, Nat.reduceAdd, Nat.reduceSub, Nat.reduceMul, Nat.reduceLT, Nat.reduceLeDiff, Nat.reduceBEq, Nat.reduceBneDiff, Nat.reduceEqDiff, Nat.reducePow, Int.reduceLT, Int.reduceLE, Int.reduceEq, Int.reduceNe, Int.reduceAdd, Int.reduceSub, Int.reduceMul, Int.reduceNeg, Int.reducePow, Int.reduceToNat, decide_true, decide_false, decide_eq_true_eq, Bool.false_eq_true, List.contains_nil, List.contains_cons, Bool.or_false, Bool.or_self, eq_self, and_self, and_true, true_and, s2, fm, wl]
  · rw [Int.mul_emod, Int.emod_emod, ← Int.mul_emod, Int.mul_comm, hk, show ((1 : Nat) : Int) = 1 from rfl, Int.add_mul_emod_self_left]
    exact Int.emod_eq_of_lt (by decide) (by omega)

theorem check_pair_ok {p q : Int} (h : pairB p q = true) : G_check_pair [.val (D2 p q)] = .ok (.v .non) [] := by
  have e := is_pair_ok p q
  rw [h] at e
  simp only [G_check_pair, g_check_pair, seqS_eq, nxS, bkS, ctS, nxt_nx, nxt_rt, nxt_bk, nxt_ct, ifS_eq, ifE_eq, brR_t, brR_f, brR_dec, anT_eq, orT_eq, anE_eq, orE_eq, tst_eq, isB_bl, ↓R.bind_bd, R.bd_ok, R.of_some, noT, blE, vr, cst, op1, op2, setS, setR, nxO, asgS, tupG, cnsG, nilG, nmG, subGO, subG, subS, getM, ixM, putO, cnsA, nilA, dTup, dLst, frz, retS, retM, setM, exS, mutS, appO, opC, callE, callM, callG_eq, cnsB, nilB, slB, kwB, ioM, toArgs, okA, slsA, nodN, argG_some, goG_ok, asE, asM, putA, newM, putM, parS, par3S, frzS, frzAt, bindO, endR_rt, endR_nx, endG, FL.collect, bodyG_eq, rho0, toS, wipeR, FL.pick, tru, truD, chn, lenM, slM, slF, noO, smO, catO, catM, litM, isiD, typD, isTy, R.bd_exc, cauE_eq, goG_exc, endR_exc,   List.getElem?_cons_zero, List.getElem?_cons_succ, List.getElem?_nil, List.set_cons_zero, List.set_cons_succ, List.set_nil, List.length_cons, List.length_nil, List.mapIdx_cons, List.mapIdx_nil, List.map_cons, List.map_nil, List.replicate_succ, List.replicate_zero, List.cons_append, List.nil_append, List.append_nil, List.foldl_cons, List.foldl_nil, List.filterMap_cons, List.filterMap_nil, Option.map_some, Option.map_none, Option.bind_some, Option.bind_none, Bool.not_true, Bool.not_false, Bool.and_true, Bool.true_and, Bool.or_true, Bool.and_self, if_true, if_false,   eqA_int, neA_int, eqA_str, neA_str, ltD_int, leD_int, gtD_int, geD_int, addD_int, subD_int, negD_int, absC_int, intC_int, maxC_int, minC_int, lenC_lst, lenC_tup, lenC_scr, Int.cast_ofNat_Int, Int.natCast_zero, Int.natCast_one,   ↓reduceIte, Nat.reduceAdd, Nat.reduceSub, Nat.reduceMul, Nat.reduceLT, Nat.reduceLeDiff, Nat.reduceBEq, Nat.reduceBneDiff, Nat.reduceEqDiff, Nat.reducePow, Int.reduceLT, Int.reduceLE, Int.reduceEq, Int.reduceNe, Int.reduceAdd, Int.reduceSub, Int.reduceMul, Int.reduceNeg, Int.reducePow, Int.reduceToNat, decide_true, decide_false, decide_eq_true_eq, Bool.false_eq_true, List.contains_nil, List.contains_cons, Bool.or_false, Bool.or_self, eq_self, and_self, and_true, true_and, e]
theorem pairB_inv {p q r : Int} (hp : 2 ≤ p) (q0 : 0 ≤ q) (q1 : q < p) (h : q * r % p = 1) : pairB p q = true := by
  unfold pairB
  rw [if_neg (by omega), decide_eq_true q0, decide_eq_true q1, decide_eq_true (inv_gcd h)]
  rfl
theorem backwards_inv {p q r : Int} (hp : 2 ≤ p) (hp2 : p.natAbs < 2 ^ 8000) (q0 : 0 ≤ q) (q1 : q < p) (r0 : 0 ≤ r) (r1 : r < p) (h : q * r % p = 1) : G_backwards [.val (D2 p q)] = .ok (.v (D2 p r)) [] := by
  have c := check_pair_ok (pairB_inv hp q0 q1 h)
  obtain ⟨x, e, x0, x1, hx⟩ := inverse_ok (n := q) hp hp2 (inv_gcd h)
  have : x = r := inv_uniq hx h x0 x1 r0 r1
  subst this
  have a0 : ixD (D2 p q) (.int 0) = some (.int p) := rfl
  have a1 : ixD (D2 p q) (.int 1) = some (.int q) := rfl
  have hp' : ¬ p < 2 := by omega
  have s2 : small 2 = true := rfl
  simp only [G_backwards, g_backwards, seqS_eq, nxS, bkS, ctS, nxt_nx, nxt_rt, nxt_bk, nxt_ct, ifS_eq, ifE_eq, brR_t, brR_f, brR_dec, anT_eq, orT_eq, anE_eq, orE_eq, tst_eq, isB_bl, ↓R.bind_bd, R.bd_ok, R.of_some, noT, blE, vr, cst, op1, op2, setS, setR, nxO, asgS, tupG, cnsG, nilG, nmG, subGO, subG, subS, getM, ixM, putO, cnsA, nilA, dTup, dLst, frz, retS, retM, setM, exS, mutS, appO, opC, callE, callM, callG_eq, cnsB, nilB, slB, kwB, ioM, toArgs, okA, slsA, nodN, argG_some, goG_ok, asE, asM, putA, newM, putM, parS, par3S, frzS, frzAt, bindO, endR_rt, endR_nx, endG, FL.collect, bodyG_eq, rho0, toS, wipeR, FL.pick, tru, truD, chn, lenM, slM, slF, noO, smO, catO, catM, litM, isiD, typD, isTy, R.bd_exc, cauE_eq, goG_exc, endR_exc,   List.getElem?_cons_zero, List.getElem?_cons_succ, List.getElem?_nil, List.set_cons_zero, List.set_cons_succ, List.set_nil, List.length_cons, List.length_nil, List.mapIdx_cons, List.mapIdx_nil, List.map_cons, List.map_nil, List.replicate_succ, List.replicate_zero, List.cons_append, List.nil_append, List.append_nil, List.foldl_cons, List.foldl_nil, List.filterMap_cons, List.filterMap_nil, Option.map_some, Option.map_none, Option.bind_some, Option.bind_none, Bool.not_true, Bool.not_false, Bool.and_true, Bool.true_and, Bool.or_true, Bool.and_self, if_true, if_false,   eqA_int, neA_int, eqA_str, neA_str, ltD_int, leD_int, gtD_int, geD_int, addD_int, subD_int, negD_int, absC_int, intC_int, maxC_int, minC_int, lenC_lst, lenC_tup, lenC_scr, Int.cast_ofNat_Int, Int.natCast_zero, Int.natCast_one,   ↓reduceIte, Nat.reduceAdd, Nat.reduceSub, Nat.reduceMul, Nat.reduceLT, Nat.reduceLeDiff, Nat.reduceBEq, Nat.reduceBneDiff, Nat.reduceEqDiff, Nat.reducePow, Int.reduceLT, Int.reduceLE, Int.reduceEq, Int.reduceNe, Int.reduceAdd, Int.reduceSub, Int.reduceMul, Int.reduceNeg, Int.reducePow, Int.reduceToNat, decide_true, decide_false, decide_eq_true_eq, Bool.false_eq_true, List.contains_nil, List.contains_cons, Bool.or_false, Bool.or_self, eq_self, and_self, and_true, true_and, c, a0, a1, hp', e, s2]
theorem backwards_same {p q : Int} (hp : p < 2) (h : pairB p q = true) : G_backwards [.val (D2 p q)] = .ok (.v (D2 p q)) [] := by
  have c := check_pair_ok h
  have a0 : ixD (D2 p q) (.int 0) = some (.int p) := rfl
  simp only [G_backwards, g_backwards, seqS_eq, nxS, bkS, ctS, nxt_nx, nxt_rt, nxt_bk, nxt_ct, ifS_eq, ifE_eq, brR_t, brR_f, brR_dec, anT_eq, orT_eq, anE_eq, orE_eq, tst_eq, isB_bl, ↓R.bind_bd, R.bd_ok, R.of_some, noT, blE, vr, cst, op1, op2, setS, setR, nxO, asgS, tupG, cnsG, nilG, nmG, subGO, subG, subS, getM, ixM, putO, cnsA, nilA, dTup, dLst, frz, retS, retM, setM, exS, mutS, appO, opC, callE, callM, callG_eq, cnsB, nilB, slB, kwB, ioM, toArgs, okA, slsA, nodN, argG_some, goG_ok, asE, asM, putA, newM, putM, parS, par3S, frzS, frzAt, bindO, endR_rt, endR_nx, endG, FL.collect, bodyG_eq, rho0, toS, wipeR, FL.pick, tru, truD, chn, lenM, slM, slF, noO, smO, catO, catM, litM, isiD, typD, isTy, R.bd_exc, cauE_eq, goG_exc, endR_exc,   List.getElem?_cons_zero, List.getElem?_cons_succ, List.getElem?_nil, List.set_cons_zero, List.set_cons_succ, List.set_nil, List.length_cons, List.length_nil, List.mapIdx_cons, List.mapIdx_nil, List.map_cons, List.map_nil, List.replicate_succ, List.replicate_zero, List.cons_append, List.nil_append, List.append_nil, List.foldl_cons, List.foldl_nil, List.filterMap_cons, List.filterMap_nil, Option.map_some, Option.map_none, Option.bind_some, Option.bind_none, Bool.not_true, Bool.not_false, Bool.and_true, Bool.true_and, Bool.or_true, Bool.and_self, if_true, if_false,   eqA_int, neA_int, eqA_str, neA_str, ltD_int, leD_int, gtD_int, geD_int, addD_int, subD_int, negD_int, absC_int, intC_int, maxC_int, minC_int, lenC_lst, lenC_tup, lenC_scr, Int.cast_ofNat_Int, Int.natCast_zero, Int.natCast_one,   ↓reduceIte, Nat.reduceAdd, Nat.reduceSub, Nat.reduceMul, Nat.reduceLT, Nat.reduceLeDiff, Nat.reduceBEq, Nat.reduceBneDiff, Nat.reduceEqDiff, Nat.reducePow, Int.reduceLT, Int.reduceLE, Int.reduceEq, Int.reduceNe, Int.reduceAdd, Int.reduceSub, Int.reduceMul, Int.reduceNeg, Int.reducePow, Int.reduceToNat, decide_true, decide_false, decide_eq_true_eq, Bool.false_eq_true, List.contains_nil, List.contains_cons, Bool.or_false, Bool.or_self, eq_self, and_self, and_true, true_and, c, a0, hp]

/-- a tray that was drawn from at most n times -/
def Sp (n : Nat) (s : M) : Prop := ∃ h m c : Int, s = .lst [.int h, .int m, .int c] ∧ 0 ≤ c ∧ c ≤ n
theorem Sp.mono {m n : Nat} {s : M} (h : Sp m s) (l : m ≤ n) : Sp n s := by
  obtain ⟨a, b, c, e, h0, h1⟩ := h
  exact ⟨a, b, c, e, h0, by omega⟩
theorem sip_ok {n : Nat} {s : M} (hs : Sp n s) {k : Int} (h0 : 0 < k) (h1 : k < 18446744073709551616) (hn : n ≤ 1000000000) : ∃ (d : Int) (s' : M), G__law_sip [.io s, .val (.int k)] = .ok (.v (.int d)) [s'] ∧ 0 ≤ d ∧ d < k ∧ Sp (n + 1) s' := by
  obtain ⟨h, m, c, rfl, c0, c1⟩ := hs
  have i2 : ixN 3 2 = some 2 := rfl
  have i1 : ixN 3 1 = some 1 := rfl
  have i0 : ixN 3 0 = some 0 := rfl
  have a2 : ∀ x y z : D, atI [x, y, z] 2 = some z := fun _ _ _ => rfl
  have a1 : ∀ x y z : D, atI [x, y, z] 1 = some y := fun _ _ _ => rfl
  have a0 : ∀ x y z : D, atI [x, y, z] 0 = some x := fun _ _ _ => rfl
  have fk : ∀ x : Int, modD (.int x) (.int k) = some (.int (x % k)) := fun x => modD_pos h0
  have dk : ∀ x : Int, fdivD (.int x) (.int k) = some (.int (x / k)) := fun x => fdivD_g h0 (by have := log2_le_of (n := k.natAbs) (k := 63) (by omega); omega)
  by_cases hp : 0 < h
  · refine ⟨h % k, .lst [.int (h / k), .int m, .int (c + 1)], ?_, Int.emod_nonneg _ (by omega), Int.emod_lt_of_pos _ h0, _, _, _, rfl, by omega, by omega⟩
    simp only [G__law_sip, g__law_sip, g__law_sip_1, g__law_sip_2, g__law_sip_3, seqS_eq, nxS, bkS, ctS, nxt_nx, nxt_rt, nxt_bk, nxt_ct, ifS_eq, ifE_eq, brR_t, brR_f, brR_dec, anT_eq, orT_eq, anE_eq, orE_eq, tst_eq, isB_bl, ↓R.bind_bd, R.bd_ok, R.of_some, noT, blE, vr, cst, op1, op2, setS, setR, nxO, asgS, tupG, cnsG, nilG, nmG, subGO, subG, subS, getM, ixM, putO, cnsA, nilA, dTup, dLst, frz, retS, retM, setM, exS, mutS, appO, opC, callE, callM, callG_eq, cnsB, nilB, slB, kwB, ioM, toArgs, okA, slsA, nodN, argG_some, goG_ok, asE, asM, putA, newM, putM, parS, par3S, frzS, frzAt, bindO, endR_rt, endR_nx, endG, FL.collect, bodyG_eq, rho0, toS, wipeR, FL.pick, tru, truD, chn, lenM, slM, slF, noO, smO, catO, catM, litM, isiD, typD, isTy, R.bd_exc, cauE_eq, goG_exc, endR_exc,   List.getElem?_cons_zero, List.getElem?_cons_succ, List.getElem?_nil, List.set_cons_zero, List.set_cons_succ, List.set_nil, List.length_cons, List.length_nil, List.mapIdx_cons, List.mapIdx_nil, List.map_cons, List.map_nil, List.replicate_succ, List.replicate_zero, List.cons_append, List.nil_append, List.append_nil, List.foldl_cons, List.foldl_nil, List.filterMap_cons, List.filterMap_nil, Option.map_some, Option.map_none, Option.bind_some, Option.bind_none, Bool.not_true, Bool.not_false, Bool.and_true, Bool.true_and, Bool.or_true, Bool.and_self, if_true, if_false,   eqA_int, neA_int, eqA_str, neA_str, ltD_int, leD_int, gtD_int, geD_int, addD_int, subD_int, negD_int, absC_int, intC_int, maxC_int, minC_int, lenC_lst, lenC_tup, lenC_scr, Int.cast_ofNat_Int, Int.natCast_zero, Int.natCast_one,   ↓reduceIte, Nat.reduceAdd, Nat.reduceSub, Nat.reduceMul, Nat.reduceLT, Nat.reduceLeDiff, Nat.reduceBEq, Nat.reduceBneDiff, Nat.reduceEqDiff, Nat.reducePow, Int.reduceLT, Int.reduceLE, Int.reduceEq, Int.reduceNe, Int.reduceAdd, Int.reduceSub, Int.reduceMul, Int.reduceNeg, Int.reducePow, Int.reduceToNat, decide_true, decide_false, decide_eq_true_eq, Bool.false_eq_true, List.contains_nil, List.contains_cons, Bool.or_false, Bool.or_self, eq_self, and_self, and_true, true_and, i0, i1, i2, a0, a1, a2, fk, dk, hp]
  · have m1 : mulD (.int m) (.int 16807) = some (.int (m * 16807)) := mulD_r (by decide)
    have m2 : mulD (.int 1823) (.int (c + 1)) = some (.int (1823 * (c + 1))) := mulD_l (by decide)
    have f1 : ∀ x : Int, modD (.int x) (.int 2147483647) = some (.int (x % 2147483647)) := fun x => modD_pos (by decide)
    have f3 : ∀ x : Int, fdivD (.int x) (.int 64) = some (.int (x / 64)) := fun x => fdivD_pos (by decide) (by decide)
    refine ⟨(m * 16807 + 1823 * (c + 1) + 59) % 2147483647 / 64 % k, .lst [.int h, .int ((m * 16807 + 1823 * (c + 1) + 59) % 2147483647), .int (c + 1)], ?_, Int.emod_nonneg _ (by omega), Int.emod_lt_of_pos _ h0, _, _, _, rfl, by omega, by omega⟩
    simp only [G__law_sip, g__law_sip, g__law_sip_1, g__law_sip_2, g__law_sip_3, seqS_eq, nxS, bkS, ctS, nxt_nx, nxt_rt, nxt_bk, nxt_ct, ifS_eq, ifE_eq, brR_t, brR_f, brR_dec, anT_eq, orT_eq, anE_eq, orE_eq, tst_eq, isB_bl, ↓R.bind_bd, R.bd_ok, R.of_some, noT, blE, vr, cst, op1, op2, setS, setR, nxO, asgS, tupG, cnsG, nilG, nmG, subGO, subG, subS, getM, ixM, putO, cnsA, nilA, dTup, dLst, frz, retS, retM, setM, exS, mutS, appO, opC, callE, callM, callG_eq, cnsB, nilB, slB, kwB, ioM, toArgs, okA, slsA, nodN, argG_some, goG_ok, asE, asM, putA, newM, putM, parS, par3S, frzS, frzAt, bindO, endR_rt, endR_nx, endG, FL.collect, bodyG_eq, rho0, toS, wipeR, FL.pick, tru, truD, chn, lenM, slM, slF, noO, smO, catO, catM, litM, isiD, typD, isTy, R.bd_exc, cauE_eq, goG_exc, endR_exc,   List.getElem?_cons_zero, List.getElem?_cons_succ, List.getElem?_nil, List.set_cons_zero, List.set_cons_succ, List.set_nil, List.length_cons, List.length_nil, List.mapIdx_cons, List.mapIdx_nil, List.map_cons, List.map_nil, List.replicate_succ, List.replicate_zero, List.cons_append, List.nil_append, List.append_nil, List.foldl_cons, List.foldl_nil, List.filterMap_cons, List.filterMap_nil, Option.map_some, Option.map_none, Option.bind_some, Option.bind_none, Bool.not_true, Bool.not_false, Bool.and_true, Bool.true_and, Bool.or_true, Bool.and_self, if_true, if_false,   eqA_int, neA_int, eqA_str, neA_str, ltD_int, leD_int, gtD_int, geD_int, addD_int, subD_int, negD_int, absC_int, intC_int, maxC_int, minC_int, lenC_lst, lenC_tup, lenC_scr, Int.cast_ofNat_Int, Int.natCast_zero, Int.natCast_one,   ↓reduceIte, Nat.reduceAdd, Nat.reduceSub, Nat.reduceMul, Nat.reduceLT, Nat.reduceLeDiff, Nat.reduceBEq, Nat.reduceBneDiff, Nat.reduceEqDiff, Nat.reducePow, Int.reduceLT, Int.reduceLE, Int.reduceEq, Int.reduceNe, Int.reduceAdd, Int.reduceSub, Int.reduceMul, Int.reduceNeg, Int.reducePow, Int.reduceToNat, decide_true, decide_false, decide_eq_true_eq, Bool.false_eq_true, List.contains_nil, List.contains_cons, Bool.or_false, Bool.or_self, eq_self, and_self, and_true, true_and, i0, i1, i2, a0, a1, a2, hp, m1, m2, f1, fk, f3]

theorem pick_ok {n : Nat} {s : M} (hs : Sp n s) {xs : List D} (h0 : xs ≠ []) (h1 : xs.length ≤ 100000) (hn : n ≤ 1000000000) : ∃ (d : D) (s' : M), d ∈ xs ∧ G__law_pick [.io s, .val (.lst xs)] = .ok (.v d) [s'] ∧ Sp (n + 1) s' := by
  have hl : 0 < xs.length := List.length_pos_iff.mpr h0
  obtain ⟨i, s', e, i0, i1, hs'⟩ := sip_ok hs (k := xs.length) (by omega) (by omega) hn
  obtain ⟨d, hd, ed⟩ := ixD_lst (xs := xs) i0 i1
  exact ⟨d, s', hd, by simp only [G__law_pick, g__law_pick, seqS_eq, nxS, bkS, ctS, nxt_nx, nxt_rt, nxt_bk, nxt_ct, ifS_eq, ifE_eq, brR_t, brR_f, brR_dec, anT_eq, orT_eq, anE_eq, orE_eq, tst_eq, isB_bl, ↓R.bind_bd, R.bd_ok, R.of_some, noT, blE, vr, cst, op1, op2, setS, setR, nxO, asgS, tupG, cnsG, nilG, nmG, subGO, subG, subS, getM, ixM, putO, cnsA, nilA, dTup, dLst, frz, retS, retM, setM, exS, mutS, appO, opC, callE, callM, callG_eq, cnsB, nilB, slB, kwB, ioM, toArgs, okA, slsA, nodN, argG_some, goG_ok, asE, asM, putA, newM, putM, parS, par3S, frzS, frzAt, bindO, endR_rt, endR_nx, endG, FL.collect, bodyG_eq, rho0, toS, wipeR, FL.pick, tru, truD, chn, lenM, slM, slF, noO, smO, catO, catM, litM, isiD, typD, isTy, R.bd_exc, cauE_eq, goG_exc, endR_exc,   List.getElem?_cons_zero, List.getElem?_cons_succ, List.getElem?_nil, List.set_cons_zero, List.set_cons_succ, List.set_nil, List.length_cons, List.length_nil, List.mapIdx_cons, List.mapIdx_nil, List.map_cons, List.map_nil, List.replicate_succ, List.replicate_zero, List.cons_append, List.nil_append, List.append_nil, List.foldl_cons, List.foldl_nil, List.filterMap_cons, List.filterMap_nil, Option.map_some, Option.map_none, Option.bind_some, Option.bind_none, Bool.not_true, Bool.not_false, Bool.and_true, Bool.true_and, Bool.or_true, Bool.and_self, if_true, if_false,   eqA_int, neA_int, eqA_str, neA_str, ltD_int, leD_int, gtD_int, geD_int, addD_int, subD_int, negD_int, absC_int, intC_int, maxC_int, minC_int, lenC_lst, lenC_tup, lenC_scr, Int.cast_ofNat_Int, Int.natCast_zero, Int.natCast_one,   ↓reduceIte, Nat.reduceAdd, Nat.reduceSub, Nat.reduceMul, Nat.reduceLT, Nat.reduceLeDiff, Nat.reduceBEq, Nat.reduceBneDiff, Nat.reduceEqDiff, Nat.reducePow, Int.reduceLT, Int.reduceLE, Int.reduceEq, Int.reduceNe, Int.reduceAdd, Int.reduceSub, Int.reduceMul, Int.reduceNeg, Int.reducePow, Int.reduceToNat, decide_true, decide_false, decide_eq_true_eq, Bool.false_eq_true, List.contains_nil, List.contains_cons, Bool.or_false, Bool.or_self, eq_self, and_self, and_true, true_and, e, ed], hs'⟩

theorem bin_ok (ns : List Int) (t : Int) (h0 : 0 ≤ t) : ∃ s : M, G__law_bin [.val (.scr ns), .val (.int t)] = .ok (.m s) [] ∧ Sp 0 s := by
  have m0 : mulD (.int 97) (.int t) = some (.int (97 * t)) := mulD_l (by decide)
  have m1 : mulD (.int 1031) (.int t) = some (.int (1031 * t)) := mulD_l (by decide)
  have m2 : ∀ x : Int, mulD (.int x) (.int 16807) = some (.int (x * 16807)) := fun x => mulD_r (by decide)
  have f1 : ∀ x : Int, modD (.int x) (.int 2147483647) = some (.int (x % 2147483647)) := fun x => modD_pos (by decide)
  have f2 : ∀ x : Int, modD (.int x) (.int 999853) = some (.int (x % 999853)) := fun x => modD_pos (by decide)
  have pw : powD (.int 10) (.int 18) = some (.int 1000000000000000000) := rfl
  have s3 : small 3 = true := rfl
  have key : ∀ (o : Int) (ds : List D), (∀ d ∈ ds, ∃ i, d = .int i) → ∀ (m : Int) (e : Slot), ∃ (m' : Int) (e' : Slot), forL [] (nmG 4) b__law_bin_1 ds [.val (.scr ns), .val (.int t), .val (.int o), .val (.int m), e] = .ok .nx [.val (.scr ns), .val (.int t), .val (.int o), .val (.int m'), e'] := by
    intro o ds
    induction ds with
    | nil => exact fun _ m e => ⟨m, e, rfl⟩
    | cons d ds ih =>
      intro h m e
      obtain ⟨i, rfl⟩ := h d List.mem_cons_self
      obtain ⟨m', e', ih⟩ := ih (fun d hd => h d (List.mem_cons_of_mem _ hd)) ((m * 16807 + i % 999853 + t) % 2147483647) (.val (.int i))
      have eb : b__law_bin_1 [.val (.scr ns), .val (.int t), .val (.int o), .val (.int m), .val (.int i)] = .ok .nx [.val (.scr ns), .val (.int t), .val (.int o), .val (.int ((m * 16807 + i % 999853 + t) % 2147483647)), .val (.int i)] := by simp only [b__law_bin_1, seqS_eq, nxS, bkS, ctS, nxt_nx, nxt_rt, nxt_bk, nxt_ct, ifS_eq, ifE_eq, brR_t, brR_f, brR_dec, anT_eq, orT_eq, anE_eq, orE_eq, tst_eq, isB_bl, ↓R.bind_bd, R.bd_ok, R.of_some, noT, blE, vr, cst, op1, op2, setS, setR, nxO, asgS, tupG, cnsG, nilG, nmG, subGO, subG, subS, getM, ixM, putO, cnsA, nilA, dTup, dLst, frz, retS, retM, setM, exS, mutS, appO, opC, callE, callM, callG_eq, cnsB, nilB, slB, kwB, ioM, toArgs, okA, slsA, nodN, argG_some, goG_ok, asE, asM, putA, newM, putM, parS, par3S, frzS, frzAt, bindO, endR_rt, endR_nx, endG, FL.collect, bodyG_eq, rho0, toS, wipeR, FL.pick, tru, truD, chn, lenM, slM, slF, noO, smO, catO, catM, litM, isiD, typD, isTy, R.bd_exc, cauE_eq, goG_exc, endR_exc,   List.getElem?_cons_zero, List.getElem?_cons_succ, List.getElem?_nil, List.set_cons_zero, List.set_cons_succ, List.set_nil, List.length_cons, List.length_nil, List.mapIdx_cons, List.mapIdx_nil, List.map_cons, List.map_nil, List.replicate_succ, List.replicate_zero, List.cons_append, List.nil_append, List.append_nil, List.foldl_cons, List.foldl_nil, List.filterMap_cons, List.filterMap_nil, Option.map_some, Option.map_none, Option.bind_some, Option.bind_none, Bool.not_true, Bool.not_false, Bool.and_true, Bool.true_and, Bool.or_true, Bool.and_self, if_true, if_false,   eqA_int, neA_int, eqA_str, neA_str, ltD_int, leD_int, gtD_int, geD_int, addD_int, subD_int, negD_int, absC_int, intC_int, maxC_int, minC_int, lenC_lst, lenC_tup, lenC_scr, Int.cast_ofNat_Int, Int.natCast_zero, Int.natCast_one,   ↓reduceIte, Nat.reduceAdd, Nat.reduceSub, Nat.reduceMul, Nat.reduceLT, Nat.reduceLeDiff, Nat.reduceBEq, Nat.reduceBneDiff, Nat.reduceEqDiff, Nat.reducePow, Int.reduceLT, Int.reduceLE, Int.reduceEq, Int.reduceNe, Int.reduceAdd, Int.reduceSub, Int.reduceMul, Int.reduceNeg, Int.reducePow, Int.reduceToNat, decide_true, decide_false, decide_eq_true_eq, Bool.false_eq_true, List.contains_nil, List.contains_cons, Bool.or_false, Bool.or_self, eq_self, and_self, and_true, true_and, m2, f1, f2]
      exact ⟨m', e', by simp only [forL_cons, seqS_eq, nxS, bkS, ctS, nxt_nx, nxt_rt, nxt_bk, nxt_ct, ifS_eq, ifE_eq, brR_t, brR_f, brR_dec, anT_eq, orT_eq, anE_eq, orE_eq, tst_eq, isB_bl, ↓R.bind_bd, R.bd_ok, R.of_some, noT, blE, vr, cst, op1, op2, setS, setR, nxO, asgS, tupG, cnsG, nilG, nmG, subGO, subG, subS, getM, ixM, putO, cnsA, nilA, dTup, dLst, frz, retS, retM, setM, exS, mutS, appO, opC, callE, callM, callG_eq, cnsB, nilB, slB, kwB, ioM, toArgs, okA, slsA, nodN, argG_some, goG_ok, asE, asM, putA, newM, putM, parS, par3S, frzS, frzAt, bindO, endR_rt, endR_nx, endG, FL.collect, bodyG_eq, rho0, toS, wipeR, FL.pick, tru, truD, chn, lenM, slM, slF, noO, smO, catO, catM, litM, isiD, typD, isTy, R.bd_exc, cauE_eq, goG_exc, endR_exc,   List.getElem?_cons_zero, List.getElem?_cons_succ, List.getElem?_nil, List.set_cons_zero, List.set_cons_succ, List.set_nil, List.length_cons, List.length_nil, List.mapIdx_cons, List.mapIdx_nil, List.map_cons, List.map_nil, List.replicate_succ, List.replicate_zero, List.cons_append, List.nil_append, List.append_nil, List.foldl_cons, List.foldl_nil, List.filterMap_cons, List.filterMap_nil, Option.map_some, Option.map_none, Option.bind_some, Option.bind_none, Bool.not_true, Bool.not_false, Bool.and_true, Bool.true_and, Bool.or_true, Bool.and_self, if_true, if_false,   eqA_int, neA_int, eqA_str, neA_str, ltD_int, leD_int, gtD_int, geD_int, addD_int, subD_int, negD_int, absC_int, intC_int, maxC_int, minC_int, lenC_lst, lenC_tup, lenC_scr, Int.cast_ofNat_Int, Int.natCast_zero, Int.natCast_one,   ↓reduceIte, Nat.reduceAdd, Nat.reduceSub, Nat.reduceMul, Nat.reduceLT, Nat.reduceLeDiff, Nat.reduceBEq, Nat.reduceBneDiff, Nat.reduceEqDiff, Nat.reducePow, Int.reduceLT, Int.reduceLE, Int.reduceEq, Int.reduceNe, Int.reduceAdd, Int.reduceSub, Int.reduceMul, Int.reduceNeg, Int.reducePow, Int.reduceToNat, decide_true, decide_false, decide_eq_true_eq, Bool.false_eq_true, List.contains_nil, List.contains_cons, Bool.or_false, Bool.or_self, eq_self, and_self, and_true, true_and, eb, aftF, ih]⟩
  have hit : ∀ o m : Int, seqI (slF (vr 0) noO (smO (cst (.int 8)))) [.val (.scr ns), .val (.int t), .val (.int o), .val (.int m), .no] = .ok ((FL.cut ns none (some 8)).map D.int) [.val (.scr ns), .val (.int t), .val (.int o), .val (.int m), .no] := fun _ _ => rfl
  have el : ∀ o : Int, ∃ (m' : Int) (e' : Slot), forL [] (nmG 4) b__law_bin_1 ((FL.cut ns none (some 8)).map D.int) [.val (.scr ns), .val (.int t), .val (.int o), .val (.int (90001 + 1031 * t)), .no] = .ok .nx [.val (.scr ns), .val (.int t), .val (.int o), .val (.int m'), e'] := fun o => key o _ (fun d hd => by obtain ⟨i, _, rfl⟩ := List.mem_map.mp hd; exact ⟨i, rfl⟩) _ _
  by_cases hl : t < ns.length
  · have g : ∃ o, ixD (.scr ns) (.int t) = some (.int o) := by
      have hl' : t.toNat < ns.length := by omega
      refine ⟨ns[t.toNat], ?_⟩
      show (atI ns t).map D.int = _
      rw [atI_nat h0 (List.getElem?_eq_getElem hl')]
      rfl
    obtain ⟨o, ho⟩ := g
    obtain ⟨m', e', el⟩ := el o
    by_cases c2 : 1000000000000000000 ≤ (o.natAbs : Int)
    · refine ⟨.lst [.int (o.natAbs : Int), .int ((m' * 16807 + o % 999853) % 2147483647), .int 0], ?_, _, _, _, rfl, by omega, by omega⟩
      simp only [G__law_bin, g__law_bin, g__law_bin_1, g__law_bin_2, g__law_bin_3, g__law_bin_4, seqS_eq, nxS, bkS, ctS, nxt_nx, nxt_rt, nxt_bk, nxt_ct, ifS_eq, ifE_eq, brR_t, brR_f, brR_dec, anT_eq, orT_eq, anE_eq, orE_eq, tst_eq, isB_bl, ↓R.bind_bd, R.bd_ok, R.of_some, noT, blE, vr, cst, op1, op2, setS, setR, nxO, asgS, tupG, cnsG, nilG, nmG, subGO, subG, subS, getM, ixM, putO, cnsA, nilA, dTup, dLst, frz, retS, retM, setM, exS, mutS, appO, opC, callE, callM, callG_eq, cnsB, nilB, slB, kwB, ioM, toArgs, okA, slsA, nodN, argG_some, goG_ok, asE, asM, putA, newM, putM, parS, par3S, frzS, frzAt, bindO, endR_rt, endR_nx, endG, FL.collect, bodyG_eq, rho0, toS, wipeR, FL.pick, tru, truD, chn, lenM, slM, slF, noO, smO, catO, catM, litM, isiD, typD, isTy, R.bd_exc, cauE_eq, goG_exc, endR_exc,   List.getElem?_cons_zero, List.getElem?_cons_succ, List.getElem?_nil, List.set_cons_zero, List.set_cons_succ, List.set_nil, List.length_cons, List.length_nil, List.mapIdx_cons, List.mapIdx_nil, List.map_cons, List.map_nil, List.replicate_succ, List.replicate_zero, List.cons_append, List.nil_append, List.append_nil, List.foldl_cons, List.foldl_nil, List.filterMap_cons, List.filterMap_nil, Option.map_some, Option.map_none, Option.bind_some, Option.bind_none, Bool.not_true, Bool.not_false, Bool.and_true, Bool.true_and, Bool.or_true, Bool.and_self, if_true, if_false,   eqA_int, neA_int, eqA_str, neA_str, ltD_int, leD_int, gtD_int, geD_int, addD_int, subD_int, negD_int, absC_int, intC_int, maxC_int, minC_int, lenC_lst, lenC_tup, lenC_scr, Int.cast_ofNat_Int, Int.natCast_zero, Int.natCast_one,   ↓reduceIte, Nat.reduceAdd, Nat.reduceSub, Nat.reduceMul, Nat.reduceLT, Nat.reduceLeDiff, Nat.reduceBEq, Nat.reduceBneDiff, Nat.reduceEqDiff, Nat.reducePow, Int.reduceLT, Int.reduceLE, Int.reduceEq, Int.reduceNe, Int.reduceAdd, Int.reduceSub, Int.reduceMul, Int.reduceNeg, Int.reducePow, Int.reduceToNat, decide_true, decide_false, decide_eq_true_eq, Bool.false_eq_true, List.contains_nil, List.contains_cons, Bool.or_false, Bool.or_self, eq_self, and_self, and_true, true_and, m0, m1, m2, f1, f2, forS_eq, hit, el, hl, ho, pw, c2, s3]
    · refine ⟨.lst [.int 0, .int ((m' * 16807 + o % 999853) % 2147483647), .int 0], ?_, _, _, _, rfl, by omega, by omega⟩
      simp only [G__law_bin, g__law_bin, g__law_bin_1, g__law_bin_2, g__law_bin_3, g__law_bin_4, seqS_eq, nxS, bkS, ctS, nxt_nx, nxt_rt, nxt_bk, nxt_ct, ifS_eq, ifE_eq, brR_t, brR_f, brR_dec, anT_eq, orT_eq, anE_eq, orE_eq, tst_eq, isB_bl, ↓R.bind_bd, R.bd_ok, R.of_some, noT, blE, vr, cst, op1, op2, setS, setR, nxO, asgS, tupG, cnsG, nilG, nmG, subGO, subG, subS, getM, ixM, putO, cnsA, nilA, dTup, dLst, frz, retS, retM, setM, exS, mutS, appO, opC, callE, callM, callG_eq, cnsB, nilB, slB, kwB, ioM, toArgs, okA, slsA, nodN, argG_some, goG_ok, asE, asM, putA, newM, putM, parS, par3S, frzS, frzAt, bindO, endR_rt, endR_nx, endG, FL.collect, bodyG_eq, rho0, toS, wipeR, FL.pick, tru, truD, chn, lenM, slM, slF, noO, smO, catO, catM, litM, isiD, typD, isTy, R.bd_exc, cauE_eq, goG_exc, endR_exc,   List.getElem?_cons_zero, List.getElem?_cons_succ, List.getElem?_nil, List.set_cons_zero, List.set_cons_succ, List.set_nil, List.length_cons, List.length_nil, List.mapIdx_cons, List.mapIdx_nil, List.map_cons, List.map_nil, List.replicate_succ, List.replicate_zero, List.cons_append, List.nil_append, List.append_nil, List.foldl_cons, List.foldl_nil, List.filterMap_cons, List.filterMap_nil, Option.map_some, Option.map_none, Option.bind_some, Option.bind_none, Bool.not_true, Bool.not_false, Bool.and_true, Bool.true_and, Bool.or_true, Bool.and_self, if_true, if_false,   eqA_int, neA_int, eqA_str, neA_str, ltD_int, leD_int, gtD_int, geD_int, addD_int, subD_int, negD_int, absC_int, intC_int, maxC_int, minC_int, lenC_lst, lenC_tup, lenC_scr, Int.cast_ofNat_Int, Int.natCast_zero, Int.natCast_one,   ↓reduceIte, Nat.reduceAdd, Nat.reduceSub, Nat.reduceMul, Nat.reduceLT, Nat.reduceLeDiff, Nat.reduceBEq, Nat.reduceBneDiff, Nat.reduceEqDiff, Nat.reducePow, Int.reduceLT, Int.reduceLE, Int.reduceEq, Int.reduceNe, Int.reduceAdd, Int.reduceSub, Int.reduceMul, Int.reduceNeg, Int.reducePow, Int.reduceToNat, decide_true, decide_false, decide_eq_true_eq, Bool.false_eq_true, List.contains_nil, List.contains_cons, Bool.or_false, Bool.or_self, eq_self, and_self, and_true, true_and, m0, m1, m2, f1, f2, forS_eq, hit, el, hl, ho, pw, c2, s3]
  · obtain ⟨m', e', el⟩ := el (97 * t + 43)
    by_cases c2 : 1000000000000000000 ≤ ((97 * t + 43).natAbs : Int)
    · refine ⟨.lst [.int ((97 * t + 43).natAbs : Int), .int ((m' * 16807 + (97 * t + 43) % 999853) % 2147483647), .int 0], ?_, _, _, _, rfl, by omega, by omega⟩
      simp only [G__law_bin, g__law_bin, g__law_bin_1, g__law_bin_2, g__law_bin_3, g__law_bin_4, seqS_eq, nxS, bkS, ctS, nxt_nx, nxt_rt, nxt_bk, nxt_ct, ifS_eq, ifE_eq, brR_t, brR_f, brR_dec, anT_eq, orT_eq, anE_eq, orE_eq, tst_eq, isB_bl, ↓R.bind_bd, R.bd_ok, R.of_some, noT, blE, vr, cst, op1, op2, setS, setR, nxO, asgS, tupG, cnsG, nilG, nmG, subGO, subG, subS, getM, ixM, putO, cnsA, nilA, dTup, dLst, frz, retS, retM, setM, exS, mutS, appO, opC, callE, callM, callG_eq, cnsB, nilB, slB, kwB, ioM, toArgs, okA, slsA, nodN, argG_some, goG_ok, asE, asM, putA, newM, putM, parS, par3S, frzS, frzAt, bindO, endR_rt, endR_nx, endG, FL.collect, bodyG_eq, rho0, toS, wipeR, FL.pick, tru, truD, chn, lenM, slM, slF, noO, smO, catO, catM, litM, isiD, typD, isTy, R.bd_exc, cauE_eq, goG_exc, endR_exc,   List.getElem?_cons_zero, List.getElem?_cons_succ, List.getElem?_nil, List.set_cons_zero, List.set_cons_succ, List.set_nil, List.length_cons, List.length_nil, List.mapIdx_cons, List.mapIdx_nil, List.map_cons, List.map_nil, List.replicate_succ, List.replicate_zero, List.cons_append, List.nil_append, List.append_nil, List.foldl_cons, List.foldl_nil, List.filterMap_cons, List.filterMap_nil, Option.map_some, Option.map_none, Option.bind_some, Option.bind_none, Bool.not_true, Bool.not_false, Bool.and_true, Bool.true_and, Bool.or_true, Bool.and_self, if_true, if_false,   eqA_int, neA_int, eqA_str, neA_str, ltD_int, leD_int, gtD_int, geD_int, addD_int, subD_int, negD_int, absC_int, intC_int, maxC_int, minC_int, lenC_lst, lenC_tup, lenC_scr, Int.cast_ofNat_Int, Int.natCast_zero, Int.natCast_one,   ↓reduceIte, Nat.reduceAdd, Nat.reduceSub, Nat.reduceMul, Nat.reduceLT, Nat.reduceLeDiff, Nat.reduceBEq, Nat.reduceBneDiff, Nat.reduceEqDiff, Nat.reducePow, Int.reduceLT, Int.reduceLE, Int.reduceEq, Int.reduceNe, Int.reduceAdd, Int.reduceSub, Int.reduceMul, Int.reduceNeg, Int.reducePow, Int.reduceToNat, decide_true, decide_false, decide_eq_true_eq, Bool.false_eq_true, List.contains_nil, List.contains_cons, Bool.or_false, Bool.or_self, eq_self, and_self, and_true, true_and, m0, m1, m2, f1, f2, forS_eq, hit, el, hl, pw, c2, s3]
    · refine ⟨.lst [.int 0, .int ((m' * 16807 + (97 * t + 43) % 999853) % 2147483647), .int 0], ?_, _, _, _, rfl, by omega, by omega⟩
      simp only [G__law_bin, g__law_bin, g__law_bin_1, g__law_bin_2, g__law_bin_3, g__law_bin_4, seqS_eq, nxS, bkS, ctS, nxt_nx, nxt_rt, nxt_bk, nxt_ct, ifS_eq, ifE_eq, brR_t, brR_f, brR_dec, anT_eq, orT_eq, anE_eq, orE_eq, tst_eq, isB_bl, ↓R.bind_bd, R.bd_ok, R.of_some, noT, blE, vr, cst, op1, op2, setS, setR, nxO, asgS, tupG, cnsG, nilG, nmG, subGO, subG, subS, getM, ixM, putO, cnsA, nilA, dTup, dLst, frz, retS, retM, setM, exS, mutS, appO, opC, callE, callM, callG_eq, cnsB, nilB, slB, kwB, ioM, toArgs, okA, slsA, nodN, argG_some, goG_ok, asE, asM, putA, newM, putM, parS, par3S, frzS, frzAt, bindO, endR_rt, endR_nx, endG, FL.collect, bodyG_eq, rho0, toS, wipeR, FL.pick, tru, truD, chn, lenM, slM, slF, noO, smO, catO, catM, litM, isiD, typD, isTy, R.bd_exc, cauE_eq, goG_exc, endR_exc,   List.getElem?_cons_zero, List.getElem?_cons_succ, List.getElem?_nil, List.set_cons_zero, List.set_cons_succ, List.set_nil, List.length_cons, List.length_nil, List.mapIdx_cons, List.mapIdx_nil, List.map_cons, List.map_nil, List.replicate_succ, List.replicate_zero, List.cons_append, List.nil_append, List.append_nil, List.foldl_cons, List.foldl_nil, List.filterMap_cons, List.filterMap_nil, Option.map_some, Option.map_none, Option.bind_some, Option.bind_none, Bool.not_true, Bool.not_false, Bool.and_true, Bool.true_and, Bool.or_true, Bool.and_self, if_true, if_false,   eqA_int, neA_int, eqA_str, neA_str, ltD_int, leD_int, gtD_int, geD_int, addD_int, subD_int, negD_int, absC_int, intC_int, maxC_int, minC_int, lenC_lst, lenC_tup, lenC_scr, Int.cast_ofNat_Int, Int.natCast_zero, Int.natCast_one,   ↓reduceIte, Nat.reduceAdd, Nat.reduceSub, Nat.reduceMul, Nat.reduceLT, Nat.reduceLeDiff, Nat.reduceBEq, Nat.reduceBneDiff, Nat.reduceEqDiff, Nat.reducePow, Int.reduceLT, Int.reduceLE, Int.reduceEq, Int.reduceNe, Int.reduceAdd, Int.reduceSub, Int.reduceMul, Int.reduceNeg, Int.reducePow, Int.reduceToNat, decide_true, decide_false, decide_eq_true_eq, Bool.false_eq_true, List.contains_nil, List.contains_cons, Bool.or_false, Bool.or_self, eq_self, and_self, and_true, true_and, m0, m1, m2, f1, f2, forS_eq, hit, el, hl, pw, c2, s3]

theorem loop4 : ∀ (bs : List Int) (a b c d : Int) (e : Slot) (t : D), (∀ x ∈ bs, x.natAbs < 18446744073709551616) → ∃ b' d' e', forL [] (nmG 5) b__law_turns_1 (bs.map D.int) [.val t, .val (.int a), .val (.int b), .val (.int c), .val (.int d), e] = .ok .nx [.val t, .val (.int (a * (turnsI bs).1 + b * (turnsI bs).2)), b', .val (.int (c * (turnsI bs).1 + d * (turnsI bs).2)), d', e']
  | [], a, b, c, d, e, t, _ => ⟨.val (.int b), .val (.int d), e, by
      show R.ok Fl.nx _ = _
      rw [show (turnsI []).1 = 1 from rfl, show (turnsI []).2 = 0 from rfl, Int.mul_one, Int.mul_zero, Int.add_zero, Int.mul_one, Int.mul_zero, Int.add_zero]⟩
  | x :: bs, a, b, c, d, e, t, hb => by
    obtain ⟨b', d', e', ih⟩ := loop4 bs (a * x + b) (-a) (c * x + d) (-c) (.val (.int x)) t fun y hy => hb y (List.mem_cons_of_mem _ hy)
    have m1 : mulD (.int a) (.int x) = some (.int (a * x)) := mulD_r (hb x List.mem_cons_self)
    have m2 : mulD (.int c) (.int x) = some (.int (c * x)) := mulD_r (hb x List.mem_cons_self)
    have s4 : small 4 = true := rfl
    have eb : b__law_turns_1 [.val t, .val (.int a), .val (.int b), .val (.int c), .val (.int d), .val (.int x)] = .ok .nx [.val t, .val (.int (a * x + b)), .val (.int (-a)), .val (.int (c * x + d)), .val (.int (-c)), .val (.int x)] := by
      simp only [b__law_turns_1, seqS_eq, nxS, bkS, ctS, nxt_nx, nxt_rt, nxt_bk, nxt_ct, ifS_eq, ifE_eq, brR_t, brR_f, brR_dec, anT_eq, orT_eq, anE_eq, orE_eq, tst_eq, isB_bl, ↓R.bind_bd, R.bd_ok, R.of_some, noT, blE, vr, cst, op1, op2, setS, setR, nxO, asgS, tupG, cnsG, nilG, nmG, subGO, subG, subS, getM, ixM, putO, cnsA, nilA, dTup, dLst, frz, retS, retM, setM, exS, mutS, appO, opC, callE, callM, callG_eq, cnsB, nilB, slB, kwB, ioM, toArgs, okA, slsA, nodN, argG_some, goG_ok, asE, asM, putA, newM, putM, parS, par3S, frzS, frzAt, bindO, endR_rt, endR_nx, endG, FL.collect, bodyG_eq, rho0, toS, wipeR, FL.pick, tru, truD, chn, lenM, slM, slF, noO, smO, catO, catM, litM, isiD, typD, isTy, R.bd_exc, cauE_eq, goG_exc, endR_exc,   List.getElem?_cons_zero, List.getElem?_cons_succ, List.getElem?_nil, List.set_cons_zero, List.set_cons_succ, List.set_nil, List.length_cons, List.length_nil, List.mapIdx_cons, List.mapIdx_nil, List.map_cons, List.map_nil, List.replicate_succ, List.replicate_zero, List.cons_append, List.nil_append, List.append_nil, List.foldl_cons, List.foldl_nil, List.filterMap_cons, List.filterMap_nil, Option.map_some, Option.map_none, Option.bind_some, Option.bind_none, Bool.not_true, Bool.not_false, Bool.and_true, Bool.true_and, Bool.or_true, Bool.and_self, if_true, if_false,   eqA_int, neA_int, eqA_str, neA_str, ltD_int, leD_int, gtD_int, geD_int, addD_int, subD_int, negD_int, absC_int, intC_int, maxC_int, minC_int, lenC_lst, lenC_tup, lenC_scr, Int.cast_ofNat_Int, Int.natCast_zero, Int.natCast_one,   ↓reduceIte, Nat.reduceAdd, Nat.reduceSub, Nat.reduceMul, Nat.reduceLT, Nat.reduceLeDiff, Nat.reduceBEq, Nat.reduceBneDiff, Nat.reduceEqDiff, Nat.reducePow, Int.reduceLT, Int.reduceLE, Int.reduceEq, Int.reduceNe, Int.reduceAdd, Int.reduceSub, Int.reduceMul, Int.reduceNeg, Int.reducePow, Int.reduceToNat, decide_true, decide_false, decide_eq_true_eq, Bool.false_eq_true, List.contains_nil, List.contains_cons, Bool.or_false, Bool.or_self, eq_self, and_self, and_true, true_and, m1, m2, s4]
    have k : ∀ p q : Int, (p * x + q) * (turnsI bs).1 + -p * (turnsI bs).2 = p * (turnsI (x :: bs)).1 + q * (turnsI (x :: bs)).2 := fun p q => by
      show _ = p * (x * (turnsI bs).1 - (turnsI bs).2) + q * (turnsI bs).1
      simp only [Int.add_mul, Int.mul_sub, Int.neg_mul, Int.mul_assoc]
      omega
    rw [k, k] at ih
    refine ⟨b', d', e', ?_⟩
    rw [List.map_cons]
    simp only [forL_cons, seqS_eq, nxS, bkS, ctS, nxt_nx, nxt_rt, nxt_bk, nxt_ct, ifS_eq, ifE_eq, brR_t, brR_f, brR_dec, anT_eq, orT_eq, anE_eq, orE_eq, tst_eq, isB_bl, ↓R.bind_bd, R.bd_ok, R.of_some, noT, blE, vr, cst, op1, op2, setS, setR, nxO, asgS, tupG, cnsG, nilG, nmG, subGO, subG, subS, getM, ixM, putO, cnsA, nilA, dTup, dLst, frz, retS, retM, setM, exS, mutS, appO, opC, callE, callM, callG_eq, cnsB, nilB, slB, kwB, ioM, toArgs, okA, slsA, nodN, argG_some, goG_ok, asE, asM, putA, newM, putM, parS, par3S, frzS, frzAt, bindO, endR_rt, endR_nx, endG, FL.collect, bodyG_eq, rho0, toS, wipeR, FL.pick, tru, truD, chn, lenM, slM, slF, noO, smO, catO, catM, litM, isiD, typD, isTy, R.bd_exc, cauE_eq, goG_exc, endR_exc,   List.getElem?_cons_zero, List.getElem?_cons_succ, List.getElem?_nil, List.set_cons_zero, List.set_cons_succ, List.set_nil, List.length_cons, List.length_nil, List.mapIdx_cons, List.mapIdx_nil, List.map_cons, List.map_nil, List.replicate_succ, List.replicate_zero, List.cons_append, List.nil_append, List.append_nil, List.foldl_cons, List.foldl_nil, List.filterMap_cons, List.filterMap_nil, Option.map_some, Option.map_none, Option.bind_some, Option.bind_none, Bool.not_true, Bool.not_false, Bool.and_true, Bool.true_and, Bool.or_true, Bool.and_self, if_true, if_false,   eqA_int, neA_int, eqA_str, neA_str, ltD_int, leD_int, gtD_int, geD_int, addD_int, subD_int, negD_int, absC_int, intC_int, maxC_int, minC_int, lenC_lst, lenC_tup, lenC_scr, Int.cast_ofNat_Int, Int.natCast_zero, Int.natCast_one,   ↓reduceIte, Nat.reduceAdd, Nat.reduceSub, Nat.reduceMul, Nat.reduceLT, Nat.reduceLeDiff, Nat.reduceBEq, Nat.reduceBneDiff, Nat.reduceEqDiff, Nat.reducePow, Int.reduceLT, Int.reduceLE, Int.reduceEq, Int.reduceNe, Int.reduceAdd, Int.reduceSub, Int.reduceMul, Int.reduceNeg, Int.reducePow, Int.reduceToNat, decide_true, decide_false, decide_eq_true_eq, Bool.false_eq_true, List.contains_nil, List.contains_cons, Bool.or_false, Bool.or_self, eq_self, and_self, and_true, true_and, eb, aftF, ih]
theorem lturns_ok {bs : List Int} (hb : ∀ b ∈ bs, b.natAbs < 18446744073709551616) : G__law_turns [.val (.tup (bs.map D.int))] = .ok (.m (.lst [.int (turnsI bs).1, .int (turnsI bs).2])) [] := by
  obtain ⟨b', d', e', el⟩ := loop4 bs 1 0 0 1 .no (.tup (bs.map D.int)) hb
  rw [Int.one_mul, Int.zero_mul, Int.add_zero, Int.zero_mul, Int.one_mul, Int.zero_add] at el
  have hit : seqI (vr 0) [.val (.tup (bs.map D.int)), .val (.int 1), .val (.int 0), .val (.int 0), .val (.int 1), .no] = .ok (bs.map D.int) [.val (.tup (bs.map D.int)), .val (.int 1), .val (.int 0), .val (.int 0), .val (.int 1), .no] := rfl
  have s4 : small 4 = true := rfl
  have s2 : small 2 = true := rfl
  simp only [G__law_turns, g__law_turns, seqS_eq, nxS, bkS, ctS, nxt_nx, nxt_rt, nxt_bk, nxt_ct, ifS_eq, ifE_eq, brR_t, brR_f, brR_dec, anT_eq, orT_eq, anE_eq, orE_eq, tst_eq, isB_bl, ↓R.bind_bd, R.bd_ok, R.of_some, noT, blE, vr, cst, op1, op2, setS, setR, nxO, asgS, tupG, cnsG, nilG, nmG, subGO, subG, subS, getM, ixM, putO, cnsA, nilA, dTup, dLst, frz, retS, retM, setM, exS, mutS, appO, opC, callE, callM, callG_eq, cnsB, nilB, slB, kwB, ioM, toArgs, okA, slsA, nodN, argG_some, goG_ok, asE, asM, putA, newM, putM, parS, par3S, frzS, frzAt, bindO, endR_rt, endR_nx, endG, FL.collect, bodyG_eq, rho0, toS, wipeR, FL.pick, tru, truD, chn, lenM, slM, slF, noO, smO, catO, catM, litM, isiD, typD, isTy, R.bd_exc, cauE_eq, goG_exc, endR_exc,   List.getElem?_cons_zero, List.getElem?_cons_succ, List.getElem?_nil, List.set_cons_zero, List.set_cons_succ, List.set_nil, List.length_cons, List.length_nil, List.mapIdx_cons, List.mapIdx_nil, List.map_cons, List.map_nil, List.replicate_succ, List.replicate_zero, List.cons_append, List.nil_append, List.append_nil, List.foldl_cons, List.foldl_nil, List.filterMap_cons, List.filterMap_nil, Option.map_some, Option.map_none, Option.bind_some, Option.bind_none, Bool.not_true, Bool.not_false, Bool.and_true, Bool.true_and, Bool.or_true, Bool.and_self, if_true, if_false,   eqA_int, neA_int, eqA_str, neA_str, ltD_int, leD_int, gtD_int, geD_int, addD_int, subD_int, negD_int, absC_int, intC_int, maxC_int, minC_int, lenC_lst, lenC_tup, lenC_scr, Int.cast_ofNat_Int, Int.natCast_zero, Int.natCast_one,   ↓reduceIte, Nat.reduceAdd, Nat.reduceSub, Nat.reduceMul, Nat.reduceLT, Nat.reduceLeDiff, Nat.reduceBEq, Nat.reduceBneDiff, Nat.reduceEqDiff, Nat.reducePow, Int.reduceLT, Int.reduceLE, Int.reduceEq, Int.reduceNe, Int.reduceAdd, Int.reduceSub, Int.reduceMul, Int.reduceNeg, Int.reducePow, Int.reduceToNat, decide_true, decide_false, decide_eq_true_eq, Bool.false_eq_true, List.contains_nil, List.contains_cons, Bool.or_false, Bool.or_self, eq_self, and_self, and_true, true_and, forS_eq, hit, el, s2, s4]

theorem tbeads_ok {n : Nat} {s : M} (hs : Sp n s) {m w : Int} (m0 : 0 ≤ m) (m1 : m ≤ 1000) (w0 : 2 ≤ w) (w1 : w ≤ 1000000000) (hn : n ≤ 900000000) : ∃ (bs : List Int) (s' : M), G__law_beads [.io s, .val (.int m), .val (.int w)] = .ok (.v (.tup (bs.map D.int))) [s'] ∧ (bs.length : Int) ≤ m ∧ (∀ b ∈ bs, (b.natAbs : Int) ≤ w) ∧ Sp (n + 1 + 3 * m.toNat) s' := by
  have s6 : small 6 = true := rfl
  have s0 : small 0 = true := rfl
  obtain ⟨k, s1, e1, k0, k1, h1⟩ := sip_ok hs (k := m + 1) (by omega) (by omega) (by omega)
  have g : rgOk k = true := rgOk_of (by omega) (by omega)
  have r := rng1_ok (g := cnsA (callE 2 G__law_sip (slB 0 (cnsB (op2 addD (vr 1) (cst (.int 1))) nilB))) nilA) (ρ := [.io s, .val (.int m), .val (.int w), .own (.lst []), .no]) (ρ' := [.io s1, .val (.int m), .val (.int w), .own (.lst []), .no]) (n := k) (by simp only [seqS_eq, nxS, bkS, ctS, nxt_nx, nxt_rt, nxt_bk, nxt_ct, ifS_eq, ifE_eq, brR_t, brR_f, brR_dec, anT_eq, orT_eq, anE_eq, orE_eq, tst_eq, isB_bl, ↓R.bind_bd, R.bd_ok, R.of_some, noT, blE, vr, cst, op1, op2, setS, setR, nxO, asgS, tupG, cnsG, nilG, nmG, subGO, subG, subS, getM, ixM, putO, cnsA, nilA, dTup, dLst, frz, retS, retM, setM, exS, mutS, appO, opC, callE, callM, callG_eq, cnsB, nilB, slB, kwB, ioM, toArgs, okA, slsA, nodN, argG_some, goG_ok, asE, asM, putA, newM, putM, parS, par3S, frzS, frzAt, bindO, endR_rt, endR_nx, endG, FL.collect, bodyG_eq, rho0, toS, wipeR, FL.pick, tru, truD, chn, lenM, slM, slF, noO, smO, catO, catM, litM, isiD, typD, isTy, R.bd_exc, cauE_eq, goG_exc, endR_exc,   List.getElem?_cons_zero, List.getElem?_cons_succ, List.getElem?_nil, List.set_cons_zero, List.set_cons_succ, List.set_nil, List.length_cons, List.length_nil, List.mapIdx_cons, List.mapIdx_nil, List.map_cons, List.map_nil, List.replicate_succ, List.replicate_zero, List.cons_append, List.nil_append, List.append_nil, List.foldl_cons, List.foldl_nil, List.filterMap_cons, List.filterMap_nil, Option.map_some, Option.map_none, Option.bind_some, Option.bind_none, Bool.not_true, Bool.not_false, Bool.and_true, Bool.true_and, Bool.or_true, Bool.and_self, if_true, if_false,   eqA_int, neA_int, eqA_str, neA_str, ltD_int, leD_int, gtD_int, geD_int, addD_int, subD_int, negD_int, absC_int, intC_int, maxC_int, minC_int, lenC_lst, lenC_tup, lenC_scr, Int.cast_ofNat_Int, Int.natCast_zero, Int.natCast_one,   ↓reduceIte, Nat.reduceAdd, Nat.reduceSub, Nat.reduceMul, Nat.reduceLT, Nat.reduceLeDiff, Nat.reduceBEq, Nat.reduceBneDiff, Nat.reduceEqDiff, Nat.reducePow, Int.reduceLT, Int.reduceLE, Int.reduceEq, Int.reduceNe, Int.reduceAdd, Int.reduceSub, Int.reduceMul, Int.reduceNeg, Int.reducePow, Int.reduceToNat, decide_true, decide_false, decide_eq_true_eq, Bool.false_eq_true, List.contains_nil, List.contains_cons, Bool.or_false, Bool.or_self, eq_self, and_self, and_true, true_and, e1]) g
  have mw : mulD (.int 2) (.int w) = some (.int (2 * w)) := mulD_l (by decide)
  obtain ⟨ρ', e, s2, bs, u, rfl, hl, hb, h2⟩ := forL_nx (ks := []) (g := nmG 4) (b := b__law_beads_1) (fun i ρ => ∃ (s : M) (bs : List Int) (u : Slot), ρ = [.io s, .val (.int m), .val (.int w), .own (.lst (bs.map D.int)), u] ∧ bs.length = i ∧ (∀ b ∈ bs, (b.natAbs : Int) ≤ w) ∧ Sp (n + 1 + 3 * i) s) (rangeL 0 k.toNat) [.io s1, .val (.int m), .val (.int w), .own (.lst []), .no]
    ⟨s1, [], .no, rfl, rfl, (fun b h => by cases h), h1⟩ (by
      rintro i d ρ ⟨s, bs, u, rfl, hl, hb, h⟩ hd
      obtain ⟨hi, rfl⟩ := rangeL_get _ _ _ _ hd
      obtain ⟨x, t1, f1, x0, x1, q1⟩ := sip_ok h (k := 2 * w + 1) (by omega) (by omega) (by omega)
      obtain ⟨y, t2, f2, y0, y1, q2⟩ := sip_ok q1 (k := 2 * w + 1) (by omega) (by omega) (by omega)
      obtain ⟨z, t3, hz, f3, q3⟩ := pick_ok q2 (xs := [.int 0, .int 1, .int (-1), .int 2, .int (x - w), .int (y - w)]) (by simp) (by simp) (by omega)
      obtain ⟨b, rfl, hb2⟩ : ∃ b : Int, z = .int b ∧ (b.natAbs : Int) ≤ w := by
        simp only [List.mem_cons, List.not_mem_nil, or_false] at hz
        rcases hz with rfl | rfl | rfl | rfl | rfl | rfl <;> exact ⟨_, rfl, by omega⟩
      have sm : small ((bs.map D.int).length + 1) = true := decide_eq_true (by rw [List.length_map]; omega)
      have em : (bs ++ [b]).map D.int = bs.map D.int ++ [.int b] := by rw [List.map_append]; rfl
      refine ⟨_, rfl, [.io t3, .val (.int m), .val (.int w), .own (.lst ((bs ++ [b]).map D.int)), .val (.int (0 + i))], ?_, t3, bs ++ [b], _, rfl, by rw [List.length_append, hl]; rfl, fun b' h' => ?_, q3.mono (by omega)⟩
      · rw [em]
        simp only [b__law_beads_1, seqS_eq, nxS, bkS, ctS, nxt_nx, nxt_rt, nxt_bk, nxt_ct, ifS_eq, ifE_eq, brR_t, brR_f, brR_dec, anT_eq, orT_eq, anE_eq, orE_eq, tst_eq, isB_bl, ↓R.bind_bd, R.bd_ok, R.of_some, noT, blE, vr, cst, op1, op2, setS, setR, nxO, asgS, tupG, cnsG, nilG, nmG, subGO, subG, subS, getM, ixM, putO, cnsA, nilA, dTup, dLst, frz, retS, retM, setM, exS, mutS, appO, opC, callE, callM, callG_eq, cnsB, nilB, slB, kwB, ioM, toArgs, okA, slsA, nodN, argG_some, goG_ok, asE, asM, putA, newM, putM, parS, par3S, frzS, frzAt, bindO, endR_rt, endR_nx, endG, FL.collect, bodyG_eq, rho0, toS, wipeR, FL.pick, tru, truD, chn, lenM, slM, slF, noO, smO, catO, catM, litM, isiD, typD, isTy, R.bd_exc, cauE_eq, goG_exc, endR_exc,   List.getElem?_cons_zero, List.getElem?_cons_succ, List.getElem?_nil, List.set_cons_zero, List.set_cons_succ, List.set_nil, List.length_cons, List.length_nil, List.mapIdx_cons, List.mapIdx_nil, List.map_cons, List.map_nil, List.replicate_succ, List.replicate_zero, List.cons_append, List.nil_append, List.append_nil, List.foldl_cons, List.foldl_nil, List.filterMap_cons, List.filterMap_nil, Option.map_some, Option.map_none, Option.bind_some, Option.bind_none, Bool.not_true, Bool.not_false, Bool.and_true, Bool.true_and, Bool.or_true, Bool.and_self, if_true, if_false,   eqA_int, neA_int, eqA_str, neA_str, ltD_int, leD_int, gtD_int, geD_int, addD_int, subD_int, negD_int, absC_int, intC_int, maxC_int, minC_int, lenC_lst, lenC_tup, lenC_scr, Int.cast_ofNat_Int, Int.natCast_zero, Int.natCast_one,   ↓reduceIte, Nat.reduceAdd, Nat.reduceSub, Nat.reduceMul, Nat.reduceLT, Nat.reduceLeDiff, Nat.reduceBEq, Nat.reduceBneDiff, Nat.reduceEqDiff, Nat.reducePow, Int.reduceLT, Int.reduceLE, Int.reduceEq, Int.reduceNe, Int.reduceAdd, Int.reduceSub, Int.reduceMul, Int.reduceNeg, Int.reducePow, Int.reduceToNat, decide_true, decide_false, decide_eq_true_eq, Bool.false_eq_true, List.contains_nil, List.contains_cons, Bool.or_false, Bool.or_self, eq_self, and_self, and_true, true_and, mw, f1, f2, f3, s6, sm]
      · rcases List.mem_append.mp h' with h' | h'
        · exact hb b' h'
        · rw [List.mem_singleton.mp h']
          exact hb2)
  rw [rangeL_length] at hl h2
  have ht : ∀ xs, tupC [.lst xs] = some (.tup xs) := fun _ => rfl
  refine ⟨bs, s2, ?_, by omega, hb, h2.mono (by omega)⟩
  simp only [G__law_beads, g__law_beads, seqS_eq, nxS, bkS, ctS, nxt_nx, nxt_rt, nxt_bk, nxt_ct, ifS_eq, ifE_eq, brR_t, brR_f, brR_dec, anT_eq, orT_eq, anE_eq, orE_eq, tst_eq, isB_bl, ↓R.bind_bd, R.bd_ok, R.of_some, noT, blE, vr, cst, op1, op2, setS, setR, nxO, asgS, tupG, cnsG, nilG, nmG, subGO, subG, subS, getM, ixM, putO, cnsA, nilA, dTup, dLst, frz, retS, retM, setM, exS, mutS, appO, opC, callE, callM, callG_eq, cnsB, nilB, slB, kwB, ioM, toArgs, okA, slsA, nodN, argG_some, goG_ok, asE, asM, putA, newM, putM, parS, par3S, frzS, frzAt, bindO, endR_rt, endR_nx, endG, FL.collect, bodyG_eq, rho0, toS, wipeR, FL.pick, tru, truD, chn, lenM, slM, slF, noO, smO, catO, catM, litM, isiD, typD, isTy, R.bd_exc, cauE_eq, goG_exc, endR_exc,   List.getElem?_cons_zero, List.getElem?_cons_succ, List.getElem?_nil, List.set_cons_zero, List.set_cons_succ, List.set_nil, List.length_cons, List.length_nil, List.mapIdx_cons, List.mapIdx_nil, List.map_cons, List.map_nil, List.replicate_succ, List.replicate_zero, List.cons_append, List.nil_append, List.append_nil, List.foldl_cons, List.foldl_nil, List.filterMap_cons, List.filterMap_nil, Option.map_some, Option.map_none, Option.bind_some, Option.bind_none, Bool.not_true, Bool.not_false, Bool.and_true, Bool.true_and, Bool.or_true, Bool.and_self, if_true, if_false,   eqA_int, neA_int, eqA_str, neA_str, ltD_int, leD_int, gtD_int, geD_int, addD_int, subD_int, negD_int, absC_int, intC_int, maxC_int, minC_int, lenC_lst, lenC_tup, lenC_scr, Int.cast_ofNat_Int, Int.natCast_zero, Int.natCast_one,   ↓reduceIte, Nat.reduceAdd, Nat.reduceSub, Nat.reduceMul, Nat.reduceLT, Nat.reduceLeDiff, Nat.reduceBEq, Nat.reduceBneDiff, Nat.reduceEqDiff, Nat.reducePow, Int.reduceLT, Int.reduceLE, Int.reduceEq, Int.reduceNe, Int.reduceAdd, Int.reduceSub, Int.reduceMul, Int.reduceNeg, Int.reducePow, Int.reduceToNat, decide_true, decide_false, decide_eq_true_eq, Bool.false_eq_true, List.contains_nil, List.contains_cons, Bool.or_false, Bool.or_self, eq_self, and_self, and_true, true_and, forS_eq, r, e, ht, s0]

theorem lpair_ok {bs : List Int} (hb : ∀ b ∈ bs, b.natAbs < 18446744073709551616) : G__law_pair [.val (.tup (bs.map D.int))] = .ok (.v (pairI bs)) [] := by
  have t := lturns_ok hb
  have s2 : small 2 = true := rfl
  unfold pairI
  generalize (turnsI bs).1 = p at t ⊢
  generalize (turnsI bs).2 = r at t ⊢
  unfold restI
  by_cases h0 : p = 0
  · subst h0
    by_cases h1 : r < 0
    · simp only [G__law_pair, g__law_pair, seqS_eq, nxS, bkS, ctS, nxt_nx, nxt_rt, nxt_bk, nxt_ct, ifS_eq, ifE_eq, brR_t, brR_f, brR_dec, anT_eq, orT_eq, anE_eq, orE_eq, tst_eq, isB_bl, ↓R.bind_bd, R.bd_ok, R.of_some, noT, blE, vr, cst, op1, op2, setS, setR, nxO, asgS, tupG, cnsG, nilG, nmG, subGO, subG, subS, getM, ixM, putO, cnsA, nilA, dTup, dLst, frz, retS, retM, setM, exS, mutS, appO, opC, callE, callM, callG_eq, cnsB, nilB, slB, kwB, ioM, toArgs, okA, slsA, nodN, argG_some, goG_ok, asE, asM, putA, newM, putM, parS, par3S, frzS, frzAt, bindO, endR_rt, endR_nx, endG, FL.collect, bodyG_eq, rho0, toS, wipeR, FL.pick, tru, truD, chn, lenM, slM, slF, noO, smO, catO, catM, litM, isiD, typD, isTy, R.bd_exc, cauE_eq, goG_exc, endR_exc,   List.getElem?_cons_zero, List.getElem?_cons_succ, List.getElem?_nil, List.set_cons_zero, List.set_cons_succ, List.set_nil, List.length_cons, List.length_nil, List.mapIdx_cons, List.mapIdx_nil, List.map_cons, List.map_nil, List.replicate_succ, List.replicate_zero, List.cons_append, List.nil_append, List.append_nil, List.foldl_cons, List.foldl_nil, List.filterMap_cons, List.filterMap_nil, Option.map_some, Option.map_none, Option.bind_some, Option.bind_none, Bool.not_true, Bool.not_false, Bool.and_true, Bool.true_and, Bool.or_true, Bool.and_self, if_true, if_false,   eqA_int, neA_int, eqA_str, neA_str, ltD_int, leD_int, gtD_int, geD_int, addD_int, subD_int, negD_int, absC_int, intC_int, maxC_int, minC_int, lenC_lst, lenC_tup, lenC_scr, Int.cast_ofNat_Int, Int.natCast_zero, Int.natCast_one,   ↓reduceIte, Nat.reduceAdd, Nat.reduceSub, Nat.reduceMul, Nat.reduceLT, Nat.reduceLeDiff, Nat.reduceBEq, Nat.reduceBneDiff, Nat.reduceEqDiff, Nat.reducePow, Int.reduceLT, Int.reduceLE, Int.reduceEq, Int.reduceNe, Int.reduceAdd, Int.reduceSub, Int.reduceMul, Int.reduceNeg, Int.reducePow, Int.reduceToNat, decide_true, decide_false, decide_eq_true_eq, Bool.false_eq_true, List.contains_nil, List.contains_cons, Bool.or_false, Bool.or_self, eq_self, and_self, and_true, true_and, tulG, t, h1, s2, Int.neg_zero, Int.natAbs_zero]
    · simp only [G__law_pair, g__law_pair, seqS_eq, nxS, bkS, ctS, nxt_nx, nxt_rt, nxt_bk, nxt_ct, ifS_eq, ifE_eq, brR_t, brR_f, brR_dec, anT_eq, orT_eq, anE_eq, orE_eq, tst_eq, isB_bl, ↓R.bind_bd, R.bd_ok, R.of_some, noT, blE, vr, cst, op1, op2, setS, setR, nxO, asgS, tupG, cnsG, nilG, nmG, subGO, subG, subS, getM, ixM, putO, cnsA, nilA, dTup, dLst, frz, retS, retM, setM, exS, mutS, appO, opC, callE, callM, callG_eq, cnsB, nilB, slB, kwB, ioM, toArgs, okA, slsA, nodN, argG_some, goG_ok, asE, asM, putA, newM, putM, parS, par3S, frzS, frzAt, bindO, endR_rt, endR_nx, endG, FL.collect, bodyG_eq, rho0, toS, wipeR, FL.pick, tru, truD, chn, lenM, slM, slF, noO, smO, catO, catM, litM, isiD, typD, isTy, R.bd_exc, cauE_eq, goG_exc, endR_exc,   List.getElem?_cons_zero, List.getElem?_cons_succ, List.getElem?_nil, List.set_cons_zero, List.set_cons_succ, List.set_nil, List.length_cons, List.length_nil, List.mapIdx_cons, List.mapIdx_nil, List.map_cons, List.map_nil, List.replicate_succ, List.replicate_zero, List.cons_append, List.nil_append, List.append_nil, List.foldl_cons, List.foldl_nil, List.filterMap_cons, List.filterMap_nil, Option.map_some, Option.map_none, Option.bind_some, Option.bind_none, Bool.not_true, Bool.not_false, Bool.and_true, Bool.true_and, Bool.or_true, Bool.and_self, if_true, if_false,   eqA_int, neA_int, eqA_str, neA_str, ltD_int, leD_int, gtD_int, geD_int, addD_int, subD_int, negD_int, absC_int, intC_int, maxC_int, minC_int, lenC_lst, lenC_tup, lenC_scr, Int.cast_ofNat_Int, Int.natCast_zero, Int.natCast_one,   ↓reduceIte, Nat.reduceAdd, Nat.reduceSub, Nat.reduceMul, Nat.reduceLT, Nat.reduceLeDiff, Nat.reduceBEq, Nat.reduceBneDiff, Nat.reduceEqDiff, Nat.reducePow, Int.reduceLT, Int.reduceLE, Int.reduceEq, Int.reduceNe, Int.reduceAdd, Int.reduceSub, Int.reduceMul, Int.reduceNeg, Int.reducePow, Int.reduceToNat, decide_true, decide_false, decide_eq_true_eq, Bool.false_eq_true, List.contains_nil, List.contains_cons, Bool.or_false, Bool.or_self, eq_self, and_self, and_true, true_and, tulG, t, h1, s2, Int.natAbs_zero]
  · by_cases h1 : p < 0
    · have n0 : ¬ -p = 0 := by omega
      have m : modD (.int (-r)) (.int (-p)) = some (.int (-r % -p)) := modD_pos (by omega)
      have e : (p.natAbs : Int) = -p := by omega
      simp only [G__law_pair, g__law_pair, seqS_eq, nxS, bkS, ctS, nxt_nx, nxt_rt, nxt_bk, nxt_ct, ifS_eq, ifE_eq, brR_t, brR_f, brR_dec, anT_eq, orT_eq, anE_eq, orE_eq, tst_eq, isB_bl, ↓R.bind_bd, R.bd_ok, R.of_some, noT, blE, vr, cst, op1, op2, setS, setR, nxO, asgS, tupG, cnsG, nilG, nmG, subGO, subG, subS, getM, ixM, putO, cnsA, nilA, dTup, dLst, frz, retS, retM, setM, exS, mutS, appO, opC, callE, callM, callG_eq, cnsB, nilB, slB, kwB, ioM, toArgs, okA, slsA, nodN, argG_some, goG_ok, asE, asM, putA, newM, putM, parS, par3S, frzS, frzAt, bindO, endR_rt, endR_nx, endG, FL.collect, bodyG_eq, rho0, toS, wipeR, FL.pick, tru, truD, chn, lenM, slM, slF, noO, smO, catO, catM, litM, isiD, typD, isTy, R.bd_exc, cauE_eq, goG_exc, endR_exc,   List.getElem?_cons_zero, List.getElem?_cons_succ, List.getElem?_nil, List.set_cons_zero, List.set_cons_succ, List.set_nil, List.length_cons, List.length_nil, List.mapIdx_cons, List.mapIdx_nil, List.map_cons, List.map_nil, List.replicate_succ, List.replicate_zero, List.cons_append, List.nil_append, List.append_nil, List.foldl_cons, List.foldl_nil, List.filterMap_cons, List.filterMap_nil, Option.map_some, Option.map_none, Option.bind_some, Option.bind_none, Bool.not_true, Bool.not_false, Bool.and_true, Bool.true_and, Bool.or_true, Bool.and_self, if_true, if_false,   eqA_int, neA_int, eqA_str, neA_str, ltD_int, leD_int, gtD_int, geD_int, addD_int, subD_int, negD_int, absC_int, intC_int, maxC_int, minC_int, lenC_lst, lenC_tup, lenC_scr, Int.cast_ofNat_Int, Int.natCast_zero, Int.natCast_one,   ↓reduceIte, Nat.reduceAdd, Nat.reduceSub, Nat.reduceMul, Nat.reduceLT, Nat.reduceLeDiff, Nat.reduceBEq, Nat.reduceBneDiff, Nat.reduceEqDiff, Nat.reducePow, Int.reduceLT, Int.reduceLE, Int.reduceEq, Int.reduceNe, Int.reduceAdd, Int.reduceSub, Int.reduceMul, Int.reduceNeg, Int.reducePow, Int.reduceToNat, decide_true, decide_false, decide_eq_true_eq, Bool.false_eq_true, List.contains_nil, List.contains_cons, Bool.or_false, Bool.or_self, eq_self, and_self, and_true, true_and, tulG, t, h0, h1, n0, m, s2, e]
    · have m : modD (.int r) (.int p) = some (.int (r % p)) := modD_pos (by omega)
      have e : (p.natAbs : Int) = p := by omega
      simp only [G__law_pair, g__law_pair, seqS_eq, nxS, bkS, ctS, nxt_nx, nxt_rt, nxt_bk, nxt_ct, ifS_eq, ifE_eq, brR_t, brR_f, brR_dec, anT_eq, orT_eq, anE_eq, orE_eq, tst_eq, isB_bl, ↓R.bind_bd, R.bd_ok, R.of_some, noT, blE, vr, cst, op1, op2, setS, setR, nxO, asgS, tupG, cnsG, nilG, nmG, subGO, subG, subS, getM, ixM, putO, cnsA, nilA, dTup, dLst, frz, retS, retM, setM, exS, mutS, appO, opC, callE, callM, callG_eq, cnsB, nilB, slB, kwB, ioM, toArgs, okA, slsA, nodN, argG_some, goG_ok, asE, asM, putA, newM, putM, parS, par3S, frzS, frzAt, bindO, endR_rt, endR_nx, endG, FL.collect, bodyG_eq, rho0, toS, wipeR, FL.pick, tru, truD, chn, lenM, slM, slF, noO, smO, catO, catM, litM, isiD, typD, isTy, R.bd_exc, cauE_eq, goG_exc, endR_exc,   List.getElem?_cons_zero, List.getElem?_cons_succ, List.getElem?_nil, List.set_cons_zero, List.set_cons_succ, List.set_nil, List.length_cons, List.length_nil, List.mapIdx_cons, List.mapIdx_nil, List.map_cons, List.map_nil, List.replicate_succ, List.replicate_zero, List.cons_append, List.nil_append, List.append_nil, List.foldl_cons, List.foldl_nil, List.filterMap_cons, List.filterMap_nil, Option.map_some, Option.map_none, Option.bind_some, Option.bind_none, Bool.not_true, Bool.not_false, Bool.and_true, Bool.true_and, Bool.or_true, Bool.and_self, if_true, if_false,   eqA_int, neA_int, eqA_str, neA_str, ltD_int, leD_int, gtD_int, geD_int, addD_int, subD_int, negD_int, absC_int, intC_int, maxC_int, minC_int, lenC_lst, lenC_tup, lenC_scr, Int.cast_ofNat_Int, Int.natCast_zero, Int.natCast_one,   ↓reduceIte, Nat.reduceAdd, Nat.reduceSub, Nat.reduceMul, Nat.reduceLT, Nat.reduceLeDiff, Nat.reduceBEq, Nat.reduceBneDiff, Nat.reduceEqDiff, Nat.reducePow, Int.reduceLT, Int.reduceLE, Int.reduceEq, Int.reduceNe, Int.reduceAdd, Int.reduceSub, Int.reduceMul, Int.reduceNeg, Int.reducePow, Int.reduceToNat, decide_true, decide_false, decide_eq_true_eq, Bool.false_eq_true, List.contains_nil, List.contains_cons, Bool.or_false, Bool.or_self, eq_self, and_self, and_true, true_and, tulG, t, h0, h1, m, s2, e]

theorem T_bound {bs : List Int} (hl : bs.length ≤ 200) (hb : ∀ b ∈ bs, b.natAbs ≤ 1000000000) : (turnsI bs).1.natAbs ≤ (1000000000 + 1) ^ 200 :=
  Nat.le_trans (turnsI_bound hb).1 (Nat.pow_le_pow_right (by decide) hl)
theorem big_two : (1000000000 + 1) ^ 200 < 2 ^ 8000 := by decide +kernel
theorem big_ten : (1000000000 + 1) ^ 200 < 10 ^ 1900 := by decide +kernel
theorem rest_one (t r : Int) (h : t.natAbs = 1) : restI t r = 0 := by
  unfold restI
  rw [if_neg (by omega), h]
  exact Int.emod_one _
theorem back_ok {bs : List Int} (hl : bs.length ≤ 200) (hb : ∀ b ∈ bs, b.natAbs ≤ 1000000000) : pairB ((turnsI bs).1.natAbs : Int) (restI (turnsI bs).1 (turnsI bs).2) = true ∧ G_backwards [.val (pairI bs)] = .ok (.v (pairI bs.reverse)) [] := by
  have hT := T_bound hl hb
  have h2 := big_two
  have rt := (turns_rev bs).1
  have ri := fun h => rests_inv (bs := bs) h
  unfold pairI
  rw [rt] at ri ⊢
  generalize (turnsI bs.reverse).2 = r' at *
  generalize (turnsI bs).2 = r at *
  generalize (turnsI bs).1 = t at *
  by_cases c : 2 ≤ t.natAbs
  · have e := ri c
    obtain ⟨a0, a1⟩ := restI_bounds t r (by omega)
    obtain ⟨b0, b1⟩ := restI_bounds t r' (by omega)
    have p2 : ((t.natAbs : Int)).natAbs < 2 ^ 8000 := by rw [Int.natAbs_natCast]; exact Nat.lt_of_le_of_lt hT h2
    exact ⟨pairB_inv (by omega) a0 a1 e, backwards_inv (by omega) p2 a0 a1 b0 b1 e⟩
  · by_cases z : t.natAbs = 0
    · have : t = 0 := by omega
      subst this
      exact ⟨rfl, backwards_same (by decide) rfl⟩
    · have o : t.natAbs = 1 := by omega
      rw [rest_one t r o, rest_one t r' o, o]
      exact ⟨rfl, backwards_same (by decide) rfl⟩
theorem rep_int {t : Int} (h : t.natAbs < 10 ^ 1900) : ∃ S, reprBC [.lst [.int t, .int t]] = some (.str S) := by
  refine ⟨_, reprBC_of (m := 1900) (by decide) (by decide) rfl ?_ ?_⟩
  · simp only [litF, List.all_cons, List.all_nil, Bool.and_true, Bool.and_self, decide_eq_true_eq]
    exact h
  · simp only [costF, List.map_cons, List.map_nil, List.sum_cons, List.sum_nil]
    omega
theorem rep_pair {p q : Int} (hp : p.natAbs < 10 ^ 1900) (hq : q.natAbs < 10 ^ 1900) : ∃ S, reprBC [.lst [D2 p q, D2 p q]] = some (.str S) := by
  refine ⟨_, reprBC_of (m := 1900) (by decide) (by decide) rfl ?_ ?_⟩
  · simp only [litF, List.all_cons, List.all_nil, Bool.and_true, Bool.and_self, decide_eq_true hp, decide_eq_true hq]
  · simp only [costF, List.map_cons, List.map_nil, List.sum_cons, List.sum_nil]
    omega
theorem turn_ok {n : Nat} {s : M} (hs : Sp n s) (hn : n ≤ 700000000) (a1 a2 a3 a4 : Slot) :
    ∃ (s' : M) (b2 b3 b4 : Slot), b__law_right_1 [.io s, a1, a2, a3, a4] = .ok .nx [.io s', a1, b2, b3, b4] ∧ Sp (n + 700) s' := by
  have s2 : small 2 = true := rfl
  have s3 : small 3 = true := rfl
  have s4 : small 4 = true := rfl
  have p9 : powD (.int 10) (.int 9) = some (.int 1000000000) := rfl
  obtain ⟨m', s1, hm, e1, h1⟩ := pick_ok hs (xs := [.int 2, .int 5, .int 30, .int 200]) (by simp) (by simp) (by omega)
  obtain ⟨m, rfl, m0, m1⟩ : ∃ x : Int, m' = .int x ∧ 0 ≤ x ∧ x ≤ 200 := by
    simp only [List.mem_cons, List.not_mem_nil, or_false] at hm
    rcases hm with rfl | rfl | rfl | rfl <;> exact ⟨_, rfl, by decide, by decide⟩
  obtain ⟨w', s2', hw, e2, h2⟩ := pick_ok h1 (xs := [.int 2, .int 9, .int 1000000000]) (by simp) (by simp) (by omega)
  obtain ⟨w, rfl, w0, w1⟩ : ∃ x : Int, w' = .int x ∧ 2 ≤ x ∧ x ≤ 1000000000 := by
    simp only [List.mem_cons, List.not_mem_nil, or_false] at hw
    rcases hw with rfl | rfl | rfl <;> exact ⟨_, rfl, by decide, by decide⟩
  obtain ⟨bs, s3', e3, bl, bb, h3⟩ := tbeads_ok h2 (m := m) (w := w) m0 (by omega) w0 w1 (by omega)
  have hl : bs.length ≤ 200 := by omega
  have hb : ∀ b ∈ bs, b.natAbs ≤ 1000000000 := fun b h => by have := bb b h; omega
  have hb' : ∀ b ∈ bs, b.natAbs < 18446744073709551616 := fun b h => by have := hb b h; omega
  have hr := right_string hl hb
  have c := check_string_ok (strB_ints (bs := bs) (by omega)) hr
  have t1 := lturns_ok hb'
  have t2 := turns_of_ok hb'
  have x0 : ∀ x y : D, ixD (.lst [x, y]) (.int 0) = some x := fun _ _ => rfl
  have y0 : ∀ x y : D, ixD (.tup [x, y]) (.int 0) = some x := fun _ _ => rfl
  have y1 : ∀ x y : D, ixD (.tup [x, y]) (.int 1) = some y := fun _ _ => rfl
  have st : G_signed_turn [.val (.tup (bs.map D.int))] = .ok (.v (.int (turnsI bs).1)) [] := by
    simp only [G_signed_turn, g_signed_turn, seqS_eq, nxS, bkS, ctS, nxt_nx, nxt_rt, nxt_bk, nxt_ct, ifS_eq, ifE_eq, brR_t, brR_f, brR_dec, anT_eq, orT_eq, anE_eq, orE_eq, tst_eq, isB_bl, ↓R.bind_bd, R.bd_ok, R.of_some, noT, blE, vr, cst, op1, op2, setS, setR, nxO, asgS, tupG, cnsG, nilG, nmG, subGO, subG, subS, getM, ixM, putO, cnsA, nilA, dTup, dLst, frz, retS, retM, setM, exS, mutS, appO, opC, callE, callM, callG_eq, cnsB, nilB, slB, kwB, ioM, toArgs, okA, slsA, nodN, argG_some, goG_ok, asE, asM, putA, newM, putM, parS, par3S, frzS, frzAt, bindO, endR_rt, endR_nx, endG, FL.collect, bodyG_eq, rho0, toS, wipeR, FL.pick, tru, truD, chn, lenM, slM, slF, noO, smO, catO, catM, litM, isiD, typD, isTy, R.bd_exc, cauE_eq, goG_exc, endR_exc,   List.getElem?_cons_zero, List.getElem?_cons_succ, List.getElem?_nil, List.set_cons_zero, List.set_cons_succ, List.set_nil, List.length_cons, List.length_nil, List.mapIdx_cons, List.mapIdx_nil, List.map_cons, List.map_nil, List.replicate_succ, List.replicate_zero, List.cons_append, List.nil_append, List.append_nil, List.foldl_cons, List.foldl_nil, List.filterMap_cons, List.filterMap_nil, Option.map_some, Option.map_none, Option.bind_some, Option.bind_none, Bool.not_true, Bool.not_false, Bool.and_true, Bool.true_and, Bool.or_true, Bool.and_self, if_true, if_false,   eqA_int, neA_int, eqA_str, neA_str, ltD_int, leD_int, gtD_int, geD_int, addD_int, subD_int, negD_int, absC_int, intC_int, maxC_int, minC_int, lenC_lst, lenC_tup, lenC_scr, Int.cast_ofNat_Int, Int.natCast_zero, Int.natCast_one,   ↓reduceIte, Nat.reduceAdd, Nat.reduceSub, Nat.reduceMul, Nat.reduceLT, Nat.reduceLeDiff, Nat.reduceBEq, Nat.reduceBneDiff, Nat.reduceEqDiff, Nat.reducePow, Int.reduceLT, Int.reduceLE, Int.reduceEq, Int.reduceNe, Int.reduceAdd, Int.reduceSub, Int.reduceMul, Int.reduceNeg, Int.reducePow, Int.reduceToNat, decide_true, decide_false, decide_eq_true_eq, Bool.false_eq_true, List.contains_nil, List.contains_cons, Bool.or_false, Bool.or_self, eq_self, and_self, and_true, true_and, c, t2, y0]
  have lp := lpair_ok hb'
  have po := pair_of_ok hl hb
  have rv : revD (.tup (bs.map D.int)) = some (.tup (bs.reverse.map D.int)) := by
    rw [List.map_reverse]
    rfl
  have lr := lpair_ok (bs := bs.reverse) fun b h => hb' b (List.mem_reverse.mp h)
  obtain ⟨bk, bw⟩ := back_ok hl hb
  obtain ⟨bk2, bw2⟩ := back_ok (bs := bs.reverse) (by rw [List.length_reverse]; exact hl) (fun b h => hb b (List.mem_reverse.mp h))
  rw [List.reverse_reverse] at bw2
  have ip := is_pair_ok ((turnsI bs).1.natAbs : Int) (restI (turnsI bs).1 (turnsI bs).2)
  rw [bk] at ip
  have hT := Nat.lt_of_le_of_lt (T_bound hl hb) big_ten
  have hT2 := Nat.lt_of_le_of_lt (T_bound hl hb) big_two
  obtain ⟨S1, r1⟩ := rep_int hT
  have qb : ∀ r : Int, (restI (turnsI bs).1 r).natAbs ≤ (turnsI bs).1.natAbs + 1 := fun r => by
    by_cases z : (turnsI bs).1 = 0
    · rw [z]
      show (restI 0 r).natAbs ≤ 1
      unfold restI
      rw [if_pos rfl]
      decide
    · have := restI_bounds (turnsI bs).1 r z
      omega
  have t3 := Nat.lt_of_le_of_lt (Nat.succ_le_succ (T_bound hl hb)) (show (1000000000 + 1) ^ 200 + 1 < 10 ^ 1900 by decide +kernel)
  have t4 := Nat.lt_of_le_of_lt (Nat.succ_le_succ (T_bound hl hb)) (show (1000000000 + 1) ^ 200 + 1 < 2 ^ (7999 + 1) by decide +kernel)
  obtain ⟨S2, r2⟩ := rep_pair (p := ((turnsI bs).1.natAbs : Int)) (q := restI (turnsI bs).1 (turnsI bs).2) (by rw [Int.natAbs_natCast]; exact hT) (Nat.lt_of_le_of_lt (qb _) t3)
  have z : nisD (.bl true) (.bl true) = some (.bl false) := rfl
  have n1 : ∀ p q : Int, neA (D2 p q) (D2 p q) = some (.bl false) := fun p q => neA_self rfl
  have rt := (turns_rev bs).1
  have inv := fun h => rests_inv (bs := bs) h
  have mq : ∀ r r' : Int, mulD (.int (restI (turnsI bs).1 r)) (.int (restI (turnsI bs).1 r')) = some (.int (restI (turnsI bs).1 r * restI (turnsI bs).1 r')) := fun r r' => mulD_g (by
    have := log2_le_of (Nat.lt_of_le_of_lt (qb r) t4)
    have := log2_le_of (Nat.lt_of_le_of_lt (qb r') t4)
    omega)
  have e1 := e1
  unfold pairI at lp po lr bw bw2
  rw [rt] at lr bw bw2 inv
  have fin : ∃ B : Bool, anT (tst (op2 gtD (op2 ixD (vr 3) (cst (.int 0))) (cst (.int 1)))) (tst (op2 neA (op2 modD (opC intC (cnsA (op2 mulD (op2 ixD (vr 3) (cst (.int 1))) (op2 ixD (vr 4) (cst (.int 1)))) nilA)) (op2 ixD (vr 3) (cst (.int 0)))) (cst (.int 1)))) [.io s3', a1, .val (.tup (bs.map D.int)), .val (D2 ((turnsI bs).1.natAbs : Int) (restI (turnsI bs).1 (turnsI bs).2)), .val (D2 ((turnsI bs).1.natAbs : Int) (restI (turnsI bs).1 (turnsI bs.reverse).2))] = .ok false [.io s3', a1, .val (.tup (bs.map D.int)), .val (D2 ((turnsI bs).1.natAbs : Int) (restI (turnsI bs).1 (turnsI bs).2)), .val (D2 ((turnsI bs).1.natAbs : Int) (restI (turnsI bs).1 (turnsI bs.reverse).2))] := by
    refine ⟨true, ?_⟩
    have mq' := mq (turnsI bs).2 (turnsI bs.reverse).2
    generalize restI (turnsI bs).1 (turnsI bs).2 = q at mq' inv ⊢
    generalize restI (turnsI bs).1 (turnsI bs.reverse).2 = q' at mq' inv ⊢
    by_cases g : 2 ≤ (turnsI bs).1.natAbs
    · have g' := eq_true (show (1 : Int) < ((turnsI bs).1.natAbs : Int) by omega)
      have fm := modD_pos (a := q * q') (b := ((turnsI bs).1.natAbs : Int)) (by omega)
      rw [inv g] at fm
      simp only [seqS_eq, nxS, bkS, ctS, nxt_nx, nxt_rt, nxt_bk, nxt_ct, ifS_eq, ifE_eq, brR_t, brR_f, brR_dec, anT_eq, orT_eq, anE_eq, orE_eq, tst_eq, isB_bl, ↓R.bind_bd, R.bd_ok, R.of_some, noT, blE, vr, cst, op1, op2, setS, setR, nxO, asgS, tupG, cnsG, nilG, nmG, subGO, subG, subS, getM, ixM, putO, cnsA, nilA, dTup, dLst, frz, retS, retM, setM, exS, mutS, appO, opC, callE, callM, callG_eq, cnsB, nilB, slB, kwB, ioM, toArgs, okA, slsA, nodN, argG_some, goG_ok, asE, asM, putA, newM, putM, parS, par3S, frzS, frzAt, bindO, endR_rt, endR_nx, endG, FL.collect, bodyG_eq, rho0, toS, wipeR, FL.pick, tru, truD, chn, lenM, slM, slF, noO, smO, catO, catM, litM, isiD, typD, isTy, R.bd_exc, cauE_eq, goG_exc, endR_exc,   List.getElem?_cons_zero, List.getElem?_cons_succ, List.getElem?_nil, List.set_cons_zero, List.set_cons_succ, List.set_nil, List.length_cons, List.length_nil, List.mapIdx_cons, List.mapIdx_nil, List.map_cons, List.map_nil, List.replicate_succ, List.replicate_zero, List.cons_append, List.nil_append, List.append_nil, List.foldl_cons, List.foldl_nil, List.filterMap_cons, List.filterMap_nil, Option.map_some, Option.map_none, Option.bind_some, Option.bind_none, Bool.not_true, Bool.not_false, Bool.and_true, Bool.true_and, Bool.or_true, Bool.and_self, if_true, if_false,   eqA_int, neA_int, eqA_str, neA_str, ltD_int, leD_int, gtD_int, geD_int, addD_int, subD_int, negD_int, absC_int, intC_int, maxC_int, minC_int, lenC_lst, lenC_tup, lenC_scr, Int.cast_ofNat_Int, Int.natCast_zero, Int.natCast_one,   ↓reduceIte, Nat.reduceAdd, Nat.reduceSub, Nat.reduceMul, Nat.reduceLT, Nat.reduceLeDiff, Nat.reduceBEq, Nat.reduceBneDiff, Nat.reduceEqDiff, Nat.reducePow, Int.reduceLT, Int.reduceLE, Int.reduceEq, Int.reduceNe, Int.reduceAdd, Int.reduceSub, Int.reduceMul, Int.reduceNeg, Int.reducePow, Int.reduceToNat, decide_true, decide_false, decide_eq_true_eq, Bool.false_eq_true, List.contains_nil, List.contains_cons, Bool.or_false, Bool.or_self, eq_self, and_self, and_true, true_and, y0, y1, g', mq', fm]
    · have g' := eq_false (show ¬ (1 : Int) < ((turnsI bs).1.natAbs : Int) by omega)
      simp only [seqS_eq, nxS, bkS, ctS, nxt_nx, nxt_rt, nxt_bk, nxt_ct, ifS_eq, ifE_eq, brR_t, brR_f, brR_dec, anT_eq, orT_eq, anE_eq, orE_eq, tst_eq, isB_bl, ↓R.bind_bd, R.bd_ok, R.of_some, noT, blE, vr, cst, op1, op2, setS, setR, nxO, asgS, tupG, cnsG, nilG, nmG, subGO, subG, subS, getM, ixM, putO, cnsA, nilA, dTup, dLst, frz, retS, retM, setM, exS, mutS, appO, opC, callE, callM, callG_eq, cnsB, nilB, slB, kwB, ioM, toArgs, okA, slsA, nodN, argG_some, goG_ok, asE, asM, putA, newM, putM, parS, par3S, frzS, frzAt, bindO, endR_rt, endR_nx, endG, FL.collect, bodyG_eq, rho0, toS, wipeR, FL.pick, tru, truD, chn, lenM, slM, slF, noO, smO, catO, catM, litM, isiD, typD, isTy, R.bd_exc, cauE_eq, goG_exc, endR_exc,   List.getElem?_cons_zero, List.getElem?_cons_succ, List.getElem?_nil, List.set_cons_zero, List.set_cons_succ, List.set_nil, List.length_cons, List.length_nil, List.mapIdx_cons, List.mapIdx_nil, List.map_cons, List.map_nil, List.replicate_succ, List.replicate_zero, List.cons_append, List.nil_append, List.append_nil, List.foldl_cons, List.foldl_nil, List.filterMap_cons, List.filterMap_nil, Option.map_some, Option.map_none, Option.bind_some, Option.bind_none, Bool.not_true, Bool.not_false, Bool.and_true, Bool.true_and, Bool.or_true, Bool.and_self, if_true, if_false,   eqA_int, neA_int, eqA_str, neA_str, ltD_int, leD_int, gtD_int, geD_int, addD_int, subD_int, negD_int, absC_int, intC_int, maxC_int, minC_int, lenC_lst, lenC_tup, lenC_scr, Int.cast_ofNat_Int, Int.natCast_zero, Int.natCast_one,   ↓reduceIte, Nat.reduceAdd, Nat.reduceSub, Nat.reduceMul, Nat.reduceLT, Nat.reduceLeDiff, Nat.reduceBEq, Nat.reduceBneDiff, Nat.reduceEqDiff, Nat.reducePow, Int.reduceLT, Int.reduceLE, Int.reduceEq, Int.reduceNe, Int.reduceAdd, Int.reduceSub, Int.reduceMul, Int.reduceNeg, Int.reducePow, Int.reduceToNat, decide_true, decide_false, decide_eq_true_eq, Bool.false_eq_true, List.contains_nil, List.contains_cons, Bool.or_false, Bool.or_self, eq_self, and_self, and_true, true_and, y0, y1, g', mq']
  obtain ⟨_, fin⟩ := fin
  generalize restI (turnsI bs).1 (turnsI bs).2 = q at *
  generalize restI (turnsI bs).1 (turnsI bs.reverse).2 = q' at *
  generalize ((turnsI bs).1.natAbs : Int) = p at *
  generalize (turnsI bs).1 = T at *
  have seven : b__law_right_1_7 [.io s3', a1, .val (.tup (bs.map D.int)), .val (D2 p q), .val (D2 p q')] = .ok .nx [.io s3', a1, .val (.tup (bs.map D.int)), .val (D2 p q), .val (D2 p q')] := by
    unfold b__law_right_1_7
    rw [ifS_eq, fin]
    rfl
  refine ⟨s3', .val (.tup (bs.map D.int)), .val (D2 p q), .val (D2 p q'), ?_, h3.mono (by omega)⟩
  generalize (.tup (bs.map D.int) : D) = mine at *
  have n1a := n1 p q
  have n1b := n1 p q'
  simp only [b__law_right_1, b__law_right_1_1, b__law_right_1_2, b__law_right_1_3, b__law_right_1_4, b__law_right_1_5, b__law_right_1_6, seqS_eq, nxS, bkS, ctS, nxt_nx, nxt_rt, nxt_bk, nxt_ct, ifS_eq, ifE_eq, brR_t, brR_f, brR_dec, anT_eq, orT_eq, anE_eq, orE_eq, tst_eq, isB_bl, ↓R.bind_bd, R.bd_ok, R.of_some, noT, blE, vr, cst, op1, op2, setS, setR, nxO, asgS, tupG, cnsG, nilG, nmG, subGO, subG, subS, getM, ixM, putO, cnsA, nilA, dTup, dLst, frz, retS, retM, setM, exS, mutS, appO, opC, callE, callM, callG_eq, cnsB, nilB, slB, kwB, ioM, toArgs, okA, slsA, nodN, argG_some, goG_ok, asE, asM, putA, newM, putM, parS, par3S, frzS, frzAt, bindO, endR_rt, endR_nx, endG, FL.collect, bodyG_eq, rho0, toS, wipeR, FL.pick, tru, truD, chn, lenM, slM, slF, noO, smO, catO, catM, litM, isiD, typD, isTy, R.bd_exc, cauE_eq, goG_exc, endR_exc,   List.getElem?_cons_zero, List.getElem?_cons_succ, List.getElem?_nil, List.set_cons_zero, List.set_cons_succ, List.set_nil, List.length_cons, List.length_nil, List.mapIdx_cons, List.mapIdx_nil, List.map_cons, List.map_nil, List.replicate_succ, List.replicate_zero, List.cons_append, List.nil_append, List.append_nil, List.foldl_cons, List.foldl_nil, List.filterMap_cons, List.filterMap_nil, Option.map_some, Option.map_none, Option.bind_some, Option.bind_none, Bool.not_true, Bool.not_false, Bool.and_true, Bool.true_and, Bool.or_true, Bool.and_self, if_true, if_false,   eqA_int, neA_int, eqA_str, neA_str, ltD_int, leD_int, gtD_int, geD_int, addD_int, subD_int, negD_int, absC_int, intC_int, maxC_int, minC_int, lenC_lst, lenC_tup, lenC_scr, Int.cast_ofNat_Int, Int.natCast_zero, Int.natCast_one,   ↓reduceIte, Nat.reduceAdd, Nat.reduceSub, Nat.reduceMul, Nat.reduceLT, Nat.reduceLeDiff, Nat.reduceBEq, Nat.reduceBneDiff, Nat.reduceEqDiff, Nat.reducePow, Int.reduceLT, Int.reduceLE, Int.reduceEq, Int.reduceNe, Int.reduceAdd, Int.reduceSub, Int.reduceMul, Int.reduceNeg, Int.reducePow, Int.reduceToNat, decide_true, decide_false, decide_eq_true_eq, Bool.false_eq_true, List.contains_nil, List.contains_cons, Bool.or_false, Bool.or_self, eq_self, and_self, and_true, true_and, e1, e2, e3, s2, s3, s4, p9, t1, x0, st, r1, lp, po, r2, ip, z, bw, bw2, rv, lr, n1a, n1b, seven]
theorem right_ok {n : Nat} {s : M} (hs : Sp n s) (hn : n ≤ 1000) : ∃ s' : M, G__law_right [.io s] = .ok (.v (.bl true)) [s'] := by
  obtain ⟨ρ', e, s', a1, a2, a3, a4, rfl, _⟩ := forL_nx (ks := []) (g := nmG 1) (b := b__law_right_1) (fun i ρ => ∃ (s : M) (a1 a2 a3 a4 : Slot), ρ = [.io s, a1, a2, a3, a4] ∧ Sp (n + 700 * i) s) (rangeL 0 8) [.io s, .no, .no, .no, .no]
    ⟨s, .no, .no, .no, .no, rfl, hs.mono (by omega)⟩ (by
      rintro i d ρ ⟨s, a1, a2, a3, a4, rfl, h⟩ hd
      obtain ⟨hi, rfl⟩ := rangeL_get _ _ _ _ hd
      obtain ⟨s', b2, b3, b4, e, h'⟩ := turn_ok h (by omega) (.val (.int (0 + i))) a2 a3 a4
      exact ⟨_, rfl, _, e, s', _, _, _, _, rfl, h'.mono (by omega)⟩)
  have r : rng1 (cnsA (cst (.int 8)) nilA) [.io s, .no, .no, .no, .no] = .ok (rangeL 0 8) [.io s, .no, .no, .no, .no] := rfl
  exact ⟨s', by simp only [G__law_right, g__law_right, seqS_eq, nxS, bkS, ctS, nxt_nx, nxt_rt, nxt_bk, nxt_ct, ifS_eq, ifE_eq, brR_t, brR_f, brR_dec, anT_eq, orT_eq, anE_eq, orE_eq, tst_eq, isB_bl, ↓R.bind_bd, R.bd_ok, R.of_some, noT, blE, vr, cst, op1, op2, setS, setR, nxO, asgS, tupG, cnsG, nilG, nmG, subGO, subG, subS, getM, ixM, putO, cnsA, nilA, dTup, dLst, frz, retS, retM, setM, exS, mutS, appO, opC, callE, callM, callG_eq, cnsB, nilB, slB, kwB, ioM, toArgs, okA, slsA, nodN, argG_some, goG_ok, asE, asM, putA, newM, putM, parS, par3S, frzS, frzAt, bindO, endR_rt, endR_nx, endG, FL.collect, bodyG_eq, rho0, toS, wipeR, FL.pick, tru, truD, chn, lenM, slM, slF, noO, smO, catO, catM, litM, isiD, typD, isTy, R.bd_exc, cauE_eq, goG_exc, endR_exc,   List.getElem?_cons_zero, List.getElem?_cons_succ, List.getElem?_nil, List.set_cons_zero, List.set_cons_succ, List.set_nil, List.length_cons, List.length_nil, List.mapIdx_cons, List.mapIdx_nil, List.map_cons, List.map_nil, List.replicate_succ, List.replicate_zero, List.cons_append, List.nil_append, List.append_nil, List.foldl_cons, List.foldl_nil, List.filterMap_cons, List.filterMap_nil, Option.map_some, Option.map_none, Option.bind_some, Option.bind_none, Bool.not_true, Bool.not_false, Bool.and_true, Bool.true_and, Bool.or_true, Bool.and_self, if_true, if_false,   eqA_int, neA_int, eqA_str, neA_str, ltD_int, leD_int, gtD_int, geD_int, addD_int, subD_int, negD_int, absC_int, intC_int, maxC_int, minC_int, lenC_lst, lenC_tup, lenC_scr, Int.cast_ofNat_Int, Int.natCast_zero, Int.natCast_one,   ↓reduceIte, Nat.reduceAdd, Nat.reduceSub, Nat.reduceMul, Nat.reduceLT, Nat.reduceLeDiff, Nat.reduceBEq, Nat.reduceBneDiff, Nat.reduceEqDiff, Nat.reducePow, Int.reduceLT, Int.reduceLE, Int.reduceEq, Int.reduceNe, Int.reduceAdd, Int.reduceSub, Int.reduceMul, Int.reduceNeg, Int.reducePow, Int.reduceToNat, decide_true, decide_false, decide_eq_true_eq, Bool.false_eq_true, List.contains_nil, List.contains_cons, Bool.or_false, Bool.or_self, eq_self, and_self, and_true, true_and, forS_eq, r, e]⟩

theorem all_true : ∀ ys : List D, (∀ y ∈ ys, y = D.bl true) → allC [.lst ys] = some (.bl true) := by
  have key : ∀ ys : List D, (∀ y ∈ ys, y = D.bl true) → ∃ bs, bools ys = some bs ∧ bs.all id = true := by
    intro ys
    induction ys with
    | nil => exact fun _ => ⟨[], rfl, rfl⟩
    | cons y ys ih =>
      intro h
      obtain ⟨bs, e, hb⟩ := ih fun z hz => h z (List.mem_cons_of_mem _ hz)
      have hy := h y List.mem_cons_self
      subst hy
      refine ⟨true :: bs, ?_, by simpa using hb⟩
      show (bools ys).map (true :: ·) = _
      rw [e]
      rfl
  intro ys h
  obtain ⟨bs, e, hb⟩ := key ys h
  show (bools ys).map (fun bs => D.bl (bs.all id)) = _
  rw [e]
  show some (D.bl (bs.all id)) = _
  rw [hb]

/-- the turns of a law that asks some things ahead, kept in slots 1, 2 -/
theorem law_turns (ns : List Int) (hl : ns.length ≤ 63) (x x2 : Slot) : ∃ ys : List D, allC [.lst ys] = some (.bl true) ∧ cmpM [3] (rng1 (cnsA (opC maxC (cnsA (cst (.int 2)) (cnsA (opC minC (cnsA (opC lenC (cnsA (vr 0) nilA)) (cnsA (cst (.int 6)) nilA))) nilA))) nilA)) (nmG 3) yesT (callFE G__law_right (callM 2 G__law_bin (cnsB (vr 0) (cnsB (vr 3) nilB)))) [.val (.scr ns), x, x2, .no] = .ok (.lst ys) [.val (.scr ns), x, x2, .no] := by
  have r : rng1 (cnsA (opC maxC (cnsA (cst (.int 2)) (cnsA (opC minC (cnsA (opC lenC (cnsA (vr 0) nilA)) (cnsA (cst (.int 6)) nilA))) nilA))) nilA) [.val (.scr ns), x, x2, .no] = .ok (rangeL 0 (max 2 (min (ns.length : Int) 6)).toNat) [.val (.scr ns), x, x2, .no] := by
    have g : rgOk (max 2 (min (ns.length : Int) 6)) = true := rgOk_of (by omega) (by omega)
    exact rng1_ok (by simp only [seqS_eq, nxS, bkS, ctS, nxt_nx, nxt_rt, nxt_bk, nxt_ct, ifS_eq, ifE_eq, brR_t, brR_f, brR_dec, anT_eq, orT_eq, anE_eq, orE_eq, tst_eq, isB_bl, ↓R.bind_bd, R.bd_ok, R.of_some, noT, blE, vr, cst, op1, op2, setS, setR, nxO, asgS, tupG, cnsG, nilG, nmG, subGO, subG, subS, getM, ixM, putO, cnsA, nilA, dTup, dLst, frz, retS, retM, setM, exS, mutS, appO, opC, callE, callM, callG_eq, cnsB, nilB, slB, kwB, ioM, toArgs, okA, slsA, nodN, argG_some, goG_ok, asE, asM, putA, newM, putM, parS, par3S, frzS, frzAt, bindO, endR_rt, endR_nx, endG, FL.collect, bodyG_eq, rho0, toS, wipeR, FL.pick, tru, truD, chn, lenM, slM, slF, noO, smO, catO, catM, litM, isiD, typD, isTy, R.bd_exc, cauE_eq, goG_exc, endR_exc,   List.getElem?_cons_zero, List.getElem?_cons_succ, List.getElem?_nil, List.set_cons_zero, List.set_cons_succ, List.set_nil, List.length_cons, List.length_nil, List.mapIdx_cons, List.mapIdx_nil, List.map_cons, List.map_nil, List.replicate_succ, List.replicate_zero, List.cons_append, List.nil_append, List.append_nil, List.foldl_cons, List.foldl_nil, List.filterMap_cons, List.filterMap_nil, Option.map_some, Option.map_none, Option.bind_some, Option.bind_none, Bool.not_true, Bool.not_false, Bool.and_true, Bool.true_and, Bool.or_true, Bool.and_self, if_true, if_false,   eqA_int, neA_int, eqA_str, neA_str, ltD_int, leD_int, gtD_int, geD_int, addD_int, subD_int, negD_int, absC_int, intC_int, maxC_int, minC_int, lenC_lst, lenC_tup, lenC_scr, Int.cast_ofNat_Int, Int.natCast_zero, Int.natCast_one,   ↓reduceIte, Nat.reduceAdd, Nat.reduceSub, Nat.reduceMul, Nat.reduceLT, Nat.reduceLeDiff, Nat.reduceBEq, Nat.reduceBneDiff, Nat.reduceEqDiff, Nat.reducePow, Int.reduceLT, Int.reduceLE, Int.reduceEq, Int.reduceNe, Int.reduceAdd, Int.reduceSub, Int.reduceMul, Int.reduceNeg, Int.reducePow, Int.reduceToNat, decide_true, decide_false, decide_eq_true_eq, Bool.false_eq_true, List.contains_nil, List.contains_cons, Bool.or_false, Bool.or_self, eq_self, and_self, and_true, true_and]) g
  obtain ⟨ys, ρ', e, hy, rfl⟩ := cmpL_of (ks := [3]) (g := nmG 3) (t := yesT) (f := callFE G__law_right (callM 2 G__law_bin (cnsB (vr 0) (cnsB (vr 3) nilB)))) (fun _ ρ => ρ = [.val (.scr ns), x, x2, .no]) (fun _ y => y = .bl true)
    (rangeL 0 (max 2 (min (ns.length : Int) 6)).toNat) 0 [] [.val (.scr ns), x, x2, .no] (by rw [rangeL_length, List.length_nil]; omega) rfl (fun i d ρ h hd => by
      subst h
      obtain ⟨_, rfl⟩ := rangeL_get _ _ _ _ hd
      obtain ⟨s, es, hs⟩ := bin_ok ns (0 + i) (by omega)
      obtain ⟨s', er⟩ := right_ok hs (by omega)
      refine ⟨[.val (.scr ns), x, x2, .val (.int (0 + i))], by simp only [seqS_eq, nxS, bkS, ctS, nxt_nx, nxt_rt, nxt_bk, nxt_ct, ifS_eq, ifE_eq, brR_t, brR_f, brR_dec, anT_eq, orT_eq, anE_eq, orE_eq, tst_eq, isB_bl, ↓R.bind_bd, R.bd_ok, R.of_some, noT, blE, vr, cst, op1, op2, setS, setR, nxO, asgS, tupG, cnsG, nilG, nmG, subGO, subG, subS, getM, ixM, putO, cnsA, nilA, dTup, dLst, frz, retS, retM, setM, exS, mutS, appO, opC, callE, callM, callG_eq, cnsB, nilB, slB, kwB, ioM, toArgs, okA, slsA, nodN, argG_some, goG_ok, asE, asM, putA, newM, putM, parS, par3S, frzS, frzAt, bindO, endR_rt, endR_nx, endG, FL.collect, bodyG_eq, rho0, toS, wipeR, FL.pick, tru, truD, chn, lenM, slM, slF, noO, smO, catO, catM, litM, isiD, typD, isTy, R.bd_exc, cauE_eq, goG_exc, endR_exc,   List.getElem?_cons_zero, List.getElem?_cons_succ, List.getElem?_nil, List.set_cons_zero, List.set_cons_succ, List.set_nil, List.length_cons, List.length_nil, List.mapIdx_cons, List.mapIdx_nil, List.map_cons, List.map_nil, List.replicate_succ, List.replicate_zero, List.cons_append, List.nil_append, List.append_nil, List.foldl_cons, List.foldl_nil, List.filterMap_cons, List.filterMap_nil, Option.map_some, Option.map_none, Option.bind_some, Option.bind_none, Bool.not_true, Bool.not_false, Bool.and_true, Bool.true_and, Bool.or_true, Bool.and_self, if_true, if_false,   eqA_int, neA_int, eqA_str, neA_str, ltD_int, leD_int, gtD_int, geD_int, addD_int, subD_int, negD_int, absC_int, intC_int, maxC_int, minC_int, lenC_lst, lenC_tup, lenC_scr, Int.cast_ofNat_Int, Int.natCast_zero, Int.natCast_one,   ↓reduceIte, Nat.reduceAdd, Nat.reduceSub, Nat.reduceMul, Nat.reduceLT, Nat.reduceLeDiff, Nat.reduceBEq, Nat.reduceBneDiff, Nat.reduceEqDiff, Nat.reducePow, Int.reduceLT, Int.reduceLE, Int.reduceEq, Int.reduceNe, Int.reduceAdd, Int.reduceSub, Int.reduceMul, Int.reduceNeg, Int.reducePow, Int.reduceToNat, decide_true, decide_false, decide_eq_true_eq, Bool.false_eq_true, List.contains_nil, List.contains_cons, Bool.or_false, Bool.or_self, eq_self, and_self, and_true, true_and], .inr ⟨[.val (.scr ns), x, x2, .val (.int (0 + i))], .bl true, [.val (.scr ns), x, x2, .val (.int (0 + i))], rfl, ?_, rfl, by simp only [seqS_eq, nxS, bkS, ctS, nxt_nx, nxt_rt, nxt_bk, nxt_ct, ifS_eq, ifE_eq, brR_t, brR_f, brR_dec, anT_eq, orT_eq, anE_eq, orE_eq, tst_eq, isB_bl, ↓R.bind_bd, R.bd_ok, R.of_some, noT, blE, vr, cst, op1, op2, setS, setR, nxO, asgS, tupG, cnsG, nilG, nmG, subGO, subG, subS, getM, ixM, putO, cnsA, nilA, dTup, dLst, frz, retS, retM, setM, exS, mutS, appO, opC, callE, callM, callG_eq, cnsB, nilB, slB, kwB, ioM, toArgs, okA, slsA, nodN, argG_some, goG_ok, asE, asM, putA, newM, putM, parS, par3S, frzS, frzAt, bindO, endR_rt, endR_nx, endG, FL.collect, bodyG_eq, rho0, toS, wipeR, FL.pick, tru, truD, chn, lenM, slM, slF, noO, smO, catO, catM, litM, isiD, typD, isTy, R.bd_exc, cauE_eq, goG_exc, endR_exc,   List.getElem?_cons_zero, List.getElem?_cons_succ, List.getElem?_nil, List.set_cons_zero, List.set_cons_succ, List.set_nil, List.length_cons, List.length_nil, List.mapIdx_cons, List.mapIdx_nil, List.map_cons, List.map_nil, List.replicate_succ, List.replicate_zero, List.cons_append, List.nil_append, List.append_nil, List.foldl_cons, List.foldl_nil, List.filterMap_cons, List.filterMap_nil, Option.map_some, Option.map_none, Option.bind_some, Option.bind_none, Bool.not_true, Bool.not_false, Bool.and_true, Bool.true_and, Bool.or_true, Bool.and_self, if_true, if_false,   eqA_int, neA_int, eqA_str, neA_str, ltD_int, leD_int, gtD_int, geD_int, addD_int, subD_int, negD_int, absC_int, intC_int, maxC_int, minC_int, lenC_lst, lenC_tup, lenC_scr, Int.cast_ofNat_Int, Int.natCast_zero, Int.natCast_one,   ↓reduceIte, Nat.reduceAdd, Nat.reduceSub, Nat.reduceMul, Nat.reduceLT, Nat.reduceLeDiff, Nat.reduceBEq, Nat.reduceBneDiff, Nat.reduceEqDiff, Nat.reducePow, Int.reduceLT, Int.reduceLE, Int.reduceEq, Int.reduceNe, Int.reduceAdd, Int.reduceSub, Int.reduceMul, Int.reduceNeg, Int.reducePow, Int.reduceToNat, decide_true, decide_false, decide_eq_true_eq, Bool.false_eq_true, List.contains_nil, List.contains_cons, Bool.or_false, Bool.or_self, eq_self, and_self, and_true, true_and]⟩⟩
      simp only [callFE, callF, seqS_eq, nxS, bkS, ctS, nxt_nx, nxt_rt, nxt_bk, nxt_ct, ifS_eq, ifE_eq, brR_t, brR_f, brR_dec, anT_eq, orT_eq, anE_eq, orE_eq, tst_eq, isB_bl, ↓R.bind_bd, R.bd_ok, R.of_some, noT, blE, vr, cst, op1, op2, setS, setR, nxO, asgS, tupG, cnsG, nilG, nmG, subGO, subG, subS, getM, ixM, putO, cnsA, nilA, dTup, dLst, frz, retS, retM, setM, exS, mutS, appO, opC, callE, callM, callG_eq, cnsB, nilB, slB, kwB, ioM, toArgs, okA, slsA, nodN, argG_some, goG_ok, asE, asM, putA, newM, putM, parS, par3S, frzS, frzAt, bindO, endR_rt, endR_nx, endG, FL.collect, bodyG_eq, rho0, toS, wipeR, FL.pick, tru, truD, chn, lenM, slM, slF, noO, smO, catO, catM, litM, isiD, typD, isTy, R.bd_exc, cauE_eq, goG_exc, endR_exc,   List.getElem?_cons_zero, List.getElem?_cons_succ, List.getElem?_nil, List.set_cons_zero, List.set_cons_succ, List.set_nil, List.length_cons, List.length_nil, List.mapIdx_cons, List.mapIdx_nil, List.map_cons, List.map_nil, List.replicate_succ, List.replicate_zero, List.cons_append, List.nil_append, List.append_nil, List.foldl_cons, List.foldl_nil, List.filterMap_cons, List.filterMap_nil, Option.map_some, Option.map_none, Option.bind_some, Option.bind_none, Bool.not_true, Bool.not_false, Bool.and_true, Bool.true_and, Bool.or_true, Bool.and_self, if_true, if_false,   eqA_int, neA_int, eqA_str, neA_str, ltD_int, leD_int, gtD_int, geD_int, addD_int, subD_int, negD_int, absC_int, intC_int, maxC_int, minC_int, lenC_lst, lenC_tup, lenC_scr, Int.cast_ofNat_Int, Int.natCast_zero, Int.natCast_one,   ↓reduceIte, Nat.reduceAdd, Nat.reduceSub, Nat.reduceMul, Nat.reduceLT, Nat.reduceLeDiff, Nat.reduceBEq, Nat.reduceBneDiff, Nat.reduceEqDiff, Nat.reducePow, Int.reduceLT, Int.reduceLE, Int.reduceEq, Int.reduceNe, Int.reduceAdd, Int.reduceSub, Int.reduceMul, Int.reduceNeg, Int.reducePow, Int.reduceToNat, decide_true, decide_false, decide_eq_true_eq, Bool.false_eq_true, List.contains_nil, List.contains_cons, Bool.or_false, Bool.or_self, eq_self, and_self, and_true, true_and, es, er])
  rw [List.nil_append] at e
  refine ⟨ys, all_true ys fun y hy' => ?_, ?_⟩
  · obtain ⟨_, _, h⟩ := hy y hy'
    exact h
  · exact cmpM_of r e (by rfl)

theorem pair_at (bs : List Int) (d : D) (hl : bs.length ≤ 9) (hb : ∀ b ∈ bs, b.natAbs ≤ 9) (hd : pairI bs = d) : G_pair_of [.val (.tup (bs.map D.int))] = .ok (.v d) [] := by
  rw [← hd]
  exact pair_of_ok (by omega) fun b h => by have := hb b h; omega
def someS : List (List Int) := [[2, 3], [], [0], [-2], [1, 1], [2, -3], [3, 2, 2], [0, 0], [0, 9]]
theorem law_true (ns : List Int) (hl : ns.length ≤ 63) : G_law [.val (.scr ns)] = .ok (.v (.bl true)) [] := by
  have s0 : small 0 = true := rfl
  have s1 : small 1 = true := rfl
  have s2 : small 2 = true := rfl
  have s3 : small 3 = true := rfl
  have s4 : small 4 = true := rfl
  have s9 : small 9 = true := rfl
  have f1 := cmpM_m (ks := [2]) (it := seqI (vr 1)) (g := nmG 2) (f := callE 1 G_pair_of (cnsB (vr 2) nilB)) (ρ := [.val (.scr ns), .val (.lst (someS.map fun bs => .tup (bs.map D.int))), .no, .no]) (ds := someS.map fun bs => .tup (bs.map D.int)) (fun d => match d with | .tup xs => pairI (xs.map fun | .int i => i | _ => 0) | d => d) rfl rfl rfl (by decide) (by
    intro d hd
    obtain ⟨bs, hbs, rfl⟩ := List.mem_map.mp hd
    have e : (bs.map D.int).map (fun | .int i => i | _ => 0) = bs := by
      rw [List.map_map]
      exact List.map_id bs
    have all : ∀ bs ∈ someS, bs.length ≤ 9 ∧ ∀ b ∈ bs, b.natAbs ≤ 9 := by decide
    have hb := all bs hbs
    have p := pair_at bs _ hb.1 hb.2 rfl
    refine ⟨[.val (.scr ns), .val (.lst (someS.map fun bs => .tup (bs.map D.int))), .val (.tup (bs.map D.int)), .no], rfl, rfl, ?_⟩
    dsimp only
    rw [e]
    simp only [seqS_eq, nxS, bkS, ctS, nxt_nx, nxt_rt, nxt_bk, nxt_ct, ifS_eq, ifE_eq, brR_t, brR_f, brR_dec, anT_eq, orT_eq, anE_eq, orE_eq, tst_eq, isB_bl, ↓R.bind_bd, R.bd_ok, R.of_some, noT, blE, vr, cst, op1, op2, setS, setR, nxO, asgS, tupG, cnsG, nilG, nmG, subGO, subG, subS, getM, ixM, putO, cnsA, nilA, dTup, dLst, frz, retS, retM, setM, exS, mutS, appO, opC, callE, callM, callG_eq, cnsB, nilB, slB, kwB, ioM, toArgs, okA, slsA, nodN, argG_some, goG_ok, asE, asM, putA, newM, putM, parS, par3S, frzS, frzAt, bindO, endR_rt, endR_nx, endG, FL.collect, bodyG_eq, rho0, toS, wipeR, FL.pick, tru, truD, chn, lenM, slM, slF, noO, smO, catO, catM, litM, isiD, typD, isTy, R.bd_exc, cauE_eq, goG_exc, endR_exc,   List.getElem?_cons_zero, List.getElem?_cons_succ, List.getElem?_nil, List.set_cons_zero, List.set_cons_succ, List.set_nil, List.length_cons, List.length_nil, List.mapIdx_cons, List.mapIdx_nil, List.map_cons, List.map_nil, List.replicate_succ, List.replicate_zero, List.cons_append, List.nil_append, List.append_nil, List.foldl_cons, List.foldl_nil, List.filterMap_cons, List.filterMap_nil, Option.map_some, Option.map_none, Option.bind_some, Option.bind_none, Bool.not_true, Bool.not_false, Bool.and_true, Bool.true_and, Bool.or_true, Bool.and_self, if_true, if_false,   eqA_int, neA_int, eqA_str, neA_str, ltD_int, leD_int, gtD_int, geD_int, addD_int, subD_int, negD_int, absC_int, intC_int, maxC_int, minC_int, lenC_lst, lenC_tup, lenC_scr, Int.cast_ofNat_Int, Int.natCast_zero, Int.natCast_one,   ↓reduceIte, Nat.reduceAdd, Nat.reduceSub, Nat.reduceMul, Nat.reduceLT, Nat.reduceLeDiff, Nat.reduceBEq, Nat.reduceBneDiff, Nat.reduceEqDiff, Nat.reducePow, Int.reduceLT, Int.reduceLE, Int.reduceEq, Int.reduceNe, Int.reduceAdd, Int.reduceSub, Int.reduceMul, Int.reduceNeg, Int.reducePow, Int.reduceToNat, decide_true, decide_false, decide_eq_true_eq, Bool.false_eq_true, List.contains_nil, List.contains_cons, Bool.or_false, Bool.or_self, eq_self, and_self, and_true, true_and, p])
  have eL : (someS.map fun bs => D.tup (bs.map D.int)).map (fun d => match d with | .tup xs => pairI (xs.map fun | .int i => i | _ => 0) | d => d) = [D2 5 3, D2 1 0, D2 0 1, D2 2 1, D2 0 1, D2 7 3, D2 7 3, D2 1 0, D2 1 0] := by rfl
  rw [eL] at f1
  have eS : (someS.map fun bs => D.tup (bs.map D.int)) = [.tup [.int 2, .int 3], .tup [], .tup [.int 0], .tup [.int (-2)], .tup [.int 1, .int 1], .tup [.int 2, .int (-3)], .tup [.int 3, .int 2, .int 2], .tup [.int 0, .int 0], .tup [.int 0, .int 9]] := rfl
  rw [eS] at f1
  have n1 : neA (.lst [D2 5 3, D2 1 0, D2 0 1, D2 2 1, D2 0 1, D2 7 3, D2 7 3, D2 1 0, D2 1 0]) (.lst [D2 5 3, D2 1 0, D2 0 1, D2 2 1, D2 0 1, D2 7 3, D2 7 3, D2 1 0, D2 1 0]) = some (.bl false) := neA_self (by decide +kernel)
  have c : G_check_string [.val (.tup [.int 2, .int (-3)])] = .ok (.v .non) [] := check_string_ok (strB_ints (bs := [2, -3]) (by decide)) (right_string (bs := [2, -3]) (by decide) (by decide))
  have t : G_turns_of [.val (.tup [.int 2, .int (-3)])] = .ok (.v (.tup [.int (-7), .int (-3)])) [] := turns_of_ok (bs := [2, -3]) (by decide)
  have y0 : ∀ x y : D, ixD (.tup [x, y]) (.int 0) = some x := fun _ _ => rfl
  have st : G_signed_turn [.val (.tup [.int 2, .int (-3)])] = .ok (.v (.int (-7))) [] := by
    simp only [G_signed_turn, g_signed_turn, seqS_eq, nxS, bkS, ctS, nxt_nx, nxt_rt, nxt_bk, nxt_ct, ifS_eq, ifE_eq, brR_t, brR_f, brR_dec, anT_eq, orT_eq, anE_eq, orE_eq, tst_eq, isB_bl, ↓R.bind_bd, R.bd_ok, R.of_some, noT, blE, vr, cst, op1, op2, setS, setR, nxO, asgS, tupG, cnsG, nilG, nmG, subGO, subG, subS, getM, ixM, putO, cnsA, nilA, dTup, dLst, frz, retS, retM, setM, exS, mutS, appO, opC, callE, callM, callG_eq, cnsB, nilB, slB, kwB, ioM, toArgs, okA, slsA, nodN, argG_some, goG_ok, asE, asM, putA, newM, putM, parS, par3S, frzS, frzAt, bindO, endR_rt, endR_nx, endG, FL.collect, bodyG_eq, rho0, toS, wipeR, FL.pick, tru, truD, chn, lenM, slM, slF, noO, smO, catO, catM, litM, isiD, typD, isTy, R.bd_exc, cauE_eq, goG_exc, endR_exc,   List.getElem?_cons_zero, List.getElem?_cons_succ, List.getElem?_nil, List.set_cons_zero, List.set_cons_succ, List.set_nil, List.length_cons, List.length_nil, List.mapIdx_cons, List.mapIdx_nil, List.map_cons, List.map_nil, List.replicate_succ, List.replicate_zero, List.cons_append, List.nil_append, List.append_nil, List.foldl_cons, List.foldl_nil, List.filterMap_cons, List.filterMap_nil, Option.map_some, Option.map_none, Option.bind_some, Option.bind_none, Bool.not_true, Bool.not_false, Bool.and_true, Bool.true_and, Bool.or_true, Bool.and_self, if_true, if_false,   eqA_int, neA_int, eqA_str, neA_str, ltD_int, leD_int, gtD_int, geD_int, addD_int, subD_int, negD_int, absC_int, intC_int, maxC_int, minC_int, lenC_lst, lenC_tup, lenC_scr, Int.cast_ofNat_Int, Int.natCast_zero, Int.natCast_one,   ↓reduceIte, Nat.reduceAdd, Nat.reduceSub, Nat.reduceMul, Nat.reduceLT, Nat.reduceLeDiff, Nat.reduceBEq, Nat.reduceBneDiff, Nat.reduceEqDiff, Nat.reducePow, Int.reduceLT, Int.reduceLE, Int.reduceEq, Int.reduceNe, Int.reduceAdd, Int.reduceSub, Int.reduceMul, Int.reduceNeg, Int.reducePow, Int.reduceToNat, decide_true, decide_false, decide_eq_true_eq, Bool.false_eq_true, List.contains_nil, List.contains_cons, Bool.or_false, Bool.or_self, eq_self, and_self, and_true, true_and, c, t, y0]
  have b1 : G_backwards [.val (D2 7 3)] = .ok (.v (D2 7 5)) [] := backwards_inv (by decide) (Nat.lt_trans (by decide : (7 : Int).natAbs < 8) (by decide +kernel)) (by decide) (by decide) (by decide) (by decide) (by decide)
  have b2 : G_backwards [.val (D2 1 0)] = .ok (.v (D2 1 0)) [] := backwards_same (by decide) rfl
  have b3 : G_backwards [.val (D2 0 1)] = .ok (.v (D2 0 1)) [] := backwards_same (by decide) rfl
  have n2 : neA (.lst [.int (-7), D2 7 5, D2 1 0, D2 0 1]) (.lst [.int (-7), D2 7 5, D2 1 0, D2 0 1]) = some (.bl false) := neA_self (by decide +kernel)
  obtain ⟨ys, ha, hc⟩ := law_turns ns hl (.val (.lst [.tup [.int 2, .int 3], .tup [], .tup [.int 0], .tup [.int (-2)], .tup [.int 1, .int 1], .tup [.int 2, .int (-3)], .tup [.int 3, .int 2, .int 2], .tup [.int 0, .int 0], .tup [.int 0, .int 9]])) .no
  simp only [G_law, g_law, g_law_1, g_law_2, g_law_3, seqS_eq, nxS, bkS, ctS, nxt_nx, nxt_rt, nxt_bk, nxt_ct, ifS_eq, ifE_eq, brR_t, brR_f, brR_dec, anT_eq, orT_eq, anE_eq, orE_eq, tst_eq, isB_bl, ↓R.bind_bd, R.bd_ok, R.of_some, noT, blE, vr, cst, op1, op2, setS, setR, nxO, asgS, tupG, cnsG, nilG, nmG, subGO, subG, subS, getM, ixM, putO, cnsA, nilA, dTup, dLst, frz, retS, retM, setM, exS, mutS, appO, opC, callE, callM, callG_eq, cnsB, nilB, slB, kwB, ioM, toArgs, okA, slsA, nodN, argG_some, goG_ok, asE, asM, putA, newM, putM, parS, par3S, frzS, frzAt, bindO, endR_rt, endR_nx, endG, FL.collect, bodyG_eq, rho0, toS, wipeR, FL.pick, tru, truD, chn, lenM, slM, slF, noO, smO, catO, catM, litM, isiD, typD, isTy, R.bd_exc, cauE_eq, goG_exc, endR_exc,   List.getElem?_cons_zero, List.getElem?_cons_succ, List.getElem?_nil, List.set_cons_zero, List.set_cons_succ, List.set_nil, List.length_cons, List.length_nil, List.mapIdx_cons, List.mapIdx_nil, List.map_cons, List.map_nil, List.replicate_succ, List.replicate_zero, List.cons_append, List.nil_append, List.append_nil, List.foldl_cons, List.foldl_nil, List.filterMap_cons, List.filterMap_nil, Option.map_some, Option.map_none, Option.bind_some, Option.bind_none, Bool.not_true, Bool.not_false, Bool.and_true, Bool.true_and, Bool.or_true, Bool.and_self, if_true, if_false,   eqA_int, neA_int, eqA_str, neA_str, ltD_int, leD_int, gtD_int, geD_int, addD_int, subD_int, negD_int, absC_int, intC_int, maxC_int, minC_int, lenC_lst, lenC_tup, lenC_scr, Int.cast_ofNat_Int, Int.natCast_zero, Int.natCast_one,   ↓reduceIte, Nat.reduceAdd, Nat.reduceSub, Nat.reduceMul, Nat.reduceLT, Nat.reduceLeDiff, Nat.reduceBEq, Nat.reduceBneDiff, Nat.reduceEqDiff, Nat.reducePow, Int.reduceLT, Int.reduceLE, Int.reduceEq, Int.reduceNe, Int.reduceAdd, Int.reduceSub, Int.reduceMul, Int.reduceNeg, Int.reducePow, Int.reduceToNat, decide_true, decide_false, decide_eq_true_eq, Bool.false_eq_true, List.contains_nil, List.contains_cons, Bool.or_false, Bool.or_self, eq_self, and_self, and_true, true_and, f1, n1, st, b1, b2, b3, n2, s0, s1, s2, s3, s4, s9, hc, ha]

end
end Wk
open PySem PySem.W PyProof.Rows in
set_option maxRecDepth 100000 in
set_option maxHeartbeats 0 in
theorem PySem.Challenge.cw_lenspairs_k03_whole_pairs_of_strings_holds : PySem.Challenge.rw_lenspairs_k03_whole_pairs_of_strings.Holds := by
  w_on; o_law; k_head; (case hw => w_witness2)
  k_fill
  refine FL.walkG (l := PySem.Challenge.rw_lenspairs_k03_whole_pairs_of_strings) (n := 63) (k := 8) (G := fun _ _ => Wk.G_law) (x := "_law_script") rfl (by decide) rfl (by decide) (fun w h Y => PySem.W.kIn_of Y) ?F
  case F =>
    intro w mg fa h Y KX G XP hmg
    have y_MOST_BEADS : ∃ t : PySem.Tok, mg "MOST_BEADS" = some (.int 200 t) := by
      exact ⟨_, PySem.W.mg_of KX G (by k_is)⟩
    have y_MOST_NUMBER : ∃ t : PySem.Tok, mg "MOST_NUMBER" = some (.int 1000000000 t) := by
      exact FL.loose_int XP (by simp)
    refine' Wk.all_mk (l := PySem.Challenge.rw_lenspairs_k03_whole_pairs_of_strings) (fe := FL.feOf _ _) Wk.law_true KX G hmg ?a1 ?l1 ?c1 ?k1 ?a2 ?l2 ?c2 ?k2 ?a3 ?l3 ?c3 ?k3 ?a4 ?l4 ?c4 ?k4 ?a5 ?l5 ?c5 ?k5 ?a6 ?l6 ?c6 ?k6 ?a7 ?l7 ?c7 ?k7 ?a8 ?l8 ?c8 ?k8 ?a9 ?l9 ?c9 ?k9 ?a10 ?l10 ?c10 ?k10 ?a11 ?l11 ?c11 ?k11 ?a12 ?l12 ?c12 ?k12 ?a13 ?l13 ?c13 ?k13 ?a14 ?l14 ?c14 ?k14 ?a15 ?l15 ?c15 ?k15 ?a16 ?l16 ?c16 ?k16 ?a17 ?l17 ?c17 ?k17 ?a18 ?l18 ?c18 ?k18 ?a19 ?l19 ?c19 ?k19 ?a20 ?l20 ?c20 ?k20 ?a21 ?l21 ?c21 ?k21 ?a22 ?l22 ?c22 ?k22 ?a23 ?l23 ?c23 ?k23 ?z_abs ?z_all ?z_bool ?z_enumerate ?z_int ?z_isinstance ?z_len ?z_max ?z_min ?z_range ?z_repr ?z_tuple y_MOST_BEADS y_MOST_NUMBER rfl ?hdg
    (case a1 => k_is)
    (case l1 => k_is)
    (case c1 => k_is)
    (case k1 => k_is)
    (case a2 => k_is)
    (case l2 => k_is)
    (case c2 => k_is)
    (case k2 => k_is)
    (case a3 => k_is)
    (case l3 => k_is)
    (case c3 => k_is)
    (case k3 => k_is)
    (case a4 => k_is)
    (case l4 => k_is)
    (case c4 => k_is)
    (case k4 => k_is)
    (case a5 => k_is)
    (case l5 => k_is)
    (case c5 => k_is)
    (case k5 => k_is)
    (case a6 => k_is)
    (case l6 => k_is)
    (case c6 => k_is)
    (case k6 => k_is)
    (case a7 => k_is)
    (case l7 => k_is)
    (case c7 => k_is)
    (case k7 => k_is)
    (case a8 => k_is)
    (case l8 => k_is)
    (case c8 => k_is)
    (case k8 => k_is)
    (case a9 => k_is)
    (case l9 => k_is)
    (case c9 => k_is)
    (case k9 => k_is)
    (case a10 => k_is)
    (case l10 => k_is)
    (case c10 => k_is)
    (case k10 => k_is)
    (case a11 => k_is)
    (case l11 => k_is)
    (case c11 => k_is)
    (case k11 => k_is)
    (case a12 => k_is)
    (case l12 => k_is)
    (case c12 => k_is)
    (case k12 => k_is)
    (case a13 => k_is)
    (case l13 => k_is)
    (case c13 => k_is)
    (case k13 => k_is)
    (case a14 => k_is)
    (case l14 => k_is)
    (case c14 => k_is)
    (case k14 => k_is)
    (case a15 => k_is)
    (case l15 => k_is)
    (case c15 => k_is)
    (case k15 => k_is)
    (case a16 => k_is)
    (case l16 => k_is)
    (case c16 => k_is)
    (case k16 => k_is)
    (case a17 => k_is)
    (case l17 => k_is)
    (case c17 => k_is)
    (case k17 => k_is)
    (case a18 => k_is)
    (case l18 => k_is)
    (case c18 => k_is)
    (case k18 => k_is)
    (case a19 => k_is)
    (case l19 => k_is)
    (case c19 => k_is)
    (case k19 => k_is)
    (case a20 => k_is)
    (case l20 => k_is)
    (case c20 => k_is)
    (case k20 => k_is)
    (case a21 => k_is)
    (case l21 => k_is)
    (case c21 => k_is)
    (case k21 => k_is)
    (case a22 => k_is)
    (case l22 => k_is)
    (case c22 => k_is)
    (case k22 => k_is)
    (case a23 => k_is)
    (case l23 => k_is)
    (case c23 => k_is)
    (case k23 => k_is)
    (case z_abs => k_is)
    (case z_all => k_is)
    (case z_bool => k_is)
    (case z_enumerate => k_is)
    (case z_int => k_is)
    (case z_isinstance => k_is)
    (case z_len => k_is)
    (case z_max => k_is)
    (case z_min => k_is)
    (case z_range => k_is)
    (case z_repr => k_is)
    (case z_tuple => k_is)
    (case hdg => kernel_rfl)
